import PyProof.Rows.All
import Wide.All
import OpenK.AllK
import Wide.FinOn
import KE.KStateDown
import HandS.Base
import HandS.Call
import HandS.Ends
import HandS.Head0
import HandS.Head1
import HandS.Head2
import HandS.HeadEnd
import HandS.HeadHook1
import HandS.HeadHook2
import HandS.ExcInit
import HandS.ExcOwn
import HandS.IsInst
import KE.KExcIs
import HandS.Codes
import HandS.Words
import HandS.ForMost
import HandS.ForExc
import HandS.Wide
import HandS.Deep
import HandS.StrSplit
import HandS.FStr
import HandS.Flow
import HandS.Steps
import HandS.CallSlots
import HandS.More
import HandS.TupLen
import HandS.ExcCtx
import HandS.HotCalls
import PyProof.DictMoreH
import PyProof.MeetsDict
import KE.KeyNested
import HandS.TupAny
import HandS.TupLe
import HandS.WideBits
import HandS.Text
import HandS.Conv
import HandS.Style
import KE.KEqDict
import HandS.SortInts
import KE.GoesMore
import PyProof.TwoTypesSub
import PyProof.AutoIntG9
import KE.DataMinMax
import PyProof.NeKinds
import HandS.Iter
import HandS.ExcField
import HandS.TryOnly
import PyProof.ReprRoads
import HandS.RaiseMore
import PyProof.Rows.TupDisplay
import HandS.SetFor
import HandS.Strs
import KE.BitLaws
import PySem.Challenge.RW_lampforge_k37_rows_good_or_not
set_option Elab.async false
set_option linter.all false
set_option maxRecDepth 100000
set_option autoImplicit false
set_option maxHeartbeats 0
/-! ML0: the head's facts, looked at by one Bool; it comes first, so that the top's run is checked while there is room -/
namespace ML
open PySem PySem.Spec PyProof.Rows L2
section
variable {ck : PySem.W.Frag → Bool} {fn : List He.FnD} {K : PySem.W.Frag}
end
/-! constants -/
/-! what is looked at of exceptions -/
abbrev veM : List Value := [.type "ValueError", .type "Exception", .type "BaseException", .type "object"]
/-- D is T, or under it -/
def isX (D T : Str) : Bool := decide (D = T) || decide (T = "ForgeError") || decide (T = "ValueError")
def xfl : List Str := ["part", "name", "names", "where", "at"]
end ML

/-! ML1: the mirror's values, stores, outcomes; how they lie in the model's heap. -/
namespace ML
open PySem PySem.Spec PyProof.Rows L2

inductive DV where
  | non | bl (b : Bool) | int (i : Int) | str (x : Str) | tup (xs : List DV) | fzl (xs : List DV) | ktp (xs : List DV) | ref (k : Nat) | ty (n : String)
  | exn (a : Addr) (d : Option Addr) (ns : List Str) (xs : List DV)
instance : Inhabited DV := ⟨.non⟩

/-- a dict's key -/
inductive HK where
  | non | int (i : Int) | str (x : Str) | tup (ks : List HK)
mutual
def HK.eqb : HK → HK → Bool
  | .non, .non => true
  | .int i, .int j => decide (i = j)
  | .str x, .str y => decide (x = y)
  | .tup xs, .tup ys => HK.eqbs xs ys
  | _, _ => false
def HK.eqbs : List HK → List HK → Bool
  | [], [] => true
  | x :: xs, y :: ys => HK.eqb x y && HK.eqbs xs ys
  | _, _ => false
end
mutual
theorem HK.eqb_iff : ∀ {a b : HK}, HK.eqb a b = true ↔ a = b
  | .non, b => by cases b <;> simp [HK.eqb]
  | .int i, b => by cases b <;> simp [HK.eqb]
  | .str i, b => by cases b <;> simp [HK.eqb]
  | .tup xs, b => by
    cases b with
    | tup ys => simp only [HK.eqb, HK.eqbs_iff, HK.tup.injEq]
    | _ => simp [HK.eqb]
theorem HK.eqbs_iff : ∀ {a b : List HK}, HK.eqbs a b = true ↔ a = b
  | [], b => by cases b <;> simp [HK.eqbs]
  | x :: xs, b => by
    cases b with
    | nil => simp [HK.eqbs]
    | cons y ys => simp only [HK.eqbs, Bool.and_eq_true, HK.eqb_iff, HK.eqbs_iff, List.cons.injEq]
end
instance : DecidableEq HK := fun a b => decidable_of_iff _ HK.eqb_iff
mutual
def dOf : HK → DV
  | .non => .non
  | .int i => .int i
  | .str x => .str x
  | .tup ks => .tup (dOfs ks)
def dOfs : List HK → List DV
  | [] => []
  | k :: ks => dOf k :: dOfs ks
end
mutual
def kOf : DV → Option HK
  | .non => some .non
  | .int i => some (.int i)
  | .str x => some (.str x)
  | .tup ks => (kOfs ks).map HK.tup
  | _ => none
def kOfs : List DV → Option (List HK)
  | [] => some []
  | k :: ks => (kOf k).bind fun h => (kOfs ks).map (h :: ·)
end
inductive DO where
  | lst (xs : List DV)
  | dic (kvs : List (HK × DV))
  | ins (c : Str) (lay : List Str) (vs : List DV)
  | iset (xs : List Int)
  | dcn (kvs : List (HK × DV))
  | fdc (kvs : List (HK × DV))
abbrev Sto := List DO
structure DX where
  c : Str
  fs : List (Str × DV)
inductive Out (A : Type) where
  | ok (a : A) (st : Sto)
  | exc (e : DX) (st : Sto)
  | bad
abbrev M (A : Type) := Sto → Out A
abbrev Sl := List (Option DV)
abbrev Ex := Sl → M DV
/-- how a statement ends -/
inductive Fl where
  | nx (ss : Sl) | bk (ss : Sl) | ct (ss : Sl) | rt (v : DV) | rs (e : DX) (ss : Sl)
abbrev Stt := Sl → M Fl

def pur {A : Type} (a : A) : M A := fun st => .ok a st
def bnd {A B : Type} (m : M A) (f : A → M B) : M B := fun st => match m st with
  | .ok a st' => f a st'
  | .exc e st' => .exc e st'
  | .bad => .bad
def stuck {A : Type} : M A := fun _ => .bad
/-! ### values in the model's heap -/
def FzL (K : PySem.W.Frag) (H : Hp) (a : Addr) (vs : List V) : Prop :=
  (∃ o, H a = some (.frz o (.lst vs))) ∨
    ∃ (o : Obj) (its : Array Value) (n : Nat), K.lookup a = some o ∧ o.cls = .type "list" ∧ o.dict = none ∧ o.data = .seq its n ∧ its.size ≤ sizeLine ∧ Vals vs its.toList
theorem FzL.sq {K : PySem.W.Frag} {H : Hp} {a : Addr} {vs : List V} (h : FzL K H a vs) : SqL K H a vs := by
  rcases h with ⟨o, h⟩ | h
  · exact .inl (.inr ⟨o, h⟩)
  · exact .inr h
section
variable (K : PySem.W.Frag) (ads : List Addr) (H : Hp)
mutual
inductive RV : DV → V → Prop
  | non : RV .non .non
  | bl (b : Bool) : RV (.bl b) (.bl b)
  | int (i : Int) : RV (.int i) (.int i)
  | str (x : Str) : RV (.str x) (.str x)
  | ref {k : Nat} {a : Addr} : ads[k]? = some a → RV (.ref k) (.ref a)
  | tup {a : Addr} {xs : List DV} {vs : List V} : H a = some (.tup vs) → RVs xs vs → RV (.tup xs) (.ref a)
  | ktp {a : Addr} {xs : List DV} {vs : List V} : SqT K H a vs → RVs xs vs → RV (.ktp xs) (.ref a)
  | fzl {a : Addr} {xs : List DV} {vs : List V} : FzL K H a vs → RVs xs vs → RV (.fzl xs) (.ref a)
  | ty (n : String) : RV (.ty n) (.ty n)
  | exn0 (a : Addr) : RV (.exn a none [] []) (.ref a)
  | exn1 {a dx : Addr} {ns : List Str} {xs : List DV} {vs : List V} : H dx = some (.xd (ns.zip vs)) → ns.length = vs.length → RVs xs vs → RV (.exn a (some dx) ns xs) (.ref a)
inductive RVs : List DV → List V → Prop
  | nil : RVs [] []
  | cons {x : DV} {v : V} {xs : List DV} {vs : List V} : RV x v → RVs xs vs → RVs (x :: xs) (v :: vs)
end
end
/-- whether a locked thing is kept for good: no dict -/
def kU : HO → Bool
  | .dK _ => false
  | .dT _ => false
  | _ => true
/-- what a step keeps: tuples, locked things -/
structure Kp (H H' : Hp) : Prop where
  tup : ∀ a xs, H a = some (.tup xs) → H' a = some (.tup xs)
  frz : ∀ a o u, kU u = true → H a = some (.frz o u) → H' a = some (.frz o u)
  xd : ∀ a fs, H a = some (.xd fs) → H' a = some (.xd fs)
theorem Kp.refl {H : Hp} : Kp H H := ⟨fun _ _ h => h, fun _ _ _ _ h => h, fun _ _ h => h⟩
theorem Kp.trans {H H' H'' : Hp} (a : Kp H H') (b : Kp H' H'') : Kp H H'' := ⟨fun x xs h => b.tup x xs (a.tup x xs h), fun x o u k h => b.frz x o u k (a.frz x o u k h), fun x fs h => b.xd x fs (a.xd x fs h)⟩
theorem Kp.new {H : Hp} {p : Addr} {o : HO} (h : H p = none) : Kp H (upd H p o) :=
  ⟨fun a xs e => by rw [upd_ne (ne_of_none e h)]; exact e, fun a o' u _ e => by rw [upd_ne (ne_of_none e h)]; exact e, fun a fs e => by rw [upd_ne (ne_of_none e h)]; exact e⟩
theorem Kp.writeU {H : Hp} {p : Addr} {o u : HO} (h : H p = some u) (h1 : ∀ xs, u ≠ .tup xs) (h2 : ∀ o' z, kU z = true → u ≠ .frz o' z) (h3 : ∀ fs, u ≠ .xd fs := by intro _ z; cases z) : Kp H (upd H p o) :=
  ⟨fun a xs e => by
    have : a ≠ p := fun z => by subst z; rw [e] at h; exact h1 xs (Option.some.inj h).symm
    rw [upd_ne this]; exact e,
   fun a o' z k e => by
    have : a ≠ p := fun q => by subst q; rw [e] at h; exact h2 o' z k (Option.some.inj h).symm
    rw [upd_ne this]; exact e,
   fun a fs e => by
    have : a ≠ p := fun q => by subst q; rw [e] at h; exact h3 fs (Option.some.inj h).symm
    rw [upd_ne this]; exact e⟩
theorem Kp.write {H : Hp} {p : Addr} {o u : HO} (h : H p = some u) (h1 : ∀ xs, u ≠ .tup xs) (h2 : ∀ o' z, u ≠ .frz o' z) (h3 : ∀ fs, u ≠ .xd fs := by intro _ z; cases z) : Kp H (upd H p o) := .writeU h h1 (fun o' z _ => h2 o' z) h3
theorem Kp.sqT {K : PySem.W.Frag} {H H' : Hp} {a : Addr} {vs : List V} (k : Kp H H') (h : SqT K H a vs) : SqT K H' a vs := by
  rcases h with (h | ⟨o, h⟩) | h
  · exact .inl (.inl (k.tup _ _ h))
  · exact .inl (.inr ⟨o, k.frz _ _ _ rfl h⟩)
  · exact .inr h
theorem Kp.fzL {K : PySem.W.Frag} {H H' : Hp} {a : Addr} {vs : List V} (k : Kp H H') (h : FzL K H a vs) : FzL K H' a vs := by
  rcases h with ⟨o, h⟩ | h
  · exact .inl ⟨o, k.frz _ _ _ rfl h⟩
  · exact .inr h
/-- the handles grow, the kept stays, what has no handle stays -/
structure Fut (ads : List Addr) (H : Hp) (ads' : List Addr) (H' : Hp) : Prop where
  pre : ∃ r, ads' = ads ++ r
  kp : Kp H H'
  oth : ∀ a o, a ∉ ads → H a = some o → a ∉ ads' ∧ H' a = some o
  fz : ∀ a o u, H a = some (.frz o u) → H' a = some (.frz o u)
theorem Fut.refl {ads : List Addr} {H : Hp} : Fut ads H ads H := ⟨⟨[], by simp⟩, .refl, fun _ _ h e => ⟨h, e⟩, fun _ _ _ e => e⟩
theorem Fut.trans {ads ads' ads'' : List Addr} {H H' H'' : Hp} (a : Fut ads H ads' H') (b : Fut ads' H' ads'' H'') : Fut ads H ads'' H'' := by
  obtain ⟨r, e⟩ := a.pre
  obtain ⟨r', e'⟩ := b.pre
  exact ⟨⟨r ++ r', by rw [e', e, List.append_assoc]⟩, a.kp.trans b.kp, fun x o h1 h2 => let ⟨h3, h4⟩ := a.oth x o h1 h2; b.oth x o h3 h4, fun x o u e => b.fz x o u (a.fz x o u e)⟩
def Ext (ads ads' : List Addr) : Prop := ∃ r, ads' = ads ++ r
theorem Ext.refl (ads : List Addr) : Ext ads ads := ⟨[], by simp⟩
theorem Ext.get {ads ads' : List Addr} {k : Nat} {a : Addr} (f : Ext ads ads') (h : ads[k]? = some a) : ads'[k]? = some a := by
  obtain ⟨r, e⟩ := f
  rw [e, List.getElem?_append_left (List.getElem?_eq_some_iff.mp h).1]
  exact h
section
variable {K : PySem.W.Frag} {ads ads' : List Addr} {H H' : Hp}
mutual
theorem RV.mono2 (f : Ext ads ads') (k : Kp H H') : ∀ {d : DV} {v : V}, RV K ads H d v → RV K ads' H' d v
  | _, _, .non => .non
  | _, _, .bl b => .bl b
  | _, _, .int i => .int i
  | _, _, .str x => .str x
  | _, _, .ref h => .ref (f.get h)
  | _, _, .tup h r => .tup (k.tup _ _ h) (RVs.mono2 f k r)
  | _, _, .ktp h r => .ktp (k.sqT h) (RVs.mono2 f k r)
  | _, _, .fzl h r => .fzl (k.fzL h) (RVs.mono2 f k r)
  | _, _, .ty n => .ty n
  | _, _, .exn0 a => .exn0 a
  | _, _, .exn1 h l r => .exn1 (k.xd _ _ h) l (RVs.mono2 f k r)
theorem RVs.mono2 (f : Ext ads ads') (k : Kp H H') : ∀ {d : List DV} {v : List V}, RVs K ads H d v → RVs K ads' H' d v
  | _, _, .nil => .nil
  | _, _, .cons h r => .cons (RV.mono2 f k h) (RVs.mono2 f k r)
end
theorem RV.mono (f : Fut ads H ads' H') {d : DV} {v : V} (r : RV K ads H d v) : RV K ads' H' d v := r.mono2 f.pre f.kp
theorem RVs.mono (f : Fut ads H ads' H') {d : List DV} {v : List V} (r : RVs K ads H d v) : RVs K ads' H' d v := r.mono2 f.pre f.kp
theorem RVs.length : ∀ {d : List DV} {v : List V}, RVs K ads H d v → d.length = v.length
  | _, _, .nil => rfl
  | _, _, .cons _ r => by rw [List.length_cons, List.length_cons, RVs.length r]
theorem RVs.get : ∀ {ds : List DV} {vs : List V} {i : Nat} {d : DV}, RVs K ads H ds vs → ds[i]? = some d → ∃ v, vs[i]? = some v ∧ RV K ads H d v
  | _, _, _, _, .nil, e => by simp at e
  | _, _, 0, _, .cons h _, e => by simp at e; subst e; exact ⟨_, rfl, h⟩
  | _, _, i + 1, d, .cons _ r, e => by
    obtain ⟨v, h1, h2⟩ := RVs.get (i := i) r (by simpa using e)
    exact ⟨v, by simpa using h1, h2⟩
theorem RVs.append : ∀ {xs ys : List DV} {us vs : List V}, RVs K ads H xs us → RVs K ads H ys vs → RVs K ads H (xs ++ ys) (us ++ vs)
  | _, _, _, _, .nil, s => s
  | _, _, _, _, .cons h r, s => .cons h (RVs.append r s)
theorem RVs.take : ∀ {xs : List DV} {us : List V} (n : Nat), RVs K ads H xs us → RVs K ads H (xs.take n) (us.take n)
  | _, _, 0, _ => .nil
  | _, _, _ + 1, .nil => .nil
  | _, _, n + 1, .cons h r => .cons h (RVs.take n r)
theorem RVs.drop : ∀ {xs : List DV} {us : List V} (n : Nat), RVs K ads H xs us → RVs K ads H (xs.drop n) (us.drop n)
  | _, _, 0, r => r
  | _, _, _ + 1, .nil => .nil
  | _, _, n + 1, .cons _ r => RVs.drop n r
theorem RVs.set {d : DV} {v : V} (h : RV K ads H d v) : ∀ {xs : List DV} {us : List V} (n : Nat), RVs K ads H xs us → RVs K ads H (xs.set n d) (us.set n v)
  | _, _, _, .nil => .nil
  | _, _, 0, .cons _ r => .cons h r
  | _, _, n + 1, .cons q r => .cons q (RVs.set h n r)
theorem RVs.eraseIdx : ∀ {xs : List DV} {us : List V} (n : Nat), RVs K ads H xs us → RVs K ads H (xs.eraseIdx n) (us.eraseIdx n)
  | _, _, _, .nil => .nil
  | _, _, 0, .cons _ r => r
  | _, _, n + 1, .cons q r => .cons q (RVs.eraseIdx n r)
theorem RVs.reverse {xs : List DV} {us : List V} (h : RVs K ads H xs us) : RVs K ads H xs.reverse us.reverse := by
  induction xs generalizing us with
  | nil => cases h; exact .nil
  | cons x xs ih =>
    cases h with
    | cons a b =>
      rw [List.reverse_cons, List.reverse_cons]
      exact (ih b).append (.cons a .nil)
theorem RVs.dropLast {xs : List DV} {us : List V} (h : RVs K ads H xs us) : RVs K ads H xs.dropLast us.dropLast := by
  rw [List.dropLast_eq_take, List.dropLast_eq_take, h.length]
  exact h.take _
theorem RVs.one {v : DV} {us : List V} (h : RVs K ads H [v] us) : ∃ u, us = [u] ∧ RV K ads H v u := by
  cases h with
  | cons a b => cases b; exact ⟨_, rfl, a⟩
theorem RVs.two {v v' : DV} {us : List V} (h : RVs K ads H [v, v'] us) : ∃ u u', us = [u, u'] ∧ RV K ads H v u ∧ RV K ads H v' u' := by
  cases h with
  | cons a b =>
    obtain ⟨u', rfl, b1⟩ := RVs.one b
    exact ⟨_, _, rfl, a, b1⟩
theorem RVs.three {v v' w : DV} {us : List V} (h : RVs K ads H [v, v', w] us) : ∃ u u' z, us = [u, u', z] ∧ RV K ads H v u ∧ RV K ads H v' u' ∧ RV K ads H w z := by
  cases h with
  | cons a b =>
    obtain ⟨u', z, rfl, b1, c⟩ := RVs.two b
    exact ⟨_, _, _, rfl, a, b1, c⟩
theorem RVs.replicate {d : DV} {v : V} (h : RV K ads H d v) : ∀ n : Nat, RVs K ads H (List.replicate n d) (List.replicate n v)
  | 0 => .nil
  | n + 1 => .cons h (RVs.replicate h n)
end

/-! ### objects -/
def RFs (K : PySem.W.Frag) (ads : List Addr) (H : Hp) : List (Str × DV) → List (Str × V) → Prop := Paired fun (p : Str × DV) (q : Str × V) => p.1 = q.1 ∧ RV K ads H p.2 q.2
theorem RFs.mono2 {K : PySem.W.Frag} {ads ads' : List Addr} {H H' : Hp} (f : Ext ads ads') (k : Kp H H') {ds : List (Str × DV)} {vs : List (Str × V)} (h : RFs K ads H ds vs) : RFs K ads' H' ds vs :=
  Paired.mapP h fun _ _ q => ⟨q.1, q.2.mono2 f k⟩
theorem RFs.mono {K : PySem.W.Frag} {ads ads' : List Addr} {H H' : Hp} (f : Fut ads H ads' H') {ds : List (Str × DV)} {vs : List (Str × V)} (h : RFs K ads H ds vs) : RFs K ads' H' ds vs := h.mono2 f.pre f.kp
theorem RFs.lookup {K : PySem.W.Frag} {ads : List Addr} {H : Hp} {f : Str} {d : DV} : ∀ {ds : List (Str × DV)} {vs : List (Str × V)}, RFs K ads H ds vs → ds.lookup f = some d → ∃ v, vs.lookup f = some v ∧ RV K ads H d v
  | _, _, .nil, e => by cases e
  | (g, x) :: ds, (g', v) :: vs, .cons h r, e => by
    obtain ⟨h1, h2⟩ := h
    have h1 : g = g' := h1
    subst h1
    rw [List.lookup_cons] at e ⊢
    cases q : f == g with
    | true =>
      rw [q] at e
      cases e
      exact ⟨v, rfl, h2⟩
    | false =>
      rw [q] at e
      exact RFs.lookup r e
theorem RFs.length {K : PySem.W.Frag} {ads : List Addr} {H : Hp} {ds : List (Str × DV)} {vs : List (Str × V)} (h : RFs K ads H ds vs) : ds.length = vs.length := Paired.length h
def putD (f : Str) (v : DV) : List (Str × DV) → List (Str × DV)
  | [] => [(f, v)]
  | (g, x) :: r => if g = f then (g, v) :: r else (g, x) :: putD f v r
theorem RFs.put {K : PySem.W.Frag} {ads : List Addr} {H : Hp} {f : Str} {d : DV} {v : V} (h : RV K ads H d v) : ∀ {ds : List (Str × DV)} {vs : List (Str × V)}, RFs K ads H ds vs → RFs K ads H (putD f d ds) (putF f v vs)
  | _, _, .nil => .cons ⟨rfl, h⟩ .nil
  | (g, x) :: ds, (g', w) :: vs, .cons q r => by
    obtain ⟨h1, h2⟩ := q
    have h1 : g = g' := h1
    subst h1
    show RFs K ads H (if g = f then (g, d) :: ds else (g, x) :: putD f d ds) (if g = f then (g, v) :: vs else (g, w) :: putF f v vs)
    split
    · exact .cons ⟨rfl, h⟩ r
    · exact .cons ⟨rfl, h2⟩ (RFs.put h r)

/-! ### the store -/
/-- dicts: keys by value (ints, texts; or tuples of such) -/
def hK : Key → HK
  | .inl i => .int i
  | .inr x => .str x
def RKs (K : PySem.W.Frag) (ads : List Addr) (H : Hp) : List (HK × DV) → List (Key × V) → Prop := Paired fun (p : HK × DV) (q : Key × V) => p.1 = hK q.1 ∧ RV K ads H p.2 q.2
def RTs (K : PySem.W.Frag) (ads : List Addr) (H : Hp) : List (HK × DV) → List (List Key × V) → Prop := Paired fun (p : HK × DV) (q : List Key × V) => p.1 = .tup (q.1.map hK) ∧ RV K ads H p.2 q.2
theorem RKs.mono2 {K : PySem.W.Frag} {ads ads' : List Addr} {H H' : Hp} (f : Ext ads ads') (k : Kp H H') {ds : List (HK × DV)} {vs : List (Key × V)} (h : RKs K ads H ds vs) : RKs K ads' H' ds vs :=
  Paired.mapP h fun _ _ q => ⟨q.1, q.2.mono2 f k⟩
theorem RTs.mono2 {K : PySem.W.Frag} {ads ads' : List Addr} {H H' : Hp} (f : Ext ads ads') (k : Kp H H') {ds : List (HK × DV)} {vs : List (List Key × V)} (h : RTs K ads H ds vs) : RTs K ads' H' ds vs :=
  Paired.mapP h fun _ _ q => ⟨q.1, q.2.mono2 f k⟩
/-! dicts whose keys are tuples of whole numbers, None and such tuples -/
mutual
def nk : HK → NestedKey
  | .non => .none
  | .int i => .num i
  | .str x => .text x
  | .tup ks => .tup (nks ks)
def nks : List HK → List NestedKey
  | [] => []
  | k :: ks => nk k :: nks ks
end
mutual
def numT : HK → Bool
  | .non => true
  | .int _ => true
  | .str _ => false
  | .tup ks => numTs ks
def numTs : List HK → Bool
  | [] => true
  | k :: ks => numT k && numTs ks
end
/-- a key of such a dict -/
def keyN : HK → Bool
  | .tup ks => numTs ks && decide ((nk (.tup ks)).depth ≤ 8)
  | _ => false
/-- the dict at a, by its keys, where these stand, and its values -/
def DN (w : World) (a : Addr) (vs : List (NestedKey × Addr × V)) : HO := .ext fun h => vs.length ≤ sizeLine ∧ (a == sysModules) = false ∧ ∃ xs : List (NestedKey × Addr × Value),
  Paired (fun (p : NestedKey × Addr × V) (q : NestedKey × Addr × Value) => p.1 = q.1 ∧ p.2.1 = q.2.1 ∧ RelV p.2.2 q.2.2) vs xs ∧
  ∃ o es ep, h.get? a = some o ∧ o.ExactDict ∧ o.data = .dict es ep ∧ es.toList = xs.map (fun x => (⟨x.1.hash w, .ref x.2.1, x.2.2⟩ : DictEntry)) ∧ (xs.map (·.1)).Nodup
theorem DN.ntup {w : World} {a : Addr} {vs : List (NestedKey × Addr × V)} : (∀ xs, DN w a vs ≠ .tup xs) ∧ ∀ o z, DN w a vs ≠ .frz o z := by
  refine ⟨fun xs z => ?_, fun o u z => ?_⟩
  · have z' : HO.ext _ = HO.tup xs := z
    cases z'
  · have z' : HO.ext _ = HO.frz o u := z
    cases z'
def RNs (K : PySem.W.Frag) (ads : List Addr) (H : Hp) : List (HK × DV) → List (NestedKey × Addr × V) → Prop := Paired fun (p : HK × DV) (q : NestedKey × Addr × V) => keyN p.1 = true ∧ q.1 = nk p.1 ∧ RV K ads H (dOf p.1) (.ref q.2.1) ∧ RV K ads H p.2 q.2.2
theorem RNs.mono2 {K : PySem.W.Frag} {ads ads' : List Addr} {H H' : Hp} (f : Ext ads ads') (k : Kp H H') {ds : List (HK × DV)} {vs : List (NestedKey × Addr × V)} (h : RNs K ads H ds vs) : RNs K ads' H' ds vs :=
  Paired.mapP h fun _ _ q => ⟨q.1, q.2.1, q.2.2.1.mono2 f k, q.2.2.2.mono2 f k⟩
def RO (K : PySem.W.Frag) (mg : Str → Option Value) (ads : List Addr) (H : Hp) (a : Addr) : DO → Prop
  | .lst xs => ∃ vs, H a = some (.lst vs) ∧ RVs K ads H xs vs
  | .dic kvs => (∃ vs, H a = some (.dK vs) ∧ RKs K ads H kvs vs) ∨ (∃ vs, H a = some (.dT vs) ∧ RTs K ads H kvs vs)
  | .ins c lay xs => ∃ C dx vs, mg c = some (.ref C) ∧ H a = some (.ins C dx vs) ∧ xs.length ≤ lay.length ∧ RFs K ads H (lay.zip xs) vs
  | .iset xs => ∃ S n, H a = some (.set S n) ∧ xs.Nodup ∧ n = xs.length ∧ ∀ i, S i = decide (i ∈ xs)
  | .dcn kvs => ∃ w vs, H a = some (DN w a vs) ∧ RNs K ads H kvs vs
  | .fdc kvs => ∃ o, (∃ vs, H a = some (.frz o (.dK vs)) ∧ RKs K ads H kvs vs) ∨ (∃ vs, H a = some (.frz o (.dT vs)) ∧ RTs K ads H kvs vs)
theorem RO.there {K : PySem.W.Frag} {mg : Str → Option Value} {ads : List Addr} {H : Hp} {a : Addr} {o : DO} (h : RO K mg ads H a o) : ∃ u, H a = some u ∧ (∀ xs, u ≠ .tup xs) ∧ ∀ o' z, kU z = true → u ≠ .frz o' z := by
  cases o with
  | lst xs => obtain ⟨_, e, _⟩ := h; exact ⟨_, e, (fun _ z => by cases z), (fun _ _ _ z => by cases z)⟩
  | dic kvs => rcases h with ⟨_, e, _⟩ | ⟨_, e, _⟩ <;> exact ⟨_, e, (fun _ z => by cases z), (fun _ _ _ z => by cases z)⟩
  | ins c lay xs => obtain ⟨_, _, _, _, e, _⟩ := h; exact ⟨_, e, (fun _ z => by cases z), (fun _ _ _ z => by cases z)⟩
  | iset xs => obtain ⟨_, _, e, _⟩ := h; exact ⟨_, e, (fun _ z => by cases z), (fun _ _ _ z => by cases z)⟩
  | dcn kvs => obtain ⟨_, _, e, _⟩ := h; exact ⟨_, e, DN.ntup.1, fun o z _ => DN.ntup.2 o z⟩
  | fdc kvs =>
    obtain ⟨o, ⟨_, e, _⟩ | ⟨_, e, _⟩⟩ := h
    · exact ⟨_, e, (fun _ z => by cases z), (fun o' z k q => by cases q; cases k)⟩
    · exact ⟨_, e, (fun _ z => by cases z), (fun o' z k q => by cases q; cases k)⟩
theorem RO.noxd {K : PySem.W.Frag} {mg : Str → Option Value} {ads : List Addr} {H : Hp} {a : Addr} {o : DO} (h : RO K mg ads H a o) (fs : List (Str × V)) : H a ≠ some (.xd fs) := fun q => by
  cases o with
  | lst xs => obtain ⟨_, e, _⟩ := h; rw [e] at q; cases q
  | dic kvs => rcases h with ⟨_, e, _⟩ | ⟨_, e, _⟩ <;> rw [e] at q <;> cases q
  | ins c lay xs => obtain ⟨_, _, _, _, e, _⟩ := h; rw [e] at q; cases q
  | iset xs => obtain ⟨_, _, e, _⟩ := h; rw [e] at q; cases q
  | dcn kvs =>
    obtain ⟨_, _, e, _⟩ := h
    rw [e] at q
    have z' : HO.ext _ = HO.xd fs := Option.some.inj q
    cases z'
  | fdc kvs => obtain ⟨o, ⟨_, e, _⟩ | ⟨_, e, _⟩⟩ := h <;> rw [e] at q <;> cases q
def DO.isF : DO → Bool
  | .fdc _ => true
  | _ => false
theorem RO.thereS {K : PySem.W.Frag} {mg : Str → Option Value} {ads : List Addr} {H : Hp} {a : Addr} {o : DO} (h : RO K mg ads H a o) (hf : o.isF = false) : ∃ u, H a = some u ∧ (∀ xs, u ≠ .tup xs) ∧ ∀ o' z, u ≠ .frz o' z := by
  cases o with
  | lst xs => obtain ⟨_, e, _⟩ := h; exact ⟨_, e, (fun _ z => by cases z), (fun _ _ z => by cases z)⟩
  | dic kvs => rcases h with ⟨_, e, _⟩ | ⟨_, e, _⟩ <;> exact ⟨_, e, (fun _ z => by cases z), (fun _ _ z => by cases z)⟩
  | ins c lay xs => obtain ⟨_, _, _, _, e, _⟩ := h; exact ⟨_, e, (fun _ z => by cases z), (fun _ _ z => by cases z)⟩
  | iset xs => obtain ⟨_, _, e, _⟩ := h; exact ⟨_, e, (fun _ z => by cases z), (fun _ _ z => by cases z)⟩
  | dcn kvs => obtain ⟨_, _, e, _⟩ := h; exact ⟨_, e, DN.ntup.1, DN.ntup.2⟩
  | fdc kvs => cases hf
theorem nfd {st : Sto} {k : Nat} {o : DO} (h : st[k]? = some o) (hf : o.isF = false) : ∀ kvs, st[k]? ≠ some (.fdc kvs) := fun kvs q => by
  rw [h] at q
  cases q
  cases hf
theorem RO.mono2 {K : PySem.W.Frag} {mg : Str → Option Value} {ads ads' : List Addr} {H H' : Hp} {a : Addr} {o : DO} (f : Ext ads ads') (k : Kp H H') (e : H' a = H a) (h : RO K mg ads H a o) : RO K mg ads' H' a o := by
  cases o with
  | lst xs => obtain ⟨vs, h1, h2⟩ := h; exact ⟨vs, e.trans h1, h2.mono2 f k⟩
  | dic kvs =>
    rcases h with ⟨vs, h1, h2⟩ | ⟨vs, h1, h2⟩
    · exact .inl ⟨vs, e.trans h1, h2.mono2 f k⟩
    · exact .inr ⟨vs, e.trans h1, h2.mono2 f k⟩
  | ins c lay xs => obtain ⟨C, dx, vs, h0, h1, hl, h2⟩ := h; exact ⟨C, dx, vs, h0, e.trans h1, hl, h2.mono2 f k⟩
  | iset xs => obtain ⟨S, n, h1, h2⟩ := h; exact ⟨S, n, e.trans h1, h2⟩
  | dcn kvs => obtain ⟨w, vs, h1, h2⟩ := h; exact ⟨w, vs, e.trans h1, h2.mono2 f k⟩
  | fdc kvs =>
    obtain ⟨o, ⟨vs, h1, h2⟩ | ⟨vs, h1, h2⟩⟩ := h
    · exact ⟨o, .inl ⟨vs, e.trans h1, h2.mono2 f k⟩⟩
    · exact ⟨o, .inr ⟨vs, e.trans h1, h2.mono2 f k⟩⟩
theorem RO.mono {K : PySem.W.Frag} {mg : Str → Option Value} {ads ads' : List Addr} {H H' : Hp} {a : Addr} {o : DO} (f : Fut ads H ads' H') (e : H' a = H a) (h : RO K mg ads H a o) : RO K mg ads' H' a o := h.mono2 f.pre f.kp e
structure RSt (K : PySem.W.Frag) (mg : Str → Option Value) (ads : List Addr) (H : Hp) (st : Sto) : Prop where
  len : ads.length = st.length
  nd : ads.Nodup
  ob : ∀ (k : Nat) (a : Addr) (o : DO), ads[k]? = some a → st[k]? = some o → RO K mg ads H a o
section
variable {K : PySem.W.Frag} {mg : Str → Option Value} {ads : List Addr} {H : Hp} {st : Sto}
theorem RSt.nil : RSt K mg [] H [] := ⟨rfl, List.nodup_nil, fun k a o h => by simp at h⟩
theorem RSt.at (R : RSt K mg ads H st) {k : Nat} {a : Addr} (h : ads[k]? = some a) : ∃ o, st[k]? = some o ∧ RO K mg ads H a o := by
  have hk : k < st.length := by rw [← R.len]; exact (List.getElem?_eq_some_iff.mp h).1
  exact ⟨_, List.getElem?_eq_getElem hk, R.ob _ _ _ h (List.getElem?_eq_getElem hk)⟩
theorem RSt.obj (R : RSt K mg ads H st) {k : Nat} {a : Addr} {o : DO} (h : ads[k]? = some a) (ho : st[k]? = some o) : RO K mg ads H a o := R.ob _ _ _ h ho
theorem RSt.fresh (R : RSt K mg ads H st) {p : Addr} (h : H p = none) : p ∉ ads := fun hm => by
  obtain ⟨k, e⟩ := List.getElem?_of_mem hm
  obtain ⟨o, _, ro⟩ := R.at e
  obtain ⟨u, e', _⟩ := ro.there
  rw [h] at e'; cases e'
/-- anything untracked is new -/
theorem RSt.keep (R : RSt K mg ads H st) {H' : Hp} (k : Kp H H') (h : ∀ a ∈ ads, H' a = H a) : RSt K mg ads H' st :=
  ⟨R.len, R.nd, fun j a o e1 e2 => (R.ob j a o e1 e2).mono2 (.refl _) k (h a (List.mem_of_getElem? e1))⟩
theorem RSt.newU (R : RSt K mg ads H st) {p : Addr} {u : HO} (h : H p = none) : RSt K mg ads (upd H p u) st :=
  R.keep (.new h) fun a ha => upd_ne fun e => R.fresh h (e ▸ ha)
theorem Fut.newU {p : Addr} {u : HO} (h : H p = none) : Fut ads H ads (upd H p u) := ⟨⟨[], by simp⟩, .new h, fun a o h1 h2 => ⟨h1, by rw [upd_ne (ne_of_none h2 h)]; exact h2⟩, fun a o u e => by rw [upd_ne (ne_of_none e h)]; exact e⟩
theorem Fut.alloc {p : Addr} {u : HO} (h : H p = none) : Fut ads H (ads ++ [p]) (upd H p u) := ⟨⟨[p], rfl⟩, .new h, fun a o h1 h2 => by
  have n := ne_of_none h2 h
  refine ⟨fun z => ?_, by rw [upd_ne n]; exact h2⟩
  rcases List.mem_append.mp z with z | z
  · exact h1 z
  · exact n (by simpa using z), fun a o u e => by rw [upd_ne (ne_of_none e h)]; exact e⟩
/-- an object without a handle gets one -/
theorem RSt.adopt (R : RSt K mg ads H st) {p : Addr} {o : DO} (h : p ∉ ads) (ro : RO K mg (ads ++ [p]) H p o) : RSt K mg (ads ++ [p]) H (st ++ [o]) := by
  refine ⟨by simp [R.len], ?_, fun j a o' e1 e2 => ?_⟩
  · rw [List.nodup_append]
    refine ⟨R.nd, by simp, fun a ha b hb => ?_⟩
    have e : b = p := by simpa using hb
    subst e
    rintro rfl
    exact h ha
  · by_cases hj : j < ads.length
    · rw [List.getElem?_append_left hj] at e1
      rw [List.getElem?_append_left (by rw [← R.len]; exact hj)] at e2
      exact (R.ob j a o' e1 e2).mono2 ⟨[p], rfl⟩ .refl rfl
    · have hl : j < (ads ++ [p]).length := (List.getElem?_eq_some_iff.mp e1).1
      have e : j = ads.length := by rw [List.length_append, List.length_singleton] at hl; omega
      subst e
      rw [List.getElem?_concat_length] at e1
      rw [R.len, List.getElem?_concat_length] at e2
      cases e1; cases e2
      exact ro
theorem RSt.alloc (R : RSt K mg ads H st) {p : Addr} {u : HO} {o : DO} (h : H p = none) (ro : RO K mg (ads ++ [p]) (upd H p u) p o) : RSt K mg (ads ++ [p]) (upd H p u) (st ++ [o]) :=
  (R.newU h).adopt (R.fresh h) ro
theorem alloc_at {p : Addr} (R : RSt K mg ads H st) : (ads ++ [p])[st.length]? = some p := by rw [← R.len, List.getElem?_concat_length]
theorem RSt.write (R : RSt K mg ads H st) {k : Nat} {p : Addr} {o : HO} (hk : ads[k]? = some p) (hn : ∀ kvs, st[k]? ≠ some (.fdc kvs) := by refine nfd (by assumption) ?_; rfl) : Fut ads H ads (upd H p o) := by
  obtain ⟨u, hu, r⟩ := R.at hk
  obtain ⟨z, e, h1, h2⟩ := r.thereS (by cases u <;> first | rfl | exact absurd hu (hn _))
  have n : ∀ {a : Addr} {o' : HO}, a ∉ ads → H a = some o' → a ≠ p := fun h3 _ q => h3 (by rw [q]; exact List.mem_of_getElem? hk)
  refine ⟨⟨[], by simp⟩, .write e h1 h2 (fun fs q => r.noxd fs (by rw [e, q])), fun a o' h3 h4 => ⟨h3, ?_⟩, fun a o' u' e' => ?_⟩
  · rw [upd_ne (n h3 h4)]
    exact h4
  · have : a ≠ p := fun q => by subst q; rw [e'] at e; exact h2 o' u' (Option.some.inj e).symm
    rw [upd_ne this]
    exact e'
theorem RSt.set (R : RSt K mg ads H st) {k : Nat} {p : Addr} {u : HO} {o' : DO} (hk : ads[k]? = some p) (ro : RO K mg ads (upd H p u) p o') : RSt K mg ads (upd H p u) (st.set k o') := by
  obtain ⟨o, ho, r⟩ := R.at hk
  obtain ⟨z, e, h1, h2⟩ := r.there
  refine ⟨by simp [R.len], R.nd, fun j a o2 e1 e2 => ?_⟩
  by_cases hj : k = j
  · subst hj
    rw [hk] at e1; cases e1
    have hl : k < st.length := (List.getElem?_eq_some_iff.mp ho).1
    rw [List.getElem?_set_self hl] at e2
    cases e2
    exact ro
  · rw [List.getElem?_set_ne hj] at e2
    refine (R.ob j a o2 e1 e2).mono2 (.refl _) (.writeU e h1 h2 (fun fs q => r.noxd fs (by rw [e, q]))) (upd_ne fun q => hj ?_)
    subst q
    exact (List.getElem?_inj (List.getElem?_eq_some_iff.mp hk).1 R.nd).mp (hk.trans e1.symm)
end

/-! ### the names -/
def RSl (K : PySem.W.Frag) (ads : List Addr) (H : Hp) (ss : Sl) (σ : L2.St) : Prop := ss.length = σ.length ∧ ∀ (i : Nat) (d : DV), ss[i]? = some (some d) → ∃ v, σ[i]? = some (some v) ∧ RV K ads H d v
theorem RSl.mono {K : PySem.W.Frag} {ads ads' : List Addr} {H H' : Hp} {ss : Sl} {σ : L2.St} (f : Fut ads H ads' H') (h : RSl K ads H ss σ) : RSl K ads' H' ss σ :=
  ⟨h.1, fun i d e => let ⟨v, h1, h2⟩ := h.2 i d e; ⟨v, h1, h2.mono f⟩⟩
theorem RSl.set {K : PySem.W.Frag} {ads : List Addr} {H : Hp} {ss : Sl} {σ : L2.St} {d : DV} {v : V} (h : RSl K ads H ss σ) (i : Nat) (r : RV K ads H d v) : RSl K ads H (ss.set i (some d)) (σ.set i (some v)) := by
  refine ⟨by simp [h.1], fun j e hj => ?_⟩
  by_cases hi : i = j
  · subst hi
    by_cases hl : i < ss.length
    · rw [List.getElem?_set_self hl] at hj
      cases hj
      exact ⟨v, by rw [List.getElem?_set_self (by rw [← h.1]; exact hl)], r⟩
    · rw [List.getElem?_eq_none (by simpa using hl)] at hj; cases hj
  · rw [List.getElem?_set_ne hi] at hj
    obtain ⟨u, h1, h2⟩ := h.2 j e hj
    exact ⟨u, by rw [List.getElem?_set_ne hi]; exact h1, h2⟩
theorem RSl.forget2 {K : PySem.W.Frag} {ads : List Addr} {H : Hp} {ss : Sl} {σ : L2.St} (h : RSl K ads H ss σ) (i : Nat) : RSl K ads H (ss.set i none) (σ.set i none) := by
  refine ⟨by simp [h.1], fun j e hj => ?_⟩
  by_cases hi : i = j
  · subst hi
    by_cases hl : i < ss.length
    · rw [List.getElem?_set_self hl] at hj; cases hj
    · rw [List.getElem?_eq_none (by simpa using hl)] at hj; cases hj
  · rw [List.getElem?_set_ne hi] at hj ⊢
    exact h.2 j e hj
/-- exceptions: the class by its name, the own dict's fields -/
def RX (K : PySem.W.Frag) (mg : Str → Option Value) (ads : List Addr) (H : Hp) (e : DX) (cls : Value) (d : Option Addr) : Prop :=
  ∃ C, mg e.c = some (.ref C) ∧ cls = .ref C ∧ ((e.fs = [] ∧ d = none) ∨ ∃ dx vs, d = some dx ∧ H dx = some (.xd vs) ∧ RFs K ads H e.fs vs)

/-! ### outcomes against the readings -/
def post {A B : Type} (K : PySem.W.Frag) (mg : Str → Option Value) (W : WX) (R : List Addr → Hp → A → B → Prop) (σ : L2.St) (ads : List Addr) (H : Hp) (o : Out A) (Q : B → Hp → Prop) : Prop :=
  match o with
  | .ok a st' => ∀ ads' H' b, Fut ads H ads' H' → RSt K mg ads' H' st' → R ads' H' a b → Q b H'
  | .exc e st' => ∀ ads' H' cls d, Fut ads H ads' H' → RSt K mg ads' H' st' → RX K mg ads' H' e cls d → W cls d σ H'
  | .bad => False
def tM {A B : Type} (K : PySem.W.Frag) (mg : Str → Option Value) (W : WX) (R : List Addr → Hp → A → B → Prop) (m : Sl → M A) : L2.St → Hp → (B → Hp → Prop) → Prop := fun σ H Q =>
  ∃ ads ss st, RSt K mg ads H st ∧ RSl K ads H ss σ ∧ post K mg W R σ ads H (m ss st) Q
/-- a step and then another one -/
theorem post.bind {A B A' B' : Type} {K : PySem.W.Frag} {mg : Str → Option Value} {W : WX} {R : List Addr → Hp → A → B → Prop} {R' : List Addr → Hp → A' → B' → Prop} {σ : L2.St} {ads : List Addr} {H : Hp} {st : Sto} {m : M A} {f : A → M A'} {Q : B' → Hp → Prop}
    (h : post K mg W R' σ ads H (bnd m f st) Q) : post K mg W R σ ads H (m st) fun b H' => ∃ ads' a st', Fut ads H ads' H' ∧ RSt K mg ads' H' st' ∧ R ads' H' a b ∧ post K mg W R' σ ads' H' (f a st') Q := by
  unfold bnd at h
  cases e : m st with
  | ok a st' =>
    rw [e] at h
    intro ads' H' b fu rs r
    refine ⟨ads', a, st', fu, rs, r, ?_⟩
    have h : post K mg W R' σ ads H (f a st') Q := h
    revert h
    cases f a st' with
    | ok a2 st2 => exact fun h ads2 H2 b2 fu2 rs2 r2 => h ads2 H2 b2 (fu.trans fu2) rs2 r2
    | exc e2 st2 => exact fun h ads2 H2 c d fu2 rs2 r2 => h ads2 H2 c d (fu.trans fu2) rs2 r2
    | bad => exact fun h => h
  | exc x st' => rw [e] at h; exact h
  | bad => rw [e] at h; exact h
theorem post.mono {A B : Type} {K : PySem.W.Frag} {mg : Str → Option Value} {W : WX} {R : List Addr → Hp → A → B → Prop} {σ : L2.St} {ads : List Addr} {H : Hp} {o : Out A} {Q Q' : B → Hp → Prop}
    (h : post K mg W R σ ads H o Q) (hq : ∀ b H', Q b H' → Q' b H') : post K mg W R σ ads H o Q' := by
  cases o with
  | ok a st' => exact fun ads' H' b fu rs r => hq _ _ (h ads' H' b fu rs r)
  | exc e st' => exact h
  | bad => exact h
theorem post.ok {A B : Type} {K : PySem.W.Frag} {mg : Str → Option Value} {W : WX} {R : List Addr → Hp → A → B → Prop} {σ : L2.St} {ads : List Addr} {H : Hp} {st : Sto} {a : A} {b : B} {Q : B → Hp → Prop}
    (h : post K mg W R σ ads H (.ok a st) Q) (rs : RSt K mg ads H st) (r : R ads H a b) : Q b H := h ads H b .refl rs r
end ML

/-! ML2: operators and subscripts by values. -/
namespace ML
open PySem PySem.Spec PyProof.Rows L2
/-- one value's relation, as post takes it -/
abbrev rV (K : PySem.W.Frag) : List Addr → Hp → DV → V → Prop := fun ads H d v => RV K ads H d v
abbrev rVs (K : PySem.W.Frag) : List Addr → Hp → List DV → List V → Prop := fun ads H d v => RVs K ads H d v
abbrev rB : List Addr → Hp → Bool → Bool → Prop := fun _ _ b c => b = c

def OpM (X : Cx) (f : Value → Value → Sem Value) (g : DV → DV → M DV) : Prop :=
  ∀ (pins : List (Addr × Obj)) (s : Shared) (σ : L2.St) (H : Hp) (x y : V) (v u : Value) (Q : VK) (ads : List Addr) (dx dy : DV) (st : Sto) (W : WX), Inv X pins σ H s → RSt X.K X.mg ads H st → RV X.K ads H dx x → RV X.K ads H dy y → RelV x v → RelV y u →
    post X.K X.mg W (rV X.K) σ ads H (g dx dy st) Q → wpAny (model X.prog X.w) X.A (f v u) (EP X pins σ Q) X.xe s
def UnM (X : Cx) (f : Value → Sem Value) (g : DV → M DV) : Prop :=
  ∀ (pins : List (Addr × Obj)) (s : Shared) (σ : L2.St) (H : Hp) (x : V) (v : Value) (Q : VK) (ads : List Addr) (dx : DV) (st : Sto) (W : WX), Inv X pins σ H s → RSt X.K X.mg ads H st → RV X.K ads H dx x → RelV x v →
    post X.K X.mg W (rV X.K) σ ads H (g dx st) Q → wpAny (model X.prog X.w) X.A (f v) (EP X pins σ Q) X.xe s
section
variable {K : PySem.W.Frag} {mg : Str → Option Value} {W : WX} {σ : L2.St} {ads : List Addr} {H : Hp} {st : Sto} {Q : VK}
/-- a new list -/
def alloc (o : DO) : M DV := fun st => .ok (.ref st.length) (st ++ [o])
theorem post.newL (R : RSt K mg ads H st) {xs : List DV} {vs : List V} (r : RVs K ads H xs vs) (h : post K mg W (rV K) σ ads H (alloc (.lst xs) st) Q) {p : Addr} (hp : H p = none) : Q (.ref p) (upd H p (.lst vs)) :=
  h _ _ _ (Fut.alloc hp) (R.alloc hp ⟨vs, upd_same, r.mono (.alloc hp)⟩) (.ref (alloc_at R))
theorem post.newT (R : RSt K mg ads H st) {xs : List DV} {vs : List V} (r : RVs K ads H xs vs) (h : post K mg W (rV K) σ ads H (.ok (.tup xs) st) Q) {p : Addr} (hp : H p = none) : Q (.ref p) (upd H p (.tup vs)) :=
  h _ _ _ (Fut.newU hp) (R.newU hp) (.tup upd_same (r.mono (.newU hp)))
theorem RSt.list (R : RSt K mg ads H st) {k : Nat} {a : Addr} {xs : List DV} (h : ads[k]? = some a) (e : st[k]? = some (.lst xs)) : ∃ vs, H a = some (.lst vs) ∧ RVs K ads H xs vs := R.ob k a _ h e
theorem Vals.small {X : Cx} {pins : List (Addr × Obj)} {s : Shared} (I : Inv X pins σ H s) {a : Addr} {vs : List V} (h : SqL X.K H a vs) : vs.length ≤ sizeLine := by
  obtain ⟨_, _, _, z⟩ := I.list h
  exact z
end

/-! ### arithmetic -/
def mulOk (i j : Int) : Prop := (-(2 ^ 64) < i ∧ i < 2 ^ 64) ∨ (-(2 ^ 64) < j ∧ j < 2 ^ 64) ∨ i.natAbs.log2 + j.natAbs.log2 < 1000000
@[irreducible] instance (i j : Int) : Decidable (mulOk i j) := by unfold mulOk; exact inferInstance
def divOk (j : Int) : Prop := 0 < j ∧ j.natAbs.log2 < 9000
@[irreducible] instance (j : Int) : Decidable (divOk j) := by unfold divOk; exact inferInstance
def powOk (i j : Int) : Prop := 0 ≤ j ∧ j ≤ 1000000 ∧ i.natAbs < 2 ^ 64
@[irreducible] instance (i j : Int) : Decidable (powOk i j) := by unfold powOk; exact inferInstance
def addM : DV → DV → M DV
  | .int i, .int j => pur (.int (i + j))
  | .str a, .str b => fun st => if a.length + b.length ≤ sizeLine then .ok (.str (a ++ b)) st else .bad
  | .tup a, .tup b => fun st => if a.length + b.length ≤ sizeLine then .ok (.tup (a ++ b)) st else .bad
  | .ref k, .ref l => fun st => match st[k]?, st[l]? with
    | some (.lst a), some (.lst b) => if a.length + b.length ≤ sizeLine then alloc (.lst (a ++ b)) st else .bad
    | _, _ => .bad
  | .int i, .bl b => pur (.int (i + b2i b))
  | _, _ => stuck
def subM : DV → DV → M DV
  | .int i, .int j => pur (.int (i - j))
  | _, _ => stuck
def mulM : DV → DV → M DV
  | .int i, .int j => fun st => if mulOk i j then .ok (.int (i * j)) st else .bad
  | .ref k, .int n => fun st => match st[k]? with
    | some (.lst a) => if -(2 ^ 63) ≤ n ∧ n < 2 ^ 63 ∧ a.length * n.toNat ≤ sizeLine then alloc (.lst (List.replicate n.toNat a).flatten) st else .bad
    | _ => .bad
  | _, _ => stuck
def fdivM : DV → DV → M DV
  | .int i, .int j => fun st => if divOk j then .ok (.int (i / j)) st else .bad
  | _, _ => stuck
def modM : DV → DV → M DV
  | .int i, .int j => fun st => if 0 < j then .ok (.int (i % j)) st else .bad
  | _, _ => stuck
def powM : DV → DV → M DV
  | .int i, .int j => fun st => if powOk i j then .ok (.int (i ^ j.toNat)) st else .bad
  | _, _ => stuck
def shlM : DV → DV → M DV
  | .int i, .int j => fun st => if powOk i j then .ok (.int (i * 2 ^ j.toNat)) st else .bad
  | _, _ => stuck
def shrM : DV → DV → M DV
  | .int i, .int j => fun st => if 0 ≤ j then .ok (.int (i / 2 ^ j.toNat)) st else .bad
  | _, _ => stuck
def andM : DV → DV → M DV
  | .int i, .int j => pur (.int (Builtin.bitAnd i j))
  | _, _ => stuck
def orM : DV → DV → M DV
  | .int i, .int j => pur (.int (Builtin.bitOr i j))
  | _, _ => stuck
def xorM : DV → DV → M DV
  | .int i, .int j => pur (.int (Builtin.bitXor i j))
  | _, _ => stuck
def negM : DV → M DV
  | .int i => pur (.int (-i))
  | _ => stuck
section
variable {X : Cx}
theorem opm_add : OpM X (binaryOp .Add) addM := by
  intro pins s σ H x y v u Q ads dx dy st W I R hx hy rx ry h
  cases hx with
  | int i =>
    cases hy with
    | int j => exact op_add pins s σ H _ _ v u Q I rx ry ⟨i, j, rfl, rfl, h.ok R (.int _)⟩
    | bl b => exact op_add_ib pins s σ H _ _ v u Q I rx ry ⟨i, b, rfl, rfl, h.ok R (.int _)⟩
    | _ => exact (h : False).elim
  | str a =>
    cases hy with
    | str b =>
      simp only [addM] at h
      split at h
      · exact op_add_str pins s σ H _ _ v u Q I rx ry ⟨a, b, rfl, rfl, by assumption, h.ok R (.str _)⟩
      · exact h.elim
    | _ => exact (h : False).elim
  | @tup a xs vs hs rs =>
    cases hy with
    | @tup b ys ws ht rt =>
      simp only [addM] at h
      split at h
      · rename_i hl
        have e1 := rs.length
        have e2 := rt.length
        refine op_catA pins s σ H _ _ v u Q I rx ry ⟨a, b, vs, ws, rfl, rfl, .of hs, .of ht, by omega, fun e => ?_, fun _ e => ?_, fun _ _ p hp => ?_⟩
        · subst e
          cases rs
          exact h.ok R (.tup ht rt)
        · subst e
          cases rt
          rw [List.append_nil] at h
          exact h.ok R (.tup hs rs)
        · exact h.newT R (rs.append rt) hp
      · exact h.elim
    | _ => exact (h : False).elim
  | @ref k a hk =>
    cases hy with
    | @ref l b hl =>
      simp only [addM] at h
      split at h
      · rename_i xs ys e1 e2
        split at h
        · rename_i hz
          obtain ⟨vs, h1, r1⟩ := R.list hk e1
          obtain ⟨ws, h2, r2⟩ := R.list hl e2
          have n1 := r1.length
          have n2 := r2.length
          exact op_cat pins s σ H _ _ v u Q I rx ry ⟨a, b, vs, ws, rfl, rfl, h1, h2, by omega, fun p hp => h.newL R (r1.append r2) hp⟩
        · exact h.elim
      · exact h.elim
    | _ => exact (h : False).elim
  | _ => cases hy <;> exact (h : False).elim
theorem opm_sub : OpM X (binaryOp .Sub) subM := by
  intro pins s σ H x y v u Q ads dx dy st W I R hx hy rx ry h
  cases hx with
  | int i =>
    cases hy with
    | int j => exact op_sub pins s σ H _ _ v u Q I rx ry ⟨i, j, rfl, rfl, h.ok R (.int _)⟩
    | _ => exact (h : False).elim
  | _ => cases hy <;> exact (h : False).elim
theorem opm_mul : OpM X (binaryOp .Mult) mulM := by
  intro pins s σ H x y v u Q ads dx dy st W I R hx hy rx ry h
  cases hx with
  | int i =>
    cases hy with
    | int j =>
      simp only [mulM] at h
      split at h
      · rename_i hc
        rcases hc with hc | hc | hc
        · exact op_mul pins s σ H _ _ v u Q I rx ry ⟨i, j, rfl, rfl, .inl hc, h.ok R (.int _)⟩
        · exact op_mul pins s σ H _ _ v u Q I rx ry ⟨i, j, rfl, rfl, .inr hc, h.ok R (.int _)⟩
        · exact op_mulW pins s σ H _ _ v u Q I rx ry ⟨i, j, rfl, rfl, hc, h.ok R (.int _)⟩
      · exact h.elim
    | _ => exact (h : False).elim
  | @ref k a hk =>
    cases hy with
    | int n =>
      simp only [mulM] at h
      split at h
      · rename_i xs e1
        split at h
        · rename_i hz
          obtain ⟨vs, h1, r1⟩ := R.list hk e1
          have n1 := r1.length
          refine op_rep pins s σ H _ _ v u Q I rx ry ⟨a, n, vs, rfl, rfl, h1, hz.1, hz.2.1, by rw [← n1]; exact hz.2.2, fun p hp => ?_⟩
          refine h.newL R ?_ hp
          generalize n.toNat = m
          induction m with
          | zero => exact .nil
          | succ m ih =>
            rw [List.replicate_succ, List.replicate_succ, List.flatten_cons, List.flatten_cons]
            exact r1.append ih
        · exact h.elim
      · exact h.elim
    | _ => exact (h : False).elim
  | _ => cases hy <;> exact (h : False).elim
theorem opm_fdiv : OpM X (binaryOp .FloorDiv) fdivM := by
  intro pins s σ H x y v u Q ads dx dy st W I R hx hy rx ry h
  cases hx with
  | int i =>
    cases hy with
    | int j =>
      simp only [fdivM] at h
      split at h
      · rename_i hc
        exact op_fdivW pins s σ H _ _ v u Q I rx ry ⟨i, j, rfl, rfl, hc, h.ok R (.int _)⟩
      · exact h.elim
    | _ => exact (h : False).elim
  | _ => cases hy <;> exact (h : False).elim
theorem opm_mod : OpM X (binaryOp .Mod) modM := by
  intro pins s σ H x y v u Q ads dx dy st W I R hx hy rx ry h
  cases hx with
  | int i =>
    cases hy with
    | int j =>
      simp only [modM] at h
      split at h
      · rename_i hc
        exact op_mod pins s σ H _ _ v u Q I rx ry ⟨i, j, rfl, rfl, hc, h.ok R (.int _)⟩
      · exact h.elim
    | _ => exact (h : False).elim
  | _ => cases hy <;> exact (h : False).elim
theorem opm_pow : OpM X (binaryOp .Pow) powM := by
  intro pins s σ H x y v u Q ads dx dy st W I R hx hy rx ry h
  cases hx with
  | int i =>
    cases hy with
    | int j =>
      simp only [powM] at h
      split at h
      · rename_i hc
        exact op_pow pins s σ H _ _ v u Q I rx ry ⟨i, j, rfl, rfl, hc, h.ok R (.int _)⟩
      · exact h.elim
    | _ => exact (h : False).elim
  | _ => cases hy <;> exact (h : False).elim
theorem opm_shl : OpM X (binaryOp .LShift) shlM := by
  intro pins s σ H x y v u Q ads dx dy st W I R hx hy rx ry h
  cases hx with
  | int i =>
    cases hy with
    | int j =>
      simp only [shlM] at h
      split at h
      · rename_i hc
        exact op_shl pins s σ H _ _ v u Q I rx ry ⟨i, j, rfl, rfl, hc, h.ok R (.int _)⟩
      · exact h.elim
    | _ => exact (h : False).elim
  | _ => cases hy <;> exact (h : False).elim
theorem opm_shr : OpM X (binaryOp .RShift) shrM := by
  intro pins s σ H x y v u Q ads dx dy st W I R hx hy rx ry h
  cases hx with
  | int i =>
    cases hy with
    | int j =>
      simp only [shrM] at h
      split at h
      · rename_i hc
        exact op_shr pins s σ H _ _ v u Q I rx ry ⟨i, j, rfl, rfl, hc, h.ok R (.int _)⟩
      · exact h.elim
    | _ => exact (h : False).elim
  | _ => cases hy <;> exact (h : False).elim
theorem opm_and : OpM X (binaryOp .BitAnd) andM := by
  intro pins s σ H x y v u Q ads dx dy st W I R hx hy rx ry h
  cases hx with
  | int i =>
    cases hy with
    | int j => exact op_and pins s σ H _ _ v u Q I rx ry ⟨i, j, rfl, rfl, h.ok R (.int _)⟩
    | _ => exact (h : False).elim
  | _ => cases hy <;> exact (h : False).elim
theorem opm_or : OpM X (binaryOp .BitOr) orM := by
  intro pins s σ H x y v u Q ads dx dy st W I R hx hy rx ry h
  cases hx with
  | int i =>
    cases hy with
    | int j => exact op_or pins s σ H _ _ v u Q I rx ry ⟨i, j, rfl, rfl, h.ok R (.int _)⟩
    | _ => exact (h : False).elim
  | _ => cases hy <;> exact (h : False).elim
theorem opm_xor : OpM X (binaryOp .BitXor) xorM := by
  intro pins s σ H x y v u Q ads dx dy st W I R hx hy rx ry h
  cases hx with
  | int i =>
    cases hy with
    | int j => exact op_xor pins s σ H _ _ v u Q I rx ry ⟨i, j, rfl, rfl, h.ok R (.int _)⟩
    | _ => exact (h : False).elim
  | _ => cases hy <;> exact (h : False).elim
theorem unm_neg : UnM X (unaryOp .USub) negM := by
  intro pins s σ H x v Q ads dx st W I R hx rx h
  cases hx with
  | int i => exact un_neg pins s σ H _ v Q I rx ⟨i, rfl, h.ok R (.int _)⟩
  | _ => exact (h : False).elim
end

/-! ### comparisons -/
mutual
/-- what a value reads as -/
inductive Rd (st : Sto) : DV → PyData → Prop
  | non : Rd st .non .none
  | bl (b : Bool) : Rd st (.bl b) (.bool b)
  | int (i : Int) : Rd st (.int i) (.int i)
  | str (x : Str) : Rd st (.str x) (.str x)
  | tup {xs : List DV} {ds : List PyData} : RdAll st xs ds → Rd st (.tup xs) (.tuple ds)
  | ktp {xs : List DV} {ds : List PyData} : RdAll st xs ds → Rd st (.ktp xs) (.tuple ds)
  | fzl {xs : List DV} {ds : List PyData} : RdAll st xs ds → Rd st (.fzl xs) (.list ds)
  | ref {k : Nat} {xs : List DV} {ds : List PyData} : st[k]? = some (.lst xs) → RdAll st xs ds → Rd st (.ref k) (.list ds)
inductive RdAll (st : Sto) : List DV → List PyData → Prop
  | nil : RdAll st [] []
  | cons {x : DV} {xs : List DV} {d : PyData} {ds : List PyData} : Rd st x d → RdAll st xs ds → RdAll st (x :: xs) (d :: ds)
end
section
variable {K : PySem.W.Frag} {mg : Str → Option Value} {ads : List Addr} {H : Hp} {st : Sto}
mutual
theorem Rd.dp (R : RSt K mg ads H st) : ∀ {x : DV} {d : PyData} {v : V}, Rd st x d → RV K ads H x v → Dp K H v d
  | _, _, _, .non, .non => .non
  | _, _, _, .bl b, .bl _ => .bl b
  | _, _, _, .int i, .int _ => .int i
  | _, _, _, .str x, .str _ => .str x
  | _, _, _, .tup h, .tup hs r => .tup (.of hs) (RdAll.dp R h r)
  | _, _, _, .ktp h, .ktp hs r => .tup hs (RdAll.dp R h r)
  | _, _, _, .fzl h, .fzl hs r => .lst hs.sq (RdAll.dp R h r)
  | _, _, _, .ref e h, .ref hk => by
    obtain ⟨vs, h1, r1⟩ := R.list hk e
    exact .lst (.inl (.inl h1)) (RdAll.dp R h r1)
theorem RdAll.dp (R : RSt K mg ads H st) : ∀ {x : List DV} {d : List PyData} {v : List V}, RdAll st x d → RVs K ads H x v → DpAll K H v d
  | _, _, _, .nil, .nil => .nil
  | _, _, _, .cons h hr, .cons r rr => .cons (Rd.dp R h r) (RdAll.dp R hr rr)
end
mutual
theorem Rd.inj : ∀ {x : DV} {d e : PyData}, Rd st x d → Rd st x e → d = e
  | _, _, _, .non, .non => rfl
  | _, _, _, .bl b, .bl _ => rfl
  | _, _, _, .int i, .int _ => rfl
  | _, _, _, .str x, .str _ => rfl
  | _, _, _, .tup h, .tup h' => by rw [RdAll.inj h h']
  | _, _, _, .ktp h, .ktp h' => by rw [RdAll.inj h h']
  | _, _, _, .fzl h, .fzl h' => by rw [RdAll.inj h h']
  | _, _, _, .ref e h, .ref e' h' => by
    rw [e] at e'
    cases e'
    rw [RdAll.inj h h']
theorem RdAll.inj : ∀ {x : List DV} {d e : List PyData}, RdAll st x d → RdAll st x e → d = e
  | _, _, _, .nil, .nil => rfl
  | _, _, _, .cons h r, .cons h' r' => by rw [Rd.inj h h', RdAll.inj r r']
end
end
/-- == at any depth -/
noncomputable def deepEq (st : Sto) (x y : DV) : Option Bool := by
  classical
  exact if h : ∃ d e, Rd st x d ∧ Rd st y e ∧ SeqAt.shaped d = true ∧ SeqAt.shaped e = true then some (PyData.eqv h.choose h.choose_spec.choose) else none
theorem deepEq_some {st : Sto} {x y : DV} {b : Bool} (h : deepEq st x y = some b) : ∃ d e, Rd st x d ∧ Rd st y e ∧ SeqAt.shaped d = true ∧ SeqAt.shaped e = true ∧ PyData.eqv d e = b := by
  unfold deepEq at h
  split at h
  · rename_i q
    cases h
    have z := q.choose_spec.choose_spec
    exact ⟨_, _, z.1, z.2.1, z.2.2.1, z.2.2.2, rfl⟩
  · cases h
theorem deepEq_of {st : Sto} {x y : DV} {d e : PyData} (h1 : Rd st x d) (h2 : Rd st y e) (h3 : SeqAt.shaped d = true) (h4 : SeqAt.shaped e = true) : deepEq st x y = some (PyData.eqv d e) := by
  have q : ∃ d e, Rd st x d ∧ Rd st y e ∧ SeqAt.shaped d = true ∧ SeqAt.shaped e = true := ⟨d, e, h1, h2, h3, h4⟩
  have z : ∃ b, deepEq st x y = some b := by
    unfold deepEq
    rw [dif_pos q]
    exact ⟨_, rfl⟩
  obtain ⟨b, hb⟩ := z
  obtain ⟨d', e', g1, g2, _, _, g3⟩ := deepEq_some hb
  rw [hb, ← g3, g1.inj h1, g2.inj h2]
noncomputable def deepIn (st : Sto) (x y : DV) : Option Bool := by
  classical
  exact if h : ∃ d ds, Rd st x d ∧ Rd st y (.list ds) ∧ SeqAt.shaped d = true ∧ SeqAt.shaped (.list ds) = true then some (h.choose_spec.choose.any fun z => PyData.eqv z h.choose) else none
theorem deepIn_some {st : Sto} {x y : DV} {b : Bool} (h : deepIn st x y = some b) : ∃ d ds, Rd st x d ∧ Rd st y (.list ds) ∧ SeqAt.shaped d = true ∧ SeqAt.shaped (.list ds) = true ∧ (ds.any fun z => PyData.eqv z d) = b := by
  unfold deepIn at h
  split at h
  · rename_i q
    cases h
    have z := q.choose_spec.choose_spec
    exact ⟨_, _, z.1, z.2.1, z.2.2.1, z.2.2.2, rfl⟩
  · cases h
def flatD : DV → Bool
  | .non => true
  | .bl _ => true
  | .int _ => true
  | .str _ => true
  | _ => false
def eqF : DV → DV → Bool
  | .non, .non => true
  | .bl a, .bl b => a == b
  | .bl a, .int b => (if a then 1 else 0) == b
  | .int a, .bl b => a == (if b then 1 else 0)
  | .int a, .int b => a == b
  | .str a, .str b => a == b
  | _, _ => false
def optM (o : Option Bool) : M DV := fun st => match o with
  | some b => .ok (.bl b) st
  | none => .bad
noncomputable def eqM : DV → DV → M DV
  | .int i, .int j => pur (.bl (decide (i = j)))
  | .str i, .str j => pur (.bl (decide (i = j)))
  | .bl i, .bl j => pur (.bl (decide (i = j)))
  | x, y => fun st => optM (deepEq st x y) st
noncomputable def neM : DV → DV → M DV
  | .int i, .int j => pur (.bl (!decide (i = j)))
  | .str i, .str j => pur (.bl (!decide (i = j)))
  | .bl i, .bl j => pur (.bl (!decide (i = j)))
  | x, y => fun st => optM ((deepEq st x y).map (!·)) st
def ltM : DV → DV → M DV
  | .int i, .int j => pur (.bl (decide (i < j)))
  | .str i, .str j => pur (.bl (decide (i.cps.toList < j.cps.toList)))
  | _, _ => stuck
def gtM : DV → DV → M DV
  | .int i, .int j => pur (.bl (decide (j < i)))
  | .str i, .str j => pur (.bl (decide (j.cps.toList < i.cps.toList)))
  | _, _ => stuck
def leM : DV → DV → M DV
  | .int i, .int j => pur (.bl (decide (i ≤ j)))
  | .str i, .str j => pur (.bl (!decide (j.cps.toList < i.cps.toList)))
  | _, _ => stuck
def geM : DV → DV → M DV
  | .int i, .int j => pur (.bl (decide (j ≤ i)))
  | .str i, .str j => pur (.bl (!decide (i.cps.toList < j.cps.toList)))
  | _, _ => stuck
def isM : DV → DV → M DV
  | .bl a, .bl b => pur (.bl (decide (a = b)))
  | .non, .non => pur (.bl true)
  | _, .non => pur (.bl false)
  | _, _ => stuck
def isnM : DV → DV → M DV
  | .bl a, .bl b => pur (.bl (!decide (a = b)))
  | .non, .non => pur (.bl false)
  | _, .non => pur (.bl true)
  | _, _ => stuck
section
variable {X : Cx}
theorem opm_eq (hu : X.A.units + 64 < cLine) : OpM X (compareOp .Eq) eqM := by
  intro pins s σ H x y v u Q ads dx dy st W I R hx hy rx ry h
  have deep : post X.K X.mg W (rV X.K) σ ads H (optM (deepEq st dx dy) st) Q → wpAny (model X.prog X.w) X.A (compareOp .Eq v u) (EP X pins σ Q) X.xe s := fun h => by
    cases e : deepEq st dx dy with
    | none => rw [e] at h; exact h.elim
    | some b =>
      rw [e] at h
      obtain ⟨d, e', h1, h2, h3, h4, h5⟩ := deepEq_some e
      exact op_eqD hu pins s σ H x y v u Q I rx ry ⟨d, e', h1.dp R hx, h2.dp R hy, h3, h4, by rw [h5]; exact h.ok R (.bl _)⟩
  have hx0 := hx
  have hy0 := hy
  cases hx with
  | int i =>
    cases hy with
    | int j => exact op_eq pins s σ H _ _ v u Q I rx ry ⟨rfl, by rw [dec_int]; have h := h.ok R (.bl _); rwa [← Bool.beq_eq_decide_eq] at h⟩
    | _ => exact deep h
  | str i =>
    cases hy with
    | str j => exact op_eq pins s σ H _ _ v u Q I rx ry ⟨rfl, by rw [dec_str]; have h := h.ok R (.bl _); rwa [← Bool.beq_eq_decide_eq] at h⟩
    | _ => exact deep h
  | bl i =>
    cases hy with
    | bl j => exact op_eq pins s σ H _ _ v u Q I rx ry ⟨rfl, by rw [dec_bl]; have h := h.ok R (.bl _); rwa [← Bool.beq_eq_decide_eq] at h⟩
    | _ => exact deep h
  | _ => cases hy <;> exact deep h
theorem opm_ne (hu : X.A.units + 64 < cLine) : OpM X (compareOp .NotEq) neM := by
  intro pins s σ H x y v u Q ads dx dy st W I R hx hy rx ry h
  have deep : post X.K X.mg W (rV X.K) σ ads H (optM ((deepEq st dx dy).map (!·)) st) Q → wpAny (model X.prog X.w) X.A (compareOp .NotEq v u) (EP X pins σ Q) X.xe s := fun h => by
    cases e : deepEq st dx dy with
    | none => rw [e] at h; exact h.elim
    | some b =>
      rw [e] at h
      obtain ⟨d, e', h1, h2, h3, h4, h5⟩ := deepEq_some e
      exact op_neD hu pins s σ H x y v u Q I rx ry ⟨d, e', h1.dp R hx, h2.dp R hy, h3, h4, by rw [h5]; exact h.ok R (.bl _)⟩
  cases hx with
  | int i =>
    cases hy with
    | int j => exact op_ne pins s σ H _ _ v u Q I rx ry ⟨rfl, by rw [dec_int]; have h := h.ok R (.bl _); rwa [← Bool.beq_eq_decide_eq] at h⟩
    | _ => exact deep h
  | str i =>
    cases hy with
    | str j => exact op_ne pins s σ H _ _ v u Q I rx ry ⟨rfl, by rw [dec_str]; have h := h.ok R (.bl _); rwa [← Bool.beq_eq_decide_eq] at h⟩
    | _ => exact deep h
  | bl i =>
    cases hy with
    | bl j => exact op_ne pins s σ H _ _ v u Q I rx ry ⟨rfl, by rw [dec_bl]; have h := h.ok R (.bl _); rwa [← Bool.beq_eq_decide_eq] at h⟩
    | _ => exact deep h
  | _ => cases hy <;> exact deep h
theorem opm_lt : OpM X (compareOp .Lt) ltM := by
  intro pins s σ H x y v u Q ads dx dy st W I R hx hy rx ry h
  cases hx with
  | int i =>
    cases hy with
    | int j => exact op_lt pins s σ H _ _ v u Q I rx ry ⟨i, j, rfl, rfl, h.ok R (.bl _)⟩
    | _ => exact (h : False).elim
  | str i =>
    cases hy with
    | str j => exact op_lt_str pins s σ H _ _ v u Q I rx ry ⟨i, j, rfl, rfl, h.ok R (.bl _)⟩
    | _ => exact (h : False).elim
  | _ => cases hy <;> exact (h : False).elim
theorem opm_gt : OpM X (compareOp .Gt) gtM := by
  intro pins s σ H x y v u Q ads dx dy st W I R hx hy rx ry h
  cases hx with
  | int i =>
    cases hy with
    | int j => exact op_gt pins s σ H _ _ v u Q I rx ry ⟨i, j, rfl, rfl, h.ok R (.bl _)⟩
    | _ => exact (h : False).elim
  | str i =>
    cases hy with
    | str j => exact op_gt_str pins s σ H _ _ v u Q I rx ry ⟨i, j, rfl, rfl, h.ok R (.bl _)⟩
    | _ => exact (h : False).elim
  | _ => cases hy <;> exact (h : False).elim
theorem opm_le : OpM X (compareOp .LtE) leM := by
  intro pins s σ H x y v u Q ads dx dy st W I R hx hy rx ry h
  cases hx with
  | int i =>
    cases hy with
    | int j => exact op_le pins s σ H _ _ v u Q I rx ry ⟨i, j, rfl, rfl, h.ok R (.bl _)⟩
    | _ => exact (h : False).elim
  | str i =>
    cases hy with
    | str j => exact op_le_str pins s σ H _ _ v u Q I rx ry ⟨i, j, rfl, rfl, h.ok R (.bl _)⟩
    | _ => exact (h : False).elim
  | _ => cases hy <;> exact (h : False).elim
theorem opm_ge : OpM X (compareOp .GtE) geM := by
  intro pins s σ H x y v u Q ads dx dy st W I R hx hy rx ry h
  cases hx with
  | int i =>
    cases hy with
    | int j => exact op_ge pins s σ H _ _ v u Q I rx ry ⟨i, j, rfl, rfl, h.ok R (.bl _)⟩
    | _ => exact (h : False).elim
  | str i =>
    cases hy with
    | str j => exact op_ge_str pins s σ H _ _ v u Q I rx ry ⟨i, j, rfl, rfl, h.ok R (.bl _)⟩
    | _ => exact (h : False).elim
  | _ => cases hy <;> exact (h : False).elim
theorem opm_is : OpM X (compareOp .Is) isM := by
  intro pins s σ H x y v u Q ads dx dy st W I R hx hy rx ry h
  cases hy with
  | bl j =>
    cases hx with
    | bl i => exact op_is_bl pins s σ H _ _ v u Q I rx ry ⟨i, j, rfl, rfl, h.ok R (.bl _)⟩
    | _ => exact (h : False).elim
  | non =>
    refine op_isN pins s σ H _ _ v u Q I rx ry ⟨rfl, ?_⟩
    cases hx <;> exact post.ok h R (.bl _)
  | _ => cases hx <;> exact (h : False).elim
theorem opm_isn : OpM X (compareOp .IsNot) isnM := by
  intro pins s σ H x y v u Q ads dx dy st W I R hx hy rx ry h
  cases hy with
  | bl j =>
    cases hx with
    | bl i => exact op_isnot_bl pins s σ H _ _ v u Q I rx ry ⟨i, j, rfl, rfl, h.ok R (.bl _)⟩
    | _ => exact (h : False).elim
  | non =>
    refine op_notN pins s σ H _ _ v u Q I rx ry ⟨rfl, ?_⟩
    cases hx <;> exact post.ok h R (.bl _)
  | _ => cases hx <;> exact (h : False).elim
end

/-! ### in -/
def strIn (a z : Str) : Bool := !(Builtin.Str.occurrences z a 0 z.length 1).isEmpty
def inF (x : DV) (xs : List DV) : Bool := xs.any fun y => eqF y x
noncomputable def inB (x y : DV) (st : Sto) : Option Bool := match y with
  | .str z => match x with
    | .str a => some (strIn a z)
    | _ => none
  | .tup ys => if flatD x && ys.all flatD then some (inF x ys) else none
  | .ref k => match st[k]? with
    | some (.lst ys) => if flatD x && ys.all flatD then some (inF x ys) else deepIn st x (.ref k)
    | _ => none
  | .fzl ys => if flatD x && ys.all flatD then some (inF x ys) else none
  | .ktp ys => if flatD x && ys.all flatD then some (inF x ys) else none
  | _ => none
noncomputable def inM (x y : DV) : M DV := fun st => optM (inB x y st) st
noncomputable def ninM (x y : DV) : M DV := fun st => optM ((inB x y st).map (!·)) st
section
variable {K : PySem.W.Frag} {ads : List Addr} {H : Hp}
theorem RV.flat {d : DV} {v : V} (r : RV K ads H d v) : flatD d = true → flatV v = true := by
  cases r <;> intro h <;> first | rfl | cases h
theorem RVs.flat : ∀ {d : List DV} {v : List V}, RVs K ads H d v → d.all flatD = true → v.all flatV = true
  | _, _, .nil, _ => rfl
  | _, _, .cons h r, e => by
    rw [List.all_cons, Bool.and_eq_true] at e ⊢
    exact ⟨h.flat e.1, RVs.flat r e.2⟩
theorem eqF_eqV {x y : DV} {u v : V} (r : RV K ads H x u) (q : RV K ads H y v) (f : flatD x = true) (g : flatD y = true) : eqF x y = eqV u v := by
  cases r <;> cases q <;> first | rfl | cases f | cases g
theorem inF_inV {x : DV} {u : V} (r : RV K ads H x u) (f : flatD x = true) : ∀ {ys : List DV} {vs : List V}, RVs K ads H ys vs → ys.all flatD = true → inF x ys = inV u vs
  | _, _, .nil, _ => rfl
  | _, _, .cons h q, e => by
    rw [List.all_cons, Bool.and_eq_true] at e
    show (eqF _ x || inF x _) = (eqV _ u || inV u _)
    rw [eqF_eqV h r e.1 f, inF_inV r f q e.2]
end
section
variable {X : Cx}
/-- both ways at once -/
theorem in_both (hu : X.A.units + 65 < cLine) {pins : List (Addr × Obj)} {s : Shared} {σ : L2.St} {H : Hp} {x y : V} {v u : Value} {Q : VK} {ads : List Addr} {dx dy : DV} {st : Sto} {b : Bool} (I : Inv X pins σ H s) (R : RSt X.K X.mg ads H st) (hx : RV X.K ads H dx x) (hy : RV X.K ads H dy y) (rx : RelV x v) (ry : RelV y u)
    (e : inB dx dy st = some b) : (Q (.bl b) H → wpAny (model X.prog X.w) X.A (compareOp .In v u) (EP X pins σ Q) X.xe s) ∧ (Q (.bl (!b)) H → wpAny (model X.prog X.w) X.A (compareOp .NotIn v u) (EP X pins σ Q) X.xe s) := by
  cases hy with
  | str z =>
    cases hx with
    | str a =>
      cases e
      exact ⟨fun h => op_in_str pins s σ H _ _ v u Q I rx ry ⟨a, z, rfl, rfl, h⟩, fun h => op_notIn_str pins s σ H _ _ v u Q I rx ry ⟨a, z, rfl, rfl, h⟩⟩
    | _ => cases e
  | @tup a ys vs hs rs =>
    simp only [inB] at e
    split at e
    · rename_i f
      rw [Bool.and_eq_true] at f
      cases e
      rw [inF_inV hx f.1 rs f.2]
      exact ⟨fun h => op_in_seq pins s σ H _ _ v u Q I rx ry ⟨a, vs, rfl, .inr (.of hs), hx.flat f.1, rs.flat f.2, h⟩, fun h => op_notIn_seq pins s σ H _ _ v u Q I rx ry ⟨a, vs, rfl, .inr (.of hs), hx.flat f.1, rs.flat f.2, h⟩⟩
    · cases e
  | @ktp a ys vs hs rs =>
    simp only [inB] at e
    split at e
    · rename_i f
      rw [Bool.and_eq_true] at f
      cases e
      rw [inF_inV hx f.1 rs f.2]
      exact ⟨fun h => op_in_seq pins s σ H _ _ v u Q I rx ry ⟨a, vs, rfl, .inr hs, hx.flat f.1, rs.flat f.2, h⟩, fun h => op_notIn_seq pins s σ H _ _ v u Q I rx ry ⟨a, vs, rfl, .inr hs, hx.flat f.1, rs.flat f.2, h⟩⟩
    · cases e
  | @fzl a ys vs hs rs =>
    simp only [inB] at e
    split at e
    · rename_i f
      rw [Bool.and_eq_true] at f
      cases e
      rw [inF_inV hx f.1 rs f.2]
      exact ⟨fun h => op_in_seq pins s σ H _ _ v u Q I rx ry ⟨a, vs, rfl, .inl hs.sq, hx.flat f.1, rs.flat f.2, h⟩, fun h => op_notIn_seq pins s σ H _ _ v u Q I rx ry ⟨a, vs, rfl, .inl hs.sq, hx.flat f.1, rs.flat f.2, h⟩⟩
    · cases e
  | @ref k a hk =>
    simp only [inB] at e
    split at e
    · rename_i ys e1
      obtain ⟨vs, hv, rs⟩ := R.list hk e1
      split at e
      · rename_i f
        rw [Bool.and_eq_true] at f
        cases e
        rw [inF_inV hx f.1 rs f.2]
        exact ⟨fun h => op_in_seq pins s σ H _ _ v u Q I rx ry ⟨a, vs, rfl, .inl (.of hv), hx.flat f.1, rs.flat f.2, h⟩, fun h => op_notIn_seq pins s σ H _ _ v u Q I rx ry ⟨a, vs, rfl, .inl (.of hv), hx.flat f.1, rs.flat f.2, h⟩⟩
      · obtain ⟨d, ds, h1, h2, h3, h4, h5⟩ := deepIn_some e
        rw [← h5]
        exact ⟨fun h => op_inD hu pins s σ H _ _ v u Q I rx ry ⟨d, ds, h1.dp R hx, h2.dp R (.ref hk), h3, h4, h⟩, fun h => op_notInD hu pins s σ H _ _ v u Q I rx ry ⟨d, ds, h1.dp R hx, h2.dp R (.ref hk), h3, h4, h⟩⟩
    · cases e
  | _ => cases e
theorem opm_in (hu : X.A.units + 65 < cLine) : OpM X (compareOp .In) inM := by
  intro pins s σ H x y v u Q ads dx dy st W I R hx hy rx ry h
  unfold inM at h
  cases e : inB dx dy st with
  | none => rw [e] at h; exact h.elim
  | some b =>
    rw [e] at h
    exact (in_both hu I R hx hy rx ry e).1 (h.ok R (.bl _))
theorem opm_nin (hu : X.A.units + 65 < cLine) : OpM X (compareOp .NotIn) ninM := by
  intro pins s σ H x y v u Q ads dx dy st W I R hx hy rx ry h
  unfold ninM at h
  cases e : inB dx dy st with
  | none => rw [e] at h; exact h.elim
  | some b =>
    rw [e] at h
    exact (in_both hu I R hx hy rx ry e).2 (h.ok R (.bl _))
end
end ML

/-! ML3: expressions, tests, calls. -/
namespace ML
open PySem PySem.Spec PyProof.Rows L2
def RE (X : Cx) (W : WX) (e : Expr) (m : Ex) : Prop := PE X e (tM X.K X.mg W (rV X.K) m)
def RT (X : Cx) (W : WX) (e : Expr) (m : Sl → M Bool) : Prop := PT X e (tM X.K X.mg W rB m)
def RW (X : Cx) (W : WX) (e : Expr) (m : Sl → M Bool) : Prop := PW X e (tM X.K X.mg W rB m)
def eArgs : List Ex → Sl → M (List DV)
  | [], _ => pur []
  | m :: ms, ss => bnd (m ss) fun x => bnd (eArgs ms ss) fun xs => pur (x :: xs)
def RA (X : Cx) (W : WX) (es : List Expr) (ms : List Ex) : Prop := PA X es (tM X.K X.mg W (rVs X.K) (eArgs ms))
theorem bnd_ok {A B : Type} {m : M A} {f : A → M B} {st : Sto} {b : B} {st' : Sto} (h : bnd m f st = .ok b st') : ∃ a st1, m st = .ok a st1 ∧ f a st1 = .ok b st' := by
  unfold bnd at h
  cases e : m st with
  | ok a st1 => rw [e] at h; exact ⟨a, st1, rfl, h⟩
  | exc x s => rw [e] at h; cases h
  | bad => rw [e] at h; cases h
theorem eArgs_length : ∀ {ms : List Ex} {ss : Sl} {st st' : Sto} {xs : List DV}, eArgs ms ss st = .ok xs st' → xs.length = ms.length
  | [], _, _, _, _, h => by cases h; rfl
  | m :: ms, ss, st, st', xs, h => by
    obtain ⟨a, st1, h1, h2⟩ := bnd_ok h
    obtain ⟨ys, st2, h3, h4⟩ := bnd_ok h2
    cases h4
    rw [List.length_cons, List.length_cons, eArgs_length h3]
def eVar (i : Nat) : Ex := fun ss st => match ss[i]? with
  | some (some d) => .ok d st
  | _ => .bad
def eC (d : DV) : Ex := fun _ => pur d
def eUn (g : DV → M DV) (a : Ex) : Ex := fun ss => bnd (a ss) g
def eOp (g : DV → DV → M DV) (a b : Ex) : Ex := fun ss => bnd (a ss) fun x => bnd (b ss) fun y => g x y
def asB : DV → M Bool
  | .bl b => pur b
  | _ => stuck
def truM (d : DV) : M Bool := fun st => match d with
  | .non => .ok false st
  | .bl b => .ok b st
  | .int i => .ok (i != 0) st
  | .str x => if x.length ≤ sizeLine then .ok ((x.length : Int) != 0) st else .bad
  | .tup xs => .ok (!xs.isEmpty) st
  | .fzl xs => .ok (!xs.isEmpty) st
  | .ktp xs => .ok (!xs.isEmpty) st
  | .ref k => match st[k]? with
    | some (.lst xs) => .ok (!xs.isEmpty) st
    | _ => .bad
  | .ty _ => .bad
  | .exn _ _ _ _ => .bad
def tVal (m : Ex) : Sl → M Bool := fun ss => bnd (m ss) asB
def tTru (m : Ex) : Sl → M Bool := fun ss => bnd (m ss) truM
def tAnd (a b : Sl → M Bool) : Sl → M Bool := fun ss => bnd (a ss) fun c => if c = true then b ss else pur false
def tOr (a b : Sl → M Bool) : Sl → M Bool := fun ss => bnd (a ss) fun c => if c = true then pur true else b ss
def tNot (a : Sl → M Bool) : Sl → M Bool := fun ss => bnd (a ss) fun c => pur (!c)
def eAnd (a b : Ex) : Ex := fun ss => bnd (a ss) fun x => bnd (asB x) fun c => if c = true then b ss else pur (.bl false)
def eOr (a b : Ex) : Ex := fun ss => bnd (a ss) fun x => bnd (asB x) fun c => if c = true then pur (.bl true) else b ss
def eNot (a : Ex) : Ex := fun ss => bnd (a ss) fun x => bnd (asB x) fun c => pur (.bl (!c))
def eIf (t : Sl → M Bool) (a b : Ex) : Ex := fun ss => bnd (t ss) fun c => if c = true then a ss else b ss
def eTup (ms : List Ex) : Ex := fun ss => bnd (eArgs ms ss) fun xs => pur (.tup xs)
def eLst (ms : List Ex) : Ex := fun ss => bnd (eArgs ms ss) fun xs => alloc (.lst xs)
def eCall (f : List DV → M DV) (ms : List Ex) : Ex := fun ss => bnd (eArgs ms ss) f

section
variable {X : Cx} {W : WX} {a b : Expr} {ma mb : Ex} {pos : Pos}
theorem tM.imp {A B : Type} {K : PySem.W.Frag} {mg : Str → Option Value} {R : List Addr → Hp → A → B → Prop} {m : Sl → M A} {σ : L2.St} {H : Hp} {Q Q' : B → Hp → Prop} (h : tM K mg W R m σ H Q) (hq : ∀ b H', Q b H' → Q' b H') : tM K mg W R m σ H Q' := by
  obtain ⟨ads, ss, st, R, L, p⟩ := h
  exact ⟨ads, ss, st, R, L, p.mono hq⟩
/-- a step, then the rest, the names the same -/
theorem tM.bind {A B A' B' : Type} {K : PySem.W.Frag} {mg : Str → Option Value} {R : List Addr → Hp → A → B → Prop} {R' : List Addr → Hp → A' → B' → Prop} {m : Sl → M A} {f : Sl → A → M A'} {σ : L2.St} {H : Hp} {Q : B' → Hp → Prop}
    (h : tM K mg W R' (fun ss => bnd (m ss) (f ss)) σ H Q) : tM K mg W R m σ H fun b H' => ∃ ads ss a st, RSt K mg ads H' st ∧ RSl K ads H' ss σ ∧ R ads H' a b ∧ post K mg W R' σ ads H' (f ss a st) Q := by
  obtain ⟨ads, ss, st, R, L, p⟩ := h
  exact ⟨ads, ss, st, R, L, (post.bind p).mono fun b H' ⟨ads', a, st', fu, r1, r2, r3⟩ => ⟨ads', ss, a, st', r1, L.mono fu, r2, r3⟩⟩
theorem re_var {i : Nat} {x : Str} (hN : X.N[i]? = some x) (hv : Vis X.env.scope x) (hd : (x == ("__debug__" : Str)) = false := by decide) (hcd : (x == ("__classdict__" : Str)) = false := by decide) : RE X W (.Name x pos) (eVar i) := by
  refine ⟨fun pins s σ H Q I h => (pe_var hN hv hd hcd).run pins s σ H Q I ?_⟩
  obtain ⟨ads, ss, st, R, L, p⟩ := h
  unfold eVar at p
  split at p
  · rename_i d e
    obtain ⟨v, h1, h2⟩ := L.2 i d e
    exact ⟨v, h1, p.ok R h2⟩
  · exact p.elim
theorem re_of {e : Expr} {d : DV} {v : V} (h : PE X e (tC v)) (r : ∀ ads H, RV X.K ads H d v) : RE X W e (eC d) := by
  refine ⟨fun pins s σ H Q I h' => h.run pins s σ H Q I ?_⟩
  obtain ⟨ads, ss, st, R, L, p⟩ := h'
  exact p.ok R (r _ _)
theorem re_int {i : Int} {j : Nat} : RE X W (.Constant (.int i) j pos) (eC (.int i)) := re_of pe_int fun _ _ => .int i
theorem re_bl {b : Bool} {j : Nat} : RE X W (.Constant (.bool b) j pos) (eC (.bl b)) := re_of pe_bl fun _ _ => .bl b
theorem re_non {j : Nat} : RE X W (.Constant .none j pos) (eC .non) := re_of pe_non fun _ _ => .non
theorem re_ty {x : Str} {n : String} (hg : Gl X x) (hm : X.mg x = none) (hv : bootBuiltins x = some (.type n)) (hn : x ≠ "__name__" := by decide) (hd : (x == ("__debug__" : Str)) = false := by decide) : RE X W (.Name x pos) (eC (.ty n)) := re_of (v := .ty n) (pe_bltn hg hm hv rfl hn hd) fun _ _ => .ty n
theorem re_str {x : Str} {j : Nat} : RE X W (.Constant (.str x) j pos) (eC (.str x)) := re_of pe_str fun _ _ => .str x
/-- a module's constant -/
structure GC (K : PySem.W.Frag) (mg : Str → Option Value) (x : Str) (d : DV) : Prop where
  ex : ∃ v u, mg x = some u ∧ RelV v u ∧ ∀ ads H, RV K ads H d v
theorem re_glob {x : Str} {d : DV} (hg : Gl X x) (G : GC X.K X.mg x d) (hd : (x == ("__debug__" : Str)) = false := by decide) : RE X W (.Name x pos) (eC d) := by
  obtain ⟨v, u, h1, h2, h3⟩ := G.ex
  exact re_of (pe_glob hg h1 h2 hd) h3
/-- two operands -/
theorem two_op {g : DV → DV → M DV} {f : Value → Value → Sem Value} (ho : OpM X f g) (ha : RE X W a ma) (hb : RE X W b mb) {pins : List (Addr × Obj)} {s : Shared} {σ : L2.St} {H : Hp} {Q : VK} (I : Inv X pins σ H s) (h : tM X.K X.mg W (rV X.K) (eOp g ma mb) σ H Q) :
    ∃ R : V → V → Hp → Prop, (tM X.K X.mg W (rV X.K) ma σ H fun x H1 => tM X.K X.mg W (rV X.K) mb σ H1 fun y H2 => R x y H2) ∧
      ∀ v u s2 x y H2, Inv X pins σ H2 s2 → RelV x v → RelV y u → R x y H2 → wpAny (model X.prog X.w) X.A (f v u) (EP X pins σ Q) X.xe s2 := by
  refine ⟨fun x y H2 => ∃ ads dx dy st, RSt X.K X.mg ads H2 st ∧ RV X.K ads H2 dx x ∧ RV X.K ads H2 dy y ∧ post X.K X.mg W (rV X.K) σ ads H2 (g dx dy st) Q, ?_, ?_⟩
  · obtain ⟨ads, ss, st, R, L, p⟩ := h
    refine ⟨ads, ss, st, R, L, (post.bind p).mono fun x H1 ⟨ads1, dx, st1, fu1, R1, r1, p1⟩ => ?_⟩
    refine ⟨ads1, ss, st1, R1, L.mono fu1, (post.bind p1).mono fun y H2 ⟨ads2, dy, st2, fu2, R2, r2, p2⟩ => ?_⟩
    exact ⟨ads2, dx, dy, st2, R2, r1.mono fu2, r2, p2⟩
  · rintro v u s2 x y H2 I2 rx ry ⟨ads, dx, dy, st, R, h1, h2, p⟩
    exact ho pins s2 σ H2 x y v u Q ads dx dy st W I2 R h1 h2 rx ry p
theorem re_op {op : Operator} {g : DV → DV → M DV} (ho : OpM X (binaryOp op) g) (ha : RE X W a ma) (hb : RE X W b mb) : RE X W (.BinOp a op b pos) (eOp g ma mb) := by
  refine ⟨fun pins s σ H Q I h => ?_⟩
  obtain ⟨R, h1, h2⟩ := two_op ho ha hb I h
  exact wpAny_BinOp (bin ha hb I h1 h2)
theorem re_un {op : UnaryOp} {g : DV → M DV} (ho : UnM X (unaryOp op) g) (ha : RE X W a ma) : RE X W (.UnaryOp op a pos) (eUn g ma) := by
  refine ⟨fun pins s σ H Q I h => ?_⟩
  have h := tM.bind (R := rV X.K) (f := fun _ => g) h
  exact (pe_un (r := fun x H1 Q => ∃ (ads : List Addr) (ss : Sl) (d : DV) (st : Sto), RSt X.K X.mg ads H1 st ∧ RSl X.K ads H1 ss σ ∧ RV X.K ads H1 d x ∧ post X.K X.mg W (rV X.K) σ ads H1 (g d st) Q) (fun pins s σ' H x v Q I rx ⟨ads, ss, d, st, R, L, r, p⟩ => by
    have p' : post X.K X.mg (fun cls d _ H => W cls d σ H) (rV X.K) σ' ads H (g d st) Q := by
      revert p
      cases g d st <;> exact fun p => p
    exact ho pins s σ' H x v Q ads d st _ I R r rx p') ha).run pins s σ H Q I h
theorem re_cmp {op : CmpOp} {g : DV → DV → M DV} (ho : OpM X (compareOp op) g) (ha : RE X W a ma) (hb : RE X W b mb) (hm : behindInMarks op b = false := by rfl) : RE X W (.Compare a [op] [b] pos) (eOp g ma mb) := by
  refine ⟨fun pins s σ H Q I h => ?_⟩
  obtain ⟨R, h1, h2⟩ := two_op ho ha hb I h
  exact wpAny_Compare1 (bin ha hb I h1 h2) hm
theorem rt_cmp {op : CmpOp} {g : DV → DV → M DV} (ho : OpM X (compareOp op) g) (ha : RE X W a ma) (hb : RE X W b mb) (hm : behindInMarks op b = false := by rfl) : RT X W (.Compare a [op] [b] pos) (tVal (eOp g ma mb)) := by
  refine ⟨fun pins s σ H Q I h => ?_⟩
  have h' : tM X.K X.mg W (rV X.K) (eOp g ma mb) σ H fun x H' => ∃ k, x = V.bl k ∧ Q k H' := (tM.bind (f := fun _ => asB) h).imp fun x H' ⟨ads, ss, d, st, R, L, r, p⟩ => by
    cases r with
    | bl k => exact ⟨k, rfl, p.ok R rfl⟩
    | _ => exact (p : False).elim
  obtain ⟨R, h1, h2⟩ := two_op ho ha hb I h'
  refine wpAny_isTrue_Compare1 (bin ha hb I h1 fun v u s2 x y H2 I2 rx ry q => thn (h2 v u s2 x y H2 I2 rx ry q) fun c s3 ⟨z, H3, I3, r3, k, e, q3⟩ => ?_) hm
  subst e
  cases r3
  exact wpAny_truthy_bool ⟨H3, I3, q3⟩
theorem rt_tru {e : Expr} {m : Ex} (h : RE X W e m) (he : ∀ whole, isTrue e X.env whole = (do let v ← whole; standAt e.pos; holding [v] (truthy v)) := by intro _; rfl) : RT X W e (tTru m) := by
  refine ⟨fun pins s σ H Q I hw => (pt_truth h he).run pins s σ H Q I ?_⟩
  refine (tM.bind (f := fun _ => truM) hw).imp fun x H' ⟨ads, ss, d, st, R, L, r, p⟩ => ?_
  cases r with
  | non => exact ⟨false, rfl, p.ok R rfl⟩
  | bl b => exact ⟨b, rfl, p.ok R rfl⟩
  | int i => exact ⟨_, rfl, p.ok R rfl⟩
  | str y =>
    simp only [truM] at p
    split at p
    · exact ⟨_, ⟨by assumption, rfl⟩, p.ok R rfl⟩
    · exact p.elim
  | @tup a xs vs hs rs =>
    refine ⟨!vs.isEmpty, .inr (.inl ⟨vs, .of hs, rfl⟩), ?_⟩
    have e : xs.isEmpty = vs.isEmpty := by cases rs <;> rfl
    rw [← e]
    exact p.ok R rfl
  | @ktp a xs vs hs rs =>
    refine ⟨!vs.isEmpty, .inr (.inl ⟨vs, hs, rfl⟩), ?_⟩
    have e : xs.isEmpty = vs.isEmpty := by cases rs <;> rfl
    rw [← e]
    exact p.ok R rfl
  | @fzl a xs vs hs rs =>
    refine ⟨!vs.isEmpty, .inl ⟨vs, hs.sq, rfl⟩, ?_⟩
    have e : xs.isEmpty = vs.isEmpty := by cases rs <;> rfl
    rw [← e]
    exact p.ok R rfl
  | @ref k a hk =>
    simp only [truM] at p
    split at p
    · rename_i xs e1
      obtain ⟨vs, hv, rs⟩ := R.list hk e1
      refine ⟨!vs.isEmpty, .inl ⟨vs, .of hv, rfl⟩, ?_⟩
      have e : xs.isEmpty = vs.isEmpty := by cases rs <;> rfl
      rw [← e]
      exact p.ok R rfl
    · exact p.elim
  | ty n => exact p.elim
  | exn0 a => exact p.elim
  | exn1 => exact p.elim
/-! and, or, not: tests -/
variable {ta tb : Sl → M Bool} {rest : List Expr}
theorem rw_and1 (ha : RT X W a ta) : RW X W (.BoolOp .And [a] pos) ta := pw_and1 ha
theorem rw_or1 (ha : RT X W a ta) : RW X W (.BoolOp .Or [a] pos) ta := pw_or1 ha
theorem rw_and (ha : RT X W a ta) (hb : RW X W (.BoolOp .And (b :: rest) pos) tb) : RW X W (.BoolOp .And (a :: b :: rest) pos) (tAnd ta tb) := by
  refine ⟨fun wh pins s σ H Q I h => (pw_and ha hb).run wh pins s σ H Q I ?_⟩
  refine (tM.bind (f := fun ss c => if c = true then tb ss else pur false) h).imp fun c H' ⟨ads, ss, d, st, R, L, r, p⟩ => ?_
  cases r
  cases c with
  | true => exact ⟨ads, ss, st, R, L, p⟩
  | false => exact p.ok R rfl
theorem rw_or (ha : RT X W a ta) (hb : RW X W (.BoolOp .Or (b :: rest) pos) tb) : RW X W (.BoolOp .Or (a :: b :: rest) pos) (tOr ta tb) := by
  refine ⟨fun wh pins s σ H Q I h => (pw_or ha hb).run wh pins s σ H Q I ?_⟩
  refine (tM.bind (f := fun ss c => if c = true then pur true else tb ss) h).imp fun c H' ⟨ads, ss, d, st, R, L, r, p⟩ => ?_
  cases r
  cases c with
  | true => exact p.ok R rfl
  | false => exact ⟨ads, ss, st, R, L, p⟩
theorem rt_bop {e : Expr} {t : Sl → M Bool} (h : RW X W e t) : RT X W e t := PW.pt h
theorem rt_not (ha : RT X W a ta) : RT X W (.UnaryOp .Not a pos) (tNot ta) := by
  refine ⟨fun pins s σ H Q I h => (pt_not ha).run pins s σ H Q I ?_⟩
  refine (tM.bind (f := fun _ c => pur (!c)) h).imp fun c H' ⟨ads, ss, d, st, R, L, r, p⟩ => ?_
  cases r
  exact p.ok R rfl
/-! .. as values -/
theorem re_one {op : BoolOp} (ha : RE X W a ma) : RE X W (.BoolOp op [a] pos) ma := pe_one ha
theorem re_and (ha : RE X W a ma) (hb : RE X W (.BoolOp .And (b :: rest) pos) mb) : RE X W (.BoolOp .And (a :: b :: rest) pos) (eAnd ma mb) := by
  refine ⟨fun pins s σ H Q I h => (pe_and ha hb).run pins s σ H Q I ?_⟩
  refine (tM.bind (f := fun ss x => bnd (asB x) fun c => if c = true then mb ss else pur (DV.bl false)) h).imp fun x H' ⟨ads, ss, d, st, R, L, r, p⟩ => ?_
  cases r with
  | bl c =>
    refine ⟨c, rfl, ?_⟩
    cases c with
    | true => exact ⟨ads, ss, st, R, L, p⟩
    | false => exact post.ok p R (.bl _)
  | _ => exact (p : False).elim
theorem re_not (ha : RE X W a ma) : RE X W (.UnaryOp .Not a pos) (eNot ma) := by
  refine ⟨fun pins s σ H Q I h => (pe_not ha).run pins s σ H Q I ?_⟩
  refine (tM.bind (f := fun ss x => bnd (asB x) fun c => pur (DV.bl (!c))) h).imp fun x H' ⟨ads, ss, d, st, R, L, r, p⟩ => ?_
  cases r with
  | bl c => exact ⟨c, rfl, post.ok p R (.bl _)⟩
  | _ => exact (p : False).elim
/-- chains of two comparisons -/
def eChain (g g' : DV → DV → M DV) (a b c : Ex) : Ex := fun ss => bnd (a ss) fun x => bnd (b ss) fun y => bnd (g x y) fun z => bnd (asB z) fun k => if k = true then bnd (c ss) fun w => g' y w else pur (.bl false)
theorem chain_rd {g g' : DV → DV → M DV} {op op' : CmpOp} {mc : Ex} {σ : L2.St} {H : Hp} {Q : VK} (h : tM X.K X.mg W (rV X.K) (eChain g g' ma mb mc) σ H Q) :
    tM X.K X.mg W (rV X.K) ma σ H fun x H1 => tM X.K X.mg W (rV X.K) mb σ H1 fun y H2 => ∃ ads dx dy st, RSt X.K X.mg ads H2 st ∧ RV X.K ads H2 dx x ∧ RV X.K ads H2 dy y ∧
      post X.K X.mg W (rV X.K) σ ads H2 (g dx dy st) fun z H3 => ∃ k, z = V.bl k ∧ if k = true then tM X.K X.mg W (rV X.K) mc σ H3 fun w H4 => ∃ ads dy dw st, RSt X.K X.mg ads H4 st ∧ RV X.K ads H4 dy y ∧ RV X.K ads H4 dw w ∧ post X.K X.mg W (rV X.K) σ ads H4 (g' dy dw st) Q else Q (.bl false) H3 := by
  obtain ⟨ads, ss, st, R, L, p⟩ := h
  refine ⟨ads, ss, st, R, L, (post.bind p).mono fun x H1 ⟨ads1, dx, st1, fu1, R1, r1, p1⟩ => ?_⟩
  refine ⟨ads1, ss, st1, R1, L.mono fu1, (post.bind p1).mono fun y H2 ⟨ads2, dy, st2, fu2, R2, r2, p2⟩ => ?_⟩
  refine ⟨ads2, dx, dy, st2, R2, r1.mono fu2, r2, (post.bind p2).mono fun z H3 ⟨ads3, dz, st3, fu3, R3, r3, p3⟩ => ?_⟩
  cases r3 with
  | bl k =>
    refine ⟨k, rfl, ?_⟩
    cases k with
    | false => exact post.ok p3 R3 (.bl _)
    | true =>
      refine ⟨ads3, ss, st3, R3, (L.mono (fu1.trans fu2)).mono fu3, ?_⟩
      have p3' : post X.K X.mg W (rV X.K) σ ads3 H3 (bnd (mc ss) (fun w => g' dy w) st3) Q := p3
      exact (post.bind p3').mono fun w H4 ⟨ads4, dw, st4, fu4, R4, r4, p4⟩ => ⟨ads4, dy, dw, st4, R4, (r2.mono fu3).mono fu4, r4, p4⟩
  | _ => exact (p3 : False).elim
theorem re_chain {op op' : CmpOp} {g g' : DV → DV → M DV} {c : Expr} {mc : Ex} (ho : OpM X (compareOp op) g) (ho' : OpM X (compareOp op') g') (ha : RE X W a ma) (hb : RE X W b mb) (hc : RE X W c mc) (hm : lastMarks [op, op'] [b, c] = false := by with_unfolding_all rfl) :
    RE X W (.Compare a [op, op'] [b, c] pos) (eChain g g' ma mb mc) := by
  refine ⟨fun pins s σ H Q I h => ?_⟩
  have h := chain_rd (op := op) (op' := op') h
  refine Compare_chain (thn (ha.run pins s σ H _ I h) fun v s1 ⟨x, H1, I1, r1, q1⟩ => chain_link (thn (hb.run pins s1 σ H1 _ I1 q1) fun u s2 ⟨y, H2, I2, r2, ads, dx, dy, st, R, rx, ry, p⟩ =>
    thn (ho pins s2 σ H2 x y v u _ ads dx dy st W I2 R rx ry r1 r2 p) fun d s3 ⟨z, H3, I3, r3, k, e, q3⟩ => ?_)) hm
  subst e
  cases r3
  refine wpAny_truthy_bool ?_
  cases k with
  | false => exact ite_ff ⟨.bl false, H3, I3, rfl, q3⟩
  | true => exact ite_tt (chain_last (thn (hc.run pins s3 σ H3 _ I3 q3) fun w' s4 ⟨z', H4, I4, r4, ads, dy, dw, st, R, ry, rw, p⟩ => ho' pins s4 σ H4 y z' u w' Q ads dy dw st W I4 R ry rw r2 r4 p))
end

/-! ### arguments, displays -/
section
variable {X : Cx} {W : WX} {e : Expr} {es : List Expr} {m : Ex} {ms : List Ex} {pos : Pos}
theorem ra_nil : RA X W [] [] := by
  refine ⟨fun pos pins s σ H Q I h => pa_nil.run pos pins s σ H Q I ?_⟩
  obtain ⟨ads, ss, st, R, L, p⟩ := h
  exact post.ok p R .nil
theorem ra_cons (ha : RE X W e m) (hr : RA X W es ms) (hs : starEach (e :: es) X.env = (false, eval e X.env) :: starEach es X.env := by rfl) : RA X W (e :: es) (m :: ms) := by
  refine ⟨fun pos pins s σ H Q I h => (pa_cons ha hr hs).run pos pins s σ H Q I ?_⟩
  obtain ⟨ads, ss, st, R, L, p⟩ := h
  refine ⟨ads, ss, st, R, L, (post.bind p).mono fun x H1 ⟨ads1, dx, st1, fu1, R1, r1, p1⟩ => ?_⟩
  refine ⟨ads1, ss, st1, R1, L.mono fu1, (post.bind p1).mono fun xs H2 ⟨ads2, dxs, st2, fu2, R2, r2, p2⟩ => ?_⟩
  exact post.ok p2 R2 (.cons (r1.mono fu2) r2)
theorem args_len {ss : Sl} {st : Sto} {K : PySem.W.Frag} {mg : Str → Option Value} {σ : L2.St} {ads : List Addr} {H : Hp} {f : List DV → M DV} {Q : VK} (hl : ms.length ≤ 1000) (p : post K mg W (rV K) σ ads H (bnd (eArgs ms ss) f st) Q) :
    post K mg W (rVs K) σ ads H (eArgs ms ss st) fun vs H' => vs.length ≤ sizeLine ∧ ∃ ads' xs st', Fut ads H ads' H' ∧ RSt K mg ads' H' st' ∧ RVs K ads' H' xs vs ∧ post K mg W (rV K) σ ads' H' (f xs st') Q := by
  have q := post.bind (R := rVs K) p
  cases e : eArgs ms ss st with
  | ok xs st' =>
    rw [e] at q
    have n := eArgs_length e
    intro ads' H' vs fu R r
    refine ⟨?_, q ads' H' vs fu R r⟩
    rw [sizeLine_eq, ← r.length, n]
    omega
  | exc x s => rw [e] at q; exact q
  | bad => rw [e] at q; exact q
theorem re_tup {k : Nat} (h : RA X W es ms) (hl : ms.length ≤ 1000 := by first | decide | simp) : RE X W (.Tuple es k pos) (eTup ms) := by
  refine ⟨fun pins s σ H Q I hq => (pe_tup h).run pins s σ H Q I ?_⟩
  obtain ⟨ads, ss, st, R, L, p⟩ := hq
  refine ⟨ads, ss, st, R, L, (args_len hl p).mono fun vs H1 ⟨z, ads1, xs, st1, fu, R1, r1, p1⟩ => ⟨z, fun q hp => ?_⟩⟩
  exact post.newT R1 r1 p1 hp
theorem re_lst (h : RA X W es ms) (hl : ms.length ≤ 1000 := by first | decide | simp) : RE X W (.List es pos) (eLst ms) := by
  refine ⟨fun pins s σ H Q I hq => (pe_lst h).run pins s σ H Q I ?_⟩
  obtain ⟨ads, ss, st, R, L, p⟩ := hq
  refine ⟨ads, ss, st, R, L, (args_len hl p).mono fun vs H1 ⟨z, ads1, xs, st1, fu, R1, r1, p1⟩ => ⟨z, fun q hp => ?_⟩⟩
  exact post.newL R1 r1 p1 hp
end

/-! ### calls of defs -/
def spM (K : PySem.W.Frag) (mg : Str → Option Value) (f : List DV → M DV) : Sp := fun vs H Q E => ∃ ads as st, RSt K mg ads H st ∧ RVs K ads H as vs ∧ post K mg (fun cls d _ H' => E cls d H') (rV K) [] ads H (f as st) Q
theorem post.wish {A B : Type} {K : PySem.W.Frag} {mg : Str → Option Value} {W W' : WX} {R : List Addr → Hp → A → B → Prop} {σ σ' : L2.St} {ads : List Addr} {H : Hp} {o : Out A} {Q : B → Hp → Prop} (h : post K mg W R σ ads H o Q) (hw : ∀ c d H', W c d σ H' → W' c d σ' H') : post K mg W' R σ' ads H o Q := by
  cases o with
  | ok a st => exact h
  | exc e st => exact fun ads' H' c d f r x => hw _ _ _ (h ads' H' c d f r x)
  | bad => exact h
section
variable {X : Cx} {W : WX} {k : Nat} {f C : Addr} {fd : FuncData} {ps : List Str} {x m : Str} {p pos apos : Pos} {e o : Expr} {es : List Expr} {g : List DV → M DV} {ms : List Ex} {mo : Ex}
theorem takesN {X : Cx} : L2N.Takes X (fun _ _ _ _ => False) := fun _ _ x => by
  obtain ⟨_, _, _, _, _, _, _, _, _, _, _, _, _, _, _, _, z⟩ := x
  exact z.elim
theorem run_M {pins : List (Addr × Obj)} {σ : L2.St} {H : Hp} {s : Shared} {Q : VK} {us : List Value} {vs : List V} (F : FnOk X.prog X.w X.K X.mg X.base (L2N.CX X.prog X.w) k f fd ps (spM X.K X.mg g)) (hr : Room k X.A) (hb : Binds X.K fd ps []) (tk : L2N.Takes X W)
    (I : Inv X pins σ H s) (r : Vals vs us) {ads : List Addr} {as : List DV} {st : Sto} (R : RSt X.K X.mg ads H st) (rv : RVs X.K ads H as vs) (h : post X.K X.mg W (rV X.K) σ ads H (g as st) Q) : wpAny (model X.prog X.w) X.A (call (.ref f) us) (EP X pins σ Q) X.xe s :=
  run_fnS (E := WE W) F hr hb (L2N.passAt tk σ) I r ⟨ads, as, st, R, rv, h.wish fun _ _ _ q => q⟩
theorem re_call (F : FnOk X.prog X.w X.K X.mg X.base (L2N.CX X.prog X.w) k f fd ps (spM X.K X.mg g)) (hr : Room k X.A) (hg : Gl X x) (hm : X.mg x = some (.ref f)) (hk : PySem.W.keepIn X.K (.ref f) = true) (hb : Binds X.K fd ps []) (tk : L2N.Takes X W)
    (ha : RA X W (e :: es) ms) (hdb : (x == ("__debug__" : Str)) = false := by decide) (he : starEach (e :: es) X.env = (false, eval e X.env) :: starEach es X.env := by rfl) (hpl : (backTo pos (starEach es X.env)).any (·.1) = false := by rfl) :
    RE X W (.Call (.Name x p) (e :: es) [] pos) (eCall g ms) := by
  refine ⟨fun pins s σ H Q I h => ?_⟩
  obtain ⟨ads, ss, st, R, L, q⟩ := h
  refine wpAny_Call_Name_kw (ld_glob I hg hm ?_ hdb)
  have h1 : tM X.K X.mg W (rVs X.K) (eArgs ms) σ H _ := ⟨ads, ss, st, R, L, post.bind q⟩
  refine PySem.W.callWith_K (h₀ := X.base) I.ok.mod.kin hk (thn (ha.run pos pins s σ H _ I h1) fun us s1 ⟨vs, H1, I1, r, ads1, as, st1, fu, R1, rv, q1⟩ => ⟨I1.kIn, ?_⟩) he hpl
  exact run_M F hr hb tk I1 r R1 rv q1
end

/-! ### calls of built-ins -/
def CallM (X : Cx) (f : Value) (g : List DV → M DV) : Prop :=
  ∀ (pins : List (Addr × Obj)) (s : Shared) (σ : L2.St) (H : Hp) (vs : List V) (us : List Value) (Q : VK) (ads : List Addr) (as : List DV) (st : Sto) (W : WX), Inv X pins σ H s → RSt X.K X.mg ads H st → RVs X.K ads H as vs → Vals vs us →
    post X.K X.mg W (rV X.K) σ ads H (g as st) Q → wpAny (model X.prog X.w) X.A (call f us) (EP X pins σ Q) X.xe s
section
variable {X : Cx} {W : WX} {x : Str} {p pos : Pos} {e : Expr} {es : List Expr} {g : List DV → M DV} {ms : List Ex} {id T : String}
theorem re_callB (hc : CallM X (.builtin id) g) (hg : Gl X x) (hm : X.mg x = none) (hv : bootBuiltins x = some (.builtin id)) (ha : RA X W (e :: es) ms) (hn : x ≠ "__name__" := by decide) (hdb : (x == ("__debug__" : Str)) = false := by decide)
    (he : starEach (e :: es) X.env = (false, eval e X.env) :: starEach es X.env := by rfl) (hpl : (backTo pos (starEach es X.env)).any (·.1) = false := by rfl) : RE X W (.Call (.Name x p) (e :: es) [] pos) (eCall g ms) := by
  refine ⟨fun pins s σ H Q I h => ?_⟩
  obtain ⟨ads, ss, st, R, L, q⟩ := h
  have h1 : tM X.K X.mg W (rVs X.K) (eArgs ms) σ H _ := ⟨ads, ss, st, R, L, post.bind q⟩
  refine wpAny_Call_Name_kw (ld_blt I hg hm hv ?_ hn hdb)
  exact PyProof.Rows.callWith_builtin1 (thn (ha.run pos pins s σ H _ I h1) fun us s1 ⟨vs, H1, I1, r, ads1, as, st1, fu, R1, rv, q1⟩ => hc pins s1 σ H1 vs us Q ads1 as st1 W I1 R1 rv r q1) he hpl
theorem re_callTy (hc : CallM X (.type T) g) (hg : Gl X x) (hm : X.mg x = none) (hv : bootBuiltins x = some (.type T)) (ha : RA X W (e :: es) ms) (hn : x ≠ "__name__" := by decide) (hdb : (x == ("__debug__" : Str)) = false := by decide)
    (he : starEach (e :: es) X.env = (false, eval e X.env) :: starEach es X.env := by rfl) (hpl : (backTo pos (starEach es X.env)).any (·.1) = false := by rfl) : RE X W (.Call (.Name x p) (e :: es) [] pos) (eCall g ms) := by
  refine ⟨fun pins s σ H Q I h => ?_⟩
  obtain ⟨ads, ss, st, R, L, q⟩ := h
  have h1 : tM X.K X.mg W (rVs X.K) (eArgs ms) σ H _ := ⟨ads, ss, st, R, L, post.bind q⟩
  refine wpAny_Call_Name_kw (ld_blt I hg hm hv ?_ hn hdb)
  exact PyProof.Rows.callWith_type1 (thn (ha.run pos pins s σ H _ I h1) fun us s1 ⟨vs, H1, I1, r, ads1, as, st1, fu, R1, rv, q1⟩ => hc pins s1 σ H1 vs us Q ads1 as st1 W I1 R1 rv r q1) he hpl
end
end ML

/-! ML4: statements, targets, loops, comprehensions, defs. -/
namespace ML
open PySem PySem.Spec PyProof.Rows L2
def postS (K : PySem.W.Frag) (mg : Str → Option Value) (W : WX) (D : Ends) (ads : List Addr) (H : Hp) : Out Fl → Prop
  | .ok (.nx ss) st => ∀ ads' H' σ', Fut ads H ads' H' → RSt K mg ads' H' st → RSl K ads' H' ss σ' → D.nx σ' H'
  | .ok (.bk ss) st => ∀ ads' H' σ', Fut ads H ads' H' → RSt K mg ads' H' st → RSl K ads' H' ss σ' → D.bk σ' H'
  | .ok (.ct ss) st => ∀ ads' H' σ', Fut ads H ads' H' → RSt K mg ads' H' st → RSl K ads' H' ss σ' → D.ct σ' H'
  | .ok (.rt d) st => ∀ ads' H' v, Fut ads H ads' H' → RSt K mg ads' H' st → RV K ads' H' d v → D.rt v H'
  | .ok (.rs e ss) st => ∀ ads' H' σ' cls d, Fut ads H ads' H' → RSt K mg ads' H' st → RSl K ads' H' ss σ' → RX K mg ads' H' e cls d → W cls d σ' H'
  | .exc _ _ => False
  | .bad => False
def tS (K : PySem.W.Frag) (mg : Str → Option Value) (W : WX) (m : Stt) : TS := fun D σ H => ∃ ads ss st, RSt K mg ads H st ∧ RSl K ads H ss σ ∧ postS K mg W D ads H (m ss st)
def RS (X : Cx) (W : WX) (st : Stmt) (m : Stt) : Prop := PS X st (tS X.K X.mg W m)
def RSs (X : Cx) (W : WX) (st : List Stmt) (m : Stt) : Prop := PSs X st (tS X.K X.mg W m)
/-- an expression's outcome within a statement -/
def lft {A : Type} (ss : Sl) (m : M A) (k : A → M Fl) : M Fl := fun st => match m st with
  | .ok a st' => k a st'
  | .exc e st' => .ok (.rs e ss) st'
  | .bad => .bad
theorem postS.from {K : PySem.W.Frag} {mg : Str → Option Value} {W : WX} {D : Ends} {ads ads' : List Addr} {H H' : Hp} {o : Out Fl} (f : Fut ads H ads' H') (h : postS K mg W D ads H o) : postS K mg W D ads' H' o := by
  cases o with
  | ok fl st =>
    cases fl with
    | nx ss => exact fun a2 H2 σ2 f2 R L => h a2 H2 σ2 (f.trans f2) R L
    | bk ss => exact fun a2 H2 σ2 f2 R L => h a2 H2 σ2 (f.trans f2) R L
    | ct ss => exact fun a2 H2 σ2 f2 R L => h a2 H2 σ2 (f.trans f2) R L
    | rt d => exact fun a2 H2 v f2 R r => h a2 H2 v (f.trans f2) R r
    | rs e ss => exact fun a2 H2 σ2 c d f2 R L x => h a2 H2 σ2 c d (f.trans f2) R L x
  | exc e st => exact h
  | bad => exact h
theorem post.from {A B : Type} {K : PySem.W.Frag} {mg : Str → Option Value} {W : WX} {R : List Addr → Hp → A → B → Prop} {σ : L2.St} {ads ads' : List Addr} {H H' : Hp} {o : Out A} {Q : B → Hp → Prop} (f : Fut ads H ads' H') (h : post K mg W R σ ads H o Q) : post K mg W R σ ads' H' o Q := by
  cases o with
  | ok a st => exact fun a2 H2 b f2 R r => h a2 H2 b (f.trans f2) R r
  | exc e st => exact fun a2 H2 c d f2 R x => h a2 H2 c d (f.trans f2) R x
  | bad => exact h
theorem postS.lft {A B : Type} {K : PySem.W.Frag} {mg : Str → Option Value} {W : WX} {R : List Addr → Hp → A → B → Prop} {D : Ends} {σ : L2.St} {ads : List Addr} {H : Hp} {ss : Sl} {st : Sto} {m : M A} {k : A → M Fl} (L : RSl K ads H ss σ) (h : postS K mg W D ads H (ML.lft ss m k st)) :
    post K mg W R σ ads H (m st) fun b H' => ∃ ads' a st', Fut ads H ads' H' ∧ RSt K mg ads' H' st' ∧ R ads' H' a b ∧ postS K mg W D ads' H' (k a st') := by
  unfold ML.lft at h
  cases e : m st with
  | ok a st' =>
    rw [e] at h
    exact fun ads' H' b f rs r => ⟨ads', a, st', f, rs, r, h.from f⟩
  | exc x st' =>
    rw [e] at h
    exact fun ads' H' c d f rs x => h ads' H' σ c d f rs (L.mono f) x
  | bad => rw [e] at h; exact h
theorem tS.lft {A B : Type} {K : PySem.W.Frag} {mg : Str → Option Value} {W : WX} {R : List Addr → Hp → A → B → Prop} {D : Ends} {σ : L2.St} {H : Hp} {m : Sl → M A} {k : Sl → A → M Fl} (h : tS K mg W (fun ss => ML.lft ss (m ss) (k ss)) D σ H) :
    tM K mg W R m σ H fun b H' => ∃ ads ss a st, RSt K mg ads H' st ∧ RSl K ads H' ss σ ∧ R ads H' a b ∧ postS K mg W D ads H' (k ss a st) := by
  obtain ⟨ads, ss, st, R, L, p⟩ := h
  exact ⟨ads, ss, st, R, L, (postS.lft L p).mono fun b H' ⟨ads', a, st', f, r1, r2, r3⟩ => ⟨ads', ss, a, st', r1, L.mono f, r2, r3⟩⟩

/-! ### small statements -/
def sSkip : Stt := fun ss => pur (.nx ss)
def sSeq (a b : Stt) : Stt := fun ss st => match a ss st with
  | .ok (.nx ss') st' => b ss' st'
  | o => o
def sExpr (m : Ex) : Stt := fun ss => lft ss (m ss) fun _ => pur (.nx ss)
def sRet (m : Ex) : Stt := fun ss => lft ss (m ss) fun v => pur (.rt v)
def sRetN : Stt := fun _ => pur (.rt .non)
def sBrk : Stt := fun ss => pur (.bk ss)
def sCont : Stt := fun ss => pur (.ct ss)
def sIf (c : Sl → M Bool) (a b : Stt) : Stt := fun ss => lft ss (c ss) fun t => if t = true then a ss else b ss
def sSet (i : Nat) (m : Ex) : Stt := fun ss => lft ss (m ss) fun v => pur (.nx (ss.set i (some v)))
section
variable {X : Cx} {W : WX} {st : Stmt} {rest : List Stmt} {m u : Stt} {e : Expr} {me : Ex} {pos : Pos}
theorem rss_nil : RSs X W [] sSkip := ⟨fun pins s σ H D I h => pss_nil.run pins s σ H D I (by
  obtain ⟨ads, ss, st, R, L, p⟩ := h
  exact p ads H σ .refl R L)⟩
theorem tS.seq {K : PySem.W.Frag} {mg : Str → Option Value} {D : Ends} {σ : L2.St} {H : Hp} (h : tS K mg W (sSeq m u) D σ H) : tS K mg W m { D with nx := tS K mg W u D } σ H := by
  obtain ⟨ads, ss, st, R, L, p⟩ := h
  refine ⟨ads, ss, st, R, L, ?_⟩
  unfold sSeq at p
  split at p
  · rename_i ss' st' e
    rw [e]
    exact fun ads' H' σ' f R' L' => ⟨ads', ss', st', R', L', p.from f⟩
  · rename_i hn
    generalize hm : m ss st = o at p hn ⊢
    cases o with
    | ok fl st' =>
      cases fl with
      | nx ss' => exact (hn ss' st' rfl).elim
      | bk ss' => exact p
      | ct ss' => exact p
      | rt d => exact p
      | rs e ss' => exact p
    | exc e st' => exact p
    | bad => exact p
theorem rss_cons (h1 : RS X W st m) (h2 : RSs X W rest u) : RSs X W (st :: rest) (sSeq m u) := ⟨fun pins s σ H D I h => (pss_cons h1 h2).run pins s σ H D I h.seq⟩
theorem rss_one (h1 : RS X W st m) : RSs X W [st] m := pss_one h1
theorem rs_expr (he : RE X W e me) (hs : swapsWith e none pos.line X.env = pure false := by rfl) : RS X W (.Expr e pos) (sExpr me) := ⟨fun pins s σ H D I h => (ps_expr he hs).run pins s σ H D I (by
  refine (tS.lft (R := rV X.K) (k := fun ss _ => pur (.nx ss)) h).imp fun v H' ⟨ads, ss, d, st, R, L, r, p⟩ => ?_
  exact p ads H' σ .refl R L)⟩
theorem rs_ret (he : RE X W e me) : RS X W (.Return (some e) pos) (sRet me) := ⟨fun pins s σ H D I h => (ps_ret he).run pins s σ H D I (by
  refine (tS.lft (R := rV X.K) (k := fun ss v => pur (.rt v)) h).imp fun v H' ⟨ads, ss, d, st, R, L, r, p⟩ => ?_
  exact p ads H' v .refl R r)⟩
theorem rs_if {c : Expr} {a b : List Stmt} {tc : Sl → M Bool} {ma mb : Stt} (hc : RT X W c tc) (ha : RSs X W a ma) (hb : RSs X W b mb) : RS X W (.If c a b pos) (sIf tc ma mb) := ⟨fun pins s σ H D I h => (ps_if hc ha hb).run pins s σ H D I (by
  refine (tS.lft (R := rB) (k := fun ss t => if t = true then ma ss else mb ss) h).imp fun t H' ⟨ads, ss, d, st, R, L, r, p⟩ => ?_
  cases r
  cases t with
  | true => exact ⟨ads, ss, st, R, L, p⟩
  | false => exact ⟨ads, ss, st, R, L, p⟩)⟩
theorem rs_set {i : Nat} {x : Str} {pos' : Pos} (hN : X.N.Nodup) (hi : X.N[i]? = some x) (hx : Loc X.env.scope x) (he : RE X W e me) (hs : swapsWith e (some (.Name x pos')) pos.line X.env = pure false := by rfl) (hf : X.fn x = true ∨ X.env.scope.names.lookup x = some .local := by first | exact .inl rfl | exact .inr rfl | assumption) :
    RS X W (.Assign [.Name x pos'] e pos) (sSet i me) := ⟨fun pins s σ H D I h => (ps_set hN hi hx he hs hf).run pins s σ H D I (by
  refine (tS.lft (R := rV X.K) (k := fun ss v => pur (.nx (ss.set i (some v)))) h).imp fun v H' ⟨ads, ss, d, st, R, L, r, p⟩ => ?_
  exact p ads H' _ .refl R (L.set i r))⟩
end

/-! ### targets -/
abbrev Tg := DV → Sl → M Sl
def tG (K : PySem.W.Frag) (mg : Str → Option Value) (g : Tg) : TG := fun v σ H Q => ∃ ads ss d st, RSt K mg ads H st ∧ RSl K ads H ss σ ∧ RV K ads H d v ∧
  match g d ss st with
  | .ok ss' st' => ∀ ads' H' σ', Fut ads H ads' H' → RSt K mg ads' H' st' → RSl K ads' H' ss' σ' → Q σ' H'
  | _ => False
def RG (X : Cx) (tg : Expr) (g : Tg) : Prop := PG X tg (tG X.K X.mg g)
def gNm (i : Nat) : Tg := fun d ss => pur (ss.set i (some d))
/-- a tuple's (or a list's) items to names -/
def setAll : List Nat → List DV → Sl → Sl
  | i :: is, d :: ds, ss => setAll is ds (ss.set i (some d))
  | _, _, ss => ss
def setAllV : List Nat → List V → L2.St → L2.St
  | i :: is, d :: ds, σ => setAllV is ds (σ.set i (some d))
  | _, _, σ => σ
theorem RSl.setAll {K : PySem.W.Frag} {ads : List Addr} {H : Hp} : ∀ {is : List Nat} {ds : List DV} {vs : List V} {ss : Sl} {σ : L2.St}, RVs K ads H ds vs → RSl K ads H ss σ → RSl K ads H (ML.setAll is ds ss) (setAllV is vs σ)
  | [], _, _, _, _, _, L => by cases ‹RVs K ads H _ _› <;> exact L
  | _ :: _, _, _, _, _, .nil, L => L
  | i :: is, _, _, _, _, .cons h r, L => RSl.setAll (is := is) r (L.set i h)
/-- names all of them -/
inductive NmsOk (X : Cx) : List Expr → List Nat → Prop
  | nil : NmsOk X [] []
  | cons {x : Str} {pos : Pos} {i : Nat} {es : List Expr} {is : List Nat} (hi : X.N[i]? = some x) (hx : Loc X.env.scope x) (hf : X.fn x = true ∨ X.env.scope.names.lookup x = some .local) (r : NmsOk X es is) : NmsOk X (.Name x pos :: es) (i :: is)
def gAll : List Nat → TGs
  | [] => gNil
  | i :: is => gCons (gName i) (gAll is)
theorem gAll_of : ∀ {is : List Nat} {vs : List V} {σ : L2.St} {H : Hp} {Q : L2.St → Hp → Prop}, vs.length = is.length → Q (setAllV is vs σ) H → gAll is vs σ H Q
  | [], [], _, _, _, _, q => ⟨rfl, q⟩
  | [], _ :: _, _, _, _, h, _ => by cases h
  | _ :: _, [], _, _, _, h, _ => by cases h
  | i :: is, v :: vs, σ, H, Q, h, q => ⟨v, vs, rfl, gAll_of (is := is) (Nat.succ.inj h) q⟩
theorem NmsOk.each {X : Cx} : ∀ {es : List Expr} {is : List Nat}, NmsOk X es is → (assignEach es X.env).length = is.length ∧ (assignEach es X.env).findIdx? (·.1) = none ∧ (X.N.Nodup → PGs X es (gAll is))
  | _, _, .nil => ⟨rfl, rfl, fun _ => pgs_nil⟩
  | _, _, .cons hi hx hf r => by
    obtain ⟨h1, h2, h3⟩ := NmsOk.each r
    refine ⟨congrArg (· + 1) h1, ?_, fun hN => pgs_cons (pg_name hN hi hx hf) (h3 hN) rfl⟩
    show List.findIdx? _ (_ :: _) = none
    rw [List.findIdx?_cons, h2]
    rfl
section
variable {X : Cx} {W : WX} {pos : Pos}
theorem rg_name {i : Nat} {x : Str} (hN : X.N.Nodup) (hi : X.N[i]? = some x) (hx : Loc X.env.scope x) (hf : X.fn x = true ∨ X.env.scope.names.lookup x = some .local := by first | exact .inl rfl | exact .inr rfl | assumption) : RG X (.Name x pos) (gNm i) := by
  refine ⟨fun pins s σ H v u Q I r h => (pg_name hN hi hx hf).run pins s σ H v u Q I r ?_⟩
  obtain ⟨ads, ss, d, st, R, L, rv, p⟩ := h
  exact p ads H _ .refl R (L.set i rv)
/-- target = value -/
def gK (g : M Sl) (k : Sl → M Fl) : M Fl := fun st => match g st with
  | .ok ss st' => k ss st'
  | _ => .bad
def sAsg (g : Tg) (m : Ex) : Stt := fun ss => lft ss (m ss) fun v => gK (g v ss) fun ss' => pur (.nx ss')
theorem tG.of {K : PySem.W.Frag} {mg : Str → Option Value} {g : Tg} {k : Sl → M Fl} {D : Ends} {ads : List Addr} {H : Hp} {ss : Sl} {σ : L2.St} {d : DV} {v : V} {st : Sto} {Q : L2.St → Hp → Prop} (R : RSt K mg ads H st) (L : RSl K ads H ss σ) (rv : RV K ads H d v) (p : postS K mg W D ads H (gK (g d ss) k st))
    (hq : ∀ ads' H' ss' σ' st', Fut ads H ads' H' → RSt K mg ads' H' st' → RSl K ads' H' ss' σ' → postS K mg W D ads' H' (k ss' st') → Q σ' H') : tG K mg g v σ H Q := by
  refine ⟨ads, ss, d, st, R, L, rv, ?_⟩
  unfold gK at p
  cases e : g d ss st with
  | ok ss' st' => rw [e] at p; exact fun ads' H' σ' f R' L' => hq ads' H' ss' σ' st' f R' L' (p.from f)
  | exc x st' => rw [e] at p; exact p
  | bad => rw [e] at p; exact p
theorem rs_asg {tg e : Expr} {me : Ex} {g : Tg} (he : RE X W e me) (hg : RG X tg g) (hs : swapsWithSole [tg] e pos.line X.env = pure false := by rfl) (hw : swappedStores [tg] e X.env = pure none := by rfl)
    (h1 : (assignEach [tg] X.env).map (·.2) = [assign tg X.env] := by rfl) : RS X W (.Assign [tg] e pos) (sAsg g me) := ⟨fun pins s σ H D I h => (ps_asg he hg hs hw h1).run pins s σ H D I (by
  refine (tS.lft (R := rV X.K) (k := fun ss v => gK (g v ss) fun ss' => pur (.nx ss')) h).imp fun v H' ⟨ads, ss, d, st, R, L, r, p⟩ => ?_
  exact tG.of R L r p fun ads' H2 ss' σ' st' f R' L' p' => p' ads' H2 σ' .refl R' L')⟩
/-- a, b = x, y -/
def sPar (i j : Nat) (ms : List Ex) : Stt := fun ss => lft ss (eArgs ms ss) fun xs => match xs with
  | [x, y] => pur (.nx ((ss.set i (some x)).set j (some y)))
  | _ => stuck
theorem rs_par {i j : Nat} {x y : Str} {a b : Expr} {ms : List Ex} {px py pt : Pos} {kt k2 : Nat} {pt2 : Pos} (hc : X.calm = true) (hN : X.N.Nodup) (hi : X.N[i]? = some x) (hj : X.N[j]? = some y) (hij : i ≠ j)
    (hx : X.env.scope.names.lookup x = some .local) (hy : X.env.scope.names.lookup y = some .local) (ha : RA X W [a, b] ms)
    (hw : swappedStores [.Tuple [.Name x px, .Name y py] kt pt] (.Tuple [a, b] k2 pt2) X.env = pure (some [x, y]) := by rfl)
    (hs : swapsWithSole [.Tuple [.Name x px, .Name y py] kt pt] (.Tuple [a, b] k2 pt2) pos.line X.env = pure false := by rfl) :
    RS X W (.Assign [.Tuple [.Name x px, .Name y py] kt pt] (.Tuple [a, b] k2 pt2) pos) (sPar i j ms) := ⟨fun pins s σ H D I h => (ps_par hc hN hi hj hij hx hy ha hw hs).run pins s σ H D I (by
  refine (tS.lft (R := rVs X.K) (k := fun ss xs => match xs with
    | [x, y] => pur (.nx ((ss.set i (some x)).set j (some y)))
    | _ => stuck) h).imp fun vs H' ⟨ads, ss, ds, st, R, L, r, p⟩ => ?_
  match ds, r, p with
  | [d1, d2], r, p =>
    obtain ⟨u1, u2, rfl, r1, r2⟩ := r.two
    exact ⟨u1, u2, rfl, p ads H' _ .refl R ((L.set i r1).set j r2)⟩
  | [], _, p => exact (p : False).elim
  | [_], _, p => exact (p : False).elim
  | _ :: _ :: _ :: _, _, p => exact (p : False).elim)⟩
end

/-! ### while -/
def FUEL : Nat := 18446744073709551616
def wh (c : Sl → M Bool) (b : Stt) : Nat → Sl → M Fl
  | 0, _ => stuck
  | n + 1, ss => lft ss (c ss) fun t => if t = true then fun st => match b ss st with
      | .ok (.nx ss') st' => wh c b n ss' st'
      | .ok (.ct ss') st' => wh c b n ss' st'
      | .ok (.bk ss') st' => .ok (.nx ss') st'
      | o => o
    else pur (.nx ss)
def sWhile (c : Sl → M Bool) (b : Stt) : Stt := wh c b FUEL
section
variable {X : Cx} {W : WX} {pos : Pos}
theorem rs_while {c : Expr} {body : List Stmt} {tc : Sl → M Bool} {mb : Stt} (hp : PassesOwn (model X.prog X.w) X.A X.env X.xe) (hc : RT X W c tc) (hb : RSs X W body mb) : RS X W (.While c body [] pos) (sWhile tc mb) := ⟨fun pins s σ H D I h => (ps_while hp hc hb).run pins s σ H D I (by
  refine ⟨fun n σ H => ∃ ads ss st, RSt X.K X.mg ads H st ∧ RSl X.K ads H ss σ ∧ postS X.K X.mg W D ads H (wh tc mb n ss st), ⟨FUEL, h⟩, fun n σ H hw => ?_⟩
  cases n with
  | zero =>
    obtain ⟨ads, ss, st, R, L, p⟩ := hw
    exact (p : False).elim
  | succ n =>
    refine (tS.lft (R := rB) (m := tc) (k := fun ss t => if t = true then fun st => match mb ss st with
      | .ok (.nx ss') st' => wh tc mb n ss' st'
      | .ok (.ct ss') st' => wh tc mb n ss' st'
      | .ok (.bk ss') st' => .ok (.nx ss') st'
      | o => o
    else pur (.nx ss)) (show tS X.K X.mg W (wh tc mb (n + 1)) D σ H from hw)).imp fun t H' ⟨ads, ss, d, st, R, L, r, p⟩ => ?_
    cases r
    cases t with
    | false => exact p ads H' σ .refl R L
    | true =>
      refine ⟨fun σ' H' => ∃ ads ss st, RSt X.K X.mg ads H' st ∧ RSl X.K ads H' ss σ' ∧ postS X.K X.mg W D ads H' (wh tc mb n ss st), fun σ' H' q => ⟨n, Nat.lt_succ_self n, q⟩, ads, ss, st, R, L, ?_⟩
      have p : postS X.K X.mg W D ads H' (match mb ss st with
        | .ok (.nx ss') st' => wh tc mb n ss' st'
        | .ok (.ct ss') st' => wh tc mb n ss' st'
        | .ok (.bk ss') st' => .ok (.nx ss') st'
        | o => o) := p
      generalize mb ss st = o at p ⊢
      cases o with
      | ok fl st' =>
        cases fl with
        | nx ss' => exact fun a2 H2 σ2 f R2 L2 => ⟨a2, ss', st', R2, L2, p.from f⟩
        | ct ss' => exact fun a2 H2 σ2 f R2 L2 => ⟨a2, ss', st', R2, L2, p.from f⟩
        | bk ss' => exact p
        | rt d => exact p
        | rs e ss' => exact p
      | exc e st' => exact p
      | bad => exact p)⟩
end

/-! ### what is walked -/
structure Wk where
  items : List DV
  g : List (Nat × DO)
def okG (g : List (Nat × DO)) (st : Sto) : Prop := ∀ p ∈ g, st[p.1]? = some p.2
structure Walks (K : PySem.W.Frag) (mg : Str → Option Value) (wk : Wk) (J : It) (ads0 : List Addr) (H0 : Hp) : Prop where
  go : ∀ (i : Nat) (d : DV) (ads : List Addr) (H : Hp) (st : Sto), wk.items[i]? = some d → Fut ads0 H0 ads H → RSt K mg ads H st → okG wk.g st → J.go i H ∧ ∀ x H', J.yld i H x H' → Fut ads H ads H' ∧ RSt K mg ads H' st ∧ RV K ads H' d x
  stop : ∀ (i : Nat) (ads : List Addr) (H : Hp) (st : Sto), wk.items.length ≤ i → Fut ads0 H0 ads H → RSt K mg ads H st → okG wk.g st → J.stop i H
def tI (K : PySem.W.Frag) (mg : Str → Option Value) (W : WX) (mi : Sl → M Wk) : TI := fun σ H R => tM K mg W (fun ads H' wk J => Walks K mg wk J ads H') mi σ H R
def RI (X : Cx) (W : WX) (tg iter : Expr) (mi : Sl → M Wk) : Prop := PI X tg iter (tI X.K X.mg W mi)
open Classical in
noncomputable def forL (g : List (Nat × DO)) (tg : Tg) (b : Stt) : List DV → Sl → M Fl
  | [], ss => fun st => if okG g st then .ok (.nx ss) st else .bad
  | x :: xs, ss => fun st => if okG g st then gK (tg x ss) (fun ss1 st1 => match b ss1 st1 with
      | .ok (.nx ss2) st2 => forL g tg b xs ss2 st2
      | .ok (.ct ss2) st2 => forL g tg b xs ss2 st2
      | .ok (.bk ss2) st2 => .ok (.nx ss2) st2
      | o => o) st else .bad
noncomputable def sFor (mi : Sl → M Wk) (tg : Tg) (b : Stt) : Stt := fun ss => lft ss (mi ss) fun wk => forL wk.g tg b wk.items ss
section
variable {X : Cx} {W : WX} {pos : Pos}
theorem rs_for {tg iter : Expr} {body : List Stmt} {mi : Sl → M Wk} {g : Tg} {mb : Stt} (hp : PassesOwn (model X.prog X.w) X.A X.env X.xe) (hc : X.calm = true) (hi : RI X W tg iter mi) (hg : RG X tg g) (hb : RSs X W body mb)
    (hs : ∀ x, foldedSetIterable iter X.env x = pure x := by intro _; rfl) : RS X W (.For tg iter body [] pos) (sFor mi g mb) := ⟨fun pins s σ H D I h => (ps_for hp hc hi hg hb hs).run pins s σ H D I (by
  refine tM.imp (tS.lft (R := fun ads H' wk J => Walks X.K X.mg wk J ads H') (k := fun ss wk => forL wk.g g mb wk.items ss) h) fun J H1 ⟨ads0, ss0, wk, st0, R0, L0, wks, p0⟩ => ?_
  refine ⟨fun i n σ H => n = wk.items.length - i ∧ ∃ ads ss st, Fut ads0 H1 ads H ∧ RSt X.K X.mg ads H st ∧ RSl X.K ads H ss σ ∧ postS X.K X.mg W D ads H (forL wk.g g mb (wk.items.drop i) ss st), ⟨_, rfl, ads0, ss0, st0, .refl, R0, L0, by rw [List.drop_zero]; exact p0⟩, ?_⟩
  rintro i n σ H ⟨rfl, ads, ss, st, f, R, L, p⟩
  by_cases hi : i < wk.items.length
  · rw [List.drop_eq_getElem_cons hi] at p
    simp only [forL] at p
    split at p
    · rename_i ok
      obtain ⟨go, yl⟩ := wks.go i _ ads H st (List.getElem?_eq_getElem hi) f R ok
      refine .inr ⟨go, fun σ' H' => ∃ ads ss st, Fut ads0 H1 ads H' ∧ RSt X.K X.mg ads H' st ∧ RSl X.K ads H' ss σ' ∧ postS X.K X.mg W D ads H' (forL wk.g g mb (wk.items.drop (i + 1)) ss st), fun σ' H' q => ⟨_, by omega, rfl, q⟩, fun x H' y => ?_⟩
      obtain ⟨f2, R2, rv⟩ := yl x H' y
      refine tG.of R2 (L.mono f2) rv (p.from f2) fun ads3 H3 ss3 σ3 st3 f3 R3 L3 p3 => ⟨ads3, ss3, st3, R3, L3, ?_⟩
      have f03 : Fut ads0 H1 ads3 H3 := (f.trans f2).trans f3
      generalize mb ss3 st3 = o at p3 ⊢
      cases o with
      | ok fl st' =>
        cases fl with
        | nx ss' => exact fun a2 H2 σ2 f R2 L2 => ⟨a2, ss', st', f03.trans f, R2, L2, p3.from f⟩
        | ct ss' => exact fun a2 H2 σ2 f R2 L2 => ⟨a2, ss', st', f03.trans f, R2, L2, p3.from f⟩
        | bk ss' => exact p3
        | rt d => exact p3
        | rs e ss' => exact p3
      | exc e st' => exact p3
      | bad => exact p3
    · exact p.elim
  · rw [List.drop_eq_nil_of_le (by omega)] at p
    simp only [forL] at p
    split at p
    · rename_i ok
      exact .inl ⟨wks.stop i ads H st (by omega) f R ok, p ads H σ .refl R L⟩
    · exact p.elim)⟩
/-! lists, tuples, ranges -/
def irange (lo : Int) (n : Nat) : List DV := (List.range n).map fun (i : Nat) => .int (lo + i)
def small62 (i : Int) : Prop := -(2 ^ 62) ≤ i ∧ i < 2 ^ 62
@[irreducible] instance (i : Int) : Decidable (small62 i) := by unfold small62; exact inferInstance
def iRg1 (ms : List Ex) : Sl → M Wk := fun ss => bnd (eArgs ms ss) fun ds st => match ds with
  | [.int j] => if small62 j then .ok ⟨irange 0 j.toNat, []⟩ st else .bad
  | _ => .bad
def iRg2 (ms : List Ex) : Sl → M Wk := fun ss => bnd (eArgs ms ss) fun ds st => match ds with
  | [.int i, .int j] => if small62 i ∧ small62 j then .ok ⟨irange i (j - i).toNat, []⟩ st else .bad
  | _ => .bad
theorem irange_get {lo : Int} {n i : Nat} {d : DV} (h : (irange lo n)[i]? = some d) : i < n ∧ d = .int (lo + i) := by
  unfold irange at h
  rw [List.getElem?_map] at h
  by_cases hi : i < n
  · rw [List.getElem?_range hi] at h
    cases h
    exact ⟨hi, rfl⟩
  · rw [List.getElem?_eq_none (by simpa using hi)] at h
    cases h
theorem irange_length (lo : Int) (n : Nat) : (irange lo n).length = n := by unfold irange; rw [List.length_map, List.length_range]
theorem walks_range {K : PySem.W.Frag} {mg : Str → Option Value} {lo : Int} {n : Nat} {ads : List Addr} {H : Hp} : Walks K mg ⟨irange lo n, []⟩ (Itr lo n) ads H :=
  ⟨fun i d ads' H' st' hi f R' ok => by
    obtain ⟨h1, rfl⟩ := irange_get hi
    refine ⟨h1, fun x H2 ⟨e2, e3⟩ => ?_⟩
    subst e2 e3
    exact ⟨.refl, R', .int _⟩, fun i ads' H' st' hi f R' ok => by
    rw [irange_length] at hi
    exact hi⟩
theorem ri_range1 {tg a : Expr} {ms : List Ex} {p pos : Pos} (hg : Gl X "range") (hm : X.mg "range" = none) (ha : RA X W [a] ms) (hs : starEach [a] X.env = [(false, eval a X.env)] := by rfl) : RI X W tg (.Call (.Name "range" p) [a] [] pos) (iRg1 ms) := ⟨fun pins s σ H R I h => (pi_range1 hg hm ha hs).run pins s σ H R I (by
  refine (tM.bind (R := rVs X.K) h).imp fun vs H1 ⟨ads, ss, ds, st, Rs, L, rv, p⟩ => ?_
  split at p
  · obtain ⟨u, rfl, r⟩ := rv.one
    cases r
    split at p
    · rename_i hj
      exact ⟨_, rfl, hj.1, hj.2, p ads H1 _ .refl Rs walks_range⟩
    · exact p.elim
  · exact p.elim)⟩
theorem ri_range2 {tg a b : Expr} {ms : List Ex} {p pos : Pos} (hg : Gl X "range") (hm : X.mg "range" = none) (ha : RA X W [a, b] ms) (hs : starEach [a, b] X.env = [(false, eval a X.env), (false, eval b X.env)] := by rfl) (hs2 : starEach [b] X.env = [(false, eval b X.env)] := by rfl) :
    RI X W tg (.Call (.Name "range" p) [a, b] [] pos) (iRg2 ms) := ⟨fun pins s σ H R I h => (pi_range2 hg hm ha hs hs2).run pins s σ H R I (by
  refine (tM.bind (R := rVs X.K) h).imp fun vs H1 ⟨ads, ss, ds, st, Rs, L, rv, p⟩ => ?_
  split at p
  · obtain ⟨u, u', rfl, r1, r2⟩ := rv.two
    cases r1; cases r2
    split at p
    · rename_i hj
      exact ⟨_, _, rfl, ⟨hj.1.1, hj.1.2, hj.2.1, hj.2.2⟩, p ads H1 _ .refl Rs walks_range⟩
    · exact p.elim
  · exact p.elim)⟩
end
end ML

/-! ML5: comprehensions, defs. -/
namespace ML
open PySem PySem.Spec PyProof.Rows L2
/-- what a block does not let out -/
def noX {A : Type} (m : M A) : M A := fun st => match m st with
  | .ok a st' => .ok a st'
  | _ => .bad
def wipeD (ss : Sl) : List Nat → Sl
  | [] => ss
  | v :: vs => (wipeD ss vs).set v none
open Classical in
noncomputable def lcL (g : List (Nat × DO)) (own : List Nat) (tg : Tg) (c : Sl → M Bool) (e : Ex) : List DV → Sl → M (List DV)
  | [], ss => fun st => if okG g st then .ok [] st else .bad
  | x :: xs, ss => fun st => if okG g st then bnd (tg x (wipeD ss own)) (fun ss1 => bnd (c ss1) fun t => if t = true then bnd (e ss1) fun y => bnd (lcL g own tg c e xs ss) fun ys => pur (y :: ys) else lcL g own tg c e xs ss) st else .bad
/-- at most so many items come -/
noncomputable def eLc (mi : Sl → M Wk) (own : List Nat) (tg : Tg) (c : Sl → M Bool) (e : Ex) : Ex := fun ss => bnd (mi ss) fun wk => if wk.items.length ≤ sizeLine then bnd (noX (lcL wk.g own tg c e wk.items ss)) fun ys => alloc (.lst ys) else stuck
abbrev WF : WX := fun _ _ _ _ => False
def tTrue : Sl → M Bool := fun _ => pur true
structure RIf (X : Cx) (W : WX) (ifs : List Expr) (m : Sl → M Bool) : Prop where
  pt : PTs X ifs (tM X.K X.mg W rB m)
theorem rts_nil {X : Cx} {W : WX} : RIf X W [] tTrue := ⟨⟨fun pins s σ H Q I h => pts_nil.run pins s σ H Q I (by
  obtain ⟨ads, ss, st, R, L, p⟩ := h
  exact p.ok R rfl)⟩⟩
theorem rts_one {X : Cx} {W : WX} {c : Expr} {m : Sl → M Bool} (h : RT X W c m) : RIf X W [c] m := ⟨pts_one h⟩
theorem RSl.wipe {K : PySem.W.Frag} {ads : List Addr} {H : Hp} {ss : Sl} {σ : L2.St} (h : RSl K ads H ss σ) : ∀ vs : List Nat, RSl K ads H (wipeD ss vs) (L2.wipe σ vs)
  | [] => h
  | v :: vs => (RSl.wipe h vs).forget2 v
/-- a target of a comprehension: it stores its own names alone -/
structure CG (X : Cx) (tg : Expr) (own : List Nat) (g : Tg) : Prop where
  /-- the rule's reading, and how it is met -/
  ex : ∃ t : TG, PG X tg t ∧ ∀ {v : V} {σ : L2.St} {H : Hp} {Q : L2.St → Hp → Prop} {ads : List Addr} {ss : Sl} {d : DV} {st : Sto}, RSt X.K X.mg ads H st → RSl X.K ads H ss σ → RV X.K ads H d v →
    (match g d ss st with
    | .ok ss' st' => ∀ σ', (∀ σ0, L2.wipe σ0 own = σ → L2.wipe σ' own = σ) → st' = st → RSl X.K ads H ss' σ' → Q σ' H
    | _ => False) → t v σ H Q
section
variable {X : Cx} {pos : Pos}
theorem wipe_comm : ∀ {vs : List Nat} {σ : L2.St} {i : Nat} {x : Option V}, i ∈ vs → L2.wipe (σ.set i x) vs = L2.wipe σ vs
  | [], _, _, _, h => by simp at h
  | v :: vs, σ, i, x, h => by
    unfold L2.wipe
    by_cases hv : i ∈ vs
    · rw [wipe_comm hv]
    · have e : i = v := by
        rcases List.mem_cons.mp h with z | z
        · exact z
        · exact absurd z hv
      subst e
      have : ∀ (ws : List Nat) (σ : L2.St), i ∉ ws → L2.wipe (σ.set i x) ws = (L2.wipe σ ws).set i x := by
        intro ws
        induction ws with
        | nil => intro σ _; rfl
        | cons w ws ih =>
          intro σ hw
          rw [List.mem_cons, not_or] at hw
          show (L2.wipe (σ.set i x) ws).set w none = ((L2.wipe σ ws).set w none).set i x
          rw [ih σ hw.2, List.set_comm _ _ hw.1]
      rw [this vs σ hv, List.set_set]
theorem wipe_wipe (σ : L2.St) (own : List Nat) : L2.wipe (L2.wipe σ own) own = L2.wipe σ own := by
  have : ∀ (ws vs : List Nat) (σ : L2.St), (∀ i ∈ vs, i ∈ ws) → L2.wipe (L2.wipe σ vs) ws = L2.wipe σ ws := by
    intro ws vs
    induction vs with
    | nil => intro σ _; rfl
    | cons v vs ih =>
      intro σ h
      show L2.wipe ((L2.wipe σ vs).set v none) ws = _
      rw [wipe_comm (h v List.mem_cons_self), ih σ fun i hi => h i (List.mem_cons_of_mem _ hi)]
  exact this own own σ fun i h => h
end
section
variable {X : Cx} {W : WX}
theorem Fut.under {ads0 ads : List Addr} {H1 H : Hp} {D : Addr} {o : HO} (hD : H1 D = none) (f : Fut ads0 H1 ads H) : Fut ads0 H1 ads (upd H D o) :=
  ⟨f.pre, ⟨fun a xs e => by rw [upd_ne (ne_of_none e hD)]; exact f.kp.tup a xs e, fun a o' u k e => by rw [upd_ne (ne_of_none e hD)]; exact f.kp.frz a o' u k e, fun a fs e => by rw [upd_ne (ne_of_none e hD)]; exact f.kp.xd a fs e⟩,
   fun a o' h1 h2 => let ⟨h3, h4⟩ := f.oth a o' h1 h2; ⟨h3, by rw [upd_ne (ne_of_none h2 hD)]; exact h4⟩, fun a o' u e => by rw [upd_ne (ne_of_none e hD)]; exact f.fz a o' u e⟩
theorem Fut.adopt {ads0 ads : List Addr} {H1 H : Hp} {D : Addr} (hD : H1 D = none) (f : Fut ads0 H1 ads H) : Fut ads0 H1 (ads ++ [D]) H := by
  obtain ⟨r, e⟩ := f.pre
  refine ⟨⟨r ++ [D], by rw [e, List.append_assoc]⟩, f.kp, fun a o h1 h2 => ?_, f.fz⟩
  obtain ⟨h3, h4⟩ := f.oth a o h1 h2
  refine ⟨fun z => ?_, h4⟩
  rcases List.mem_append.mp z with z | z
  · exact h3 z
  · exact ne_of_none h2 hD (by simpa using z)
/-- an untracked list is changed -/
theorem RSt.side {K : PySem.W.Frag} {mg : Str → Option Value} {ads : List Addr} {H : Hp} {st : Sto} {D : Addr} {vs : List V} {o : HO} (R : RSt K mg ads H st) (h : D ∉ ads) (e : H D = some (.lst vs)) : RSt K mg ads (upd H D o) st ∧ Kp H (upd H D o) :=
  have k : Kp H (upd H D o) := .write e (fun _ z => by cases z) (fun _ _ z => by cases z)
  ⟨R.keep k fun a ha => upd_ne fun q => h (q ▸ ha), k⟩
/-- the reading of a comprehension -/
theorem lc_read {mi : Sl → M Wk} {own : List Nat} {g : Tg} {c : Sl → M Bool} {e : Ex} {σ : L2.St} {H : Hp} {Q : VK} {t : TG} {K : PySem.W.Frag} {mg : Str → Option Value}
    (ht : ∀ {v : V} {σ : L2.St} {H : Hp} {Q : L2.St → Hp → Prop} {ads : List Addr} {ss : Sl} {d : DV} {st : Sto}, RSt K mg ads H st → RSl K ads H ss σ → RV K ads H d v →
      (match g d ss st with
      | .ok ss' st' => ∀ σ', (∀ σ0, L2.wipe σ0 own = σ → L2.wipe σ' own = σ) → st' = st → RSl K ads H ss' σ' → Q σ' H
      | _ => False) → t v σ H Q)
    (hg : ∀ d ss st ss' st', g d ss st = .ok ss' st' → st' = st)
    (h : tM K mg W (rV K) (eLc mi own g c e) σ H Q) : tLc (tI K mg W mi) t (tM K mg WF rB c) (tM K mg WF (rV K) e) own σ H Q := by
  refine tM.imp (tM.bind (R := fun ads H' wk J => Walks K mg wk J ads H') h) fun J H1 ⟨ads0, ss, wk, st0, R0, L0, wks, p0⟩ => ?_
  by_cases hz : wk.items.length ≤ sizeLine
  case neg => rw [if_neg hz] at p0; exact (p0 : False).elim
  rw [if_pos hz] at p0
  cases eo : lcL wk.g own g c e wk.items ss st0 with
  | exc _ _ =>
    have z : noX (lcL wk.g own g c e wk.items ss) st0 = .bad := by unfold noX; rw [eo]
    unfold bnd at p0; rw [z] at p0; exact (p0 : False).elim
  | bad =>
    have z : noX (lcL wk.g own g c e wk.items ss) st0 = .bad := by unfold noX; rw [eo]
    unfold bnd at p0; rw [z] at p0; exact (p0 : False).elim
  | ok ysA stF =>
  have p0 : post K mg W (rV K) σ ads0 H1 (alloc (.lst ysA) stF) Q := by
    have z : noX (lcL wk.g own g c e wk.items ss) st0 = .ok ysA stF := by unfold noX; rw [eo]
    unfold bnd at p0; rw [z] at p0; exact p0
  intro D hD
  have hDa : D ∉ ads0 := R0.fresh hD
  refine ⟨fun i n H => n = wk.items.length - i ∧ i ≤ wk.items.length ∧ ∃ ads st acc dacc ys, Fut ads0 H1 ads H ∧ D ∉ ads ∧ RSt K mg ads H st ∧ RSl K ads H ss σ ∧ H D = some (.lst acc) ∧ acc.length ≤ i ∧ RVs K ads H dacc acc ∧
    lcL wk.g own g c e (wk.items.drop i) ss st = .ok ys stF ∧ dacc ++ ys = ysA, ⟨_, rfl, Nat.zero_le _, ads0, st0, [], [], ysA, .under hD .refl, hDa, R0.newU hD, L0.mono (.newU hD), upd_same, Nat.le_refl _, .nil, by rw [List.drop_zero]; exact eo, rfl⟩, ?_⟩
  rintro i n H ⟨rfl, hil, ads, st, acc, dacc, ys, f, nD, R, L, eD, la, ra, el, ey⟩
  by_cases hi : i < wk.items.length
  · rw [List.drop_eq_getElem_cons hi] at el
    simp only [lcL] at el
    by_cases ok : okG wk.g st
    case neg => rw [if_neg ok] at el; cases el
    rw [if_pos ok] at el
    obtain ⟨go, yl⟩ := wks.go i _ ads H st (List.getElem?_eq_getElem hi) f R ok
    obtain ⟨ss1, st1, e1, el1⟩ := bnd_ok el
    have est := hg _ _ _ _ _ e1
    subst est
    clear el
    obtain ⟨tb, st2, e2, el2⟩ := bnd_ok el1
    refine .inr ⟨go, fun H' => ∃ ads st acc dacc ys, Fut ads0 H1 ads H' ∧ D ∉ ads ∧ RSt K mg ads H' st ∧ RSl K ads H' ss σ ∧ H' D = some (.lst acc) ∧ acc.length ≤ i + 1 ∧ RVs K ads H' dacc acc ∧
      lcL wk.g own g c e (wk.items.drop (i + 1)) ss st = .ok ys stF ∧ dacc ++ ys = ysA, fun H' q => ⟨_, by omega, rfl, by omega, q⟩, fun x H' y => ?_⟩
    obtain ⟨f2, R2, rv⟩ := yl x H' y
    refine ht R2 ((L.mono f2).wipe own) rv ?_
    rw [e1]
    intro σ2 hw _ L2'
    refine ⟨hw σ rfl, ads, ss1, _, R2, L2', ?_⟩
    rw [e2]
    intro ads3 H3 b f3 R3 eb
    cases eb
    cases tb with
    | false =>
      rw [if_neg Bool.false_ne_true] at el2 ⊢
      have f23 := f2.trans f3
      obtain ⟨nD3, eD3⟩ := f23.oth D _ nD eD
      exact ⟨ads3, st2, acc, dacc, ys, f.trans f23, nD3, R3, L.mono f23, eD3, by omega, ra.mono f23, el2, ey⟩
    | true =>
      rw [if_pos rfl] at el2 ⊢
      obtain ⟨yv, st3, e3, el3⟩ := bnd_ok el2
      obtain ⟨ys', st4, e4, el4⟩ := bnd_ok el3
      cases el4
      refine ⟨ads3, ss1, st2, R3, L2'.mono f3, ?_⟩
      rw [e3]
      intro ads4 H4 v f4 R4 r4
      have f24 := (f2.trans f3).trans f4
      obtain ⟨nD4, eD4⟩ := f24.oth D _ nD eD
      obtain ⟨R5, k5⟩ := R4.side (o := .lst (acc ++ [v])) nD4 eD4
      have hle : acc.length < sizeLine := by omega
      refine ⟨acc, eD4, hle, ads4, st3, acc ++ [v], dacc ++ [yv], ys', (f.trans f24).under hD, nD4, R5, ⟨(L.mono f24).1, fun j d hj => ?_⟩, upd_same, by rw [List.length_append, List.length_singleton]; omega, ?_, e4, by rw [List.append_assoc]; exact ey⟩
      · obtain ⟨u, h1, h2⟩ := (L.mono f24).2 j d hj
        exact ⟨u, h1, h2.mono2 (.refl _) k5⟩
      · exact ((ra.mono f24).append (.cons r4 .nil)).mono2 (.refl _) k5
  · rw [List.drop_eq_nil_of_le (by omega)] at el
    simp only [lcL] at el
    by_cases ok : okG wk.g st
    case neg => rw [if_neg ok] at el; cases el
    rw [if_pos ok] at el
    cases el
    refine .inl ⟨wks.stop i ads H _ (by omega) f R ok, p0 (ads ++ [D]) H _ (f.adopt hD) ?_ (.ref (alloc_at R))⟩
    refine R.adopt nD ⟨acc, eD, ?_⟩
    rw [← ey, List.append_nil]
    exact ra.mono2 ⟨[D], rfl⟩ .refl
theorem gNm_st {i : Nat} : ∀ (d : DV) (ss : Sl) (st : Sto) (ss' : Sl) (st' : Sto), gNm i d ss st = .ok ss' st' → st' = st := fun d ss st ss' st' h => by
  cases h
  rfl
/-- what the block's parts are asked for -/
abbrev Blk (X : Cx) (scope : Scope) (s : Shared) (H : Hp) (C : Addr) (cl : List (Str × Addr)) (fp : List Addr) : Cx := X.blk s H scope (compEnvC scope cl C X.env) fp
theorem re_lc {elt tg iter : Expr} {ifs : List Expr} {scope : Scope} {own : List (Str × Nat)} {is : List Nat} {pos : Pos} {mi : Sl → M Wk} {g : Tg} {mc : Sl → M Bool} {me : Ex} {t : TG} (hc : X.calm = true) (hN : X.N.Nodup) (hi : RI X W tg iter mi) (ok : BlkOk X.N X.env.scope scope own) (his : own.map (·.2) = is)
    (hg : ∀ (s : Shared) (H : Hp) (C : Addr) (cl : List (Str × Addr)) (fp : List Addr), PG (Blk X scope s H C cl fp) tg t)
    (hr : ∀ {v : V} {σ : L2.St} {H : Hp} {Q : L2.St → Hp → Prop} {ads : List Addr} {ss : Sl} {d : DV} {st : Sto}, RSt X.K X.mg ads H st → RSl X.K ads H ss σ → RV X.K ads H d v →
      (match g d ss st with
      | .ok ss' st' => ∀ σ', (∀ σ0, L2.wipe σ0 is = σ → L2.wipe σ' is = σ) → st' = st → RSl X.K ads H ss' σ' → Q σ' H
      | _ => False) → t v σ H Q)
    (hs : ∀ d ss st ss' st', g d ss st = .ok ss' st' → st' = st)
    (ht : ∀ (s : Shared) (H : Hp) (C : Addr) (cl : List (Str × Addr)) (fp : List Addr), RIf (Blk X scope s H C cl fp) WF ifs mc)
    (he : ∀ (s : Shared) (H : Hp) (C : Addr) (cl : List (Str × Addr)) (fp : List Addr), RE (Blk X scope s H C cl fp) WF elt me) (hf : ∀ x, foldedSetIterable iter X.env x = pure x := by intro _; rfl) :
    RE X W (.ListComp elt [⟨tg, iter, ifs, 0⟩] scope pos) (eLc mi is g mc me) := by
  subst his
  exact ⟨fun pins s σ H Q I h => (pe_lc (tt := tM X.K X.mg WF rB mc) (te := tM X.K X.mg WF (rV X.K) me) hc hN hi ok hg (fun s H C cl fp => (ht s H C cl fp).pt) (fun s H C cl fp => he s H C cl fp) hf).run pins s σ H Q I (lc_read hr hs h)⟩
theorem rs_setLc {i : Nat} {y : Str} {py : Pos} {elt tg iter : Expr} {ifs : List Expr} {scope : Scope} {own : List (Str × Nat)} {is : List Nat} {pos spos : Pos} {mi : Sl → M Wk} {g : Tg} {mc : Sl → M Bool} {me : Ex} {t : TG} (hc : X.calm = true) (hN : X.N.Nodup) (hy : X.N[i]? = some y) (hyl : X.env.scope.names.lookup y = some .local)
    (hsw : swapsWith (.ListComp elt [⟨tg, iter, ifs, 0⟩] scope pos) (some (.Name y py)) spos.line X.env = pure true) (hi : RI X W tg iter mi) (ok : BlkOk X.N X.env.scope scope own) (his : own.map (·.2) = is)
    (hg : ∀ (s : Shared) (H : Hp) (C : Addr) (cl : List (Str × Addr)) (fp : List Addr), PG (Blk X scope s H C cl fp) tg t)
    (hr : ∀ {v : V} {σ : L2.St} {H : Hp} {Q : L2.St → Hp → Prop} {ads : List Addr} {ss : Sl} {d : DV} {st : Sto}, RSt X.K X.mg ads H st → RSl X.K ads H ss σ → RV X.K ads H d v →
      (match g d ss st with
      | .ok ss' st' => ∀ σ', (∀ σ0, L2.wipe σ0 is = σ → L2.wipe σ' is = σ) → st' = st → RSl X.K ads H ss' σ' → Q σ' H
      | _ => False) → t v σ H Q)
    (hs : ∀ d ss st ss' st', g d ss st = .ok ss' st' → st' = st)
    (ht : ∀ (s : Shared) (H : Hp) (C : Addr) (cl : List (Str × Addr)) (fp : List Addr), RIf (Blk X scope s H C cl fp) WF ifs mc)
    (he : ∀ (s : Shared) (H : Hp) (C : Addr) (cl : List (Str × Addr)) (fp : List Addr), RE (Blk X scope s H C cl fp) WF elt me) (hf : ∀ x, foldedSetIterable iter X.env x = pure x := by intro _; rfl) :
    RS X W (.Assign [.Name y py] (.ListComp elt [⟨tg, iter, ifs, 0⟩] scope pos) spos) (sSet i (eLc mi is g mc me)) := by
  subst his
  refine ⟨fun pins s σ H D I h => (ps_setLc (tt := tM X.K X.mg WF rB mc) (te := tM X.K X.mg WF (rV X.K) me) hc hN hy hyl hsw hi ok hg (fun s H C cl fp => (ht s H C cl fp).pt) (fun s H C cl fp => he s H C cl fp) hf).run pins s σ H D I ?_⟩
  refine lc_read hr hs ?_
  refine (tS.lft (R := rV X.K) (k := fun ss v => pur (.nx (ss.set i (some v)))) h).imp fun v H' ⟨ads, ss, d, st, R, L, r, p⟩ => ?_
  exact p ads H' _ .refl R (L.set i r)
end
/-- the two kinds of targets -/
theorem cr_name {K : PySem.W.Frag} {mg : Str → Option Value} {i : Nat} {v : V} {σ : L2.St} {H : Hp} {Q : L2.St → Hp → Prop} {ads : List Addr} {ss : Sl} {d : DV} {st : Sto} (R : RSt K mg ads H st) (L : RSl K ads H ss σ) (rv : RV K ads H d v)
    (h : match gNm i d ss st with
      | .ok ss' st' => ∀ σ', (∀ σ0, L2.wipe σ0 [i] = σ → L2.wipe σ' [i] = σ) → st' = st → RSl K ads H ss' σ' → Q σ' H
      | _ => False) : gName i v σ H Q := by
  have h : ∀ σ', (∀ σ0, L2.wipe σ0 [i] = σ → L2.wipe σ' [i] = σ) → st = st → RSl K ads H (ss.set i (some d)) σ' → Q σ' H := h
  refine h _ (fun σ0 e => ?_) rfl (L.set i rv)
  rw [← e, wipe_comm (by simp), wipe_wipe]
/-! ### defs -/
def finish : Out Fl → Out DV
  | .ok (.nx _) st => .ok .non st
  | .ok (.rt v) st => .ok v st
  | .ok (.rs e _) st => .exc e st
  | _ => .bad
/-- a def of n parameters and N names -/
def fnM (n N : Nat) (body : Stt) : List DV → M DV := fun vs st => if vs.length = n then finish (body (vs.map some ++ List.replicate (N - n) none) st) else .bad
section
variable {P : Program} {w : World} {K : PySem.W.Frag} {mg : Str → Option Value} {base : Heap}
theorem fun_okN {x qual : Str} {st : Stmt} {f : Addr} {fd : FuncData} {N ps : List Str} {k : Nat} {sp : Sp} (F : Fun K x qual st f fd) (S : FnScope N ps (defScope st)) (hl : ∀ vs H Q E, sp vs H Q E → vs.length = ps.length)
    (hb : ∀ (cdv : Value) (A : Around) (outer : List Env) (s : Shared) (H : Hp) (vs : List V) (Q : VK) (E : XK), Room k (A.deeper (envOfC qual (defScope st) s.heap.objs.size f cdv)) → sp vs H Q E →
      ∃ t, PSs (cxOf (L2N.CX P w) P w K mg base N qual (defScope st) f cdv A outer s H E) (defBody st) t ∧ t { nx := fun _ H' => Q .non H', rt := Q } (start N vs) H) : FnOk P w K mg base (L2N.CX P w) (k + 1) f fd ps sp := by
  obtain ⟨o1, o2, o3, o4, o5, o6, cd, o7, o8, rfl, look, hcl⟩ := F.ex
  exact fn_of look hcl S hl fun A outer s H vs Q E room q => hb cd A outer s H vs Q E room q
theorem fn_ok {x qual : Str} {st : Stmt} {f : Addr} {fd : FuncData} {N ps : List Str} {k : Nat} {body : Stt} (F : Fun K x qual st f fd) (S : FnScope N ps (defScope st))
    (hbody : ∀ (cdv : Value) (A : Around) (outer : List Env) (s : Shared) (H : Hp) (E : XK), Room k (A.deeper (envOfC qual (defScope st) s.heap.objs.size f cdv)) →
      RSs (cxOf (L2N.CX P w) P w K mg base N qual (defScope st) f cdv A outer s H E) (fun cls d _ H => E cls d H) (defBody st) body) : FnOk P w K mg base (L2N.CX P w) (k + 1) f fd ps (spM K mg (fnM ps.length N.length body)) := by
  refine fun_okN F S (fun vs H Q E h => ?_) fun cdv A outer s H vs Q E hr h => ⟨_, hbody cdv A outer s H E hr, ?_⟩
  · obtain ⟨ads, as, st, R, rv, p⟩ := h
    unfold fnM at p
    by_cases hl : as.length = ps.length
    · rw [← rv.length, hl]
    · rw [if_neg hl] at p
      exact p.elim
  · obtain ⟨ads, as, st0, R, rv, p⟩ := h
    unfold fnM at p
    by_cases hl : as.length = ps.length
    case neg => rw [if_neg hl] at p; exact p.elim
    rw [if_pos hl] at p
    refine ⟨ads, as.map some ++ List.replicate (N.length - ps.length) none, st0, R, ⟨?_, fun i d hi => ?_⟩, ?_⟩
    · unfold L2.start
      simp [rv.length, ← hl]
    · by_cases hi' : i < as.length
      · rw [List.getElem?_append_left (by simpa using hi'), List.getElem?_map] at hi
        cases e : as[i]? with
        | none => rw [e] at hi; cases hi
        | some d' =>
          rw [e] at hi
          cases hi
          obtain ⟨v, h1, h2⟩ := rv.get e
          refine ⟨v, ?_, h2⟩
          unfold L2.start
          rw [List.getElem?_append_left (by rw [List.length_map, ← rv.length]; exact hi'), List.getElem?_map, h1]
          rfl
      · rw [List.getElem?_append_right (by simpa using hi'), List.getElem?_replicate] at hi
        split at hi <;> cases hi
    · revert p
      generalize body (as.map some ++ List.replicate (N.length - ps.length) none) st0 = o
      intro p
      cases o with
      | ok fl st' =>
        cases fl with
        | nx ss => exact fun ads' H' σ' f R' L' => p ads' H' .non f R' .non
        | bk ss => exact (p : False).elim
        | ct ss => exact (p : False).elim
        | rt d => exact fun ads' H' v f R' r => p ads' H' v f R' r
        | rs e ss => exact fun ads' H' σ' c d f R' L' x => p ads' H' c d f R' x
      | exc e st' => exact (p : False).elim
      | bad => exact (p : False).elim
end
end ML

/-! ML6: subscripts, slices, built-ins, a list's methods. -/
namespace ML
open PySem PySem.Spec PyProof.Rows L2
/-! ### dicts -/
def hGet : List (HK × DV) → HK → Option DV
  | [], _ => none
  | (k, v) :: r, h => if k = h then some v else hGet r h
def hSet : List (HK × DV) → HK → DV → List (HK × DV)
  | [], h, d => [(h, d)]
  | (k, v) :: r, h, d => if k = h then (k, d) :: r else (k, v) :: hSet r h d
def flatH : HK → Bool
  | .int _ => true
  | .str _ => true
  | _ => false
def tupH : HK → Bool
  | .tup ks => ks.all flatH
  | _ => false
/-- one kind of keys alone -/
def kindOk (kvs : List (HK × DV)) (h : HK) : Bool := match kvs with
  | [] => flatH h || tupH h
  | (k, _) :: _ => (flatH k && flatH h) || (tupH k && tupH h)
theorem hK_inj {a b : Key} (h : hK a = hK b) : a = b := by
  cases a <;> cases b <;> cases h <;> rfl
theorem hKs_inj : ∀ {a b : List Key}, a.map hK = b.map hK → a = b
  | [], [], _ => rfl
  | [], _ :: _, h => by cases h
  | _ :: _, [], h => by cases h
  | x :: xs, y :: ys, h => by
    rw [List.map_cons, List.map_cons] at h
    injection h with h1 h2
    rw [hK_inj h1, hKs_inj h2]
def RelD (K : PySem.W.Frag) (ads : List Addr) (H : Hp) : Option DV → Option V → Prop
  | some d, some v => RV K ads H d v
  | none, none => True
  | _, _ => False
section
variable {K : PySem.W.Frag} {mg : Str → Option Value} {ads : List Addr} {H : Hp}
theorem RKs.get {k : Key} : ∀ {kvs : List (HK × DV)} {vs : List (Key × V)}, RKs K ads H kvs vs → RelD K ads H (hGet kvs (hK k)) (valV vs k)
  | _, _, .nil => True.intro
  | (h, d) :: kvs, (j, v) :: vs, .cons q r => by
    obtain ⟨h1, h2⟩ := q
    have h1 : h = hK j := h1
    subst h1
    unfold hGet
    by_cases e : j = k
    · subst e
      rw [if_pos rfl, valV_pos rfl]
      exact h2
    · rw [if_neg (fun z => e (hK_inj z)), valV_neg e]
      exact RKs.get r
theorem RTs.get {k : List Key} : ∀ {kvs : List (HK × DV)} {vs : List (List Key × V)}, RTs K ads H kvs vs → RelD K ads H (hGet kvs (.tup (k.map hK))) (valV vs k)
  | _, _, .nil => True.intro
  | (h, d) :: kvs, (j, v) :: vs, .cons q r => by
    obtain ⟨h1, h2⟩ := q
    have h1 : h = .tup (j.map hK) := h1
    subst h1
    unfold hGet
    by_cases e : j = k
    · subst e
      rw [if_pos rfl, valV_pos rfl]
      exact h2
    · rw [if_neg (fun z => e (hKs_inj (HK.tup.inj z))), valV_neg e]
      exact RTs.get r
theorem putK_cons_eq {κ : Type} [DecidableEq κ] {k : κ} {v w : V} {r : List (κ × V)} (nd : ((k, v) :: r).map (·.1) |>.Nodup) : putK ((k, v) :: r) k w = (k, w) :: r := by
  unfold putK
  rw [if_pos (by simp)]
  rw [List.map_cons, if_pos rfl]
  congr 1
  have : ∀ p ∈ r, (if p.1 = k then (p.1, w) else p) = p := fun p hp => by
    rw [if_neg]
    intro e
    rw [List.map_cons, List.nodup_cons] at nd
    have q : p.1 ∈ r.map (·.1) := List.mem_map_of_mem hp
    rw [e] at q
    exact nd.1 q
  rw [List.map_congr_left this, List.map_id']
theorem putK_cons_ne {κ : Type} [DecidableEq κ] {k j : κ} {v w : V} {r : List (κ × V)} (e : ¬ j = k) : putK ((j, v) :: r) k w = (j, v) :: putK r k w := by
  unfold putK
  rw [List.any_cons, decide_eq_false e, Bool.false_or]
  split
  · rw [List.map_cons, if_neg e]
  · rfl
theorem RKs.put {k : Key} {d : DV} {v : V} (rv : RV K ads H d v) : ∀ {kvs : List (HK × DV)} {vs : List (Key × V)}, (vs.map (·.1)).Nodup → RKs K ads H kvs vs → RKs K ads H (hSet kvs (hK k) d) (putK vs k v)
  | _, _, _, .nil => .cons ⟨rfl, rv⟩ .nil
  | (h, x) :: kvs, (j, w) :: vs, nd, .cons q r => by
    obtain ⟨h1, h2⟩ := q
    have h1 : h = hK j := h1
    subst h1
    unfold hSet
    by_cases e : j = k
    · subst e
      rw [if_pos rfl, putK_cons_eq nd]
      exact .cons ⟨rfl, rv⟩ r
    · rw [if_neg (fun z => e (hK_inj z)), putK_cons_ne e]
      exact .cons ⟨rfl, h2⟩ (RKs.put rv (List.nodup_cons.mp nd).2 r)
theorem RTs.put {k : List Key} {d : DV} {v : V} (rv : RV K ads H d v) : ∀ {kvs : List (HK × DV)} {vs : List (List Key × V)}, (vs.map (·.1)).Nodup → RTs K ads H kvs vs → RTs K ads H (hSet kvs (.tup (k.map hK)) d) (putK vs k v)
  | _, _, _, .nil => .cons ⟨rfl, rv⟩ .nil
  | (h, x) :: kvs, (j, w) :: vs, nd, .cons q r => by
    obtain ⟨h1, h2⟩ := q
    have h1 : h = .tup (j.map hK) := h1
    subst h1
    unfold hSet
    by_cases e : j = k
    · subst e
      rw [if_pos rfl, putK_cons_eq nd]
      exact .cons ⟨rfl, rv⟩ r
    · rw [if_neg (fun z => e (hKs_inj (HK.tup.inj z))), putK_cons_ne e]
      exact .cons ⟨rfl, h2⟩ (RTs.put rv (List.nodup_cons.mp nd).2 r)
theorem RKs.any {j : Nat} : ∀ {vs : List (Key × V)} {kvs : List (HK × DV)}, RKs K ads H kvs vs → ∀ p ∈ kvs, flatH p.1 = true
  | _, _, .nil, p, hp => by simp at hp
  | (k, v) :: vs, (h, d) :: kvs, .cons q r, p, hp => by
    rcases List.mem_cons.mp hp with e | hp
    · subst e
      have h1 : h = hK k := q.1
      subst h1
      cases k <;> rfl
    · exact RKs.any (j := j) r p hp
theorem kOf_flat {d : DV} {h : HK} (e : kOf d = some h) {v : V} (r : RV K ads H d v) (f : flatH h = true) : ∃ k : Key, h = hK k ∧ v = kV k := by
  cases r with
  | int i => cases e; exact ⟨.inl i, rfl, rfl⟩
  | str x => cases e; exact ⟨.inr x, rfl, rfl⟩
  | non => cases e; cases f
  | tup hs rs =>
    simp only [kOf, Option.map_eq_some_iff] at e
    obtain ⟨a, _, e⟩ := e
    subst e
    cases f
  | _ => cases e
theorem kOfs_flat : ∀ {ds : List DV} {hs : List HK} {vs : List V}, kOfs ds = some hs → RVs K ads H ds vs → hs.all flatH = true → ∃ ks : List Key, hs = ks.map hK ∧ vs = ks.map kV
  | _, _, _, e, .nil, _ => by cases e; exact ⟨[], rfl, rfl⟩
  | d :: ds, hs, _, e, .cons h r, f => by
    simp only [kOfs] at e
    obtain ⟨h0, e1, e⟩ := Option.bind_eq_some_iff.mp e
    obtain ⟨hs', e2, e⟩ := Option.map_eq_some_iff.mp e
    subst e
    rw [List.all_cons, Bool.and_eq_true] at f
    obtain ⟨k, rfl, rfl⟩ := kOf_flat e1 h f.1
    obtain ⟨ks, rfl, rfl⟩ := kOfs_flat e2 r f.2
    exact ⟨k :: ks, rfl, rfl⟩
theorem kOf_tup {d : DV} {h : HK} (e : kOf d = some h) {v : V} (r : RV K ads H d v) (f : tupH h = true) : ∃ (ks : List Key) (b : Addr), h = .tup (ks.map hK) ∧ v = .ref b ∧ H b = some (.tup (ks.map kV)) := by
  cases r with
  | int i => cases e; cases f
  | str x => cases e; cases f
  | non => cases e; cases f
  | @tup a xs vs hs rs =>
    simp only [kOf, Option.map_eq_some_iff] at e
    obtain ⟨hs', e1, e⟩ := e
    subst e
    obtain ⟨ks, rfl, rfl⟩ := kOfs_flat e1 rs f
    exact ⟨ks, a, rfl, rfl, hs⟩
  | _ => cases e
end
theorem Inv.toT {X : Cx} {pins : List (Addr × Obj)} {σ : L2.St} {H : Hp} {s : Shared} {a : Addr} (I : Inv X pins σ H s) (e : H a = some (.dK [])) : Inv X pins σ (upd H a (.dT [])) s := by
  obtain ⟨z, hd, vs, rel, dd⟩ := dk_of I.hok e
  cases rel
  obtain ⟨o, es, ep, h1, h2, h3, h4, h5, _⟩ := dd
  have hes : es.toList = [] := by
    cases q : es.toList with
    | nil => rfl
    | cons x r => rw [q] at h5; cases h5
  exact d_write (t' := s.toks) I (by rw [e]; exact True.intro) ⟨rfl, fun _ _ => rfl⟩ ⟨o, h1⟩ ⟨Nat.zero_le _, hd, [], .nil, o, es, ep, h1, h2, h3, by rw [hes]; rfl, List.nodup_nil⟩
theorem Inv.toK {X : Cx} {pins : List (Addr × Obj)} {σ : L2.St} {H : Hp} {s : Shared} {a : Addr} (I : Inv X pins σ H s) (e : H a = some (.dT [])) : Inv X pins σ (upd H a (.dK [])) s := by
  obtain ⟨z, hd, xs, rel, dd⟩ := dt_of I.hok e
  cases rel
  obtain ⟨o, es, ep, h1, h2, h3, h4, _⟩ := dd
  have hes : es.toList = [] := by simpa using h4
  refine d_write (t' := s.toks) I (by rw [e]; exact True.intro) ⟨rfl, fun _ _ => rfl⟩ ⟨o, h1⟩ ⟨Nat.zero_le _, hd, [], .nil, o, es, ep, h1, h2, h3, fun x hx => ?_, by rw [hes]; exact .nil, List.nodup_nil⟩
  rw [← Array.mem_toList_iff, hes] at hx
  cases hx
theorem KV.keys {κ : Type} : ∀ {kvs : List (κ × V)} {vs : List (κ × Value)}, KV kvs vs → kvs.map (·.1) = vs.map (·.1)
  | _, _, .nil => rfl
  | p :: ps, q :: qs, .cons h r => by rw [List.map_cons, List.map_cons, h.1, KV.keys r]
theorem KT.keys {H : Hp} : ∀ {kvs : List (List Key × V)} {vs : List (List Key × Addr × Value)}, KT H kvs vs → kvs.map (·.1) = vs.map (·.1)
  | _, _, .nil => rfl
  | p :: ps, q :: qs, .cons h r => by rw [List.map_cons, List.map_cons, h.1, KT.keys r]
/-- the dict of a handle at a key -/
theorem dict_at {X : Cx} {pins : List (Addr × Obj)} {σ : L2.St} {H : Hp} {s : Shared} {ads : List Addr} {st : Sto} {k : Nat} {a : Addr} {kvs : List (HK × DV)} {dy : DV} {y : V} {h : HK} (I : Inv X pins σ H s) (R : RSt X.K X.mg ads H st) (hk : ads[k]? = some a) (e1 : st[k]? = some (.dic kvs)) (ry : RV X.K ads H dy y) (e2 : kOf dy = some h) (ko : kindOk kvs h = true) :
    ∃ H2 o, Inv X pins σ H2 s ∧ RSt X.K X.mg ads H2 st ∧ Fut ads H ads H2 ∧ DGet H2 a y o ∧ RelD X.K ads H2 (hGet kvs h) o ∧ IsD H2 a ∧
      ∀ d v, kvs.length < sizeLine → RV X.K ads H2 d v → ∃ H3, DPut H2 a y v H3 ∧ Fut ads H2 ads H3 ∧ RSt X.K X.mg ads H3 (st.set k (.dic (hSet kvs h d))) := by
  have ro := R.ob k a _ hk e1
  have flat : ∀ {H2 : Hp} {vs : List (Key × V)}, Inv X pins σ H2 s → RSt X.K X.mg ads H2 st → Fut ads H ads H2 → H2 a = some (.dK vs) → RKs X.K ads H2 kvs vs → flatH h = true → ∃ H2 o, Inv X pins σ H2 s ∧ RSt X.K X.mg ads H2 st ∧ Fut ads H ads H2 ∧ DGet H2 a y o ∧ RelD X.K ads H2 (hGet kvs h) o ∧ IsD H2 a ∧
      ∀ d v, kvs.length < sizeLine → RV X.K ads H2 d v → ∃ H3, DPut H2 a y v H3 ∧ Fut ads H2 ads H3 ∧ RSt X.K X.mg ads H3 (st.set k (.dic (hSet kvs h d))) := by
    intro H2 vs I2 R2 fu e rk f
    obtain ⟨kk, rfl, rfl⟩ := kOf_flat e2 ry f
    refine ⟨H2, _, I2, R2, fu, .k e, rk.get, .inl ⟨vs, .inl e⟩, fun d v hl rv => ⟨_, .k e (by rw [← Paired.length rk]; exact hl), R2.write hk, R2.set hk (.inl ⟨_, upd_same, ?_⟩)⟩⟩
    obtain ⟨_, _, ws, rel, dd⟩ := dk_of I2.hok e
    obtain ⟨_, _, _, _, _, _, _, _, nd⟩ := dd
    have nd' : (vs.map (·.1)).Nodup := by rw [KV.keys rel]; exact nd
    have fw := R2.write (o := .dK (putK vs kk v)) hk
    exact RKs.put (rv.mono fw) nd' (rk.mono2 fw.pre fw.kp)
  have tupl : ∀ {H2 : Hp} {vs : List (List Key × V)}, Inv X pins σ H2 s → RSt X.K X.mg ads H2 st → Fut ads H ads H2 → H2 a = some (.dT vs) → RTs X.K ads H2 kvs vs → tupH h = true → ∃ H2 o, Inv X pins σ H2 s ∧ RSt X.K X.mg ads H2 st ∧ Fut ads H ads H2 ∧ DGet H2 a y o ∧ RelD X.K ads H2 (hGet kvs h) o ∧ IsD H2 a ∧
      ∀ d v, kvs.length < sizeLine → RV X.K ads H2 d v → ∃ H3, DPut H2 a y v H3 ∧ Fut ads H2 ads H3 ∧ RSt X.K X.mg ads H3 (st.set k (.dic (hSet kvs h d))) := by
    intro H2 vs I2 R2 fu e rk f
    obtain ⟨kk, b, rfl, rfl, eb⟩ := kOf_tup e2 (ry.mono fu) f
    refine ⟨H2, _, I2, R2, fu, .t e eb, rk.get, .inr ⟨vs, .inl e⟩, fun d v hl rv => ⟨_, .t e eb (by rw [← Paired.length rk]; exact hl), R2.write hk, R2.set hk (.inr ⟨_, upd_same, ?_⟩)⟩⟩
    obtain ⟨_, _, ws, rel, dd⟩ := dt_of I2.hok e
    obtain ⟨_, _, _, _, _, _, _, _, nd⟩ := dd
    have nd' : (vs.map (·.1)).Nodup := by rw [KT.keys rel]; exact nd
    have fw := R2.write (o := .dT (putK vs kk v)) hk
    exact RTs.put (rv.mono fw) nd' (rk.mono2 fw.pre fw.kp)
  rcases ro with ⟨vs, hv, rk⟩ | ⟨vs, hv, rk⟩
  · cases hf : flatH h with
    | true => exact flat I R .refl hv rk hf
    | false =>
      have e0 : kvs = [] := by
        cases kvs with
        | nil => rfl
        | cons p r =>
          have fp := RKs.any (j := 0) rk p List.mem_cons_self
          have tp : tupH p.1 = false := by
            cases q : p.1 <;> rw [q] at fp <;> first | rfl | cases fp
          simp [kindOk, hf, tp] at ko
      subst e0
      cases rk
      have ht : tupH h = true := by simpa [kindOk, hf] using ko
      have fw := R.write (o := .dT []) hk
      have R2 : RSt X.K X.mg ads (upd H a (.dT [])) (st.set k (.dic [])) := R.set hk (.inr ⟨[], upd_same, .nil⟩)
      have es : st.set k (.dic []) = st := by
        obtain ⟨l1, l2⟩ := List.getElem?_eq_some_iff.mp e1
        rw [← l2]
        exact List.set_getElem_self l1
      rw [es] at R2
      exact tupl (Inv.toT I hv) R2 fw upd_same .nil ht
  · cases hf : tupH h with
    | true => exact tupl I R .refl hv rk hf
    | false =>
      have e0 : kvs = [] := by
        cases kvs with
        | nil => rfl
        | cons p r =>
          cases rk with
          | cons q _ =>
            have q1 := q.1
            simp [kindOk, hf, q1, flatH] at ko
      subst e0
      cases rk
      have ht : flatH h = true := by simpa [kindOk, hf] using ko
      have fw := R.write (o := .dK []) hk
      have R2 : RSt X.K X.mg ads (upd H a (.dK [])) (st.set k (.dic [])) := R.set hk (.inl ⟨[], upd_same, .nil⟩)
      have es : st.set k (.dic []) = st := by
        obtain ⟨l1, l2⟩ := List.getElem?_eq_some_iff.mp e1
        rw [← l2]
        exact List.set_getElem_self l1
      rw [es] at R2
      exact flat (Inv.toK I hv) R2 fw upd_same .nil ht
/-! ### subscripts -/
def optD (o : Option DV) : M DV := fun st => match o with
  | some d => .ok d st
  | none => .bad
def ixM : DV → DV → M DV
  | .tup xs, .int i => optD (atI xs i)
  | .ktp xs, .int i => optD (atI xs i)
  | .fzl xs, .int i => optD (atI xs i)
  | .ref k, y => fun st => match st[k]? with
    | some (.lst xs) => match y with
      | .int i => optD (atI xs i) st
      | _ => .bad
    | some (.dic kvs) => optD ((kOf y).bind fun h => if kindOk kvs h = true then hGet kvs h else none) st
    | _ => .bad
  | .str z, .int i => fun st => if z.length ≤ sizeLine then optD ((atI z.cps.toList i).map fun c => .str ⟨#[c]⟩) st else .bad
  | _, _ => stuck
theorem RVs.atI {K : PySem.W.Frag} {ads : List Addr} {H : Hp} {xs : List DV} {vs : List V} {i : Int} {d : DV} (r : RVs K ads H xs vs) (h : L2.atI xs i = some d) : ∃ v, L2.atI vs i = some v ∧ RV K ads H d v := by
  unfold L2.atI at h ⊢
  rw [← r.length]
  cases e : ixN xs.length i with
  | none => rw [e] at h; cases h
  | some j =>
    rw [e] at h
    exact r.get h
def IxM (X : Cx) (g : DV → DV → M DV) : Prop :=
  ∀ (value slice : Expr) (pins : List (Addr × Obj)) (s : Shared) (σ : L2.St) (H : Hp) (x y : V) (v u : Value) (Q : VK) (ads : List Addr) (dx dy : DV) (st : Sto) (W : WX), Inv X pins σ H s → RSt X.K X.mg ads H st → RV X.K ads H dx x → RV X.K ads H dy y → RelV x v → RelV y u →
    post X.K X.mg W (rV X.K) σ ads H (g dx dy st) Q → subscripted slice false v u = operate [v, u] (getItem v u) → wpAny (model X.prog X.w) X.A (subscriptTail value slice v u) (EP X pins σ Q) X.xe s
theorem optD_ok {K : PySem.W.Frag} {mg : Str → Option Value} {W : WX} {σ : L2.St} {ads : List Addr} {H : Hp} {st : Sto} {Q : VK} {o : Option DV} (h : post K mg W (rV K) σ ads H (optD o st) Q) : ∃ d, o = some d ∧ post K mg W (rV K) σ ads H (.ok d st) Q := by
  cases o with
  | none => exact (h : False).elim
  | some d => exact ⟨d, rfl, h⟩
theorem ixm {X : Cx} (hu : X.A.units + 1 < cLine) : IxM X ixM := by
  intro value slice pins s σ H x y v u Q ads dx dy st W I R hx hy rx ry h hs
  have sq : rIx X.K x y H Q → wpAny (model X.prog X.w) X.A (subscriptTail value slice v u) (EP X pins σ Q) X.xe s := fun z => ix_seq value slice pins s σ H x y v u Q I rx ry z hs
  cases hx with
  | @tup a xs vs hs rs =>
    cases hy with
    | int i =>
      obtain ⟨d, e, h⟩ := optD_ok h
      obtain ⟨w, h1, h2⟩ := rs.atI e
      exact sq (.inr (.inl ⟨a, vs, i, w, rfl, rfl, .of hs, h1, h.ok R h2⟩))
    | _ => exact (h : False).elim
  | @ktp a xs vs hs rs =>
    cases hy with
    | int i =>
      obtain ⟨d, e, h⟩ := optD_ok h
      obtain ⟨w, h1, h2⟩ := rs.atI e
      exact sq (.inr (.inl ⟨a, vs, i, w, rfl, rfl, hs, h1, h.ok R h2⟩))
    | _ => exact (h : False).elim
  | @fzl a xs vs hs rs =>
    cases hy with
    | int i =>
      obtain ⟨d, e, h⟩ := optD_ok h
      obtain ⟨w, h1, h2⟩ := rs.atI e
      exact sq (.inl ⟨a, vs, i, w, rfl, rfl, hs.sq, h1, h.ok R h2⟩)
    | _ => exact (h : False).elim
  | @ref k a hk =>
    simp only [ixM] at h
    split at h
    · rename_i xs e1
      obtain ⟨vs, hv, rs⟩ := R.list hk e1
      cases hy with
      | int i =>
        obtain ⟨d, e, h⟩ := optD_ok h
        obtain ⟨w, h1, h2⟩ := rs.atI e
        exact sq (.inl ⟨a, vs, i, w, rfl, rfl, .of hv, h1, h.ok R h2⟩)
      | _ => exact (h : False).elim
    · rename_i kvs e1
      obtain ⟨d, e, h⟩ := optD_ok h
      obtain ⟨hk', e2, e⟩ := Option.bind_eq_some_iff.mp e
      by_cases ko : kindOk kvs hk' = true
      case neg => rw [if_neg ko] at e; cases e
      rw [if_pos ko] at e
      obtain ⟨H2, o, I2, R2, fu, g, ro, isd, _⟩ := dict_at I R hk e1 hy e2 ko
      rw [e] at ro
      cases o with
      | none => exact ro.elim
      | some w =>
        cases (show v = Value.ref a from rx)
        exact tail_any (dict_typeIs I2 g) PySem.F.slot_dict_getitem.lookup (d_getItem hu I2 g ry fun w' s' I' r' => ⟨w, H2, I', r', h ads H2 w fu R2 ro⟩) hs
    · exact h.elim
  | str z =>
    cases hy with
    | int i =>
      simp only [ixM] at h
      split at h
      · rename_i hz
        obtain ⟨d, e, h⟩ := optD_ok h
        cases e1 : L2.atI z.cps.toList i with
        | none => rw [e1] at e; cases e
        | some c =>
          rw [e1] at e
          cases e
          exact sq (.inr (.inr ⟨z, i, c, rfl, rfl, hz, e1, h.ok R (.str _)⟩))
      · exact h.elim
    | _ => exact (h : False).elim
  | _ => cases hy <;> exact (h : False).elim
/-- a part of a slice -/
def pNo : Sl → M (Option Int) := fun _ => pur none
def pSm (m : Ex) : Sl → M (Option Int) := fun ss => bnd (m ss) fun d => match d with
  | .int i => pur (some i)
  | _ => stuck
def cutD (xs : List DV) (lo hi : Option Int) : List DV := (xs.drop (HT.sIx xs.length 0 lo)).take (HT.sIx xs.length xs.length hi - HT.sIx xs.length 0 lo)
def slM (d : DV) (lo hi : Option Int) : M DV := fun st => match d with
  | .tup xs => .ok (.tup (cutD xs lo hi)) st
  | .fzl xs => alloc (.lst (cutD xs lo hi)) st
  | .ref k => match st[k]? with
    | some (.lst xs) => alloc (.lst (cutD xs lo hi)) st
    | _ => .bad
  | .str z => if z.length ≤ sizeLine then .ok (.str (cutS z lo hi)) st else .bad
  | _ => .bad
def eSl (m : Ex) (lo hi : Sl → M (Option Int)) : Ex := fun ss => bnd (m ss) fun d => bnd (lo ss) fun l => bnd (hi ss) fun h => slM d l h
abbrev rO : List Addr → Hp → Option Int → Option Int → Prop := fun _ _ a b => a = b
def RO' (X : Cx) (W : WX) (e : Option Expr) (m : Sl → M (Option Int)) : Prop := PO X e (tM X.K X.mg W rO m)
theorem RVs.cut {K : PySem.W.Frag} {ads : List Addr} {H : Hp} {xs : List DV} {vs : List V} {lo hi : Option Int} (r : RVs K ads H xs vs) : RVs K ads H (cutD xs lo hi) (cutV vs lo hi) := by
  unfold cutD cutV
  rw [r.length]
  exact (r.drop _).take _
section
variable {X : Cx} {W : WX} {a b e : Expr} {ma mb m : Ex} {pos p2 : Pos}
theorem re_ix {g : DV → DV → M DV} (hg : IxM X g) (ha : RE X W a ma) (hb : RE X W b mb) (hs : PlainIx b := by exact fun _ _ => rfl) : RE X W (.Subscript a b pos) (eOp g ma mb) := ⟨fun pins s σ H Q I h => by
  obtain ⟨ads, ss, st, R, L, p⟩ := h
  have h1 : tM X.K X.mg W (rV X.K) ma σ H _ := ⟨ads, ss, st, R, L, (post.bind (R := rV X.K) p).mono fun x H1 ⟨ads1, dx, st1, fu1, R1, r1, p1⟩ =>
    (show tM X.K X.mg W (rV X.K) mb σ H1 _ from ⟨ads1, ss, st1, R1, L.mono fu1, (post.bind (R := rV X.K) p1).mono fun y H2 ⟨ads2, dy, st2, fu2, R2, r2, p2⟩ => (show ∃ ads dx dy st, RSt X.K X.mg ads H2 st ∧ RV X.K ads H2 dx x ∧ RV X.K ads H2 dy y ∧ post X.K X.mg W (rV X.K) σ ads H2 (g dx dy st) Q from ⟨ads2, dx, dy, st2, R2, r1.mono fu2, r2, p2⟩)⟩)⟩
  exact Subscript_ (binT ha hb I h1 fun v u s2 x y H2 I2 rx ry ⟨ads, dx, dy, st, R, h1, h2, p⟩ => hg a b pins s2 σ H2 x y v u Q ads dx dy st W I2 R h1 h2 rx ry p (hs _ _))⟩
theorem ro_no : RO' X W none pNo := ⟨fun pins s σ H Q I h => po_none.run pins s σ H Q I (by
  obtain ⟨ads, ss, st, R, L, p⟩ := h
  exact p.ok R rfl)⟩
theorem ro_sm (h : RE X W e m) : RO' X W (some e) (pSm m) := ⟨fun pins s σ H Q I hq => (po_some h).run pins s σ H Q I (by
  refine (tM.bind (R := rV X.K) (f := fun _ d => match d with
    | .int i => pur (some i)
    | _ => stuck) hq).imp fun x H' ⟨ads, ss, d, st, R, L, r, p⟩ => ?_
  cases r with
  | int i => exact ⟨i, rfl, p.ok R rfl⟩
  | _ => exact (p : False).elim)⟩
theorem re_slice {lo hi : Option Expr} {ml mh : Sl → M (Option Int)} (he : RE X W e m) (hl : RO' X W lo ml) (hh : RO' X W hi mh) : RE X W (.Subscript e (.Slice lo hi none p2) pos) (eSl m ml mh) := ⟨fun pins s σ H Q I h => by
  have hr : SlR X (fun x lo hi H Q => rSlL X.K x lo hi H Q ∨ (rSlA X.K x lo hi H Q ∨ rSlS x lo hi H Q)) := sl_list.or (sl_tupA.or sl_str)
  refine (pe_slice hr he hl hh).run pins s σ H Q I ?_
  obtain ⟨ads, ss, st, R, L, p⟩ := h
  refine ⟨ads, ss, st, R, L, (post.bind (R := rV X.K) p).mono fun x H1 ⟨ads1, dx, st1, fu1, R1, r1, p1⟩ => ?_⟩
  refine ⟨ads1, ss, st1, R1, L.mono fu1, (post.bind (R := rO) p1).mono fun l H2 ⟨ads2, l', st2, fu2, R2, r2, p2⟩ => ?_⟩
  refine ⟨ads2, ss, st2, R2, (L.mono fu1).mono fu2, (post.bind (R := rO) p2).mono fun u H3 ⟨ads3, u', st3, fu3, R3, r3, p3⟩ => ?_⟩
  cases r2; cases r3
  have r1 := (r1.mono fu2).mono fu3
  cases r1 with
  | @tup a xs vs hs rs =>
    refine .inr (.inl ⟨a, vs, rfl, .of hs, fun ⟨e1, e2⟩ => ?_, fun _ q hq => post.newT R3 rs.cut p3 hq⟩)
    have e : cutD xs l u = xs := by
      unfold cutD
      rw [rs.length, e1, e2, ← rs.length]
      simp
    have p3 : post X.K X.mg W (rV X.K) σ ads3 H3 (.ok (.tup (cutD xs l u)) st3) Q := p3
    rw [e] at p3
    exact p3.ok R3 (.tup hs rs)
  | @fzl a xs vs hs rs => exact .inl ⟨a, vs, rfl, hs.sq, fun q hq => post.newL R3 rs.cut p3 hq⟩
  | @ref k a hk =>
    simp only [slM] at p3
    split at p3
    · rename_i xs e1
      obtain ⟨vs, hv, rs⟩ := R3.list hk e1
      exact .inl ⟨a, vs, rfl, .of hv, fun q hq => post.newL R3 rs.cut p3 hq⟩
    · exact p3.elim
  | str z =>
    simp only [slM] at p3
    split at p3
    · exact .inr (.inr ⟨z, rfl, by assumption, p3.ok R3 (.str _)⟩)
    · exact p3.elim
  | _ => exact (p3 : False).elim⟩
end

/-! ### built-ins -/
def lenM : List DV → M DV
  | [.tup xs] => pur (.int xs.length)
  | [.ktp xs] => pur (.int xs.length)
  | [.fzl xs] => pur (.int xs.length)
  | [.str z] => fun st => if z.length ≤ sizeLine then .ok (.int z.length) st else .bad
  | [.ref k] => fun st => match st[k]? with
    | some (.lst xs) => .ok (.int xs.length) st
    | some (.dic kvs) => .ok (.int kvs.length) st
    | _ => .bad
  | _ => stuck
def absM : List DV → M DV
  | [.int i] => pur (.int (if i < 0 then -i else i))
  | _ => stuck
def max2M : List DV → M DV
  | [.int i, .int j] => pur (.int (if j > i then j else i))
  | _ => stuck
def min2M : List DV → M DV
  | [.int i, .int j] => pur (.int (if j < i then j else i))
  | _ => stuck
def intM : List DV → M DV
  | [.int i] => pur (.int i)
  | [.bl b] => pur (.int (if b then 1 else 0))
  | _ => stuck
def listM : List DV → M DV
  | [.tup xs] => alloc (.lst xs)
  | [.fzl xs] => alloc (.lst xs)
  | [.ref k] => fun st => match st[k]? with
    | some (.lst xs) => alloc (.lst xs) st
    | _ => .bad
  | _ => stuck
def tupleM : List DV → M DV
  | [.tup xs] => pur (.tup xs)
  | [.fzl xs] => pur (.tup xs)
  | [.ref k] => fun st => match st[k]? with
    | some (.lst xs) => .ok (.tup xs) st
    | _ => .bad
  | _ => stuck
def intsD : List DV → Option (List Int)
  | [] => some []
  | .int i :: r => (intsD r).map (i :: ·)
  | _ :: _ => none
def blsD : List DV → Option (List Bool)
  | [] => some []
  | .bl i :: r => (blsD r).map (i :: ·)
  | _ :: _ => none
def itemsM (d : DV) (st : Sto) : Option (List DV) := match d with
  | .fzl xs => some xs
  | .ref k => match st[k]? with
    | some (.lst xs) => some xs
    | _ => none
  | _ => none
def allM : List DV → M DV
  | [d] => fun st => match (itemsM d st).bind blsD with
    | some bs => .ok (.bl (bs.all id)) st
    | none => .bad
  | _ => stuck
def least : List Int → Int
  | [] => 0
  | [x] => x
  | x :: r => if least r < x then least r else x
/-- of what built-in type -/
def tyD (d : DV) (st : Sto) : Option String := match d with
  | .non => some "NoneType"
  | .bl _ => some "bool"
  | .int _ => some "int"
  | .str _ => some "str"
  | .tup _ => some "tuple"
  | .ktp _ => some "tuple"
  | .fzl _ => some "list"
  | .ref k => match st[k]? with
    | some (.lst _) => some "list"
    | some (.dic _) => some "dict"
    | _ => none
  | .ty _ => none
  | .exn _ _ _ _ => none
def isTy (t n : String) : Bool := t == n || (t == "bool" && n == "int")
def knownTy (n : String) : Bool := ["int", "bool", "str", "tuple", "list", "dict"].contains n
def isiM : List DV → M DV
  | [d, .ty n] => fun st => match tyD d st with
    | some t => if knownTy n = true then .ok (.bl (isTy t n)) st else .bad
    | none => .bad
  | _ => stuck
section
variable {X : Cx}
theorem cm_len : CallM X (.builtin "len") lenM := by
  intro pins s σ H vs us Q ads as st W I R rv r h
  unfold lenM at h
  split at h
  · obtain ⟨v, rfl, hv⟩ := rv.one
    cases hv with
    | tup hs rs =>
      refine call_len_seq pins s σ H _ us Q I r ⟨_, _, rfl, .inr (.of hs), ?_⟩
      rw [← rs.length]
      exact post.ok h R (.int _)
  · obtain ⟨v, rfl, hv⟩ := rv.one
    cases hv with
    | ktp hs rs =>
      refine call_len_seq pins s σ H _ us Q I r ⟨_, _, rfl, .inr hs, ?_⟩
      rw [← rs.length]
      exact post.ok h R (.int _)
  · obtain ⟨v, rfl, hv⟩ := rv.one
    cases hv with
    | fzl hs rs =>
      refine call_len_seq pins s σ H _ us Q I r ⟨_, _, rfl, .inl hs.sq, ?_⟩
      rw [← rs.length]
      exact post.ok h R (.int _)
  · obtain ⟨v, rfl, hv⟩ := rv.one
    cases hv
    split at h
    · exact call_len_str pins s σ H _ us Q I r ⟨_, rfl, by assumption, h.ok R (.int _)⟩
    · exact h.elim
  · obtain ⟨v, rfl, hv⟩ := rv.one
    cases hv with
    | ref hk =>
      split at h
      · rename_i xs e1
        obtain ⟨ws, hw, rs⟩ := R.list hk e1
        refine call_len_seq pins s σ H _ us Q I r ⟨_, _, rfl, .inl (.of hw), ?_⟩
        rw [← rs.length]
        exact post.ok h R (.int _)
      · rename_i kvs e1
        rcases R.ob _ _ _ hk e1 with ⟨ws, hw, rs⟩ | ⟨ws, hw, rs⟩
        · refine call_lenD pins s σ H _ us Q I r ⟨_, ws, rfl, hw, ?_⟩
          rw [← Paired.length rs]
          exact post.ok h R (.int _)
        · refine call_len_dT pins s σ H _ us Q I r ⟨_, ws, rfl, hw, ?_⟩
          rw [← Paired.length rs]
          exact post.ok h R (.int _)
      · exact h.elim
  · exact (h : False).elim
theorem cm_abs : CallM X (.builtin "abs") absM := by
  intro pins s σ H vs us Q ads as st W I R rv r h
  unfold absM at h
  split at h
  · obtain ⟨v, rfl, hv⟩ := rv.one
    cases hv
    exact call_abs pins s σ H _ us Q I r ⟨_, rfl, post.ok h R (.int _)⟩
  · exact (h : False).elim
theorem cm_max2 (hc : X.calm = true) : CallM X (.builtin "max") max2M := by
  intro pins s σ H vs us Q ads as st W I R rv r h
  unfold max2M at h
  split at h
  · obtain ⟨v, v', rfl, hv, hv'⟩ := rv.two
    cases hv; cases hv'
    exact call_max2 hc pins s σ H _ us Q I r ⟨_, _, rfl, post.ok h R (.int _)⟩
  · exact (h : False).elim
theorem cm_min2 (hc : X.calm = true) : CallM X (.builtin "min") min2M := by
  intro pins s σ H vs us Q ads as st W I R rv r h
  unfold min2M at h
  split at h
  · obtain ⟨v, v', rfl, hv, hv'⟩ := rv.two
    cases hv; cases hv'
    exact call_min2 hc pins s σ H _ us Q I r ⟨_, _, rfl, post.ok h R (.int _)⟩
  · exact (h : False).elim
theorem cm_int : CallM X (.type "int") intM := by
  intro pins s σ H vs us Q ads as st W I R rv r h
  unfold intM at h
  split at h
  · obtain ⟨v, rfl, hv⟩ := rv.one
    cases hv
    exact call_int1 pins s σ H _ us Q I r (.inl ⟨_, rfl, post.ok h R (.int _)⟩)
  · obtain ⟨v, rfl, hv⟩ := rv.one
    cases hv
    exact call_int1 pins s σ H _ us Q I r (.inr ⟨_, rfl, post.ok h R (.int _)⟩)
  · exact (h : False).elim
theorem cm_list : CallM X (.type "list") listM := by
  intro pins s σ H vs us Q ads as st W I R rv r h
  unfold listM at h
  split at h
  · obtain ⟨v, rfl, hv⟩ := rv.one
    cases hv with
    | tup hs rs => exact call_list_of pins s σ H _ us Q I r ⟨_, _, rfl, .inr (.of hs), fun l hl => post.newL R rs h hl⟩
  · obtain ⟨v, rfl, hv⟩ := rv.one
    cases hv with
    | fzl hs rs => exact call_list_of pins s σ H _ us Q I r ⟨_, _, rfl, .inl hs.sq, fun l hl => post.newL R rs h hl⟩
  · obtain ⟨v, rfl, hv⟩ := rv.one
    cases hv with
    | ref hk =>
      split at h
      · rename_i xs e1
        obtain ⟨ws, hw, rs⟩ := R.list hk e1
        exact call_list_of pins s σ H _ us Q I r ⟨_, _, rfl, .inl (.of hw), fun l hl => post.newL R rs h hl⟩
      · exact h.elim
  · exact (h : False).elim
theorem cm_tuple : CallM X (.type "tuple") tupleM := by
  intro pins s σ H vs us Q ads as st W I R rv r h
  unfold tupleM at h
  split at h
  · obtain ⟨v, rfl, hv⟩ := rv.one
    cases hv with
    | tup hs rs => exact call_tuple_of pins s σ H _ us Q I r ⟨_, _, rfl, .inr ⟨.of hs, post.ok h R (.tup hs rs)⟩⟩
  · obtain ⟨v, rfl, hv⟩ := rv.one
    cases hv with
    | fzl hs rs => exact call_tuple_of pins s σ H _ us Q I r ⟨_, _, rfl, .inl ⟨hs.sq, fun l hl => post.newT R rs h hl⟩⟩
  · obtain ⟨v, rfl, hv⟩ := rv.one
    cases hv with
    | ref hk =>
      split at h
      · rename_i xs e1
        obtain ⟨ws, hw, rs⟩ := R.list hk e1
        exact call_tuple_of pins s σ H _ us Q I r ⟨_, _, rfl, .inl ⟨.of hw, fun l hl => post.newT R rs h hl⟩⟩
      · exact h.elim
  · exact (h : False).elim
theorem items_sq {K : PySem.W.Frag} {mg : Str → Option Value} {ads : List Addr} {H : Hp} {st : Sto} (R : RSt K mg ads H st) {d : DV} {v : V} {xs : List DV} (r : RV K ads H d v) (h : itemsM d st = some xs) : ∃ a vs, v = .ref a ∧ SqL K H a vs ∧ RVs K ads H xs vs := by
  cases r with
  | fzl hs rs =>
    cases h
    exact ⟨_, _, rfl, hs.sq, rs⟩
  | ref hk =>
    simp only [itemsM] at h
    split at h
    · rename_i ys e1
      cases h
      obtain ⟨ws, hw, rs⟩ := R.list hk e1
      exact ⟨_, _, rfl, .of hw, rs⟩
    · cases h
  | _ => cases h
theorem ints_vs {K : PySem.W.Frag} {ads : List Addr} {H : Hp} : ∀ {xs : List DV} {vs : List V} {ns : List Int}, RVs K ads H xs vs → intsD xs = some ns → vs = ns.map V.int
  | _, _, _, .nil, e => by cases e; rfl
  | x :: xs, v :: vs, ns, .cons h r, e => by
    cases h with
    | int i =>
      simp only [intsD] at e
      cases e1 : intsD xs with
      | none => rw [e1] at e; cases e
      | some ms =>
        rw [e1] at e
        cases e
        rw [ints_vs r e1]
        rfl
    | _ => cases e
theorem bls_vs {K : PySem.W.Frag} {ads : List Addr} {H : Hp} : ∀ {xs : List DV} {vs : List V} {ns : List Bool}, RVs K ads H xs vs → blsD xs = some ns → vs = ns.map V.bl
  | _, _, _, .nil, e => by cases e; rfl
  | x :: xs, v :: vs, ns, .cons h r, e => by
    cases h with
    | bl i =>
      simp only [blsD] at e
      cases e1 : blsD xs with
      | none => rw [e1] at e; cases e
      | some ms =>
        rw [e1] at e
        cases e
        rw [bls_vs r e1]
        rfl
    | _ => cases e
theorem items_ints {K : PySem.W.Frag} {mg : Str → Option Value} {ads : List Addr} {H : Hp} {st : Sto} (R : RSt K mg ads H st) {d : DV} {v : V} {ns : List Int} (r : RV K ads H d v) (h : (itemsM d st).bind intsD = some ns) : ∃ a, v = .ref a ∧ SqL K H a (ns.map V.int) := by
  cases e : itemsM d st with
  | none => rw [e] at h; cases h
  | some xs =>
    rw [e] at h
    obtain ⟨a, vs, h1, h2, h3⟩ := items_sq R r e
    have h4 := ints_vs h3 h
    subst h4
    exact ⟨a, h1, h2⟩
theorem items_bls {K : PySem.W.Frag} {mg : Str → Option Value} {ads : List Addr} {H : Hp} {st : Sto} (R : RSt K mg ads H st) {d : DV} {v : V} {ns : List Bool} (r : RV K ads H d v) (h : (itemsM d st).bind blsD = some ns) : ∃ a, v = .ref a ∧ SqL K H a (ns.map V.bl) := by
  cases e : itemsM d st with
  | none => rw [e] at h; cases h
  | some xs =>
    rw [e] at h
    obtain ⟨a, vs, h1, h2, h3⟩ := items_sq R r e
    have h4 := bls_vs h3 h
    subst h4
    exact ⟨a, h1, h2⟩
theorem cm_all (hc : X.calm = true) : CallM X (.builtin "all") allM := by
  intro pins s σ H vs us Q ads as st W I R rv r h
  unfold allM at h
  split at h
  · obtain ⟨v, rfl, hv⟩ := rv.one
    split at h
    · rename_i ns e
      obtain ⟨a, rfl, hs⟩ := items_bls R hv e
      exact cr_all hc pins s σ H _ us Q I r ⟨a, ns, rfl, hs, h.ok R (.bl _)⟩
    · exact h.elim
  · exact (h : False).elim
theorem tyD_tyX {K : PySem.W.Frag} {mg : Str → Option Value} {ads : List Addr} {H : Hp} {st : Sto} (R : RSt K mg ads H st) {d : DV} {v : V} {t : String} (r : RV K ads H d v) (h : tyD d st = some t) : TyX K H v (.type t) := by
  cases r with
  | non => cases h; exact .base .non
  | bl b => cases h; exact .base (.bl b)
  | int i => cases h; exact .base (.int i)
  | str x => cases h; exact .base (.str x)
  | @tup a xs vs hs rs =>
    cases h
    exact .base (.tup hs)
  | @ktp a xs vs hs rs =>
    cases h
    rcases hs with (hs | ⟨o, hs⟩) | ⟨o, its, n, hk, hc, _⟩
    · exact .base (.tup hs)
    · exact .fTuple hs
    · exact .kTuple hk hc
  | @fzl a xs vs hs rs =>
    cases h
    rcases hs with ⟨o, hs⟩ | ⟨o, its, n, hk, hc, _⟩
    · exact .base (.frz hs)
    · exact .kList hk hc
  | @ref k a hk =>
    simp only [tyD] at h
    split at h
    · rename_i xs e
      cases h
      obtain ⟨vs, hv, _⟩ := R.list hk e
      exact .base (.lst hv)
    · rename_i kvs e
      cases h
      rcases R.ob k a _ hk e with ⟨vs, hv, _⟩ | ⟨vs, hv, _⟩
      · exact .base (.dK hv)
      · exact .base (.dT hv)
    · cases h
  | ty n => cases h
  | exn0 a => cases h
  | exn1 => cases h
theorem kit_all : (["NoneType", "bool", "int", "str", "tuple", "list", "dict"].all fun t => ["int", "bool", "str", "tuple", "list", "dict"].all fun n => kitB t n == some (isTy t n)) = true := by decide +kernel
theorem tyD_mem {d : DV} {st : Sto} {t : String} (h : tyD d st = some t) : t ∈ ["NoneType", "bool", "int", "str", "tuple", "list", "dict"] := by
  unfold tyD at h
  split at h <;> first | (cases h; simp) | (split at h <;> first | (cases h; simp) | cases h) | cases h
theorem cm_isi : CallM X (.builtin "isinstance") isiM := by
  intro pins s σ H vs us Q ads as st W I R rv r h
  unfold isiM at h
  split at h
  · rename_i d n
    obtain ⟨v, v', rfl, hv, hv'⟩ := rv.two
    split at h
    · rename_i t e
      split at h
      · rename_i kn
        cases hv'
        have e2 : kitB t n = some (isTy t n) := by
          have z := List.all_eq_true.mp (List.all_eq_true.mp kit_all t (tyD_mem e)) n (by simpa [knownTy] using kn)
          exact eq_of_beq z
        exact call_isi pins s σ H _ us Q I r ⟨v, .ty n, _, _, _, rfl, .ty n, tyD_tyX R hv e, kit_ty e2, h.ok R (.bl _)⟩
      · exact h.elim
    · exact h.elim
  · exact (h : False).elim
end

/-! ### methods of built-in types -/
def MtMM (X : Cx) (T id : String) (g : DV → List DV → M DV) : Prop :=
  ∀ (pins : List (Addr × Obj)) (s : Shared) (σ : L2.St) (H : Hp) (x : V) (vs : List V) (v : Value) (us : List Value) (Q : VK) (ads : List Addr) (d : DV) (as : List DV) (st : Sto) (W : WX), Inv X pins σ H s → RSt X.K X.mg ads H st → RV X.K ads H d x → RVs X.K ads H as vs → RelV x v → Vals vs us →
    post X.K X.mg W (rV X.K) σ ads H (g d as st) Q → wpAny (model X.prog X.w) X.A (call (.builtin id) (v :: us)) (EP X pins σ Q) X.xe s
/-- o's type, ahead of the arguments -/
def isT (T : String) (d : DV) (st : Sto) : Bool := tyD d st == some T
def eMt (T : String) (g : DV → List DV → M DV) (m : Ex) (ms : List Ex) : Ex := fun ss => bnd (m ss) fun d st => if isT T d st = true then bnd (eArgs ms ss) (g d) st else .bad
theorem tyV_of {K : PySem.W.Frag} {mg : Str → Option Value} {ads : List Addr} {H : Hp} {st : Sto} (R : RSt K mg ads H st) {d : DV} {v : V} {T : String} (hT : T ≠ "tuple") (h1 : T ≠ "NoneType") (h2 : T ≠ "bool") (r : RV K ads H d v) (h : isT T d st = true) : tyV K T v H := by
  have h : tyD d st = some T := eq_of_beq h
  cases r with
  | non => cases h; exact (h1 rfl).elim
  | bl b => cases h; exact (h2 rfl).elim
  | int i => cases h; rfl
  | str x => cases h; rfl
  | tup hs rs => cases h; exact (hT rfl).elim
  | ktp hs rs => cases h; exact (hT rfl).elim
  | fzl hs rs => cases h; exact .inl ⟨rfl, _, hs.sq⟩
  | ref hk =>
    simp only [tyD] at h
    split at h
    · rename_i xs e
      cases h
      obtain ⟨vs, hv, _⟩ := R.list hk e
      exact .inl ⟨rfl, vs, .of hv⟩
    · rename_i kvs e
      cases h
      rcases R.ob _ _ _ hk e with ⟨vs, hv, _⟩ | ⟨vs, hv, _⟩
      · exact .inr (.inr (.inl ⟨rfl, .inl ⟨vs, hv⟩⟩))
      · exact .inr (.inr (.inl ⟨rfl, .inr ⟨vs, hv⟩⟩))
    · cases h
  | ty n => cases h
  | exn0 a => cases h
  | exn1 => cases h
section
variable {X : Cx} {W : WX} {o e : Expr} {es : List Expr} {m : Ex} {ms : List Ex} {name : Str} {apos cpos : Pos} {T id : String} {g : DV → List DV → M DV}
theorem re_mt (pa : PlainAttrs T) (slot : Slot T name id) (hty : typeOf (.builtin id) = pure (.type "method_descriptor")) (hm : MtMM X T id g) (hT : T ≠ "tuple" := by decide) (h1 : T ≠ "NoneType" := by decide) (h2 : T ≠ "bool" := by decide) (ho : RE X W o m) (ha : RA X W (e :: es) ms)
    (hbase : attributeBase o name X.env (eval o X.env) = eval o X.env := by rfl)
    (hfew : ((backTo cpos (starEach (e :: es) X.env)).all (fun x => !x.1) && (backToKw cpos (keywordEach [] X.env)).all (fun x => x.1.isSome)
      && decide ((e :: es).length + ([] : List Keyword).length + (if ([] : List Keyword).isEmpty then 0 else 1) < 30)) = true := by rfl)
    (hline : (apos.endLine == cpos.line) = true := by rfl) (hs : starEach (e :: es) X.env = (false, eval e X.env) :: starEach es X.env := by rfl) (hplain : (backTo cpos (starEach es X.env)).any (·.1) = false := by rfl) :
    RE X W (.Call (.Attribute o name apos) (e :: es) [] cpos) (eMt T g m ms) := ⟨fun pins s σ H Q I h => by
  refine (pe_bm (r := fun x vs H2 Q => ∃ ads d as st, RSt X.K X.mg ads H2 st ∧ RV X.K ads H2 d x ∧ RVs X.K ads H2 as vs ∧ post X.K X.mg (fun cls d _ H => W cls d σ H) (rV X.K) σ ads H2 (g d as st) Q) pa slot hty (fun pins s σ' H x vs v us Q I rx rs ⟨ads, d, as, st, R, rd, ra, p⟩ => hm pins s σ' H x vs v us Q ads d as st (fun cls d _ H => W cls d σ H) I R rd ra rx rs (p.wish fun _ _ _ z => z)) ho ha hbase hfew hline hs hplain).run pins s σ H Q I ?_
  obtain ⟨ads, ss, st, R, L, p⟩ := h
  refine ⟨ads, ss, st, R, L, (post.bind (R := rV X.K) p).mono fun x H1 ⟨ads1, d, st1, fu1, R1, r1, p1⟩ => ?_⟩
  by_cases ht : isT T d st1 = true
  case neg => rw [if_neg ht] at p1; exact p1.elim
  rw [if_pos ht] at p1
  refine ⟨tyV_of R1 hT h1 h2 r1 ht, ads1, ss, st1, R1, L.mono fu1, (post.bind (R := rVs X.K) p1).mono fun vs H2 ⟨ads2, as, st2, fu2, R2, r2, p2⟩ => ?_⟩
  exact ⟨ads2, d, as, st2, R2, r1.mono fu2, r2, p2.wish fun _ _ _ z => z⟩⟩
theorem re_mt0 (pa : PlainAttrs T) (slot : Slot T name id) (hty : typeOf (.builtin id) = pure (.type "method_descriptor")) (hm : MtMM X T id g) (hT : T ≠ "tuple" := by decide) (h1 : T ≠ "NoneType" := by decide) (h2 : T ≠ "bool" := by decide) (ho : RE X W o m)
    (hbase : attributeBase o name X.env (eval o X.env) = eval o X.env := by rfl) (hline : (apos.endLine == cpos.line) = true := by rfl) :
    RE X W (.Call (.Attribute o name apos) [] [] cpos) (eMt T g m []) := ⟨fun pins s σ H Q I h => by
  refine (pe_bm0 (r := fun x vs H2 Q => ∃ ads d as st, RSt X.K X.mg ads H2 st ∧ RV X.K ads H2 d x ∧ RVs X.K ads H2 as vs ∧ post X.K X.mg (fun cls d _ H => W cls d σ H) (rV X.K) σ ads H2 (g d as st) Q) pa slot hty (fun pins s σ' H x vs v us Q I rx rs ⟨ads, d, as, st, R, rd, ra, p⟩ => hm pins s σ' H x vs v us Q ads d as st (fun cls d _ H => W cls d σ H) I R rd ra rx rs (p.wish fun _ _ _ z => z)) ho hbase hline).run pins s σ H Q I ?_
  obtain ⟨ads, ss, st, R, L, p⟩ := h
  refine ⟨ads, ss, st, R, L, (post.bind (R := rV X.K) p).mono fun x H1 ⟨ads1, d, st1, fu1, R1, r1, p1⟩ => ?_⟩
  by_cases ht : isT T d st1 = true
  case neg => rw [if_neg ht] at p1; exact p1.elim
  rw [if_pos ht] at p1
  exact ⟨tyV_of R1 hT h1 h2 r1 ht, ads1, d, [], st1, R1, r1, .nil, p1.wish fun _ _ _ z => z⟩⟩
end

/-! ### a list's methods -/
/-- the list of a handle, changed -/
def onL (d : DV) (f : List DV → Option (DV × List DV)) : M DV := fun st => match d with
  | .ref k => match st[k]? with
    | some (.lst xs) => match f xs with
      | some (r, ys) => .ok r (st.set k (.lst ys))
      | none => .bad
    | _ => .bad
  | _ => .bad
def appendM (d : DV) (as : List DV) : M DV := match as with
  | [y] => onL d fun xs => if xs.length < sizeLine then some (.non, xs ++ [y]) else none
  | _ => stuck
def extendM (d : DV) (as : List DV) : M DV := match as with
  | [.ref l] => fun st => match st[l]? with
    | some (.lst ys) => onL d (fun xs => if xs.length + ys.length ≤ sizeLine then some (.non, xs ++ ys) else none) st
    | _ => .bad
  | _ => stuck
def popM (d : DV) (as : List DV) : M DV := match as with
  | [] => onL d fun xs => (xs[xs.length - 1]?).map fun y => (y, xs.dropLast)
  | [.int i] => onL d fun xs => if -(2 ^ 63) ≤ i ∧ i < 2 ^ 63 then (ixN xs.length i).bind fun k => (xs[k]?).map fun y => (y, xs.eraseIdx k) else none
  | _ => stuck
theorem onL_ok {K : PySem.W.Frag} {mg : Str → Option Value} {W : WX} {σ : L2.St} {ads : List Addr} {H : Hp} {st : Sto} {d : DV} {x : V} {f : List DV → Option (DV × List DV)} {Q : VK} (R : RSt K mg ads H st) (rd : RV K ads H d x) (h : post K mg W (rV K) σ ads H (onL d f st) Q) :
    ∃ l xs vs r ys, x = .ref l ∧ H l = some (.lst vs) ∧ RVs K ads H xs vs ∧ f xs = some (r, ys) ∧ ∀ ws v, RVs K ads H ys ws → (∀ H', Kp H H' → RV K ads H' r v) → Q v (upd H l (.lst ws)) := by
  cases rd with
  | @ref k a hk =>
    simp only [onL] at h
    split at h
    · rename_i xs e1
      obtain ⟨vs, hv, rs⟩ := R.list hk e1
      split at h
      · rename_i r ys e2
        refine ⟨a, xs, vs, r, ys, rfl, hv, rs, e2, fun ws v hw hr => ?_⟩
        have fu := R.write (o := .lst ws) hk
        exact h ads _ v fu (R.set hk ⟨ws, upd_same, hw.mono fu⟩) (hr _ fu.kp)
      · exact h.elim
    · exact h.elim
  | _ => exact (h : False).elim
section
variable {X : Cx}
theorem mm_append : MtMM X "list" "list.append" appendM := by
  intro pins s σ H x vs v us Q ads d as st W I R rd ra rx rs h
  unfold appendM at h
  split at h
  · obtain ⟨w, rfl, hw⟩ := ra.one
    obtain ⟨l, xs, ws, r, ys, rfl, hl, hr, hf, hq⟩ := onL_ok R rd h
    split at hf
    · cases hf
      exact mt_append pins s σ H _ _ v us Q I rx rs ⟨l, ws, w, rfl, rfl, hl, by rw [← hr.length]; assumption, hq _ _ (hr.append (.cons hw .nil)) fun _ _ => .non⟩
    · cases hf
  · exact (h : False).elim
theorem mm_extend : MtMM X "list" "list.extend" extendM := by
  intro pins s σ H x vs v us Q ads d as st W I R rd ra rx rs h
  unfold extendM at h
  split at h
  · obtain ⟨w, rfl, hw⟩ := ra.one
    cases hw with
    | ref hk =>
      split at h
      · rename_i zs e1
        obtain ⟨us', hu, hrz⟩ := R.list hk e1
        obtain ⟨l, xs, ws, r, ys, rfl, hl, hr, hf, hq⟩ := onL_ok R rd h
        split at hf
        · cases hf
          exact mt_extend pins s σ H _ _ v us Q I rx rs ⟨l, _, ws, us', rfl, rfl, hl, hu, by rw [← hr.length, ← hrz.length]; assumption, hq _ _ (hr.append hrz) fun _ _ => .non⟩
        · cases hf
      · exact h.elim
  · exact (h : False).elim
theorem mm_pop : MtMM X "list" "list.pop" popM := by
  intro pins s σ H x vs v us Q ads d as st W I R rd ra rx rs h
  unfold popM at h
  split at h
  · cases ra
    obtain ⟨l, xs, ws, r, ys, rfl, hl, hr, hf, hq⟩ := onL_ok R rd h
    cases e : xs[xs.length - 1]? with
    | none => rw [e] at hf; cases hf
    | some y =>
      rw [e] at hf
      cases hf
      obtain ⟨w, h1, h2⟩ := hr.get e
      exact mt_pop pins s σ H _ _ v us Q I rx rs ⟨l, ws, w, rfl, rfl, hl, by rw [← hr.length]; exact h1, hq _ _ hr.dropLast fun _ k => h2.mono2 (.refl _) k⟩
  · obtain ⟨w, rfl, hw⟩ := ra.one
    cases hw
    obtain ⟨l, xs, ws, r, ys, rfl, hl, hr, hf, hq⟩ := onL_ok R rd h
    split at hf
    · rename_i hi
      rename_i i
      cases e : ixN xs.length i with
      | none => rw [e] at hf; cases hf
      | some k =>
        rw [e] at hf
        cases e2 : xs[k]? with
        | none => rw [Option.bind_some, e2] at hf; cases hf
        | some y =>
          rw [Option.bind_some, e2] at hf
          cases hf
          obtain ⟨w, h1, h2⟩ := hr.get e2
          have e3 := (ixN_seq (n := ws.length) (by rw [← hr.length]; exact e)).1
          exact mt_popAt pins s σ H _ _ v us Q I rx rs ⟨l, ws, i, k, w, rfl, rfl, hl, hi.1, hi.2, e3, h1, hq _ _ (hr.eraseIdx k) fun _ kp => h2.mono2 (.refl _) kp⟩
    · cases hf
  · exact (h : False).elim
end
end ML

/-! ML7: dicts' methods, stores, augmented stores, own classes. -/
namespace ML
open PySem PySem.Spec PyProof.Rows L2
/-! ### in, for dicts too -/
noncomputable def inX (x y : DV) : M DV := fun st => match y with
  | .ref k => match st[k]? with
    | some (.dic kvs) => match kOf x with
      | some h => if kindOk kvs h = true then .ok (.bl (hGet kvs h).isSome) st else .bad
      | none => .bad
    | _ => inM x y st
  | _ => inM x y st
noncomputable def ninX (x y : DV) : M DV := fun st => match y with
  | .ref k => match st[k]? with
    | some (.dic kvs) => match kOf x with
      | some h => if kindOk kvs h = true then .ok (.bl (!(hGet kvs h).isSome)) st else .bad
      | none => .bad
    | _ => ninM x y st
  | _ => ninM x y st
theorem RelD.isSome {K : PySem.W.Frag} {ads : List Addr} {H : Hp} {a : Option DV} {b : Option V} (r : RelD K ads H a b) : a.isSome = b.isSome := by
  cases a <;> cases b <;> first | rfl | exact r.elim
section
variable {X : Cx}
theorem opm_inX (hu : X.A.units + 65 < cLine) : OpM X (compareOp .In) inX := by
  intro pins s σ H x y v u Q ads dx dy st W I R hx hy rx ry h
  unfold inX at h
  split at h
  · rename_i k
    cases hy with
    | @ref _ a hk =>
      split at h
      · rename_i kvs e1
        split at h
        · rename_i hh e2
          split at h
          · rename_i ko
            obtain ⟨H2, o, I2, R2, fu, g, ro, isd, _⟩ := dict_at I R hk e1 hx e2 ko
            cases (show u = Value.ref a from ry)
            refine d_in (by omega) I2 g rx fun s' I' => ⟨.bl o.isSome, H2, I', rfl, ?_⟩
            rw [← ro.isSome]
            exact h ads H2 _ fu R2 (.bl _)
          · exact h.elim
        · exact h.elim
      · exact opm_in hu pins s σ H x _ v u Q ads dx _ st W I R hx (.ref hk) rx ry h
  · exact opm_in hu pins s σ H x y v u Q ads dx dy st W I R hx hy rx ry h
theorem opm_ninX (hu : X.A.units + 65 < cLine) : OpM X (compareOp .NotIn) ninX := by
  intro pins s σ H x y v u Q ads dx dy st W I R hx hy rx ry h
  unfold ninX at h
  split at h
  · rename_i k
    cases hy with
    | @ref _ a hk =>
      split at h
      · rename_i kvs e1
        split at h
        · rename_i hh e2
          split at h
          · rename_i ko
            obtain ⟨H2, o, I2, R2, fu, g, ro, isd, _⟩ := dict_at I R hk e1 hx e2 ko
            cases (show u = Value.ref a from ry)
            refine d_notIn (by omega) I2 g rx fun s' I' => ⟨.bl (!o.isSome), H2, I', rfl, ?_⟩
            rw [← ro.isSome]
            exact h ads H2 _ fu R2 (.bl _)
          · exact h.elim
        · exact h.elim
      · exact opm_nin hu pins s σ H x _ v u Q ads dx _ st W I R hx (.ref hk) rx ry h
  · exact opm_nin hu pins s σ H x y v u Q ads dx dy st W I R hx hy rx ry h
end

/-! ### a dict's methods -/
def onD (d : DV) (y : DV) (f : List (HK × DV) → HK → M DV) : M DV := fun st => match d with
  | .ref k => match st[k]? with
    | some (.dic kvs) => match kOf y with
      | some h => if kindOk kvs h = true then f kvs h st else .bad
      | none => .bad
    | _ => .bad
  | _ => .bad
def dgetM (d : DV) (as : List DV) : M DV := match as with
  | [y] => onD d y fun kvs h => pur ((hGet kvs h).getD .non)
  | [y, z] => onD d y fun kvs h => pur ((hGet kvs h).getD z)
  | _ => stuck
theorem onD_at {X : Cx} {pins : List (Addr × Obj)} {σ : L2.St} {H : Hp} {s : Shared} {ads : List Addr} {st : Sto} {d y : DV} {x w : V} {W : WX} {f : List (HK × DV) → HK → M DV} {Q : VK} (I : Inv X pins σ H s) (R : RSt X.K X.mg ads H st) (rd : RV X.K ads H d x) (ry : RV X.K ads H y w) (h : post X.K X.mg W (rV X.K) σ ads H (onD d y f st) Q) :
    ∃ k a kvs hh H2 o, d = .ref k ∧ x = .ref a ∧ ads[k]? = some a ∧ st[k]? = some (.dic kvs) ∧ Inv X pins σ H2 s ∧ RSt X.K X.mg ads H2 st ∧ Fut ads H ads H2 ∧ DGet H2 a w o ∧ RelD X.K ads H2 (hGet kvs hh) o ∧ IsD H2 a ∧
      (∀ d v, kvs.length < sizeLine → RV X.K ads H2 d v → ∃ H3, DPut H2 a w v H3 ∧ Fut ads H2 ads H3 ∧ RSt X.K X.mg ads H3 (st.set k (.dic (hSet kvs hh d)))) ∧ post X.K X.mg W (rV X.K) σ ads H2 (f kvs hh st) Q := by
  unfold onD at h
  split at h
  · rename_i k
    cases rd with
    | @ref _ a hk =>
      split at h
      · rename_i kvs e1
        split at h
        · rename_i hh e2
          split at h
          · rename_i ko
            obtain ⟨H2, o, I2, R2, fu, g, ro, isd, put⟩ := dict_at I R hk e1 ry e2 ko
            exact ⟨k, a, kvs, hh, H2, o, rfl, rfl, hk, e1, I2, R2, fu, g, ro, isd, put, h.from fu⟩
          · exact h.elim
        · exact h.elim
      · exact h.elim
  · exact h.elim
theorem RelD.getD {K : PySem.W.Frag} {ads : List Addr} {H : Hp} {a : Option DV} {b : Option V} {z : DV} {y : V} (r : RelD K ads H a b) (rz : RV K ads H z y) : RV K ads H (a.getD z) (b.getD y) := by
  cases a <;> cases b <;> first | exact rz | exact r | exact r.elim
section
variable {X : Cx}
theorem mm_dget (hu : X.A.units + 1 < cLine) : MtMM X "dict" "dict.get" dgetM := by
  intro pins s σ H x vs v us Q ads d as st W I R rd ra rx rs h
  unfold dgetM at h
  split at h
  · obtain ⟨w, rfl, hw⟩ := ra.one
    obtain ⟨k, a, kvs, hh, H2, o, rfl, rfl, hk, e1, I2, R2, fu, g, ro, isd, put, p⟩ := onD_at I R rd hw h
    obtain ⟨u1, rfl, r1⟩ := vals1 rs
    cases (show v = Value.ref a from rx)
    exact d_get1 hu I2 g r1 fun w' s' I' r' => ⟨_, H2, I', r', p.ok R2 (ro.getD .non)⟩
  · obtain ⟨w, w2, rfl, hw, hw2⟩ := ra.two
    obtain ⟨k, a, kvs, hh, H2, o, rfl, rfl, hk, e1, I2, R2, fu, g, ro, isd, put, p⟩ := onD_at I R rd hw h
    obtain ⟨u1, u2, rfl, r1, r2⟩ := vals2 rs
    cases (show v = Value.ref a from rx)
    exact d_get2 hu I2 g r1 r2 fun w' s' I' r' => ⟨_, H2, I', r', p.ok R2 (ro.getD (hw2.mono fu))⟩
  · exact (h : False).elim
end

/-! ### new dicts -/
def eDic0 : Ex := fun _ => alloc (.dic [])
theorem re_dic0 {X : Cx} {W : WX} {pos : Pos} : RE X W (.Dict [] [] pos) eDic0 := ⟨fun pins s σ H Q I h => pe_dnewK.run pins s σ H Q I (by
  obtain ⟨ads, ss, st, R, L, p⟩ := h
  intro q hq
  exact p _ _ _ (Fut.alloc hq) (R.alloc hq (.inl ⟨[], upd_same, .nil⟩)) (.ref (alloc_at R)))⟩

/-! ### stores -/
def setM (o i v : DV) : M Unit := fun st => match o with
  | .ref k => match st[k]? with
    | some (.lst xs) => match i with
      | .int n => match ixN xs.length n with
        | some j => .ok () (st.set k (.lst (xs.set j v)))
        | none => .bad
      | _ => .bad
    | some (.dic kvs) => match kOf i with
      | some h => if kindOk kvs h = true ∧ kvs.length < sizeLine then .ok () (st.set k (.dic (hSet kvs h v))) else .bad
      | none => .bad
    | _ => .bad
  | _ => .bad
theorem setM_ok {X : Cx} (hu : X.A.units + 1 < cLine) {pins : List (Addr × Obj)} {s : Shared} {σ : L2.St} {H : Hp} {o i v : V} {ov iv u : Value} {ads : List Addr} {dO dI dV : DV} {st st' : Sto} {Q : Hp → Prop} (I : Inv X pins σ H s) (R : RSt X.K X.mg ads H st) (rO : RV X.K ads H dO o) (rI : RV X.K ads H dI i) (rV' : RV X.K ads H dV v)
    (r1 : RelV o ov) (r2 : RelV i iv) (r3 : RelV v u) (e : setM dO dI dV st = .ok () st') (hq : ∀ H', Fut ads H ads H' → RSt X.K X.mg ads H' st' → Q H') :
    wpAny (model X.prog X.w) X.A (setItem ov iv u) (fun _ s' => ∃ H', Inv X pins σ H' s' ∧ Q H') X.xe s := by
  unfold setM at e
  split at e
  · rename_i k
    cases rO with
    | @ref _ a hk =>
      split at e
      · rename_i xs e1
        split at e
        · rename_i n
          cases rI
          split at e
          · rename_i j ej
            cases e
            obtain ⟨vs, hv, rs⟩ := R.list hk e1
            refine set_list pins s σ H _ _ v ov iv u Q I r1 r2 r3 ⟨a, vs, n, j, rfl, rfl, hv, by rw [← rs.length]; exact ej, ?_⟩
            have fw := R.write (o := .lst (vs.set j v)) hk
            exact hq _ fw (R.set hk ⟨_, upd_same, (rs.set rV' j).mono fw⟩)
          · cases e
        · cases e
      · rename_i kvs e1
        split at e
        · rename_i h e2
          split at e
          · rename_i hc
            cases e
            obtain ⟨H2, o', I2, R2, fu, g, ro, isd, put⟩ := dict_at I R hk e1 rI e2 hc.1
            obtain ⟨H3, dp, f3, R3⟩ := put dV v hc.2 (rV'.mono fu)
            cases (show ov = Value.ref a from r1)
            exact d_setItem hu I2 dp r2 r3 fun s' I' => ⟨H3, I', hq H3 (fu.trans f3) R3⟩
          · cases e
        · cases e
      · cases e
  · cases e
def gSub (mo mi : Ex) : Tg := fun d ss => bnd (mo ss) fun o => bnd (mi ss) fun i => bnd (setM o i d) fun _ => pur ss
section
variable {X : Cx} {W : WX} {o i e : Expr} {mo mi me : Ex} {pos tpos : Pos}
theorem okP {A B : Type} {K : PySem.W.Frag} {mg : Str → Option Value} {R : List Addr → Hp → A → B → Prop} {m : Sl → M A} {σ : L2.St} {ads : List Addr} {H : Hp} {ss : Sl} {st st' : Sto} {a : A} {Q : B → Hp → Prop} (Rs : RSt K mg ads H st) (L : RSl K ads H ss σ) (e : m ss st = .ok a st')
    (hq : ∀ ads' H' b, Fut ads H ads' H' → RSt K mg ads' H' st' → R ads' H' a b → Q b H') : tM K mg W R m σ H Q := ⟨ads, ss, st, Rs, L, by rw [e]; exact hq⟩
theorem rg_sub (hu : X.A.units + 1 < cLine) (ho : RE X W o mo) (hi : RE X W i mi)
    (ha : ∀ v, assign (.Subscript o i pos) X.env v = (do
      let ov ← holding [v] (eval o X.env)
      let iv ← holding [v, ov] (eval i X.env)
      standAt pos
      holding [v, ov, iv] (setItem ov iv v)
      release [v, ov, iv] []) := by intro _; rfl) : RG X (.Subscript o i pos) (gSub mo mi) := by
  refine ⟨fun pins s σ H v u Q I r h => ?_⟩
  obtain ⟨ads, ss, d, st, R, L, rv, p⟩ := h
  cases e : gSub mo mi d ss st with
  | exc _ _ => rw [e] at p; exact p.elim
  | bad => rw [e] at p; exact p.elim
  | ok ss' st' =>
  rw [e] at p
  obtain ⟨dO, st1, e1, e⟩ := bnd_ok e
  obtain ⟨dI, st2, e2, e⟩ := bnd_ok e
  obtain ⟨un, st3, e3, e⟩ := bnd_ok e
  cases e
  rw [ha]
  refine wpAny_bind (wpAny_holding (thn (ho.run pins s σ H _ I (okP (Q := fun x H1 => ∃ ads1, Fut ads H ads1 H1 ∧ RSt X.K X.mg ads1 H1 st1 ∧ RV X.K ads1 H1 dO x) R L e1 fun ads1 H1 b f1 R1 r1 => ⟨ads1, f1, R1, r1⟩)) fun ov s1 ⟨x, H1, I1, r1, ads1, f1, R1, rO⟩ => ?_))
  refine wpAny_bind (wpAny_holding (thn (hi.run pins s1 σ H1 _ I1 (okP (Q := fun x H2 => ∃ ads2, Fut ads1 H1 ads2 H2 ∧ RSt X.K X.mg ads2 H2 st2 ∧ RV X.K ads2 H2 dI x) R1 (L.mono f1) e2 fun ads2 H2 b f2 R2 r2 => ⟨ads2, f2, R2, r2⟩)) fun iv s2 ⟨y, H2, I2, r2, ads2, f2, R2, rI⟩ => ?_))
  refine wpAny_bind (wpAny_standAt (wpAny_bind (wpAny_holding (thn (setM_ok hu I2 R2 (rO.mono f2) rI (rv.mono (f1.trans f2)) r1 r2 r e3 (Q := Q σ) fun H' f3 R3 => p ads2 H' σ ((f1.trans f2).trans f3) R3 (L.mono ((f1.trans f2).trans f3))) fun _ s3 ⟨H3, I3, q3⟩ => ?_))))
  exact wpAny_release ⟨σ, H3, I3, q3⟩
end

/-! ### augmented stores -/
def iaddM : DV → DV → M DV
  | .int i, .int j => pur (.int (i + j))
  | .str a, .str b => fun st => if a.length + b.length ≤ sizeLine then .ok (.str (a ++ b)) st else .bad
  | _, _ => stuck
section
variable {X : Cx} {W : WX} {e : Expr} {me : Ex} {pos : Pos}
def sAug (i : Nat) (g : DV → DV → M DV) (m : Ex) : Stt := fun ss => lft ss (eVar i ss) fun x => lft ss (m ss) fun y => lft ss (g x y) fun z => pur (.nx (ss.set i (some z)))
end

/-! ### own classes -/
/-- the facts of a class's attribute -/
def KF (K : PySem.W.Frag) (mg : Str → Option Value) (c f : Str) : Prop := ∀ C, mg c = some (.ref C) → Cls K C ∧ NoAttr K C f
def eFld (c : Str) (lay : List Str) (i : Nat) (m : Ex) : Ex := fun ss => bnd (m ss) fun d st => match d with
  | .ref k => match st[k]? with
    | some (.ins c' lay' vs) => if c' = c ∧ lay' = lay then optD vs[i]? st else .bad
    | _ => .bad
  | _ => .bad
def putI (i : Nat) (v : DV) (vs : List DV) : Option (List DV) := if i < vs.length then some (vs.set i v) else if i = vs.length then some (vs ++ [v]) else none
def sFld (c : Str) (lay : List Str) (i : Nat) (mo mv : Ex) : Stt := fun ss => lft ss (mv ss) fun v => lft ss (mo ss) fun d st => match d with
  | .ref k => match st[k]? with
    | some (.ins c' lay' vs) => if c' = c ∧ lay' = lay then match putI i v vs with
      | some ws => .ok (.nx ss) (st.set k (.ins c lay ws))
      | none => .bad
    else .bad
    | _ => .bad
  | _ => .bad
theorem zip_at {K : PySem.W.Frag} {ads : List Addr} {H : Hp} {f : Str} {d : DV} : ∀ {lay : List Str} {xs : List DV} {vs : List (Str × V)} {i : Nat}, lay.Nodup → lay[i]? = some f → xs[i]? = some d → RFs K ads H (lay.zip xs) vs → ∃ v, vs.lookup f = some v ∧ RV K ads H d v
  | [], _, _, _, _, h, _, _ => by simp at h
  | _ :: _, [], _, _, _, _, h, _ => by simp at h
  | g :: lay, x :: xs, (g', w) :: vs, 0, nd, h1, h2, .cons q r => by
    obtain ⟨q1, q2⟩ := q
    have q1 : g = g' := q1
    subst q1
    simp at h1 h2
    subst h1 h2
    exact ⟨w, by rw [List.lookup_cons, beq_self_eq_true], q2⟩
  | g :: lay, x :: xs, (g', w) :: vs, i + 1, nd, h1, h2, .cons q r => by
    obtain ⟨q1, q2⟩ := q
    have q1 : g = g' := q1
    subst q1
    have nd' := List.nodup_cons.mp nd
    have h1 : lay[i]? = some f := by simpa using h1
    obtain ⟨v, e, rv⟩ := zip_at nd'.2 h1 (show xs[i]? = some d by simpa using h2) r
    have ne : ¬ f = g := fun z => nd'.1 (z ▸ List.mem_of_getElem? h1)
    exact ⟨v, by rw [List.lookup_cons, beq_false_of_ne ne]; exact e, rv⟩
theorem zip_none {K : PySem.W.Frag} {ads : List Addr} {H : Hp} {f : Str} : ∀ {lay : List Str} {xs : List DV} {vs : List (Str × V)}, f ∉ lay → RFs K ads H (lay.zip xs) vs → vs.lookup f = none
  | [], _, _, _, .nil => rfl
  | _ :: _, [], _, _, .nil => rfl
  | g :: lay, x :: xs, (g', w) :: vs, h, .cons q r => by
    obtain ⟨q1, q2⟩ := q
    have q1 : g = g' := q1
    subst q1
    rw [List.mem_cons, not_or] at h
    rw [List.lookup_cons, beq_false_of_ne h.1]
    exact zip_none h.2 r
theorem zip_put {K : PySem.W.Frag} {ads : List Addr} {H : Hp} {f : Str} {d : DV} {v : V} (rv : RV K ads H d v) : ∀ {lay : List Str} {xs : List DV} {vs : List (Str × V)} {i : Nat}, lay.Nodup → lay[i]? = some f → i < xs.length → RFs K ads H (lay.zip xs) vs → RFs K ads H (lay.zip (xs.set i d)) (putF f v vs)
  | [], _, _, _, _, h, _, _ => by simp at h
  | _ :: _, [], _, _, _, _, h, _ => by simp at h
  | g :: lay, x :: xs, (g', w) :: vs, 0, nd, h1, _, .cons q r => by
    obtain ⟨q1, q2⟩ := q
    have q1 : g = g' := q1
    subst q1
    simp at h1
    subst h1
    show RFs K ads H ((g, d) :: lay.zip xs) (if g = g then (g, v) :: vs else (g, w) :: putF g v vs)
    rw [if_pos rfl]
    exact .cons ⟨rfl, rv⟩ r
  | g :: lay, x :: xs, (g', w) :: vs, i + 1, nd, h1, hi, .cons q r => by
    obtain ⟨q1, q2⟩ := q
    have q1 : g = g' := q1
    subst q1
    have nd' := List.nodup_cons.mp nd
    have h1 : lay[i]? = some f := by simpa using h1
    have ne : ¬ g = f := fun z => nd'.1 (z ▸ List.mem_of_getElem? h1)
    show RFs K ads H ((g, x) :: lay.zip (xs.set i d)) (if g = f then (g, v) :: vs else (g, w) :: putF f v vs)
    rw [if_neg ne]
    exact .cons ⟨rfl, q2⟩ (zip_put rv nd'.2 h1 (by simpa using hi) r)
theorem zip_app {K : PySem.W.Frag} {ads : List Addr} {H : Hp} {f : Str} {d : DV} {v : V} (rv : RV K ads H d v) : ∀ {lay : List Str} {xs : List DV} {vs : List (Str × V)}, lay.Nodup → lay[xs.length]? = some f → RFs K ads H (lay.zip xs) vs → RFs K ads H (lay.zip (xs ++ [d])) (putF f v vs)
  | [], _, _, _, h, _ => by simp at h
  | g :: lay, [], [], nd, h, .nil => by
    simp at h
    subst h
    exact .cons ⟨rfl, rv⟩ (by cases lay <;> exact .nil)
  | g :: lay, x :: xs, (g', w) :: vs, nd, h1, .cons q r => by
    obtain ⟨q1, q2⟩ := q
    have q1 : g = g' := q1
    subst q1
    have nd' := List.nodup_cons.mp nd
    have h1 : lay[xs.length]? = some f := by simpa using h1
    have ne : ¬ g = f := fun z => nd'.1 (z ▸ List.mem_of_getElem? h1)
    show RFs K ads H ((g, x) :: lay.zip (xs ++ [d])) (if g = f then (g, v) :: vs else (g, w) :: putF f v vs)
    rw [if_neg ne]
    exact .cons ⟨rfl, q2⟩ (zip_app rv nd'.2 h1 r)
section
variable {X : Cx} {W : WX} {o e : Expr} {mo me : Ex} {c f : Str} {lay : List Str} {i : Nat} {pos pos' : Pos}
theorem re_fld (he : RE X W o mo) (kf : KF X.K X.mg c f) (hnd : lay.Nodup) (hi : lay[i]? = some f) (hb : attributeBase o f X.env (eval o X.env) = eval o X.env := by rfl) : RE X W (.Attribute o f pos) (eFld c lay i mo) := ⟨fun pins s σ H Q I h => (pe_fld he hb).run pins s σ H Q I (by
  refine (tM.bind (R := rV X.K) h).imp fun x H' ⟨ads, ss, d, st, R, L, r, p⟩ => ?_
  cases r with
  | @ref k a hk =>
    simp only at p
    split at p
    · rename_i c' lay' xs e1
      by_cases hc : c' = c ∧ lay' = lay
      case neg => rw [if_neg hc] at p; exact p.elim
      rw [if_pos hc] at p
      obtain ⟨rfl, rfl⟩ := hc
      obtain ⟨dv, e2, p⟩ := optD_ok p
      obtain ⟨C, dx, vs, h0, h1, hl, h2⟩ := R.ob k a _ hk e1
      obtain ⟨w, e3, rw'⟩ := zip_at hnd hi e2 h2
      obtain ⟨k1, k2⟩ := kf C h0
      exact ⟨a, C, dx, vs, w, rfl, h1, k1, k2, e3, p.ok R rw'⟩
    · exact p.elim
  | _ => exact (p : False).elim)⟩
theorem rs_fld (ho : RE X W o mo) (he : RE X W e me) (kf : KF X.K X.mg c f) (hnd : lay.Nodup) (hi : lay[i]? = some f) (hll : lay.length < 1000) (hs : swapsWith e (some (.Attribute o f pos')) pos.line X.env = pure false := by rfl) : RS X W (.Assign [.Attribute o f pos'] e pos) (sFld c lay i mo me) := ⟨fun pins s σ H D I h => (ps_fld ho he hs).run pins s σ H D I (by
  obtain ⟨ads, ss, st, R, L, p⟩ := h
  refine ⟨ads, ss, st, R, L, (postS.lft (R := rV X.K) L p).mono fun v H1 ⟨ads1, dv, st1, f1, R1, rv, p1⟩ => ?_⟩
  refine ⟨ads1, ss, st1, R1, L.mono f1, (postS.lft (R := rV X.K) (L.mono f1) p1).mono fun x H2 ⟨ads2, d, st2, f2, R2, r, p2⟩ => ?_⟩
  cases r with
  | @ref k a hk =>
    simp only at p2
    split at p2
    · rename_i c' lay' xs e1
      by_cases hc : c' = c ∧ lay' = lay
      case neg => rw [if_neg hc] at p2; exact p2.elim
      rw [if_pos hc] at p2
      obtain ⟨rfl, rfl⟩ := hc
      obtain ⟨C, dx, vs, h0, h1, hl, h2⟩ := R2.ob k a _ hk e1
      obtain ⟨k1, k2⟩ := kf C h0
      have lvs : vs.length ≤ lay'.length := by rw [← RFs.length h2, List.length_zip]; omega
      refine ⟨a, C, dx, vs, rfl, h1, k1, k2, by omega, ?_⟩
      split at p2
      · rename_i ws e2
        have fw := R2.write (o := .ins C dx (putF f v vs)) hk
        refine p2 ads2 _ σ fw (R2.set hk ⟨C, dx, _, h0, upd_same, ?_⟩) (((L.mono f1).mono f2).mono fw)
        have h2' := h2.mono fw
        have rv' := (rv.mono f2).mono fw
        unfold putI at e2
        split at e2
        · cases e2
          exact ⟨by rw [List.length_set]; exact hl, zip_put rv' hnd hi (by assumption) h2'⟩
        · split at e2
          · rename_i hn
            cases e2
            have hi' : lay'[xs.length]? = some f := by rw [← hn]; exact hi
            exact ⟨by have := (List.getElem?_eq_some_iff.mp hi').1; rw [List.length_append, List.length_singleton]; omega, zip_app rv' hnd hi' h2'⟩
          · cases e2
      · exact p2.elim
    · exact p2.elim
  | _ => exact (p2 : False).elim)⟩
end
def isIns (c : Str) (lay : List Str) (d : DV) (st : Sto) : Prop := match d with
  | .ref k => match st[k]? with
    | some (.ins c' lay' _) => c' = c ∧ lay' = lay
    | _ => False
  | _ => False
open Classical in
noncomputable def eMeth (c : Str) (lay : List Str) (f : List DV → M DV) (mo : Ex) (ms : List Ex) : Ex := fun ss => bnd (mo ss) fun o st => if isIns c lay o st then bnd (eArgs ms ss) (fun as => f (o :: as)) st else .bad
/-- a method of a class -/
def KM (K : PySem.W.Frag) (mg : Str → Option Value) (c m : Str) (g : Addr) : Prop := ∀ C, mg c = some (.ref C) → Cls K C ∧ Meth K C m g
theorem isIns_at {K : PySem.W.Frag} {mg : Str → Option Value} {ads : List Addr} {H : Hp} {st : Sto} {c : Str} {lay : List Str} {d : DV} {v : V} (R : RSt K mg ads H st) (r : RV K ads H d v) (h : isIns c lay d st) : ∃ a C dx fs xs, v = .ref a ∧ mg c = some (.ref C) ∧ H a = some (.ins C dx fs) ∧ RFs K ads H (lay.zip xs) fs := by
  unfold isIns at h
  split at h
  · rename_i k
    cases r with
    | @ref _ a hk =>
      split at h
      · rename_i c' lay' xs e1
        obtain ⟨rfl, rfl⟩ := h
        obtain ⟨C, dx, vs, h0, h1, hl, h2⟩ := R.ob k a _ hk e1
        exact ⟨a, C, dx, vs, xs, rfl, h0, h1, h2⟩
      · exact h.elim
  · exact h.elim
section
variable {X : Cx} {W : WX} {k : Nat} {f C : Addr} {fd : FuncData} {ps : List Str} {x m c : Str} {lay : List Str} {p pos apos : Pos} {e o : Expr} {es : List Expr} {g : List DV → M DV} {ms : List Ex} {mo : Ex}
theorem re_meth {pl : Sem Bool} (ho : RE X W o mo) (km : KM X.K X.mg c m f) (hml : m ∉ lay) (F : FnOk X.prog X.w X.K X.mg X.base (L2N.CX X.prog X.w) k f fd ps (spM X.K X.mg g)) (hr : Room k X.A) (hb : Binds X.K fd ps []) (tk : L2N.Takes X W) (ha : RA X W (e :: es) ms)
    (hst : starEach (e :: es) X.env = (false, eval e X.env) :: starEach es X.env := by rfl) (hpl : (backTo pos (starEach es X.env)).any (·.1) = false := by rfl)
    (ht : eval (.Call (.Attribute o m apos) (e :: es) [] pos) X.env = (do
      let ov ← eval o X.env
      standAt apos.atName
      let (f, first) ← holding [ov] (getMethod ov m pl)
      callWith pos f first (backTo pos (starEach (e :: es) X.env)) (backToKw pos (keywordEach [] X.env))) := by rfl) :
    RE X W (.Call (.Attribute o m apos) (e :: es) [] pos) (eMeth c lay g mo ms) := by
  refine ⟨fun pins s σ H Q I h => ?_⟩
  obtain ⟨ads, ss, st, R, L, q⟩ := h
  have h1 : tM X.K X.mg W (rV X.K) mo σ H _ := ⟨ads, ss, st, R, L, post.bind q⟩
  refine PySem.W.methodCall_KW (pl := pl) (thn (ho.run pins s σ H _ I h1) fun u s1 ⟨v, H1, I1, rx, ads1, d, st1, f1, R1, rv, q1⟩ => ?_) ht
  by_cases hi : isIns c lay d st1
  case neg => rw [if_neg hi] at q1; exact q1.elim
  rw [if_pos hi] at q1
  obtain ⟨a, C, dx, fs, xs, rfl, h0, ea, rf⟩ := isIns_at R1 rv hi
  obtain ⟨cl, hm⟩ := km C h0
  obtain rfl : u = Value.ref a := rx
  refine getmeth_ok I1 ea cl hm (zip_none hml rf) ?_
  have h2 : tM X.K X.mg W (rVs X.K) (eArgs ms) σ H1 _ := ⟨ads1, ss, st1, R1, L.mono f1, post.bind q1⟩
  refine PySem.W.callWith_K (first := [.ref a]) (h₀ := X.base) I.ok.mod.kin hm.kp (thn (ha.run pos pins s1 σ H1 _ I1 h2) fun us s2 ⟨vs, H2, I2, r, ads2, as, st2, f2, R2, ra, q2⟩ => ⟨I2.kIn, ?_⟩) hst hpl
  exact run_M (us := .ref a :: us) (vs := .ref a :: vs) F hr hb tk I2 (.cons rfl r) R2 (.cons (rv.mono f2) ra) q2
/-- C(..) -/
def mkM (c : Str) (lay : List Str) (init : List DV → M DV) (as : List DV) : M DV := fun st => match init (.ref st.length :: as) (st ++ [.ins c lay []]) with
  | .ok .non st' => .ok (.ref st.length) st'
  | .exc e st' => .exc e st'
  | _ => .bad
theorem run_mk {pins : List (Addr × Obj)} {σ : L2.St} {H : Hp} {s : Shared} {Q : VK} {us : List Value} {vs : List V} (hc : X.mg c = some (.ref C)) (M : Mk X.K C f) (F : FnOk X.prog X.w X.K X.mg X.base (L2N.CX X.prog X.w) k f fd ps (spM X.K X.mg g)) (hr : Room (k + 1) X.A) (hb : Binds X.K fd ps []) (tk : L2N.Takes X W)
    (I : Inv X pins σ H s) (r : Vals vs us) {ads : List Addr} {as : List DV} {st : Sto} (R : RSt X.K X.mg ads H st) (rv : RVs X.K ads H as vs) (h : post X.K X.mg W (rV X.K) σ ads H (mkM c lay g as st) Q) : wpAny (model X.prog X.w) X.A (call (.ref C) us) (EP X pins σ Q) X.xe s := by
  have n1 : H (s.heap.objs.size + 1) = none := I.hok.fresh (Nat.le_succ _)
  have n2 : H s.heap.objs.size = none := I.hok.fresh (Nat.le_refl _)
  have I2 := Inv.made (C := C) I
  have fa : Fut ads H (ads ++ [s.heap.objs.size + 1]) (upd (upd H s.heap.objs.size (.own (s.heap.objs.size + 1))) (s.heap.objs.size + 1) (.ins C s.heap.objs.size [])) := by
    have g1 : Fut ads H ads (upd H s.heap.objs.size (.own (s.heap.objs.size + 1))) := .newU n2
    refine g1.trans (.alloc ?_)
    rw [upd_ne (Nat.succ_ne_self _)]
    exact n1
  have R2 : RSt X.K X.mg (ads ++ [s.heap.objs.size + 1]) (upd (upd H s.heap.objs.size (.own (s.heap.objs.size + 1))) (s.heap.objs.size + 1) (.ins C s.heap.objs.size [])) (st ++ [.ins c lay []]) := by
    refine (R.newU n2).alloc (by rw [upd_ne (Nat.succ_ne_self _)]; exact n1) ⟨C, s.heap.objs.size, [], hc, upd_same, Nat.zero_le _, ?_⟩
    rw [List.zip_nil_right]
    exact .nil
  have r2 : Vals (V.ref (s.heap.objs.size + 1) :: vs) (Value.ref (s.heap.objs.size + 1) :: us) := .cons rfl r
  have hsp : spM X.K X.mg g (V.ref (s.heap.objs.size + 1) :: vs) (upd (upd H s.heap.objs.size (.own (s.heap.objs.size + 1))) (s.heap.objs.size + 1) (.ins C s.heap.objs.size [])) (fun v H2 => v = .non ∧ Q (.ref (s.heap.objs.size + 1)) H2) (WE W σ) := by
    refine ⟨_, .ref st.length :: as, _, R2, .cons (.ref (alloc_at R)) (rv.mono fa), ?_⟩
    unfold mkM at h
    cases eg : g (.ref st.length :: as) (st ++ [.ins c lay []]) with
    | ok d st' =>
      rw [eg] at h
      cases d with
      | non =>
        intro ads' H' b fu R' rb
        cases rb
        exact ⟨rfl, h ads' H' _ (fa.trans fu) R' (.ref (Ext.get fu.pre (alloc_at R)))⟩
      | _ => exact (h : False).elim
    | exc x st' =>
      rw [eg] at h
      exact fun ads' H' cl d fu R' rx => h ads' H' cl d (fa.trans fu) R' rx
    | bad => rw [eg] at h; exact h
  have hl : (Value.ref (s.heap.objs.size + 1) :: us).length = ps.length := by
    have e := r2.length
    rw [F.len _ _ _ _ hsp] at e
    exact e.symm
  have bb := hb _ (Value.ref (s.heap.objs.size + 1) :: us) I2.kIn (by rw [List.append_nil]; exact hl)
  rw [List.append_nil] at bb
  refine wpAny_call (make_map (f := f) I.kIn M.makes M.init (beq_iff_eq.mp M.fn) (codeAny_mono (F.run _ X.stack _ _ ⟨Value.ref (s.heap.objs.size + 1) :: us, []⟩ (Value.ref (s.heap.objs.size + 1) :: us) _ _ (WE W σ) (hr.make C us [])
    (I2.env0.make C us []) bb r2 hsp) fun r s' hq' => ?_))
  cases r with
  | error e => exact L2N.passAt tk σ pins _ _ e s' I2 hq'
  | ok fl =>
    cases fl with
    | ret u =>
      obtain ⟨v, H', I3, rv, ev, q3⟩ := I2.after hq'
      subst ev
      exact ⟨rv, ⟨V.ref (s.heap.objs.size + 1), H', I3, rfl, q3⟩⟩
    | next => exact False.elim hq'
    | brk => exact False.elim hq'
    | cont => exact False.elim hq'
theorem re_make (M : Mk X.K C f) (F : FnOk X.prog X.w X.K X.mg X.base (L2N.CX X.prog X.w) k f fd ps (spM X.K X.mg g)) (hr : Room (k + 1) X.A) (hg : Gl X c) (hm : X.mg c = some (.ref C)) (hb : Binds X.K fd ps []) (tk : L2N.Takes X W)
    (ha : RA X W (e :: es) ms) (hdb : (c == ("__debug__" : Str)) = false := by decide) (he : starEach (e :: es) X.env = (false, eval e X.env) :: starEach es X.env := by rfl) (hpl : (backTo pos (starEach es X.env)).any (·.1) = false := by rfl) :
    RE X W (.Call (.Name c p) (e :: es) [] pos) (eCall (mkM c lay g) ms) := by
  refine ⟨fun pins s σ H Q I h => ?_⟩
  obtain ⟨ads, ss, st, R, L, q⟩ := h
  have h1 : tM X.K X.mg W (rVs X.K) (eArgs ms) σ H _ := ⟨ads, ss, st, R, L, post.bind q⟩
  refine wpAny_Call_Name_kw (ld_glob I hg hm ?_ hdb)
  refine PySem.W.callWith_K (h₀ := X.base) I.ok.mod.kin M.kp (thn (ha.run pos pins s σ H _ I h1) fun us s1 ⟨vs, H1, I1, r, ads1, as, st1, f1, R1, rv, q1⟩ => ⟨I1.kIn, ?_⟩) he hpl
  exact run_mk hm M F hr hb tk I1 r R1 rv q1
end
end ML

/-! ML8: the law's end. -/
namespace ML
open PySem PySem.Spec PyProof.Rows L2
theorem hu1 {A : Around} {k : Nat} (hr : Room k A) : A.units + 1 < cLine := hu_of hr
theorem hu64 {A : Around} {k : Nat} (hr : Room k A) : A.units + 64 < cLine := hr.units
theorem hu65 {A : Around} {k : Nat} (hr : Room k A) : A.units + 65 < cLine := by have := hr.un; omega
/-- the law's promise -/
def spL (K : PySem.W.Frag) (n : Nat) : Sp := fun vs H Q _ => ∃ (a : Addr) (ns : List Int), vs = [.ref a] ∧ ns.length ≤ n ∧ Only H ∧ SqL K H a (ns.map V.int) ∧ ∀ H', Q (.bl true) H'
theorem rvs_ints {K : PySem.W.Frag} {ads : List Addr} {H : Hp} : ∀ ns : List Int, RVs K ads H (ns.map DV.int) (ns.map V.int)
  | [] => .nil
  | n :: ns => .cons (.int n) (rvs_ints ns)
theorem law_ok {P : Program} {w : World} {K : PySem.W.Frag} {mg : Str → Option Value} {base : Heap} {k n : Nat} {f : Addr} {fd : FuncData} {ps : List Str} {g : List DV → M DV} (F : FnOk P w K mg base (L2N.CX P w) k f fd ps (spM K mg g))
    (hg : ∀ ns : List Int, ns.length ≤ n → ∃ st, g [.fzl (ns.map DV.int)] [] = .ok (.bl true) st) : FnOk P w K mg base (L2N.CX P w) k f fd ps (spL K n) := by
  refine F.imp fun vs H Q E ⟨a, ns, e, hl, ho, hs, hq⟩ => ?_
  subst e
  obtain ⟨st, e⟩ := hg ns hl
  have fz : FzL K H a (ns.map V.int) := by
    rcases hs with (h | ⟨o, h⟩) | h
    · rcases ho a with h' | ⟨o, xs, h'⟩
      · rw [h] at h'; cases h'
      · rw [h] at h'; cases h'
    · exact .inl ⟨o, h⟩
    · exact .inr h
  refine ⟨[], [.fzl (ns.map DV.int)], [], .nil, .cons (.fzl fz (rvs_ints ns)) .nil, ?_⟩
  rw [e]
  intro ads' H' b _ _ r
  cases r
  exact hq H'
theorem cx_none {P : Program} {w : World} {H : Hp} {s : Shared} {e : Value} {s' : Shared} (h : L2N.CX P w [] H s (fun _ _ _ => False) e s') : False := by
  obtain ⟨_, _, _, _, _, _, _, _, _, _, _, _, z⟩ := h
  exact z
end ML

/-! ML9: lists taken apart by targets; enumerate, zip. -/
namespace ML
open PySem PySem.Spec PyProof.Rows L2
section
open Sem (wp)
variable {prog : Program} {w : World} {A : Around} {E : Value → Shared → Prop} {s : Shared}
theorem draw_list {it l : Addr} {items : Array Value} (hne : l ≠ it) : ∀ (n i : Nat) (s : Shared) (Q : List Value → Shared → Prop), s.heap.IsListIter it l i → s.heap.IsList l items → i + n ≤ items.size →
    (∀ h', h'.IsListIter it l (i + n) → Heap.SameBut it s.heap h' → Q ((items.toList.drop i).take n) { s with heap := h' }) → wpAny (model prog w) A (draw (.ref it) n) Q E s
  | 0, i, s, Q, hit, _, _, hQ => by
    show wpAny _ _ (pure []) Q E s
    exact wpAny_pure (by simpa using hQ s.heap hit (Heap.SameBut.refl ..))
  | n + 1, i, s, Q, hit, ht, hle, hQ => by
    have hlt : i < items.size := by omega
    show wpAny _ _ (pyNext (.ref it) >>= _) Q E s
    refine wpAny_bind (wpAny_pyNext_list_item hit ht (x := items[i]) (by simp [hlt]) fun h₁ hit₁ hs₁ => ?_)
    refine wpAny_bind (wpAny_holding (draw_list hne n (i + 1) _ _ hit₁ (ht.extBut hs₁.extBut hne) (by omega) fun h₂ hit₂ hs₂ => wpAny_pure ?_))
    have hd : items.toList.drop i = items[i] :: items.toList.drop (i + 1) := by simp [List.drop_eq_getElem_cons, hlt]
    have := hQ h₂ (by rw [show i + (n + 1) = i + 1 + n by omega]; exact hit₂) (hs₁.trans hs₂)
    rw [hd, List.take_succ_cons] at this
    exact this
theorem unpackItems_list {l : Addr} {items : Array Value} {Q : List Value → Shared → Prop} (hh : A.handled = none) (ht : s.heap.IsList l items)
    (hQ : ∀ h', Heap.ExtBut s.heap.objs.size s.heap h' → Q items.toList { s with heap := h' }) : wpAny (model prog w) A (unpackItems (.ref l) items.size none) Q E s := by
  have hlt : l ≠ s.heap.objs.size := by obtain ⟨o, ho, _⟩ := ht; exact Nat.ne_of_lt (Heap.lt_size ho)
  unfold unpackItems
  refine wpAny_bind ?_
  · unfold notIterableAtAll
    refine wpAny_bind (wpAny_specialOf ht.typeIs slot_list_iter.lookup ?_)
    refine wpAny_pure ?_
    simp only [Bool.false_eq_true, if_false]
    refine wpAny_bind (wpAny_holding (wpAny_pyIter_list ht ?_))
    refine wpAny_bind (wpAny_holding (draw_list hlt items.size 0 _ _ ⟨_, Heap.get?_push_size _ rfl, rfl, rfl⟩ (ht.push _) (by omega) fun h₁ hit₁ hs₁ => ?_))
    have hall : List.take items.size (List.drop 0 items.toList) = items.toList := by
      rw [List.drop_zero]; exact List.take_of_length_le (by simp)
    rw [hall]
    rw [if_neg (by simp)]
    have ht₁ : h₁.IsList l items := (ht.push _).extBut hs₁.extBut hlt
    refine wpAny_bind (wpAny_holding (wpAny_pyNext_list_end hh hit₁ ht₁ (by simp) fun h₂ he₂ => ?_))
    simp only [Option.isSome_none, Bool.false_eq_true, if_false]
    refine wpAny_pure (hQ h₂ fun b o hb e => he₂ b o hb (hs₁.extBut b o hb (Heap.get?_push_of_some _ e)))
theorem assign_Tuple_list {env : Env} {elts : List Expr} {x1} {pos : Pos} {l : Addr} {items : Array Value} {Q : Unit → Shared → Prop} (hh : A.handled = none) (ht : s.heap.IsList l items)
    (hn : (assignEach elts env).length = items.size) (hstar : (assignEach elts env).findIdx? (·.1) = none)
    (h : ∀ h', Heap.ExtBut s.heap.objs.size s.heap h' → wpAny (model prog w) A (assignInOrder ((assignEach elts env).map (·.2)) items.toList) Q E { s with heap := h' }) :
    wpAny (model prog w) A (assign (.Tuple elts x1 pos) env (.ref l)) Q E s := by
  rw [assign_Tuple]
  refine wpAny_bind (wpAny_standAt ?_)
  unfold unpack
  rw [hn, hstar]
  exact wpAny_bind (wpAny_holding (unpackItems_list hh ht h))
end
/-- a tuple's or a list's items to names -/
def gTpL (is : List Nat) : Tg := fun d ss st => match d with
  | .tup xs => if xs.length = is.length then .ok (setAll is xs ss) st else .bad
  | .ktp xs => if xs.length = is.length then .ok (setAll is xs ss) st else .bad
  | .fzl xs => if xs.length = is.length then .ok (setAll is xs ss) st else .bad
  | .ref k => match st[k]? with
    | some (.lst xs) => if xs.length = is.length then .ok (setAll is xs ss) st else .bad
    | _ => .bad
  | _ => .bad
section
variable {X : Cx} {W : WX} {pos : Pos}
theorem tupL_run {es : List Expr} {k : Nat} {is : List Nat} (hc : X.calm = true) (hN : X.N.Nodup) (h : NmsOk X es is) {pins : List (Addr × Obj)} {s : Shared} {σ : L2.St} {H : Hp} {a : Addr} {vs : List V} {Q : L2.St → Hp → Prop}
    (I : Inv X pins σ H s) (hs : SqT X.K H a vs ∨ SqL X.K H a vs) (hl : vs.length = is.length) (q : Q (setAllV is vs σ) H) : wpAny (model X.prog X.w) X.A (assign (.Tuple es k pos) X.env (.ref a)) (fun _ s' => ∃ σ' H', Inv X pins σ' H' s' ∧ Q σ' H') X.xe s := by
  obtain ⟨h1, h2, h3⟩ := h.each
  rcases hs with hs | hs
  · refine (pg_tup hc (h3 hN) h1 h2).run pins s σ H (.ref a) (.ref a) Q I rfl ⟨a, vs, rfl, hs, hl, gAll_of hl q⟩
  · obtain ⟨its, rv, p, hz⟩ := I.list hs
    refine assign_Tuple_list (I.ok.hd hc) p.isList (by simp [h1, ← hl, rv.length]) h2 fun h' hx => ?_
    have I1 : Inv X pins σ H { s with heap := h' } := I.kept (t' := s.toks) fun b o e => hx b o (Nat.ne_of_lt (Heap.lt_size e)) e
    exact (h3 hN).run pins _ σ H vs _ Q I1 (by simpa using rv) (gAll_of hl q)
theorem rg_tupL {es : List Expr} {k : Nat} {is : List Nat} (hc : X.calm = true) (hN : X.N.Nodup) (h : NmsOk X es is) : RG X (.Tuple es k pos) (gTpL is) := by
  refine ⟨fun pins s σ H v u Q I r hq => ?_⟩
  obtain ⟨ads, ss, d, st, R, L, rv, p⟩ := hq
  cases rv with
  | @tup a xs vs hs rs =>
    cases r
    simp only [gTpL] at p
    by_cases hl : xs.length = is.length
    · rw [if_pos hl] at p
      exact tupL_run hc hN h I (.inl (.of hs)) (by rw [← rs.length]; exact hl) (p ads H _ .refl R (RSl.setAll rs L))
    · rw [if_neg hl] at p
      exact (p : False).elim
  | @ktp a xs vs hs rs =>
    cases r
    simp only [gTpL] at p
    by_cases hl : xs.length = is.length
    · rw [if_pos hl] at p
      exact tupL_run hc hN h I (.inl hs) (by rw [← rs.length]; exact hl) (p ads H _ .refl R (RSl.setAll rs L))
    · rw [if_neg hl] at p
      exact (p : False).elim
  | @fzl a xs vs hs rs =>
    cases r
    simp only [gTpL] at p
    by_cases hl : xs.length = is.length
    · rw [if_pos hl] at p
      exact tupL_run hc hN h I (.inr hs.sq) (by rw [← rs.length]; exact hl) (p ads H _ .refl R (RSl.setAll rs L))
    · rw [if_neg hl] at p
      exact (p : False).elim
  | @ref k a hk =>
    cases r
    simp only [gTpL] at p
    split at p
    · rename_i ss1 st1 e0
      split at e0
      · rename_i xs e
        obtain ⟨vs, hv, rs⟩ := R.list hk e
        by_cases hl : xs.length = is.length
        · rw [if_pos hl] at e0
          cases e0
          exact tupL_run hc hN h I (.inr (.of hv)) (by rw [← rs.length]; exact hl) (p ads H _ .refl R (RSl.setAll rs L))
        · rw [if_neg hl] at e0
          cases e0
      · cases e0
    · exact p.elim
  | _ => exact (p : False).elim
end

/-! ### enumerate, zip -/
/-- a list's items, and what must stay -/
def seqOf (d : DV) (st : Sto) : Option (List DV × List (Nat × DO)) := match d with
  | .fzl xs => some (xs, [])
  | .ref k => match st[k]? with
    | some (.lst xs) => some (xs, [(k, .lst xs)])
    | _ => none
  | _ => none
theorem seqOf_at {K : PySem.W.Frag} {mg : Str → Option Value} {ads : List Addr} {H : Hp} {st : Sto} (R : RSt K mg ads H st) {d : DV} {v : V} {xs : List DV} {g : List (Nat × DO)} (r : RV K ads H d v) (h : seqOf d st = some (xs, g)) :
    ∃ a vs, v = .ref a ∧ SqL K H a vs ∧ RVs K ads H xs vs ∧ ∀ ads' H' st', Fut ads H ads' H' → RSt K mg ads' H' st' → okG g st' → ∃ ws, SqL K H' a ws ∧ RVs K ads' H' xs ws := by
  cases r with
  | @fzl a ys vs hs rs =>
    cases h
    exact ⟨a, vs, rfl, hs.sq, rs, fun ads' H' st' f R' _ => ⟨vs, (f.kp.fzL hs).sq, rs.mono f⟩⟩
  | @ref k a hk =>
    simp only [seqOf] at h
    split at h
    · rename_i ys e
      cases h
      obtain ⟨vs, hv, rs⟩ := R.list hk e
      refine ⟨a, vs, rfl, .of hv, rs, fun ads' H' st' f R' ok => ?_⟩
      obtain ⟨ws, hw, rw'⟩ := R'.list (Ext.get f.pre hk) (ok (k, .lst xs) (by simp))
      exact ⟨ws, .of hw, rw'⟩
    · cases h
  | _ => simp only [seqOf] at h; cases h
/-- a new pair -/
theorem new_pair {K : PySem.W.Frag} {mg : Str → Option Value} {ads : List Addr} {H : Hp} {st : Sto} (R : RSt K mg ads H st) {T : Addr} {x y : V} {dx dy : DV} (hT : H T = none) (rx : RV K ads H dx x) (ry : RV K ads H dy y) :
    Fut ads H ads (upd H T (.tup [x, y])) ∧ RSt K mg ads (upd H T (.tup [x, y])) st ∧ RV K ads (upd H T (.tup [x, y])) (.tup [dx, dy]) (.ref T) :=
  ⟨.newU hT, R.newU hT, .tup upd_same (.cons (rx.mono (.newU hT)) (.cons (ry.mono (.newU hT)) .nil))⟩
section
variable {X : Cx} {W : WX} {pos : Pos}
end
end ML

/-! ML10: what the printed walks use. -/
namespace ML
open PySem PySem.Spec PyProof.Rows L2
theorem bb_len : bootBuiltins "len" = some (.builtin "len") := by decide +kernel
theorem bb_abs : bootBuiltins "abs" = some (.builtin "abs") := by decide +kernel
theorem bb_max : bootBuiltins "max" = some (.builtin "max") := by decide +kernel
theorem bb_min : bootBuiltins "min" = some (.builtin "min") := by decide +kernel
theorem bb_all : bootBuiltins "all" = some (.builtin "all") := by decide +kernel
theorem bb_isinstance : bootBuiltins "isinstance" = some (.builtin "isinstance") := by decide +kernel
theorem bb_int : bootBuiltins "int" = some (.type "int") := by decide +kernel
theorem bb_bool : bootBuiltins "bool" = some (.type "bool") := by decide +kernel
theorem bb_list : bootBuiltins "list" = some (.type "list") := by decide +kernel
theorem bb_tuple : bootBuiltins "tuple" = some (.type "tuple") := by decide +kernel
/-- a def of the text, ready to be called -/
structure Fn (P : Program) (w : World) (K : PySem.W.Frag) (mg : Str → Option Value) (base : Heap) (x : Str) (k : Nat) (ps : List Str) (g : List DV → M DV) : Prop where
  ex : ∃ (f : Addr) (fd : FuncData), FnOk P w K mg base (L2N.CX P w) k f fd ps (spM K mg g) ∧ mg x = some (.ref f) ∧ PySem.W.keepIn K (.ref f) = true ∧ Binds K fd ps []
section
variable {X : Cx} {W : WX} {k : Nat} {ps : List Str} {x : Str} {p pos : Pos} {e : Expr} {es : List Expr} {g : List DV → M DV} {ms : List Ex}
theorem re_callF (F : Fn X.prog X.w X.K X.mg X.base x k ps g) (hr : Room k X.A) (hg : Gl X x) (tk : L2N.Takes X W)
    (ha : RA X W (e :: es) ms) (hdb : (x == ("__debug__" : Str)) = false := by kernel_rfl) (he : starEach (e :: es) X.env = (false, eval e X.env) :: starEach es X.env := by rfl) (hpl : (backTo pos (starEach es X.env)).any (·.1) = false := by rfl) :
    RE X W (.Call (.Name x p) (e :: es) [] pos) (eCall g ms) := by
  obtain ⟨f, fd, h1, h2, h3, h4⟩ := F.ex
  exact re_call h1 hr hg h2 h3 h4 tk ha hdb he hpl
end
def blkB (N : List Str) (sc scope : Scope) (own : List (Str × Nat)) : Bool :=
  (scope.kind == .function) && (scope.names.all fun y => scope.names.lookup y.1 == some y.2) && (own.all fun p => N[p.2]? == some p.1) &&
  (scope.names.all fun y => !(y.2 == .free) || sc.names.lookup y.1 == some .cell || sc.names.lookup y.1 == some .free) &&
  (scope.names.all fun y => !(y.2 == .local || y.2 == .cell) || (own.map (·.1)).elem y.1 || !(N.elem y.1))
theorem blk_of {N : List Str} {sc scope : Scope} {own : List (Str × Nat)} (h : blkB N sc scope own = true) : BlkOk N sc scope own := by
  unfold blkB at h
  simp only [Bool.and_eq_true, List.all_eq_true, Bool.or_eq_true, Bool.not_eq_true', beq_iff_eq, beq_eq_false_iff_ne, List.elem_eq_mem, decide_eq_true_eq, decide_eq_false_iff_not] at h
  obtain ⟨⟨⟨⟨h1, h2⟩, h3⟩, h4⟩, h5⟩ := h
  refine ⟨h1, h2, h3, fun y hy e => ?_, fun y hy e => ?_⟩
  · rcases h4 y hy with (z | z) | z
    · exact absurd e z
    · exact .inl z
    · exact .inr z
  · rcases h5 y hy with (z | z) | z
    · rcases e with q | q
      · exact absurd q (by simpa using fun q' => by rw [q] at z; simp at z)
      · exact absurd q (by simpa using fun q' => by rw [q] at z; simp at z)
    · exact .inl z
    · exact .inr z
end ML

/-! ML11: anything walked; pairs in comprehensions; lists of ranges. -/
namespace ML
open PySem PySem.Spec PyProof.Rows L2
section
variable {X : Cx} {W : WX} {pos : Pos} {tg : Expr}
theorem at_list {pins : List (Addr × Obj)} {s : Shared} {σ : L2.St} {H : Hp} {a : Addr} {xs : List V} {R : It → Hp → Prop} (I : Inv X pins σ H s) (hq : SqL X.K H a xs) (q : R (Itl X.K a) H) : wpAny (model X.prog X.w) X.A (pyIter (.ref a)) (PIE X pins σ tg R) X.xe s := by
  obtain ⟨its, rv, p, hz⟩ := I.list hq
  exact wpAny_pyIter_list p.isList (pi_one (tk := s.toks) I _ (turn_list a _) ⟨_, Heap.get?_push_size _ rfl, rfl, rfl⟩ q)
theorem at_tup {pins : List (Addr × Obj)} {s : Shared} {σ : L2.St} {H : Hp} {a : Addr} {xs : List V} {R : It → Hp → Prop} (I : Inv X pins σ H s) (hq : SqT X.K H a xs) (q : R (Itt X.K a) H) : wpAny (model X.prog X.w) X.A (pyIter (.ref a)) (PIE X pins σ tg R) X.xe s := by
  obtain ⟨its, rv, p, hz⟩ := I.tuple hq
  exact wpAny_pyIter_tuple (show s.heap.IsTuple a its.toArray from p) (pi_one (tk := s.toks) I _ (turn_tuple a _) ⟨_, Heap.get?_push_size _ rfl, rfl, rfl⟩ q)
theorem at_str {pins : List (Addr × Obj)} {s : Shared} {σ : L2.St} {H : Hp} {x : Str} {t : Tok} {R : It → Hp → Prop} (I : Inv X pins σ H s) (q : R (Its x) H) : wpAny (model X.prog X.w) X.A (pyIter (.str x t)) (PIE X pins σ tg R) X.xe s := by
  cases ha : x.cps.all (· < 128)
  · exact wpAny_pyIter_wide ha (pi_one (tk := s.toks) I _ (turn_str _ x t "str_iterator" (.inr rfl)) ⟨_, Heap.get?_push_size _ rfl, rfl, rfl⟩ q)
  · exact wpAny_pyIter_ascii ha (pi_one (tk := s.toks) I _ (turn_str _ x t "str_ascii_iterator" (.inl rfl)) ⟨_, Heap.get?_push_size _ rfl, rfl, rfl⟩ q)
/-- what a value walked gives -/
def wkOf (d : DV) (st : Sto) : Option Wk := match d with
  | .ref k => match st[k]? with
    | some (.lst xs) => some ⟨xs, [(k, .lst xs)]⟩
    | _ => none
  | .fzl xs => some ⟨xs, []⟩
  | .tup xs => some ⟨xs, []⟩
  | .ktp xs => some ⟨xs, []⟩
  | .str x => some ⟨x.cps.toList.map fun c => .str ⟨#[c]⟩, []⟩
  | _ => none
def optW (o : Option Wk) : M Wk := fun st => match o with
  | some w => .ok w st
  | none => .bad
def iAny (m : Ex) : Sl → M Wk := fun ss => bnd (m ss) fun d st => optW (wkOf d st) st
theorem wk_list {K : PySem.W.Frag} {mg : Str → Option Value} {ads : List Addr} {H : Hp} {a : Addr} {xs : List DV} {g : List (Nat × DO)} (fut : ∀ ads' H' st', Fut ads H ads' H' → RSt K mg ads' H' st' → okG g st' → ∃ ws, SqL K H' a ws ∧ RVs K ads' H' xs ws) : Walks K mg ⟨xs, g⟩ (Itl K a) ads H := by
  refine ⟨fun i d ads' H' st' hi f R' ok => ?_, fun i ads' H' st' hi f R' ok => ?_⟩
  · obtain ⟨ws, hw, rw'⟩ := fut _ _ _ f R' ok
    obtain ⟨w, h1, h2⟩ := rw'.get hi
    refine ⟨⟨ws, w, hw, h1⟩, fun x H2 ⟨e2, e3⟩ => ?_⟩
    subst e2
    have e4 := e3 ws hw
    rw [h1] at e4
    cases e4
    exact ⟨.refl, R', h2⟩
  · obtain ⟨ws, hw, rw'⟩ := fut _ _ _ f R' ok
    exact ⟨ws, hw, by rw [← rw'.length]; exact hi⟩
theorem wk_tup {K : PySem.W.Frag} {mg : Str → Option Value} {ads : List Addr} {H : Hp} {a : Addr} {xs : List DV} {vs : List V} (hs : SqT K H a vs) (rs : RVs K ads H xs vs) : Walks K mg ⟨xs, []⟩ (Itt K a) ads H := by
  refine ⟨fun i d ads' H' st' hi f R' ok => ?_, fun i ads' H' st' hi f R' ok => ?_⟩
  · have rs' := rs.mono f
    have hs' := f.kp.sqT hs
    obtain ⟨w, h1, h2⟩ := rs'.get hi
    refine ⟨⟨vs, w, hs', h1⟩, fun x H2 ⟨e2, e3⟩ => ?_⟩
    subst e2
    have e4 := e3 vs hs'
    rw [h1] at e4
    cases e4
    exact ⟨.refl, R', h2⟩
  · exact ⟨vs, f.kp.sqT hs, by rw [← rs.length]; exact hi⟩
theorem wk_str {K : PySem.W.Frag} {mg : Str → Option Value} {ads : List Addr} {H : Hp} {z : Str} : Walks K mg ⟨z.cps.toList.map fun c => .str ⟨#[c]⟩, []⟩ (Its z) ads H := by
  refine ⟨fun i d ads' H' st' hi f R' ok => ?_, fun i ads' H' st' hi f R' ok => ?_⟩
  · rw [List.getElem?_map] at hi
    cases e : z.cps.toList[i]? with
    | none => rw [e] at hi; cases hi
    | some c =>
      rw [e] at hi
      cases hi
      have e' : z.cps[i]? = some c := by rw [← Array.getElem?_toList]; exact e
      refine ⟨(Array.getElem?_eq_some_iff.mp e').1, fun x H2 ⟨e2, c', e3, e4⟩ => ?_⟩
      rw [e'] at e3
      cases e3
      subst e2 e4
      exact ⟨.refl, R', .str _⟩
  · show z.cps.size ≤ i
    simpa using hi
theorem ri_any {l : Expr} {m : Ex} (hl : RE X W l m) : RI X W tg l (iAny m) := ⟨fun pins s σ H R I h => by
  have h := tM.bind (R := rV X.K) h
  refine thn (hl.run pins s σ H _ I h) fun v s1 ⟨x, H1, I1, r1, ads, ss, d, st, Rs, L, rv, p⟩ => ?_
  cases rv with
  | @ref k a hk =>
    cases r1
    have p : post X.K X.mg W (fun ads H' wk J => Walks X.K X.mg wk J ads H') σ ads H1 (optW (wkOf (.ref k) st) st) R := p
    cases e0 : wkOf (.ref k) st with
    | none => rw [e0] at p; exact (p : False).elim
    | some wk =>
      rw [e0] at p
      simp only [wkOf] at e0
      split at e0
      · rename_i xs e
        cases e0
        obtain ⟨vs, hv, rs⟩ := Rs.list hk e
        refine at_list I1 (.of hv) (p ads H1 _ .refl Rs (wk_list fun ads' H' st' f R' ok => ?_))
        obtain ⟨ws, hw, rw'⟩ := R'.list (Ext.get f.pre hk) (ok (k, .lst xs) (by simp))
        exact ⟨ws, .of hw, rw'⟩
      · cases e0
  | @fzl a xs vs hs rs =>
    cases r1
    exact at_list I1 hs.sq (p ads H1 _ .refl Rs (wk_list fun ads' H' st' f R' ok => ⟨vs, (f.kp.fzL hs).sq, rs.mono f⟩))
  | @tup a xs vs hs rs =>
    cases r1
    exact at_tup I1 (.of hs) (p ads H1 _ .refl Rs (wk_tup (.of hs) rs))
  | @ktp a xs vs hs rs =>
    cases r1
    exact at_tup I1 hs (p ads H1 _ .refl Rs (wk_tup hs rs))
  | str z =>
    obtain ⟨t, rfl⟩ := r1
    exact at_str I1 (p ads H1 _ .refl Rs wk_str)
  | _ => exact (p : False).elim⟩
/-! pairs (or lists) taken apart in comprehensions -/
end
end ML
namespace ML
open PySem PySem.Spec PyProof.Rows L2
def rsteps (i c : Int) (n : Nat) : List DV := (List.range n).map fun (k : Nat) => .int (i + k * c)
def iRg3 (ms : List Ex) : Sl → M Wk := fun ss => bnd (eArgs ms ss) fun ds st => match ds with
  | [.int i, .int j, .int c] => if c ≠ 0 ∧ c.natAbs < 1073741824 ∧ Builtin.Range.small i j c = true ∧ Builtin.Range.rangeSize i j c = ((Builtin.Range.rangeSize i j c).toNat : Int) then .ok ⟨rsteps i c (Builtin.Range.rangeSize i j c).toNat, []⟩ st else .bad
  | _ => .bad
end ML

/-! ML12: constants of the module, joined texts, texts of numbers. -/
namespace ML
open PySem PySem.Spec PyProof.Rows L2
section
variable {K : PySem.W.Frag} {mg : Str → Option Value} {h : Heap} {x : Str}
theorem gc_int {i : Int} {t : Tok} (X : K.In h) (G : h.Ns mainGlobals mg) (e : PySem.W.nsIn K mainGlobals x = some (some (.int i t))) : GC K mg x (.int i) := ⟨.int i, .int i t, PySem.W.mg_of X G e, ⟨t, rfl⟩, fun _ _ => .int i⟩
end
/-! a.join(list or tuple of texts) -/
/-! str(a number) -/
end ML

/-! ML13: classes ready to be made, methods ready to be called; dict displays; list(range(n)); a dict of the top. -/
namespace ML
open PySem PySem.Spec PyProof.Rows L2
/-! ### classes -/
structure MkC (P : Program) (w : World) (K : PySem.W.Frag) (mg : Str → Option Value) (base : Heap) (c : Str) (k : Nat) (ps : List Str) (g : List DV → M DV) : Prop where
  ex : ∃ (C f : Addr) (fd : FuncData), Mk K C f ∧ FnOk P w K mg base (L2N.CX P w) k f fd ps (spM K mg g) ∧ mg c = some (.ref C) ∧ Binds K fd ps []
structure MeC (P : Program) (w : World) (K : PySem.W.Frag) (mg : Str → Option Value) (base : Heap) (c m : Str) (k : Nat) (ps : List Str) (g : List DV → M DV) : Prop where
  ex : ∃ (f : Addr) (fd : FuncData), KM K mg c m f ∧ FnOk P w K mg base (L2N.CX P w) k f fd ps (spM K mg g) ∧ Binds K fd ps []
section
variable {X : Cx} {W : WX} {k : Nat} {ps : List Str} {c m : Str} {lay : List Str} {p pos apos : Pos} {e o : Expr} {es : List Expr} {g : List DV → M DV} {ms : List Ex} {mo : Ex}
theorem re_makeC (F : MkC X.prog X.w X.K X.mg X.base c k ps g) (hr : Room (k + 1) X.A) (hg : Gl X c) (tk : L2N.Takes X W) (ha : RA X W (e :: es) ms)
    (hdb : (c == ("__debug__" : Str)) = false := by decide) (he : starEach (e :: es) X.env = (false, eval e X.env) :: starEach es X.env := by rfl) (hpl : (backTo pos (starEach es X.env)).any (·.1) = false := by rfl) :
    RE X W (.Call (.Name c p) (e :: es) [] pos) (eCall (mkM c lay g) ms) := by
  obtain ⟨C, f, fd, h1, h2, h3, h4⟩ := F.ex
  exact re_make h1 h2 hr hg h3 h4 tk ha hdb he hpl
theorem re_methF {pl : Sem Bool} (ho : RE X W o mo) (F : MeC X.prog X.w X.K X.mg X.base c m k ps g) (hml : m ∉ lay) (hr : Room k X.A) (tk : L2N.Takes X W) (ha : RA X W (e :: es) ms)
    (hst : starEach (e :: es) X.env = (false, eval e X.env) :: starEach es X.env := by rfl) (hpl : (backTo pos (starEach es X.env)).any (·.1) = false := by rfl)
    (ht : eval (.Call (.Attribute o m apos) (e :: es) [] pos) X.env = (do
      let ov ← eval o X.env
      standAt apos.atName
      let (f, first) ← holding [ov] (getMethod ov m pl)
      callWith pos f first (backTo pos (starEach (e :: es) X.env)) (backToKw pos (keywordEach [] X.env))) := by rfl) :
    RE X W (.Call (.Attribute o m apos) (e :: es) [] pos) (eMeth c lay g mo ms) := by
  obtain ⟨f, fd, h1, h2, h3⟩ := F.ex
  exact re_meth (pl := pl) ho h1 hml h2 hr h3 tk ha hst hpl ht
theorem kf_of {K : PySem.W.Frag} {mg : Str → Option Value} {c f : Str} {C : Addr} (e : mg c = some (.ref C)) (cl : Cls K C) (n : PySem.W.findIn K (.ref C) f = some none) : KF K mg c f := fun D h => by
  rw [e] at h
  cases h
  exact ⟨cl, n⟩
theorem km_of {K : PySem.W.Frag} {mg : Str → Option Value} {c m : Str} {C g : Addr} (e : mg c = some (.ref C)) (cl : Cls K C) (n : Meth K C m g) : KM K mg c m g := fun D h => by
  rw [e] at h
  cases h
  exact ⟨cl, n⟩
end
/-! ### dict displays -/
def pairsM : List (Ex × Ex) → Sl → M (List (DV × DV))
  | [], _ => pur []
  | (a, b) :: r, ss => bnd (a ss) fun x => bnd (b ss) fun y => bnd (pairsM r ss) fun t => pur ((x, y) :: t)
def keysD : List (DV × DV) → Option (List (HK × DV))
  | [] => some []
  | (x, y) :: r => match kOf x with
    | some h => if flatH h = true then (keysD r).map ((h, y) :: ·) else none
    | none => none
def mergeD (kvs : List (HK × DV)) : List (HK × DV) := kvs.foldl (fun a p => hSet a p.1 p.2) []
def eDisp (ps : List (Ex × Ex)) : Ex := fun ss => bnd (pairsM ps ss) fun t => match keysD t with
  | some kvs => if kvs.length ≤ 15 then alloc (.dic (mergeD kvs)) else stuck
  | none => stuck
abbrev RP2 (K : PySem.W.Frag) (ads : List Addr) (H : Hp) : List (DV × DV) → List (V × V) → Prop := Paired fun (p : DV × DV) (q : V × V) => RV K ads H p.1 q.1 ∧ RV K ads H p.2 q.2
theorem RP2.mono {K : PySem.W.Frag} {ads ads' : List Addr} {H H' : Hp} (f : Fut ads H ads' H') : ∀ {t : List (DV × DV)} {vs : List (V × V)}, RP2 K ads H t vs → RP2 K ads' H' t vs
  | _, _, .nil => .nil
  | _, _, .cons h r => .cons ⟨h.1.mono f, h.2.mono f⟩ (RP2.mono f r)
theorem pairs_post {K : PySem.W.Frag} {mg : Str → Option Value} {W : WX} : ∀ {ps : List (Ex × Ex)} {σ : L2.St} {H : Hp} {ads : List Addr} {ss : Sl} {st : Sto} {Q : List (V × V) → Hp → Prop}, RSt K mg ads H st → RSl K ads H ss σ →
    post K mg W (RP2 K) σ ads H (pairsM ps ss st) Q → tPairs (ps.map fun p => (tM K mg W (rV K) p.1, tM K mg W (rV K) p.2)) σ H Q
  | [], _, _, _, _, _, _, R, L, p => p.ok R .nil
  | (a, b) :: r, σ, H, ads, ss, st, Q, R, L, p => by
    refine ⟨ads, ss, st, R, L, (post.bind (R := rV K) p).mono fun x H1 ⟨ads1, dx, st1, f1, R1, r1, p1⟩ => ?_⟩
    refine ⟨ads1, ss, st1, R1, L.mono f1, (post.bind (R := rV K) p1).mono fun y H2 ⟨ads2, dy, st2, f2, R2, r2, p2⟩ => ?_⟩
    refine pairs_post R2 ((L.mono f1).mono f2) ?_
    refine (post.bind (R := RP2 K) p2).mono fun t H3 ⟨ads3, dt, st3, f3, R3, r3, p3⟩ => ?_
    exact p3.ok R3 (.cons ⟨(r1.mono f2).mono f3, r2.mono f3⟩ r3)
theorem keys_rel {K : PySem.W.Frag} {ads : List Addr} {H : Hp} : ∀ {t : List (DV × DV)} {vs : List (V × V)} {kvs : List (HK × DV)}, RP2 K ads H t vs → keysD t = some kvs → ∃ ws : List (Key × V), vs = ws.map (fun kv => (kV kv.1, kv.2)) ∧ RKs K ads H kvs ws
  | _, _, _, .nil, h => by
    cases h
    exact ⟨[], rfl, .nil⟩
  | (x, y) :: r, (u, v) :: vs, kvs, .cons q t, h => by
    unfold keysD at h
    cases e : kOf x with
    | none => rw [e] at h; cases h
    | some hk =>
      rw [e] at h
      simp only at h
      by_cases f : flatH hk = true
      case neg => rw [if_neg f] at h; cases h
      rw [if_pos f] at h
      cases e2 : keysD r with
      | none => rw [e2] at h; cases h
      | some rs =>
        rw [e2] at h
        cases h
        obtain ⟨ws, e3, r3⟩ := keys_rel t e2
        subst e3
        obtain ⟨q1, q2⟩ := q
        cases x with
        | int i =>
          cases e
          cases q1
          exact ⟨(.inl i, v) :: ws, rfl, .cons ⟨rfl, q2⟩ r3⟩
        | str s =>
          cases e
          cases q1
          exact ⟨(.inr s, v) :: ws, rfl, .cons ⟨rfl, q2⟩ r3⟩
        | non => cases e; cases f
        | tup ks =>
          simp only [kOf] at e
          cases e4 : kOfs ks with
          | none => rw [e4] at e; cases e
          | some hs => rw [e4] at e; cases e; cases f
        | _ => cases e
theorem nd_put {κ : Type} [DecidableEq κ] {kvs : List (κ × V)} {k : κ} (v : V) (hn : (kvs.map (·.1)).Nodup) : ((putK kvs k v).map (·.1)).Nodup := by
  unfold putK
  by_cases h : (kvs.any fun kv => decide (kv.1 = k)) = true
  · rw [if_pos h, List.map_map]
    have : kvs.map ((·.1) ∘ fun kv => if kv.1 = k then (kv.1, v) else kv) = kvs.map (·.1) := List.map_congr_left fun p _ => by
      show (if p.1 = k then (p.1, v) else p).1 = p.1
      split <;> rfl
    rw [this]
    exact hn
  · rw [if_neg h, List.map_append, List.nodup_append]
    refine ⟨hn, by simp, fun a ha b hb e => ?_⟩
    obtain ⟨p, hp, rfl⟩ := List.mem_map.mp ha
    have hb : b = k := by simpa using hb
    subst hb
    exact h (List.any_eq_true.mpr ⟨p, hp, by simpa using e⟩)
theorem merge_rel {K : PySem.W.Frag} {ads : List Addr} {H : Hp} : ∀ {kvs acc : List (HK × DV)} {ws vs : List (Key × V)}, (vs.map (·.1)).Nodup → RKs K ads H acc vs → RKs K ads H kvs ws → RKs K ads H (kvs.foldl (fun a p => hSet a p.1 p.2) acc) (mergeK vs ws)
  | _, _, _, _, _, ra, .nil => ra
  | (h, d) :: kvs, acc, (k, v) :: ws, vs, nd, ra, .cons q r => by
    obtain ⟨q1, q2⟩ := q
    have q1 : h = hK k := q1
    subst q1
    exact merge_rel (acc := hSet acc (hK k) d) (vs := putK vs k v) (nd_put v nd) (RKs.put q2 nd ra) r
/-- an address without a handle is written and gets one -/
theorem RSt.own {K : PySem.W.Frag} {mg : Str → Option Value} {ads : List Addr} {H : Hp} {st : Sto} (R : RSt K mg ads H st) {p : Addr} {z u : HO} {o : DO} (e : H p = some z) (h1 : ∀ xs, z ≠ .tup xs) (h2 : ∀ o' z', z ≠ .frz o' z') (h : p ∉ ads) (ro : RO K mg (ads ++ [p]) (upd H p u) p o) (h3 : ∀ fs, z ≠ .xd fs := by intro _ z; cases z) : RSt K mg (ads ++ [p]) (upd H p u) (st ++ [o]) :=
  (R.keep (.write e h1 h2 h3) fun a ha => upd_ne fun e => h (e ▸ ha)).adopt h ro
section
variable {X : Cx} {W : WX}
/-- the pairs of a display, as read -/
structure RPp (X : Cx) (W : WX) (pos : Pos) (keys : List (Option Expr)) (values : List Expr) (ps : List (Ex × Ex)) : Prop where
  run : PPs X pos keys values (ps.map fun p => (tM X.K X.mg W (rV X.K) p.1, tM X.K X.mg W (rV X.K) p.2))
theorem rpp_nil {pos : Pos} : RPp X W pos [] [] [] := ⟨pps_nil⟩
theorem rpp_cons {pos : Pos} {k v : Expr} {ks : List (Option Expr)} {vs : List Expr} {mk mv : Ex} {ps : List (Ex × Ex)} (hk : RE X W k mk) (hv : RE X W v mv) (hr : RPp X W pos ks vs ps) : RPp X W pos (some k :: ks) (v :: vs) ((mk, mv) :: ps) := ⟨pps_cons hk hv hr.run⟩
theorem re_disp {pos : Pos} {keys : List (Option Expr)} {values : List Expr} {ps : List (Ex × Ex)} (h : RPp X W pos keys values ps) (hall : keys.all (·.isSome) = true := by rfl) (hl : keys.length = values.length := by rfl) (h0 : keys ≠ [] := by simp)
    (h15 : keys.length ≤ 15 := by decide) : RE X W (.Dict keys values pos) (eDisp ps) := ⟨fun pins s σ H Q I q => (pe_disp h.run hall hl h0 h15).run pins s σ H Q I (by
  obtain ⟨ads, ss, st, R, L, p⟩ := q
  intro a ha
  have Rn := R.newU (u := .dK []) ha
  have fn : Fut ads H ads (upd H a (.dK [])) := .newU ha
  have an : a ∉ ads := R.fresh ha
  refine pairs_post Rn (L.mono fn) ?_
  unfold eDisp bnd at p
  cases e : pairsM ps ss st with
  | bad => rw [e] at p; exact p
  | exc x st' =>
    rw [e] at p
    exact fun ads' H' cls d fu R' rx => p ads' H' cls d (fn.trans fu) R' rx
  | ok t st' =>
    rw [e] at p
    simp only at p
    intro ads' H2 vs fu R' rt
    obtain ⟨o1, o2⟩ := fu.oth a _ an upd_same
    cases ek : keysD t with
    | none => rw [ek] at p; exact p.elim
    | some kvs =>
    rw [ek] at p
    simp only at p
    by_cases h15 : kvs.length ≤ 15
    case neg => rw [if_neg h15] at p; exact p.elim
    rw [if_pos h15] at p
    obtain ⟨ws, rfl, rk⟩ := keys_rel rt ek
    refine ⟨o2, ws, rfl, ?_, ?_⟩
    · rw [← show kvs.length = ws.length from rk.length]
      exact h15
    have kw : Kp H2 (upd H2 a (.dK (mergeK [] ws))) := .write o2 (fun _ z => by cases z) (fun _ _ z => by cases z)
    have ff := fn.trans fu
    have f2 : Fut ads H (ads' ++ [a]) (upd H2 a (.dK (mergeK [] ws))) := by
      obtain ⟨r, er⟩ := ff.pre
      refine ⟨⟨r ++ [a], by rw [er, List.append_assoc]⟩, ff.kp.trans kw, fun b ob h1 h2 => ?_, fun b ob u e => ?_⟩
      case refine_2 =>
        have nb : b ≠ a := ne_of_none e ha
        rw [upd_ne nb]
        exact ff.fz b ob u e
      have nb : b ≠ a := ne_of_none h2 ha
      obtain ⟨h3, h4⟩ := ff.oth b ob h1 h2
      refine ⟨fun z => ?_, by rw [upd_ne nb]; exact h4⟩
      rcases List.mem_append.mp z with z | z
      · exact h3 z
      · exact nb (by simpa using z)
    refine p _ _ _ f2 (R'.own o2 (fun _ z => by cases z) (fun _ _ z => by cases z) o1 (.inl ⟨mergeK [] ws, upd_same, ?_⟩)) (.ref (alloc_at R'))
    exact (merge_rel (acc := []) (vs := []) List.nodup_nil .nil rk).mono2 ⟨[a], rfl⟩ kw)⟩
end

/-! ### a dict of the top with text keys -/
def EntL (P : Params) : List (Str × DV) → List DictEntry → Prop
  | [], [] => True
  | p :: r, e :: es => (∃ t, e.key = .str p.1 t ∧ e.hash = PyData.keyHash P p.1) ∧ (∃ v, RelV v e.val ∧ ∀ (K : PySem.W.Frag) (ads : List Addr) (H : Hp), RV K ads H p.2 v) ∧ EntL P r es
  | _, _ => False
def FindR (o : Option DV) (u : Option Value) : Prop := match o, u with
  | some d, some u => ∃ v, RelV v u ∧ ∀ (K : PySem.W.Frag) (ads : List Addr) (H : Hp), RV K ads H d v
  | none, none => True
  | _, _ => False
structure GKD (w : World) (K : PySem.W.Frag) (mg : Str → Option Value) (x : Str) (kvs : List (Str × DV)) : Prop where
  ex : ∃ (a : Addr) (es : Array DictEntry) (n : Nat), mg x = some (.ref a) ∧ K.lookup a = some ⟨.type "dict", none, .dict es n, #[]⟩ ∧ EntL w.params kvs es.toList ∧ (a == sysModules) = false
section
variable {X : Cx} {W : WX} {x : Str} {kvs : List (Str × DV)} {e f : Expr} {mx mz : Ex} {p apos cpos : Pos}
end
/-! ### list(range(n)) -/
def lrgOk (n : Int) : Prop := -(2 ^ 62) ≤ n ∧ n < 2 ^ 62 ∧ n.toNat ≤ 2 ^ 24
@[irreducible] instance (n : Int) : Decidable (lrgOk n) := by unfold lrgOk; exact inferInstance
def eLrg (ms : List Ex) : Ex := fun ss => bnd (eArgs ms ss) fun ds => match ds with
  | [.int n] => if lrgOk n then alloc (.lst (irange 0 n.toNat)) else stuck
  | _ => stuck
theorem rgV_rel {K : PySem.W.Frag} {ads : List Addr} {H : Hp} {n : Int} : RVs K ads H (irange 0 n.toNat) (rgV 0 n) := by
  unfold rgV irange
  rw [Int.sub_zero]
  generalize List.range n.toNat = l
  induction l with
  | nil => exact .nil
  | cons a l ih => exact .cons (.int _) ih
section
variable {X : Cx} {W : WX} {e : Expr} {m : Ex} {p p2 pos pos2 : Pos}
theorem re_lrg (hc : X.calm = true) (hg : Gl X "list") (hg2 : Gl X "range") (hm : X.mg "list" = none) (hm2 : X.mg "range" = none) (ha : RE X W e m)
    (na : starEach [e] X.env = (false, eval e X.env) :: starEach [] X.env := by rfl) (nb : starEach [.Call (.Name "range" p2) [e] [] pos2] X.env = (false, eval (.Call (.Name "range" p2) [e] [] pos2) X.env) :: starEach [] X.env := by rfl) :
    RE X W (.Call (.Name "list" p) [.Call (.Name "range" p2) [e] [] pos2] [] pos) (eLrg [m]) := ⟨fun pins s σ H Q I h => (pe_listRg hc hg hm (prg_1 hg2 hm2 ha na) nb).run pins s σ H Q I (by
  obtain ⟨ads, ss, st, R, L, p0⟩ := h
  have e1 : eLrg [m] ss st = bnd (m ss) (fun d => match d with
    | .int n => if lrgOk n then alloc (.lst (irange 0 n.toNat)) else stuck
    | _ => stuck) st := by
    unfold eLrg eArgs eArgs bnd
    cases m ss st with
    | ok d st' => cases d <;> rfl
    | exc _ _ => rfl
    | bad => rfl
  rw [e1] at p0
  refine ⟨ads, ss, st, R, L, (post.bind (R := rV X.K) p0).mono fun x H1 ⟨ads1, dx, st1, f1, R1, r1, p1⟩ => ?_⟩
  cases dx with
  | int n =>
    cases r1
    have p1 : post X.K X.mg W (rV X.K) σ ads1 H1 ((if lrgOk n then alloc (.lst (irange 0 n.toNat)) else stuck) st1) Q := p1
    by_cases hn : lrgOk n
    case neg => rw [if_neg hn] at p1; exact p1.elim
    rw [if_pos hn] at p1
    refine ⟨n, rfl, ⟨by decide, by decide, hn.1, hn.2.1, by rw [Int.sub_zero]; exact hn.2.2⟩, fun q hq => ?_⟩
    exact post.newL R1 rgV_rel p1 hq
  | _ => exact (p1 : False).elim)⟩
end
end ML

/-! ML14: a name and names in a pair, dict(d), xs[::-1]. -/
namespace ML
open PySem PySem.Spec PyProof.Rows L2
section
variable {X : Cx} {W : WX} {pos : Pos}
end
section
variable {X : Cx} {W : WX}
end
section
variable {X : Cx} {W : WX}
end
end ML

/-! ML15: two dicts that are the same, by != . -/
namespace ML
open PySem PySem.Spec PyProof.Rows L2
section
variable {K : PySem.W.Frag} {ads : List Addr} {H : Hp}
end
section
variable {X : Cx}
end
end ML

/-! ML16: in and subscript of a written dict; things that are never reached. -/
namespace ML
open PySem PySem.Spec PyProof.Rows L2
theorem EntL.ns {P : Params} (z : Str) : ∀ {kvs : List (Str × DV)} {es : List DictEntry}, EntL P kvs es → FindR (kvs.lookup z) ((es.find? fun e => e.key.isStr z).map (·.val)) ∧ es.any (·.refKey) = false
  | [], [], _ => ⟨True.intro, rfl⟩
  | _ :: _, [], h => h.elim
  | [], _ :: _, h => h.elim
  | (x, d) :: r, e :: es, ⟨⟨t, h1, h2⟩, hv, h3⟩ => by
    obtain ⟨q1, q2⟩ := EntL.ns z h3
    have h1 : e.key = .str x t := h1
    rw [List.lookup_cons, List.find?_cons, List.any_cons, h1]
    have q : Value.isStr (.str x t) z = (z == x) := by
      show (x == z) = (z == x)
      exact Bool.eq_iff_iff.mpr ⟨fun h => by rw [beq_iff_eq] at h ⊢; exact h.symm, fun h => by rw [beq_iff_eq] at h ⊢; exact h.symm⟩
    rw [q]
    refine ⟨?_, ?_⟩
    · cases e2 : z == x with
      | true => exact hv
      | false => exact q1
    · rw [q2]
      unfold DictEntry.refKey
      rw [h1]
      rfl
theorem FindR.isSome {o : Option DV} {u : Option Value} (h : FindR o u) : u.isSome = o.isSome := by
  cases o <;> cases u <;> first | rfl | exact h.elim
def kin (kvs : List (Str × DV)) (x : DV) : M DV := match x with
  | .str s => pur (.bl (kvs.lookup s).isSome)
  | _ => stuck
section
variable {X : Cx} {W : WX} {x : Str} {kvs : List (Str × DV)} {e : Expr} {mx : Ex} {p pos : Pos}
end
/-! ### what is never reached -/
section
variable {X : Cx} {W : WX} {e : Expr} {st : Stmt}
end
end ML

/-! ML17: list of a dict, sorted, index. -/
namespace ML
open PySem PySem.Spec PyProof.Rows L2
theorem bb_sorted : bootBuiltins "sorted" = some (.builtin "sorted") := by decide +kernel
def isrt (ns : List Int) : List Int := ns.mergeSort fun a b => decide (a ≤ b)
theorem isrt_perm (ns : List Int) : (isrt ns).Perm ns := List.mergeSort_perm _ _
theorem isrt_le (ns : List Int) : (isrt ns).Pairwise (· ≤ ·) := by
  have := List.pairwise_mergeSort (le := fun a b : Int => decide (a ≤ b)) (fun a b c h1 h2 => decide_eq_true (Int.le_trans (of_decide_eq_true h1) (of_decide_eq_true h2))) (fun a b => by
    rcases Int.le_total a b with h | h
    · simp [h]
    · simp [h]) ns
  exact this.imp fun h => of_decide_eq_true h
theorem isrt_eq {ns ms : List Int} (h : ms.Perm ns) (p : ms.Pairwise (· ≤ ·)) : ms = isrt ns :=
  List.Perm.eq_of_pairwise (fun a b _ _ h1 h2 => Int.le_antisymm h1 h2) p (isrt_le ns) (h.trans (isrt_perm ns).symm)
def sortedM : List DV → M DV
  | [d] => fun st => match (itemsM d st).bind intsD with
    | some ns => alloc (.lst ((isrt ns).map DV.int)) st
    | none => .bad
  | _ => stuck
def listX : List DV → M DV
  | [.ref k] => fun st => match st[k]? with
    | some (.dic kvs) => if kvs.all (fun p => flatH p.1) = true then alloc (.lst (kvs.map fun p => dOf p.1)) st else .bad
    | _ => listM [.ref k] st
  | as => listM as
def indexM (d : DV) (as : List DV) : M DV := fun st => match as with
  | [y] => match d with
    | .ref k => match st[k]? with
      | some (.lst xs) => if (flatD y && xs.all flatD) = true then match xs.findIdx? (fun z => eqF z y) with
        | some j => .ok (.int (j : Nat)) st
        | none => .bad
        else .bad
      | _ => .bad
    | _ => .bad
  | _ => .bad
section
variable {X : Cx} {W : WX}
theorem cm_sorted : CallM X (.builtin "sorted") sortedM := by
  intro pins s σ H vs us Q ads as st W I R rv r h
  unfold sortedM at h
  split at h
  · obtain ⟨v, rfl, hv⟩ := rv.one
    split at h
    · rename_i ns e
      obtain ⟨a, rfl, hs⟩ := items_ints R hv e
      refine cr_sortedI pins s σ H _ us Q I r ⟨a, ns, rfl, hs, fun ns' p hp hw hl => ?_⟩
      rw [isrt_eq hp hw]
      refine post.newL R ?_ h hl
      have : ∀ l : List Int, RVs X.K ads H (l.map DV.int) (l.map V.int) := fun l => by
        induction l with
        | nil => exact .nil
        | cons x l ih => exact .cons (.int x) ih
      exact this _
    · exact h.elim
  · exact (h : False).elim
theorem keysV {K : PySem.W.Frag} {ads : List Addr} {H : Hp} : ∀ {kvs : List (HK × DV)} {vs : List (Key × V)}, RKs K ads H kvs vs → RVs K ads H (kvs.map fun p => dOf p.1) (vs.map fun kv => kV kv.1)
  | _, _, .nil => .nil
  | (k, d) :: kvs, (q, v) :: vs, .cons h r => by
    obtain ⟨h1, _⟩ := h
    have h1 : k = hK q := h1
    subst h1
    refine .cons ?_ (keysV r)
    cases q with
    | inl i => exact .int i
    | inr x => exact .str x
theorem cm_listX (hc : X.calm = true) : CallM X (.type "list") listX := by
  intro pins s σ H vs us Q ads as st W I R rv r h
  unfold listX at h
  split at h
  · split at h
    · rename_i k0 kvs e
      obtain ⟨v, rfl, hv⟩ := rv.one
      cases hv with
      | @ref _ a hk =>
        split at h
        · rename_i hf
          rcases R.ob _ _ _ hk e with ⟨vs, e1, rk⟩ | ⟨vs, e1, rk⟩
          · exact call_listD hc pins s σ H _ us Q I r ⟨a, vs, rfl, .of e1, fun p hp => post.newL R (keysV rk) h hp⟩
          · cases rk with
            | nil => exact call_list_dT hc pins s σ H _ us Q I r ⟨a, [], rfl, .of e1, fun p bs hp hb => by
                have : bs = [] := by
                  cases hb
                  rfl
                subst this
                exact post.newL R .nil h hp⟩
            | cons q _ =>
              have := List.all_eq_true.mp hf _ List.mem_cons_self
              have q1 := q.1
              rw [q1] at this
              cases this
        · exact h.elim
    · exact cm_list pins s σ H vs us Q ads _ st W I R rv r h
  · exact cm_list pins s σ H vs us Q ads _ st W I R rv r h
theorem RVs.eqs {K : PySem.W.Frag} {ads : List Addr} {H : Hp} {y : DV} {u : V} (ry : RV K ads H y u) (fy : flatD y = true) : ∀ {xs : List DV} {vs : List V}, RVs K ads H xs vs → xs.all flatD = true → ∀ {i : Nat} {x : DV} {v : V}, xs[i]? = some x → vs[i]? = some v → eqF x y = eqV v u := fun {xs vs} r f {i x v} e1 e2 => by
  obtain ⟨v', e3, r3⟩ := r.get e1
  rw [e2] at e3
  cases e3
  exact eqF_eqV r3 ry (List.all_eq_true.mp f x (List.mem_of_getElem? e1)) fy
theorem mm_index : MtMM X "list" "list.index" indexM := by
  intro pins s σ H x vs v us Q ads d as st W I R rd ra rx rs h
  unfold indexM at h
  split at h
  · rename_i y
    obtain ⟨w, rfl, hw⟩ := ra.one
    split at h
    · rename_i k
      cases rd with
      | @ref _ a hk =>
      split at h
      · rename_i xs e
        split at h
        · rename_i hf
          rw [Bool.and_eq_true] at hf
          split at h
          · rename_i j ej
            obtain ⟨ws, hws, rws⟩ := R.list hk e
            rw [List.findIdx?_eq_some_iff_getElem] at ej
            obtain ⟨hj, e1, e2⟩ := ej
            obtain ⟨z, ez, rz⟩ := rws.get (List.getElem?_eq_getElem hj)
            have fz := List.all_eq_true.mp hf.2 _ (List.getElem_mem hj)
            refine mt_index pins s σ H _ _ v us Q I rx rs ⟨a, ws, w, j, z, rfl, rfl, .of hws, hw.flat hf.1, rws.flat hf.2, ez, ?_, fun m z' hm hz' => ?_, h.ok R (.int _)⟩
            · rw [← eqF_eqV rz hw fz hf.1]
              exact e1
            · have hml : m < xs.length := by omega
              rw [← RVs.eqs hw hf.1 rws hf.2 (List.getElem?_eq_getElem hml) hz']
              have := e2 m hm
              exact Bool.eq_false_iff.mpr this
          · exact (h : False).elim
        · exact (h : False).elim
      · exact (h : False).elim
    · exact (h : False).elim
  · exact (h : False).elim
end
end ML

/-! ML18: enumerate over tuples. -/
namespace ML
open PySem PySem.Spec PyProof.Rows L2
open Sem (wp)
open AutoSeq1 (wpAny_loadPart')
theorem meets_enumT (l : Addr) (items : Array Value) (n : Nat) (dct : Option Addr) (sl : Array (Option Value)) :
    Meets (Builtin.«enumerate.__new__» ⟨[.type "enumerate", .ref l], []⟩) (fun _ R s => s.heap.get? l = some { cls := .type "tuple", dict := dct, data := .seq items n, slots := sl } ∧
      R (.ok (.ret (.ref (s.heap.push { cls := .type "tuple_iterator", data := .fields #[.ref l, .int 0 0] }).objs.size)))
        { s with heap := (s.heap.push { cls := .type "tuple_iterator", data := .fields #[.ref l, .int 0 0] }).push { cls := .type "enumerate", data := .fields #[.none, .bool false, .ref s.heap.objs.size, rawInt 0, .none, .none] } }) :=
  .of_wp fun prog w A R s h => by
    obtain ⟨hp, g, d, tk, os⟩ := s; obtain ⟨hl, h⟩ := h
    have hsub := sub_enumerate
    have hL : Heap.IsTuple (Shared.heap ⟨hp, g, d, tk, os⟩) l items := ⟨_, hl, rfl, n, rfl⟩
    wp_walk using wpAny_loadPart' hl
    refine wpAny_stack_any fun st => wpAny_pure ?_
    split
    · rename_i c _ _ _ _ _
      cases (c == Value.type "enumerate")
      · wp_walk using wpAny_loadPart' hl, wpAny_pyIter_tuple hL
        exact ⟨_, rfl, h⟩
      · wp_walk using wpAny_loadPart' hl, wpAny_pyIter_tuple hL
        exact ⟨_, rfl, h⟩
    · wp_walk using wpAny_loadPart' hl, wpAny_pyIter_tuple hL
      exact ⟨_, rfl, h⟩
section
variable {prog : Program} {w : World} {A : Around} {E : Value → Shared → Prop} {s : Shared}
theorem call_enumT {l : Addr} {items : Array Value} {Q : Value → Shared → Prop} (hL : s.heap.IsTuple l items)
    (h : ∀ h', IsEnum h' (s.heap.objs.size + 1) s.heap.objs.size 0 .none → h'.IsTupleIter s.heap.objs.size l 0 → h'.objs.size = s.heap.objs.size + 2 →
      (∀ b o, s.heap.get? b = some o → h'.get? b = some o) → Q (.ref (s.heap.objs.size + 1)) { s with heap := h' }) :
    wpAny (model prog w) A (call (.type "enumerate") [.ref l]) Q E s := by
  obtain ⟨⟨c, dct, dt, sl⟩, hl, hc, n, hd⟩ := hL
  replace hc : c = .type "tuple" := hc
  replace hd : dt = .seq items n := hd
  subst hc hd
  refine callType_new F.called_enumerate (by decide) (F.typeCall_enumerate_1 _) (F.newCall_enumerate_1 _) (fun obj => F.args_object_init_2 obj _) F.entry_enumerate_new
    (meets_enumT l items n dct sl) ⟨hl, ?_⟩
  have hz : (s.heap.push { cls := .type "tuple_iterator", data := .fields #[.ref l, .int 0 0] }).objs.size = s.heap.objs.size + 1 := Heap.size_push ..
  show _ ∧ _
  rw [hz]
  have he : IsEnum ((s.heap.push { cls := .type "tuple_iterator", data := .fields #[.ref l, .int 0 0] }).push
      { cls := .type "enumerate", data := .fields #[.none, .bool false, .ref s.heap.objs.size, rawInt 0, .none, .none] }) (s.heap.objs.size + 1) s.heap.objs.size 0 .none := by
    have := Heap.get?_push_size (s.heap.push { cls := .type "tuple_iterator", data := .fields #[.ref l, .int 0 0] })
      (o := { cls := .type "enumerate", data := .fields #[.none, .bool false, .ref s.heap.objs.size, rawInt 0, .none, .none] }) rfl
    rw [hz] at this; exact this
  refine ⟨⟨_, he, rfl⟩, h _ he ⟨_, Heap.get?_push_of_some _ (Heap.get?_push_size _ rfl), rfl, rfl⟩ (by rw [Heap.size_push, hz]) fun b o x => Heap.get?_push_of_some _ (Heap.get?_push_of_some _ x)⟩
end
section
variable {prog : Program} {w : World} {A : Around} {E : Value → Shared → Prop} {s : Shared}
theorem wpAny_pyNext_enum_endT {e it l : Addr} {i : Nat} {items : Array Value} {old : Value} {Q : Option Value → Shared → Prop} (hh : A.handled = none)
    (he : IsEnum s.heap e it i old) (hit : s.heap.IsTupleIter it l i) (hl : s.heap.IsTuple l items) (hx : items[i]? = none)
    (hQ : ∀ h', Heap.ExtBut it s.heap h' → Q none { s with heap := h' }) : wpAny (model prog w) A (pyNext (.ref e)) Q E s := by
  have hTy : s.TypeIs (.ref e) "enumerate" := ⟨_, he, rfl⟩
  unfold pyNext
  refine wpAny_bind (wpAny_attempt (wpAny_callSpecial?_slot (name := Str.ofString "__next__") hTy F.slot_enumerate_next
    (wpAny_call_entry F.slot_enumerate_next hTy F.entry_enumerate_next ?_ (F.args_enumerate_next_1 _))))
  show wpAny _ _ (field (.ref e) 2 >>= _) _ _ _
  refine wpAny_bind (wpAny_field he rfl (x := .ref it) rfl ?_)
  refine wpAny_bind (wpAny_nextOf_tuple_end hh hit hl hx fun h' x he' hx' => ?_)
  obtain ⟨o, ho, hc⟩ := hx'
  refine wpAny_bind (wpAny_isInstance (T := "StopIteration") (b := true) ⟨o, ho, hc⟩ isSubtype_stop ?_)
  exact wpAny_pure (hQ _ he')
end
def IteT (K : PySem.W.Frag) (a : Addr) : It :=
  ⟨fun i H => ∃ (xs : List V) (x : V), SqT K H a xs ∧ xs[i]? = some x, fun i H v H' => ∃ T x, v = .ref T ∧ H T = none ∧ H' = upd H T (.tup [.int (i : Nat), x]) ∧ ∀ xs, SqT K H a xs → xs[i]? = some x, fun i H => ∃ xs : List V, SqT K H a xs ∧ xs.length ≤ i⟩
theorem turn_enumT {P : Program} {w : World} {K : PySem.W.Frag} {elts : List Expr} {kk : Nat} {tpos : Pos} (a e it : Addr) :
    Turn P w K (.Tuple elts kk tpos) (IteT K a) [e, it] e (fun i h => (∃ old, IsEnum h e it ((i : Nat) : Int) old) ∧ h.IsTupleIter it a i ∧ e ≠ it ∧ a ≠ it ∧ a ≠ e) where
  mem := by simp
  obj := fun i h st b hb => by
    obtain ⟨⟨old, he⟩, ⟨o, ho, hc, hd⟩, _⟩ := st
    have e' : b = e ∨ b = it := by simpa using hb
    rcases e' with z | z
    · rw [z]; exact ⟨_, he, fun v q => nomatch q⟩
    · rw [z]; exact ⟨o, ho, fun v q => by rw [hd] at q; cases q⟩
  keep := fun i h h' st k => let ⟨⟨old, he⟩, hi, hne⟩ := st; ⟨⟨old, k e (by simp) _ he⟩, hi.at fun o q => k it (by simp) o q, hne⟩
  item := by
    intro X hP hw hK hc i pins s σ H E I hf st hg
    subst hP hw hK
    obtain ⟨⟨old, he⟩, hit, hne, hai, hae⟩ := st
    obtain ⟨xs, x, hq, hx⟩ := hg
    obtain ⟨its, rv, p, hz⟩ := I.tuple hq
    obtain ⟨u, hu, ru⟩ := rv.get hx
    have hil : i < its.toArray.size := by
      have := (List.getElem?_eq_some_iff.mp hu).1
      simpa using this
    have hel : e < s.heap.objs.size := Heap.lt_size he
    have hitl : it < s.heap.objs.size := by obtain ⟨_, q, _⟩ := hit; exact Heap.lt_size q
    have D : Draws X.prog X.w X.A.in1 it [it, a] its.toArray.size (fun i v => its.toArray[i]? = some v) (fun i h => h.IsTupleIter it a i ∧ h.IsTuple a its.toArray) := Draws.tuple (A := X.A.in1) (show X.A.in1.handled = none from I.ok.hd hc) it a hai its.toArray
    refine wpAny_pyNext_enum_itemD D he ⟨hit, p⟩ hil hne (by simp [hne, Ne.symm hae]) fun y h' tk hy ho hst hT hsz hk => ?_
    have ey : y = u := by
      have hu2 : its.toArray[i]? = some u := by simpa using hu
      rw [hu2] at hy
      cases hy
      rfl
    subst ey
    refine ⟨_, rfl, wpAny_letOwnedTupleGo_enum (s := { s with heap := h', toks := tk + 1 }) ho fun h'' he' sb => ?_⟩
    have hT2 : h''.get? s.heap.objs.size = some { cls := .type "tuple", data := .seq #[.int i tk, y] } := (sb.2 _ (Nat.ne_of_gt hel)).trans hT
    have new : ObjOk X.prog X.w (upd H s.heap.objs.size (.tup [.int (i : Nat), x])) h'' s.heap.objs.size (.tup [.int (i : Nat), x]) :=
      ⟨by show 2 ≤ sizeLine; decide, [.int i tk, y], .cons ⟨_, rfl⟩ (.cons ru .nil), ⟨_, hT2, rfl, _, rfl⟩⟩
    have I1 : Inv X pins σ (upd H s.heap.objs.size (.tup [.int (i : Nat), x])) { s with heap := h'', toks := tk + 1 } :=
      I.turnedNew (ch := [e, it]) (fun b ob hb q => (sb.2 b (fun z => hb (by simp [z]))).trans (hk b ob (fun z => hb (by simp [z])) (fun z => hb (by simp [z])) q)) hf (Nat.le_refl _) new
    refine ⟨.ref s.heap.objs.size, _, I1, rfl, ⟨_, x, rfl, I.hok.fresh (Nat.le_refl _), rfl, fun ys hy => by rw [I.tuple_inj hy hq]; exact hx⟩, ⟨⟨y, ?_⟩, hst.1.at fun o q => (sb.2 it (Ne.symm hne)).trans q, hne, hai, hae⟩, fun b hb => ?_⟩
    · have e1 : ((i + 1 : Nat) : Int) = (i : Int) + 1 := by omega
      rw [e1]; exact he'
    · have hb' : b < s.heap.objs.size := by
        have e' : b = e ∨ b = it := by simpa using hb
        rcases e' with z | z
        · rw [z]; exact hel
        · rw [z]; exact hitl
      rw [upd_ne (Nat.ne_of_lt hb')]
      exact (hf b hb).1
  done := by
    intro X hP hw hK hc i pins s σ H E I hf st hg
    subst hP hw hK
    obtain ⟨⟨old, he⟩, hit, hne, hai, hae⟩ := st
    obtain ⟨xs, hq, hx⟩ := hg
    obtain ⟨its, rv, p, hz⟩ := I.tuple hq
    obtain ⟨f0, f1, f2, f3, f4, f5⟩ := hf it (by simp)
    have hl := rv.length
    exact wpAny_pyNext_enum_endT (I.ok.hd hc) he hit p (by simp; omega) fun h' eb => ⟨rfl, I.turned (t' := s.toks) (fun b o hb q => eb b o hb q) f0 f1 f3 f4 f5⟩
  self := fun A i s Q E st h => let ⟨⟨_, he⟩, _⟩ := st; wpAny_pyIter_enum he h
def iEnumA (K : PySem.W.Frag) (ta : TA) : TI := fun σ H R => ta σ H fun vs H1 => ∃ a xs, vs = [.ref a] ∧ ((SqL K H1 a xs ∧ R (Ite K a) H1) ∨ (SqT K H1 a xs ∧ R (IteT K a) H1))
theorem pi_enumA {X : Cx} {e : Expr} {ta : TA} {p pos tpos : Pos} {elts : List Expr} {kk : Nat} (hg : Gl X "enumerate") (hm : X.mg "enumerate" = none) (ha : PA X [e] ta) (hs : starEach [e] X.env = [(false, eval e X.env)] := by rfl) :
    PI X (.Tuple elts kk tpos) (.Call (.Name "enumerate" p) [e] [] pos) (iEnumA X.K ta) := by
  refine ⟨fun pins s σ H R I h => ?_⟩
  refine Call_ (ld_blt I hg hm boot_enumerate (PyProof.Rows.callWith_type1 (thn (ha.run pos pins s σ H _ I h) fun us s1 ⟨vs, H1, I1, r1, q1⟩ => ?_) hs rfl))
  obtain ⟨a, xs, ex, q1⟩ := q1
  subst ex
  cases r1 with
  | cons r rr =>
    cases rr
    cases r
    have fin : ∀ {h' : Heap} {b : Addr}, s1.heap.objs.size ≤ b → FpOk X pins H1 b := fun hle => I1.fpOk hle (I1.hok.fresh hle)
    have hle2 : ∀ b ∈ [s1.heap.objs.size + 1, s1.heap.objs.size], s1.heap.objs.size ≤ b := fun b hb => by
      have e' : b = s1.heap.objs.size + 1 ∨ b = s1.heap.objs.size := by simpa using hb
      rcases e' with z | z
      · rw [z]; exact Nat.le_add_right _ _
      · rw [z]; exact Nat.le_refl _
    rcases q1 with ⟨hq, q⟩ | ⟨hq, q⟩
    · obtain ⟨its, rv, p', hz⟩ := I1.list hq
      refine call_enumerate_list p'.isList fun h' he hit hsz hk => wpAny_pyIter_enum he ?_
      have I2 : Inv X pins σ H1 { s1 with heap := h' } := I1.kept (t' := s1.toks) hk
      exact ⟨s1.heap.objs.size + 1, [s1.heap.objs.size + 1, s1.heap.objs.size], _, _, H1, rfl, I2, turn_enum a (s1.heap.objs.size + 1) s1.heap.objs.size, ⟨⟨.none, he⟩, hit, Nat.succ_ne_self _⟩, fun b hb => I1.fpOk (hle2 b hb) (I1.hok.fresh (hle2 b hb)), q⟩
    · obtain ⟨its, rv, p', hz⟩ := I1.tuple hq
      have hal : a < s1.heap.objs.size := by
        obtain ⟨o, ho, _⟩ := id p'
        exact Heap.lt_size ho
      refine call_enumT p' fun h' he hit hsz hk => wpAny_pyIter_enum he ?_
      have I2 : Inv X pins σ H1 { s1 with heap := h' } := I1.kept (t' := s1.toks) hk
      exact ⟨s1.heap.objs.size + 1, [s1.heap.objs.size + 1, s1.heap.objs.size], _, _, H1, rfl, I2, turn_enumT a (s1.heap.objs.size + 1) s1.heap.objs.size, ⟨⟨.none, he⟩, hit, Nat.succ_ne_self _, Nat.ne_of_lt hal, Nat.ne_of_lt (Nat.lt_succ_of_lt hal)⟩, fun b hb => I1.fpOk (hle2 b hb) (I1.hok.fresh (hle2 b hb)), q⟩
def seqX (d : DV) (st : Sto) : Option (List DV × List (Nat × DO)) := match d with
  | .tup xs => some (xs, [])
  | .ktp xs => some (xs, [])
  | d => seqOf d st
def iEnX (ms : List Ex) : Sl → M Wk := fun ss => bnd (eArgs ms ss) fun ds st => match ds with
  | [d] => match seqX d st with
    | some (xs, g) => .ok ⟨(List.range xs.length).zipWith (fun i x => .tup [.int (i : Nat), x]) xs, g⟩ st
    | none => .bad
  | _ => .bad
theorem en_walk {K : PySem.W.Frag} {mg : Str → Option Value} {ads : List Addr} {H1 : Hp} {a : Addr} {xs : List DV} {g : List (Nat × DO)} (fut : ∀ ads' H' st', Fut ads H1 ads' H' → RSt K mg ads' H' st' → okG g st' → ∃ ws, SqL K H' a ws ∧ RVs K ads' H' xs ws) :
    Walks K mg ⟨(List.range xs.length).zipWith (fun i x => DV.tup [.int (i : Nat), x]) xs, g⟩ (Ite K a) ads H1 := by
  refine ⟨fun i d' ads' H' st' hi f R' ok => ?_, fun i ads' H' st' hi f R' ok => ?_⟩
  · obtain ⟨ws, hw, rw'⟩ := fut ads' H' st' f R' ok
    rw [List.getElem?_zipWith] at hi
    cases hx : xs[i]? with
    | none => rw [hx] at hi; cases h5 : (List.range xs.length)[i]? <;> rw [h5] at hi <;> cases hi
    | some x =>
      have hil : i < xs.length := (List.getElem?_eq_some_iff.mp hx).1
      rw [hx, List.getElem?_range hil] at hi
      cases hi
      obtain ⟨w, h1, h2⟩ := rw'.get hx
      refine ⟨⟨ws, w, hw, h1⟩, fun y H2 ⟨T, z, e1, hT, e2, e3⟩ => ?_⟩
      subst e1 e2
      have e4 := e3 ws hw
      rw [h1] at e4
      cases e4
      exact new_pair R' hT (.int _) h2
  · obtain ⟨ws, hw, rw'⟩ := fut ads' H' st' f R' ok
    refine ⟨ws, hw, ?_⟩
    rw [← rw'.length]
    simpa using hi
theorem en_walkT {K : PySem.W.Frag} {mg : Str → Option Value} {ads : List Addr} {H1 : Hp} {a : Addr} {xs : List DV} {vs : List V} (hs : SqT K H1 a vs) (rs : RVs K ads H1 xs vs) :
    Walks K mg ⟨(List.range xs.length).zipWith (fun i x => DV.tup [.int (i : Nat), x]) xs, []⟩ (IteT K a) ads H1 := by
  refine ⟨fun i d' ads' H' st' hi f R' ok => ?_, fun i ads' H' st' hi f R' ok => ?_⟩
  · have rw' := rs.mono f
    have hw := f.kp.sqT hs
    rw [List.getElem?_zipWith] at hi
    cases hx : xs[i]? with
    | none => rw [hx] at hi; cases h5 : (List.range xs.length)[i]? <;> rw [h5] at hi <;> cases hi
    | some x =>
      have hil : i < xs.length := (List.getElem?_eq_some_iff.mp hx).1
      rw [hx, List.getElem?_range hil] at hi
      cases hi
      obtain ⟨w, h1, h2⟩ := rw'.get hx
      refine ⟨⟨vs, w, hw, h1⟩, fun y H2 ⟨T, z, e1, hT, e2, e3⟩ => ?_⟩
      subst e1 e2
      have e4 := e3 vs hw
      rw [h1] at e4
      cases e4
      exact new_pair R' hT (.int _) h2
  · refine ⟨vs, f.kp.sqT hs, ?_⟩
    rw [← rs.length]
    simpa using hi
section
variable {X : Cx} {W : WX} {pos : Pos}
theorem ri_enumX {e : Expr} {ms : List Ex} {p tpos : Pos} {elts : List Expr} {kk : Nat} (hg : Gl X "enumerate") (hm : X.mg "enumerate" = none) (ha : RA X W [e] ms) (hs : starEach [e] X.env = [(false, eval e X.env)] := by rfl) :
    RI X W (.Tuple elts kk tpos) (.Call (.Name "enumerate" p) [e] [] pos) (iEnX ms) := ⟨fun pins s σ H R I h => (pi_enumA hg hm ha hs).run pins s σ H R I (by
  refine (tM.bind (R := rVs X.K) h).imp fun vs H1 ⟨ads, ss, ds, st, Rs, L, rv, p⟩ => ?_
  match ds, rv, p with
  | [d], rv, p =>
    obtain ⟨u, rfl, r⟩ := rv.one
    simp only at p
    split at p
    · rename_i xs g e0
      cases r with
      | @tup a ys vs hs rs =>
        cases e0
        exact ⟨a, vs, rfl, .inr ⟨.of hs, p ads H1 _ .refl Rs (en_walkT (.of hs) rs)⟩⟩
      | @ktp a ys vs hs rs =>
        cases e0
        exact ⟨a, vs, rfl, .inr ⟨hs, p ads H1 _ .refl Rs (en_walkT hs rs)⟩⟩
      | @ref k a hk =>
        obtain ⟨a, vs, h1, hs, rs, fut⟩ := seqOf_at (d := .ref k) Rs (.ref hk) e0
        exact ⟨a, vs, by rw [h1], .inl ⟨hs, p ads H1 _ .refl Rs (en_walk fut)⟩⟩
      | @fzl a ys vs hq rs =>
        obtain ⟨a, vs, h1, hs, rs, fut⟩ := seqOf_at (d := .fzl ys) Rs (.fzl hq rs) e0
        exact ⟨a, vs, by rw [h1], .inl ⟨hs, p ads H1 _ .refl Rs (en_walk fut)⟩⟩
      | _ => cases e0
    · exact p.elim
  | [], _, p => exact (p : False).elim
  | _ :: _ :: _, _, p => exact (p : False).elim)⟩
end
end ML

/-! ML19: an int times a bool. -/
namespace ML
open PySem PySem.Spec PyProof.Rows L2
open Sem (wp)
section
variable {M : Model} {prog : Program} {w : World} {A : Around} {E : Value → Shared → Prop} {s : Shared} {a : Int} {t : Tok} {b : Bool}
end
section
variable {X : Cx} {W : WX}
end
end ML

/-! ML20: min and max of a tuple of ints. -/
namespace ML
open PySem PySem.Spec PyProof.Rows L2
open Sem (wp)
section
variable {X : Cx} {W : WX}
end
end ML

/-! ML21: dicts whose keys are nested tuples of whole numbers and None. -/
namespace ML
open PySem PySem.Spec PyProof.Rows L2
mutual
theorem nk_inj : ∀ {a b : HK}, nk a = nk b → a = b
  | .non, b, e => by cases b <;> simp [nk] at e ⊢
  | .int i, b, e => by cases b <;> simp [nk] at e ⊢; exact e
  | .str i, b, e => by cases b <;> simp [nk] at e ⊢; exact e
  | .tup xs, b, e => by
    cases b with
    | tup ys =>
      simp only [nk, NestedKey.tup.injEq] at e
      rw [nks_inj e]
    | _ => simp [nk] at e
theorem nks_inj : ∀ {a b : List HK}, nks a = nks b → a = b
  | [], b, e => by cases b <;> simp [nks] at e ⊢
  | x :: xs, b, e => by
    cases b with
    | nil => simp [nks] at e
    | cons y ys =>
      simp only [nks, List.cons.injEq] at e
      rw [nk_inj e.1, nks_inj e.2]
end
theorem keyN_num {h : HK} (k : keyN h = true) : numT h = true ∧ (nk h).depth ≤ 8 := by
  cases h with
  | tup ks =>
    simp only [keyN, Bool.and_eq_true, decide_eq_true_eq] at k
    exact k
  | _ => cases k
section
variable {P : Program} {w : World} {h : Heap} {K : PySem.W.Frag} {mg : Str → Option Value} {ads : List Addr} {H : Hp}
mutual
theorem nested_of (ok : HOk P w H h) : ∀ {d : DV} {k : HK} {v : V} {u : Value}, kOf d = some k → RV K ads H d v → RelV v u → NestedIs h (nk k) u
  | .non, k, _, u, e, .non, r => by
    cases e
    cases (show u = Value.none from r)
    exact .none
  | .int i, k, _, u, e, .int _, r => by
    cases e
    obtain ⟨t, rfl⟩ := (show ∃ t, u = Value.int i t from r)
    exact .int i t
  | .str x, k, _, u, e, .str _, r => by
    cases e
    obtain ⟨t, rfl⟩ := (show ∃ t, u = Value.str x t from r)
    exact .text x t
  | .tup ks, k, _, u, e, @RV.tup _ _ _ a _ vs hs rs, r => by
    simp only [kOf, Option.map_eq_some_iff] at e
    obtain ⟨ks', e1, e2⟩ := e
    subst e2
    cases (show u = Value.ref a from r)
    obtain ⟨_, its, rv, o, h1, h2, n, h3⟩ := (show ObjOk P w H h a (.tup vs) from ok a _ hs)
    exact .tup h1 h2 h3 (by simpa using nesteds_of ok e1 rs rv)
  | .bl b, k, _, u, e, _, r => by cases e
  | .fzl xs, k, _, u, e, _, r => by cases e
  | .ktp xs, k, _, u, e, _, r => by cases e
  | .ref j, k, _, u, e, _, r => by cases e
  | .ty n, k, _, u, e, _, r => by cases e
  | .exn _ _ _ _, k, _, u, e, _, r => by cases e
theorem nesteds_of (ok : HOk P w H h) : ∀ {ds : List DV} {ks : List HK} {vs : List V} {us : List Value}, kOfs ds = some ks → RVs K ads H ds vs → Vals vs us → NestedAll h (nks ks) us
  | [], ks, _, _, e, .nil, .nil => by cases e; exact .nil
  | d :: ds, ks, _, _, e, .cons hd r, .cons hv rv => by
    simp only [kOfs] at e
    obtain ⟨h0, e1, e⟩ := Option.bind_eq_some_iff.mp e
    obtain ⟨hs', e2, e⟩ := Option.map_eq_some_iff.mp e
    subst e
    exact .cons (nested_of ok e1 hd hv) (nesteds_of ok e2 r rv)
end
theorem kOf_dOf : ∀ {k : HK}, kOf (dOf k) = some k := by
  have both : (∀ k : HK, kOf (dOf k) = some k) := by
    intro k
    refine HK.rec (motive_1 := fun k => kOf (dOf k) = some k) (motive_2 := fun ks => kOfs (dOfs ks) = some ks) rfl (fun _ => rfl) (fun _ => rfl) (fun ks ih => ?_) rfl (fun a as h1 h2 => ?_) k
    · show (kOfs (dOfs ks)).map HK.tup = _
      rw [ih]
      rfl
    · show ((kOf (dOf a)).bind fun h => (kOfs (dOfs as)).map (h :: ·)) = _
      rw [h1, h2]
      rfl
  exact fun {k} => both k
/-- a dict's keys and values beside the model's entries -/
def TN (K : PySem.W.Frag) (ads : List Addr) (H : Hp) : List (HK × DV) → List (NestedKey × Addr × Value) → Prop := Paired fun (p : HK × DV) (q : NestedKey × Addr × Value) => keyN p.1 = true ∧ q.1 = nk p.1 ∧ RV K ads H (dOf p.1) (.ref q.2.1) ∧ ∃ v, RV K ads H p.2 v ∧ RelV v q.2.2
theorem TN.mono2 {ads' : List Addr} {H' : Hp} (f : Ext ads ads') (k : Kp H H') {ds : List (HK × DV)} {vs : List (NestedKey × Addr × Value)} (x : TN K ads H ds vs) : TN K ads' H' ds vs :=
  Paired.mapP x fun _ _ ⟨q1, q2, q3, v, q4, q5⟩ => ⟨q1, q2, q3.mono2 f k, v, q4.mono2 f k, q5⟩
abbrev PN : List (NestedKey × Addr × V) → List (NestedKey × Addr × Value) → Prop := Paired fun (p : NestedKey × Addr × V) (q : NestedKey × Addr × Value) => p.1 = q.1 ∧ p.2.1 = q.2.1 ∧ RelV p.2.2 q.2.2
theorem TN.of : ∀ {kvs : List (HK × DV)} {vs : List (NestedKey × Addr × V)} {xs : List (NestedKey × Addr × Value)}, RNs K ads H kvs vs → PN vs xs → TN K ads H kvs xs
  | _, _, _, .nil, .nil => .nil
  | _, _, _, .cons ⟨a1, a2, a3, a4⟩ r, .cons ⟨b1, b2, b3⟩ t => .cons ⟨a1, b1.symm.trans a2, by rw [← b2]; exact a3, _, a4, b3⟩ (TN.of r t)
theorem TN.split : ∀ {kvs : List (HK × DV)} {xs : List (NestedKey × Addr × Value)}, TN K ads H kvs xs → ∃ vs, RNs K ads H kvs vs ∧ PN vs xs
  | _, _, .nil => ⟨[], .nil, .nil⟩
  | _, (k, b, u) :: xs, .cons ⟨a1, a2, a3, v, a4, a5⟩ r => by
    obtain ⟨vs, h1, h2⟩ := TN.split r
    exact ⟨(k, b, v) :: vs, .cons ⟨a1, a2, a3, a4⟩ h1, .cons ⟨rfl, rfl, a5⟩ h2⟩
/-- what is found -/
def RelN (K : PySem.W.Frag) (ads : List Addr) (H : Hp) : Option DV → Option (Addr × Value) → Prop
  | some d, some p => ∃ v, RV K ads H d v ∧ RelV v p.2
  | none, none => True
  | _, _ => False
theorem atKey_cons {k k' : NestedKey} {p : Addr × Value} {xs : List (NestedKey × Addr × Value)} : atKey ((k', p) :: xs) k = if k' = k then some p else atKey xs k := by
  unfold atKey
  rw [List.find?_cons]
  by_cases e : k' = k
  · rw [decide_eq_true (show (k', p).1 = k from e), if_pos e]
    rfl
  · rw [decide_eq_false (show ¬ (k', p).1 = k from e), if_neg e]
theorem TN.get {hk : HK} : ∀ {kvs : List (HK × DV)} {xs : List (NestedKey × Addr × Value)}, TN K ads H kvs xs → RelN K ads H (hGet kvs hk) (atKey xs (nk hk))
  | _, _, .nil => True.intro
  | (k, d) :: kvs, (k', b, u) :: xs, .cons ⟨a1, a2, a3, v, a4, a5⟩ r => by
    have a2 : k' = nk k := a2
    subst a2
    rw [atKey_cons]
    unfold hGet
    by_cases e : k = hk
    · subst e
      rw [if_pos rfl, if_pos rfl]
      exact ⟨v, a4, a5⟩
    · rw [if_neg e, if_neg (fun z => e (nk_inj z))]
      exact TN.get r
theorem putAt_id {k : NestedKey} {u : Value} {xs : List (NestedKey × Addr × Value)} (h : k ∉ xs.map (·.1)) : xs.map (putAt k u) = xs := by
  have : ∀ p ∈ xs, putAt k u p = p := fun p hp => by
    unfold putAt
    rw [if_neg]
    intro e
    exact h (by rw [← e]; exact List.mem_map_of_mem hp)
  rw [List.map_congr_left this, List.map_id']
theorem storedH_cons {k k' : NestedKey} {b b' : Addr} {u u' : Value} {xs : List (NestedKey × Addr × Value)} (nd : k' ∉ xs.map (·.1)) : storedH ((k', b', u') :: xs) k b u = if k' = k then (k', b', u) :: xs else (k', b', u') :: storedH xs k b u := by
  unfold storedH
  rw [atKey_cons]
  by_cases e : k' = k
  · subst e
    rw [if_pos rfl, if_pos rfl, if_pos (by rfl), List.map_cons, putAt_id nd]
    unfold putAt
    rw [if_pos rfl]
  · rw [if_neg e, if_neg e]
    split
    · rw [List.map_cons]
      congr 1
      unfold putAt
      rw [if_neg (show ¬ (k', b', u').1 = k from e)]
    · rfl
theorem TN.put {hk : HK} {d : DV} {b : Addr} {v : V} {u : Value} (ko : keyN hk = true) (rb : RV K ads H (dOf hk) (.ref b)) (rv : RV K ads H d v) (ru : RelV v u) : ∀ {kvs : List (HK × DV)} {xs : List (NestedKey × Addr × Value)}, (xs.map (·.1)).Nodup → TN K ads H kvs xs → TN K ads H (hSet kvs hk d) (storedH xs (nk hk) b u)
  | _, _, _, .nil => .cons ⟨ko, rfl, rb, v, rv, ru⟩ .nil
  | (k, d') :: kvs, (k', b', u') :: xs, nd, .cons ⟨a1, a2, a3, v', a4, a5⟩ r => by
    have a2 : k' = nk k := a2
    subst a2
    have nd2 := List.nodup_cons.mp nd
    rw [storedH_cons nd2.1]
    unfold hSet
    by_cases e : k = hk
    · subst e
      rw [if_pos rfl, if_pos rfl]
      exact .cons ⟨a1, rfl, a3, v, rv, ru⟩ r
    · rw [if_neg e, if_neg (fun z => e (nk_inj z))]
      exact .cons ⟨a1, rfl, a3, v', a4, a5⟩ (TN.put ko rb rv ru nd2.2 r)
theorem TN.len {kvs : List (HK × DV)} {xs : List (NestedKey × Addr × Value)} (x : TN K ads H kvs xs) : kvs.length = xs.length := Paired.length x
theorem TN.is (ok : HOk P w H h) : ∀ {kvs : List (HK × DV)} {xs : List (NestedKey × Addr × Value)}, TN K ads H kvs xs → ∀ x ∈ xs, (nestedKind P w).is h x.1 x.2.1
  | _, _, .nil => fun x hx => by simp at hx
  | (k, d') :: kvs, (k', b', u') :: xs, .cons ⟨a1, a2, a3, v', a4, a5⟩ r => fun x hx => by
    rcases List.mem_cons.mp hx with e | hx
    · subst e
      have a2 : k' = nk k := a2
      subst a2
      exact ⟨nested_of ok kOf_dOf a3 rfl, (keyN_num a1).2⟩
    · exact TN.is ok r x hx
end
section
variable {X : Cx}
theorem RelN.isSome {K : PySem.W.Frag} {ads : List Addr} {H : Hp} {a : Option DV} {b : Option (Addr × Value)} (r : RelN K ads H a b) : a.isSome = b.isSome := by
  cases a <;> cases b <;> first | rfl | exact r.elim
end
end ML

/-! ML22: methods of dicts whose keys are nested tuples. -/
namespace ML
open PySem PySem.Spec PyProof.Rows L2
section
variable {X : Cx} {W : WX} {o e : Expr} {es : List Expr} {m : Ex} {ms : List Ex} {name : Str} {apos cpos : Pos} {id : String} {g : DV → List DV → M DV}
end
end ML

/-! ML23: chains of three comparisons; xs[i] op= e. -/
namespace ML
open PySem PySem.Spec PyProof.Rows L2
section
variable {X : Cx} {W : WX} {a b c d : Expr} {ma mb mc md : Ex} {pos : Pos}
end
section
variable {X : Cx} {W : WX} {o i e : Expr} {mo mi me : Ex} {pos tpos : Pos}
end
end ML

/-! ML24: texts parted, put in capitals, written with values. -/
namespace ML
open PySem PySem.Spec PyProof.Rows L2
/-! a.split(b) -/
/-! a.partition(b) -/
/-! a.upper() -/
/-! texts with values in them -/
section
variable {X : Cx} {W : WX} {e : Expr} {m : Ex} {pos : Pos}
inductive RJ (X : Cx) (W : WX) : List Expr → List Ex → Prop where
  | nil : RJ X W [] []
  | cons {e : Expr} {m : Ex} {es : List Expr} {ms : List Ex} (h : RE X W e m) (r : RJ X W es ms) : RJ X W (e :: es) (m :: ms)
end
end ML

/-! ML25: lists of numbers in order; targets in targets. -/
namespace ML
open PySem PySem.Spec PyProof.Rows L2
section
open PySem.SeqAt
open PySem.AutoSeq1 (wpAny_loadPart')
open PySem.MeetsSeq PySem.MeetsSeq2 PySem.MeetsSeq3
end
section
variable {prog : Program} {w : World} {A : Around} {E : Value → Shared → Prop} {s : Shared}
end
section
variable {X : Cx}
end

/-! ### targets in targets -/
def tgsT (K : PySem.W.Frag) (mg : Str → Option Value) : List Tg → TGs
  | [] => gNil
  | g :: gs => gCons (tG K mg g) (tgsT K mg gs)
/-- several targets, one after another -/
inductive RGs (X : Cx) : List Expr → List Tg → Prop
  | nil : RGs X [] []
  | cons {e : Expr} {es : List Expr} {g : Tg} {gs : List Tg} (h : RG X e g) (r : RGs X es gs) (hs : (assignEach (e :: es) X.env) = (false, assign e X.env) :: (assignEach es X.env) := by rfl) : RGs X (e :: es) (g :: gs)
theorem RGs.each {X : Cx} : ∀ {es : List Expr} {gs : List Tg}, RGs X es gs → (assignEach es X.env).length = gs.length ∧ (assignEach es X.env).findIdx? (·.1) = none ∧ PGs X es (tgsT X.K X.mg gs)
  | _, _, .nil => ⟨rfl, rfl, pgs_nil⟩
  | _, _, .cons h r hs => by
    obtain ⟨h1, h2, h3⟩ := RGs.each r
    refine ⟨?_, ?_, pgs_cons h h3 (by rw [hs]; rfl)⟩
    · rw [hs]; exact congrArg (· + 1) h1
    · rw [hs, List.findIdx?_cons, h2]
      rfl
section
variable {X : Cx} {W : WX} {pos : Pos}
end

/-! ### lists of dicts that are the same -/
section
open PySem.SeqAt
open PySem.AutoSeq1 (wpAny_loadPart')
open PySem.MeetsSeq PySem.MeetsSeq2 PySem.MeetsSeq3
end
section
variable {X : Cx}
end

section
variable {X : Cx}
end

/-! ### isinstance by several types -/
section
variable {X : Cx}
end
end ML

/-! ML26: a dict walked by its keys while it is locked. -/
namespace ML
open PySem PySem.Spec PyProof.Rows L2
theorem RSl.mono2 {K : PySem.W.Frag} {ads ads' : List Addr} {H H' : Hp} {ss : Sl} {σ : L2.St} (h : RSl K ads H ss σ) (f : Ext ads ads') (k : Kp H H') : RSl K ads' H' ss σ :=
  ⟨h.1, fun i d e => let ⟨v, h1, h2⟩ := h.2 i d e; ⟨v, h1, h2.mono2 f k⟩⟩
section
variable {K : PySem.W.Frag} {mg : Str → Option Value} {W : WX}
end
section
variable {X : Cx} {W : WX}
end

/-! ### the keys of a locked dict -/
section
variable {X : Cx} {W : WX} {tg : Expr}
end
end ML

/-! ML30: raise, try, what a suite asks of its exception. -/
namespace ML
open PySem PySem.Spec PyProof.Rows L2
def NamesV (mg : Str → Option Value) (T : Str) (c : Value) : Prop := (T == ("__debug__" : Str)) = false ∧ (mg T = some c ∨ (mg T = none ∧ bootBuiltins T = some c ∧ T ≠ "__name__"))
theorem NamesV.eq {mg : Str → Option Value} {T : Str} {c c' : Value} (h : NamesV mg T c) (h' : NamesV mg T c') : c = c' := by
  obtain ⟨_, h | ⟨h, b, _⟩⟩ := h <;> obtain ⟨_, h' | ⟨h', b', _⟩⟩ := h'
  · rw [h] at h'; exact Option.some.inj h'
  · rw [h] at h'; cases h'
  · rw [h] at h'; cases h'
  · rw [b] at b'; exact Option.some.inj b'
/-- the class D at C -/
structure XC (K : PySem.W.Frag) (mg : Str → Option Value) (D : Str) (ts : List Str) (C : Addr) : Prop where
  g : mg D = some (.ref C)
  hg : PySem.W.findIn K (.ref C) "__getattribute__" = some (some (.builtin "BaseException.__getattribute__"))
  hk : PySem.W.findIn K (.ref C) "__getattr__" = some none
  hs : PySem.W.subIn K (.ref C) (.type "BaseException") = some true
  hd : PySem.W.hasDictIn K C = true
  ha : PySem.W.findIn K (.ref C) "__class__" = some (some (.builtin "object.__class__"))
  hn : PySem.W.specialIn K (.builtin "object.__class__") "__get__" = some (some (.builtin "getset_descriptor.__get__"))
  ht : PySem.W.takesIn K (.builtin "object.__class__") = some true
  hm : PySem.W.mroIn K C (.type "object") = some true
  ty : PySem.W.typeIn K (.ref C) = some (.type "type")
  kp : PySem.W.keepIn K (.ref C) = true
  hc : (PySem.W.clsIn K C).isSome = true
  fl : ∀ f ∈ xfl, PySem.W.findIn K (.ref C) f = some none
  sub : ∀ T ∈ ts, ∀ c, NamesV mg T c → PySem.W.kitOne K (.ref C) c = some (isX D T) ∧ PySem.W.exmOne K (.ref C) c = some (isX D T)
structure XA (K : PySem.W.Frag) (mg : Str → Option Value) (ds ts : List Str) : Prop where
  nm : ∀ T ∈ ts, ∃ v c, NamesV mg T c ∧ ClsV v c
  cl : ∀ D ∈ ds, ∃ C, XC K mg D ts C
/-! ### the mirror of try -/
structure Hd where
  t : Str
  i : Option Nat
  su : Addr → Option Addr → Str → Stt
open Classical in
/-- the answer that does not hang on where the exception lies -/
noncomputable def uni (f : Addr → Option Addr → Out Fl) : Out Fl := if h : ∃ o, ∀ a d, f a d = o then h.choose else .bad
def wipeX (i : Option Nat) (ss : Sl) : Sl := match i with
  | none => ss
  | some j => ss.set j none
def gone (i : Option Nat) : Out Fl → Out Fl
  | .ok (.nx ss) st => .ok (.nx (wipeX i ss)) st
  | .ok (.bk ss) st => .ok (.bk (wipeX i ss)) st
  | .ok (.ct ss) st => .ok (.ct (wipeX i ss)) st
  | .ok (.rt v) st => .ok (.rt v) st
  | _ => .bad
def slX (i : Option Nat) (a : Addr) (d : Option Addr) (e : DX) (ss : Sl) : Sl := match i with
  | none => ss
  | some j => ss.set j (some (.exn a d (e.fs.map (·.1)) (e.fs.map (·.2))))
noncomputable def hdl (ds : List Str) (e : DX) (ss : Sl) (st : Sto) : List Hd → Out Fl
  | [] => .ok (.rs e ss) st
  | h :: r => if e.c ∈ ds then (if isX e.c h.t = true then uni fun a d => gone h.i (h.su a d e.c (slX h.i a d e ss) st) else hdl ds e ss st r) else .bad
noncomputable def sTry (ds : List Str) (b : Stt) (hs : List Hd) : Stt := fun ss st => match b ss st with
  | .ok (.rs e ss') st' => hdl ds e ss' st' hs
  | o => o
theorem RX.exn {K : PySem.W.Frag} {mg : Str → Option Value} {ads : List Addr} {H : Hp} {e : DX} {cls : Value} {d : Option Addr} (h : RX K mg ads H e cls d) (a : Addr) : RV K ads H (.exn a d (e.fs.map (·.1)) (e.fs.map (·.2))) (.ref a) := by
  obtain ⟨C, _, _, ⟨h1, h2⟩ | ⟨dx, vs, h1, h2, h3⟩⟩ := h
  · rw [h1, h2]
    exact .exn0 a
  · rw [h1]
    have z : ∀ {fs : List (Str × DV)} {vs : List (Str × V)}, RFs K ads H fs vs → vs = (fs.map (·.1)).zip (vs.map (·.2)) ∧ (fs.map (·.1)).length = (vs.map (·.2)).length ∧ RVs K ads H (fs.map (·.2)) (vs.map (·.2)) := by
      intro fs vs r
      induction r with
      | nil => exact ⟨rfl, rfl, .nil⟩
      | @cons p q fs vs hq r ih =>
        obtain ⟨i1, i2, i3⟩ := ih
        obtain ⟨q1, q2⟩ := hq
        refine ⟨?_, by simpa using i2, .cons q2 i3⟩
        rw [List.map_cons, List.map_cons, List.zip_cons_cons, ← i1, q1]
    obtain ⟨z1, z2, z3⟩ := z h3
    exact .exn1 (by rw [← z1]; exact h2) z2 z3
section
variable {X : Cx} {W : WX} {ds ts : List Str}
/-- the class of what flies, by its name -/
theorem XA.of (A : XA X.K X.mg ds ts) {ads : List Addr} {H : Hp} {e : DX} {cls : Value} {d : Option Addr} (hm : e.c ∈ ds) (xx : RX X.K X.mg ads H e cls d) : ∃ C, XC X.K X.mg e.c ts C ∧ cls = .ref C := by
  obtain ⟨C, xc⟩ := A.cl _ hm
  obtain ⟨C', g', e', _⟩ := xx
  rw [xc.g] at g'
  cases g'
  exact ⟨C, xc, e'⟩
section
variable {body suite : List Stmt} {b₀ : Stmt} {x n : Str} {i : Nat} {np pos pos' : Pos} {mb : Stt} {su : Addr → Option Addr → Str → Stt}
end
end
end ML

/-! ML31: raise; isinstance and fields of the exception that a suite holds; own exceptions' __init__. -/
namespace ML
open PySem PySem.Spec PyProof.Rows L2
def sRai (x : Str) : Stt := fun ss => pur (.rs ⟨x, []⟩ ss)
/-- e.g. NoPaper(words, where, at) -/
def sRaiF (x : Str) (fs : List Str) (ms : List Ex) : Stt := fun ss => lft ss (eArgs ms ss) fun xs => match fs, xs with
  | [f1], [_, x1] => pur (.rs ⟨x, [(f1, x1)]⟩ ss)
  | [f1, f2], [_, x1, x2] => pur (.rs ⟨x, [(f2, x2), (f1, x1)]⟩ ss)
  | _, _ => stuck
def isOne (c : Str) (ts : List Str) : Bool := ts.any (isX c)
def eIsX (i : Nat) (a : Addr) (d : Option Addr) (c : Str) (ts : List Str) : Ex := fun ss st => match ss[i]? with
  | some (some (.exn b d' _ _)) => if b = a ∧ d' = d then .ok (.bl (isOne c ts)) st else .bad
  | _ => .bad
def eXf (i : Nat) (a : Addr) (d : Option Addr) (f : Str) : Ex := fun ss st => match ss[i]? with
  | some (some (.exn b d' ns xs)) => if b = a ∧ d' = d then (match (ns.zip xs).lookup f with
    | some v => .ok v st
    | none => .bad) else .bad
  | _ => .bad
section
variable {X : Cx} {W : WX} {ts ds : List Str}
/-! own __init__ -/
def spX1 (K : PySem.W.Frag) (C : Addr) (f1 : Str) : Sp := fun vs H Q _ => ∃ (a : Addr) (w x1 : V), vs = [.ref a, w, x1] ∧ H a = some (exo a C none) ∧ ∀ dx, H dx = none → dx ≠ a → Q .non (upd (upd H dx (exd dx [(f1, x1)])) a (exo a C (some dx)))
def spX2 (K : PySem.W.Frag) (C : Addr) (f1 f2 : Str) : Sp := fun vs H Q _ => ∃ (a : Addr) (w x1 x2 : V), vs = [.ref a, w, x1, x2] ∧ H a = some (exo a C none) ∧ ∀ dx, H dx = none → dx ≠ a → Q .non (upd (upd (upd H dx (exd dx [(f1, x1)])) a (exo a C (some dx))) dx (exd dx [(f2, x2), (f1, x1)]))
structure FeI (K : PySem.W.Frag) (mg : Str → Option Value) : Prop where
  ex : ∃ CF mc, mg "ForgeError" = some (.ref CF) ∧ PySem.W.specialIn K (.ref CF) "__getattribute__" = some (some (.builtin "type.__getattribute__")) ∧ PySem.W.readsIn K CF mc = true ∧
    PySem.W.findCls K (.ref CF) mc "__init__" = some (.val (.builtin "ValueError.__init__"))
end
section
variable {P : Program} {w : World} {K : PySem.W.Frag} {mg : Str → Option Value} {base : Heap}
end
/-- an own class with its own __init__ of one field -/
structure XI1 (P : Program) (w : World) (K : PySem.W.Frag) (mg : Str → Option Value) (base : Heap) (x : Str) (f1 : Str) (k : Nat) (C : Addr) : Prop where
  T : OexC K C
  fn : ∃ fI fd ps, PySem.W.findIn K (.ref C) "__init__" = some (some (.ref fI)) ∧ PySem.W.typeIn K (.ref fI) = some (.type "function") ∧ FnOk P w K mg base (L2N.CX P w) k fI fd ps (spX1 K C f1) ∧ Binds K fd ps []
structure XI2 (P : Program) (w : World) (K : PySem.W.Frag) (mg : Str → Option Value) (base : Heap) (x : Str) (f1 f2 : Str) (k : Nat) (C : Addr) : Prop where
  T : OexC K C
  fn : ∃ fI fd ps, PySem.W.findIn K (.ref C) "__init__" = some (some (.ref fI)) ∧ PySem.W.typeIn K (.ref fI) = some (.type "function") ∧ FnOk P w K mg base (L2N.CX P w) k fI fd ps (spX2 K C f1 f2) ∧ Binds K fd ps []
section
variable {X : Cx} {W : WX} {ts ds : List Str}
/-! ### in a suite -/
theorem clsv_rel {v : V} {c : Value} (h : ClsV v c) : RelV v c := by
  cases h with
  | ty n => exact rfl
  | own C => exact rfl
/-- the class that an expression names -/
theorem pe_cls {T : Str} {v : V} {c : Value} {pT : Pos} (hn : NamesV X.mg T c) (hv : ClsV v c) (hg : Gl X T) : PE X (.Name T pT) (tC v) := by
  obtain ⟨hd, hm | ⟨hm, hb, hnn⟩⟩ := hn
  · exact pe_glob hg hm (clsv_rel hv) hd
  · exact pe_bltn hg hm hb (clsv_rel hv) hnn hd
/-- names of classes, in a tuple -/
inductive NmsX (X : Cx) (ts : List Str) : List Expr → List Str → Prop
  | nil : NmsX X ts [] []
  | cons {T : Str} {pT : Pos} {es : List Expr} {ns : List Str} (hT : T ∈ ts) (hg : Gl X T) (r : NmsX X ts es ns) : NmsX X ts (.Name T pT :: es) (T :: ns)
theorem NmsX.pa (A : XA X.K X.mg ds ts) {D : Str} {C : Addr} (c : XC X.K X.mg D ts C) : ∀ {es : List Expr} {ns : List Str}, NmsX X ts es ns → ∃ (vs : List V) (us : List Value) (t : TA), PA X es t ∧ Paired ClsV vs us ∧ vs.length = ns.length ∧ PySem.W.kitAny X.K (.ref C) us = some (isOne D ns) ∧ ∀ (σ : L2.St) (H : Hp) (Q : List V → Hp → Prop), Q vs H → t σ H Q
  | _, _, .nil => ⟨[], [], _, pa_nil, .nil, rfl, rfl, fun σ H Q q => q⟩
  | _, _, .cons (T := T) (ns := ns) hT hg r => by
    obtain ⟨vs, us, t, h1, h2, h2l, h3, h4⟩ := NmsX.pa A c r
    obtain ⟨v, u, hn, hcl⟩ := A.nm _ hT
    refine ⟨v :: vs, u :: us, _, pa_cons (pe_cls hn hcl hg) h1, .cons hcl h2, congrArg (· + 1) h2l, ?_, fun σ H Q q => h4 σ H _ q⟩
    have e := (c.sub _ hT _ hn).1
    unfold PySem.W.kitAny
    rw [e]
    have e9 : isOne D (T :: ns) = (isX D T || isOne D ns) := by simp [isOne]
    rw [e9]
    cases isX D T with
    | true => rfl
    | false => exact h3
end

/-! ### for the walk's text -/
theorem NamesV.own {mg : Str → Option Value} {T : Str} {c : Value} (h : (T == ("__debug__" : Str)) = false) (g : mg T = some c) : NamesV mg T c := ⟨h, .inl g⟩
structure XR0 (K : PySem.W.Frag) (mg : Str → Option Value) (x : Str) : Prop where
  ex : ∃ ts C, XC K mg x ts C ∧ PySem.W.excIn K C veM "ValueError.__new__" = true
structure XR1 (P : Program) (w : World) (K : PySem.W.Frag) (mg : Str → Option Value) (base : Heap) (x f1 : Str) (k : Nat) : Prop where
  ex : ∃ ts C, XC K mg x ts C ∧ XI1 P w K mg base x f1 k C
structure XR2 (P : Program) (w : World) (K : PySem.W.Frag) (mg : Str → Option Value) (base : Heap) (x f1 f2 : Str) (k : Nat) : Prop where
  ex : ∃ ts C, XC K mg x ts C ∧ XI2 P w K mg base x f1 f2 k C
section
variable {X : Cx} {W : WX} {ts ds : List Str}
end
end ML

/-! ML32: the law's own frame, where it is known that nothing is being shown: repr. -/
namespace ML
open PySem PySem.Spec PyProof.Rows L2
/-- a def that is only asked where no repr is under way -/
structure FnG (P : Program) (w : World) (K : PySem.W.Frag) (mg : Str → Option Value) (base : Heap) (CX : CXT) (k : Nat) (f : Addr) (ps : List Str) (fd : FuncData) (sp : Sp) : Prop where
  go : ∀ {A : Around} {outer : List Env} {s : Shared} {H : Hp} {args : Args} {us : List Value} {vs : List V} {Q : VK} {E : XK}, A.guards = some [] → Room k A → Env0 P w K mg base A outer s H → BindsTo s fd args (ps.zip us) → Vals vs us →
    sp vs H Q E → codeAny (model P w) A (.call (.ref f) args) (CR CX outer P w H s Q E) s
section
variable {P : Program} {w : World} {K : PySem.W.Frag} {mg : Str → Option Value} {CX : CXT} {k : Nat}
end
/-! ### repr -/
open Classical in
open Classical in
open Classical in
/-! ### the law's def -/
section
variable {P : Program} {w : World} {K : PySem.W.Frag} {mg : Str → Option Value} {base : Heap}
end
end ML

/-! ML33: int(text). -/
namespace ML
open PySem PySem.Spec PyProof.Rows L2
end ML

/-! ML34: a law over such a head -/
namespace ML
open PySem PySem.Spec PyProof.Rows L2
end ML

/-! ML35: {k: v} with a nested key. -/
namespace ML
open PySem PySem.Spec PyProof.Rows L2
section
variable {X : Cx} {W : WX}
end
end ML

/-! ML43: sorted(set(xs)) of a list of ints. -/
namespace ML
open PySem PySem.Spec PyProof.Rows L2
def addI (l : List Int) (x : Int) : List Int := if x ∈ l then l else l ++ [x]
/-- the ints of a list, each once -/
def metI (xs : List Int) : List Int := xs.foldl addI []
theorem metI_snoc {xs : List Int} {x : Int} : metI (xs ++ [x]) = addI (metI xs) x := by
  unfold metI
  rw [List.foldl_append]
  rfl
theorem mem_addI {l : List Int} {x y : Int} : y ∈ addI l x ↔ y ∈ l ∨ y = x := by
  unfold addI
  split
  · rename_i h
    exact ⟨.inl, fun z => z.elim id fun e => e ▸ h⟩
  · rw [List.mem_append, List.mem_singleton]
theorem rev_indI {A : Type} {p : List A → Prop} (h0 : p []) (h1 : ∀ l x, p l → p (l ++ [x])) : ∀ l, p l := fun l => by
  have : ∀ n (l : List A), l.length = n → p l := fun n => by
    induction n with
    | zero => intro l e; rw [List.eq_nil_of_length_eq_zero e]; exact h0
    | succ n ih =>
      intro l e
      have hne : l ≠ [] := fun z => by rw [z] at e; cases e
      rw [← List.dropLast_concat_getLast hne]
      exact h1 _ _ (ih _ (by rw [List.length_dropLast]; omega))
  exact this _ l rfl
theorem mem_metI {xs : List Int} {y : Int} : y ∈ metI xs ↔ y ∈ xs := by
  induction xs using rev_indI with
  | h0 => exact .rfl
  | h1 l x ih => rw [metI_snoc, mem_addI, ih, List.mem_append, List.mem_singleton]
theorem metI_nd {xs : List Int} : (metI xs).Nodup := by
  induction xs using rev_indI with
  | h0 => exact List.nodup_nil
  | h1 l x ih =>
    rw [metI_snoc]
    unfold addI
    split
    · exact ih
    · rename_i h
      rw [List.nodup_append]
      refine ⟨ih, by simp, fun a ha b hb => ?_⟩
      rw [List.mem_singleton.mp hb]
      exact fun e => h (e ▸ ha)
/-- the ints of a list, each once, rising -/
def usrt (ns : List Int) : List Int := isrt (metI ns)
theorem mem_usrt {ns : List Int} {k : Int} : k ∈ usrt ns ↔ k ∈ ns := by
  unfold usrt
  rw [(isrt_perm _).mem_iff, mem_metI]
theorem nd_usrt {ns : List Int} : (usrt ns).Nodup := (isrt_perm _).nodup_iff.mpr metI_nd
theorem usrt_lt {ns : List Int} : (usrt ns).Pairwise (· < ·) := by
  have h1 := isrt_le (metI ns)
  have h2 : (isrt (metI ns)).Nodup := nd_usrt
  have h3 := h1.and h2
  exact h3.imp fun h => by omega
theorem perm_nd : ∀ {l m : List Int}, l.Nodup → m.Nodup → (∀ x, x ∈ l ↔ x ∈ m) → l.Perm m
  | [], m, _, _, h => by
    cases m with
    | nil => exact .nil
    | cons x m => exact absurd ((h x).mpr (List.mem_cons_self)) (by simp)
  | x :: l, m, hl, hm, h => by
    obtain ⟨h1, h2⟩ := List.nodup_cons.mp hl
    have hx : x ∈ m := (h x).mp List.mem_cons_self
    refine List.Perm.trans ?_ (List.perm_cons_erase hx).symm
    refine .cons x (perm_nd h2 (hm.erase x) fun y => ?_)
    rw [hm.mem_erase_iff]
    constructor
    · intro hy
      exact ⟨fun e => h1 (e ▸ hy), (h y).mp (List.mem_cons_of_mem _ hy)⟩
    · rintro ⟨a, b⟩
      rcases List.mem_cons.mp ((h y).mpr b) with e | e
      · exact absurd e a
      · exact e
theorem usrt_eq {ns ms : List Int} (p : ms.Pairwise (· < ·)) (m : ∀ k, k ∈ ms ↔ k ∈ ns) : ms = usrt ns :=
  isrt_eq (perm_nd (p.imp fun h e => by omega) metI_nd fun x => (m x).trans mem_metI.symm) (p.imp fun h => Int.le_of_lt h)
section
variable {P : Program} {w : World} {A : Around} {E : Value → Shared → Prop} {s : Shared}
/-- a set without members, as it is made -/
abbrev emptyS0 (w : World) : Obj := { cls := .type "set", dict := none, data := .set #[] 0 (.fresh 0 0 (!w.params.followText "set-order")) }
theorem call_setI {l : Addr} {its : Array Value} {ns : List Int} {Q : Value → Shared → Prop} (hh : A.handled = none) (hl : s.heap.IsList l its) (hx : IntsAre its.toList ns) (hb : ns.length + 1 < scanBound)
    (h : ∀ (h' : Heap) (tk c : Nat), SetR w h' s.heap.objs.size (fun j => decide (j ∈ ns)) c → c ≤ ns.length → (∀ b o, b < s.heap.objs.size → s.heap.get? b = some o → h'.get? b = some o) → Q (.ref s.heap.objs.size) { s with heap := h', toks := tk }) :
    wpAny (model P w) A (call (.type "set") [.ref l]) Q E s := by
  have zs : its.size = ns.length := by
    have := IntsAre.length hx
    rw [Array.length_toList] at this
    exact this
  obtain ⟨cc, tt, mro⟩ := F.called_set.mro
  have hmd := F.called_set.made
  have hsb := F.called_set.sub
  refine wpAny_call (codeAny_of_tree ?_)
  show wpAny _ _ (callAny (.type "set") _) _ _ _
  refine wpAny_pure ⟨Code.quiet_builtin _ (by decide +kernel), codeAny_builtin F.entry_type_call ?_⟩
  rw [Around.under_plain (weight_type_call_type "set" [.ref l] []) rfl]
  have nt := F.called_set.notType
  have cr := F.called_set.canCreate
  have tc := F.typeCall_set_1 (.ref l)
  repeat (any_goals (first | wp_step | assumption))
  refine codeAny_mono (code_set_led1 (.ref l) (E := E) (Q₁ := fun v s1 => v = .ref s.heap.objs.size ∧ s1 = { s with heap := s.heap.push (emptyS0 w) }) ⟨rfl, rfl⟩) fun r s1 hr => ?_
  cases r with
  | error e => exact hr
  | ok fl =>
    cases fl with
    | ret v =>
      obtain ⟨rfl, rfl⟩ := hr
      have g1 : (s.heap.push (emptyS0 w)).get? s.heap.objs.size = some (emptyS0 w) := Heap.get?_push_size _ rfl
      have ty : Shared.TypeIs { s with heap := s.heap.push (emptyS0 w) } (.ref s.heap.objs.size) "set" := ⟨_, g1, rfl⟩
      have li := F.called_set.init.lookup
      have bi := F.called_set.init.bind (.ref s.heap.objs.size)
      repeat (any_goals (first | wp_step | assumption))
      refine codeAny_mono (codeAny_call_builtin (R := wants (fun v s2 => v = .none ∧ ∃ h' tk c, s2 = { s with heap := h', toks := tk } ∧ c ≤ ns.length ∧ SetR w h' s.heap.objs.size (fun j => decide (j ∈ ns)) c ∧ ∀ b o, b < s.heap.objs.size → s.heap.get? b = some o → h'.get? b = some o) E)
        F.called_set.init.plain F.entry_set_init (check_set_init_1 ty ?_)) fun r2 s2 hr2 => ?_
      · obtain ⟨lo, hlo, hc, nn, hd⟩ := hl
        obtain ⟨lc, ld, la, ls⟩ := lo
        simp only at hc hd
        subst hc hd
        have g2 : (s.heap.push (emptyS0 w)).get? l = some { cls := .type "list", dict := ld, data := .seq its nn, slots := ls } := Heap.get?_push_of_some _ hlo
        have n1 := F.sub_list_set
        have n2 := F.sub_list_frozenset
        have n3 : (Value.type "list" == Value.type "dict") = false := by decide
        have il : (s.heap.push (emptyS0 w)).IsList l its := ⟨_, g2, rfl, nn, rfl⟩
        unfold Builtin.«set.__init__» noKeywords Builtin.Frozenset.updateFrom
        generalize hpi : pyIter = pI
        wp_walk
        subst hpi
        refine wpAny_pyIter_list il ?_
        refine wpAny_bind (wpAny_runValue ?_)
        have ls1 : l < s.heap.objs.size := Heap.lt_size hlo
        have hh3 : A.in1.in1.in1.handled = none := by simp [hh]
        have ni : l ≠ (s.heap.push (emptyS0 w)).objs.size := by
          rw [Heap.size_push]
          exact Nat.ne_of_lt (Nat.lt_of_lt_of_le ls1 (Nat.le_succ _))
        have nf : s.heap.objs.size ∉ [(s.heap.push (emptyS0 w)).objs.size, l] := by
          rw [Heap.size_push]
          simp only [List.mem_cons, List.not_mem_nil, or_false, not_or]
          exact ⟨Nat.ne_of_lt (Nat.lt_succ_self _), Nat.ne_of_gt ls1⟩
        have hv : ∀ (i : Nat) (v : Value), its[i]? = some v → ∃ k t, ns[i]? = some k ∧ v = .int k t := fun i v e => by
          rw [← Array.getElem?_toList] at e
          have hi : i < ns.length := by
            have := (List.getElem?_eq_some_iff.mp e).1
            rw [Array.length_toList] at this
            omega
          obtain ⟨t, rfl⟩ := IntsAre.int_at hx i v e
          exact ⟨_, t, by rw [List.getD_eq_getElem?_getD, List.getElem?_eq_getElem hi]; rfl, rfl⟩
        refine set_update_ints ((Walks.list hh3 _ l ni its).toS) s.heap.objs.size nf ns zs (by omega) hv its.size 0 _ (Nat.sub_zero _) (Nat.zero_le _) ⟨⟨_, Heap.get?_push_size _ rfl, rfl, rfl⟩, il.push _⟩ ⟨0, Nat.le_refl _, ?_⟩ ?_
        · have g3 : ((s.heap.push (emptyS0 w)).push { cls := .type "list_iterator", data := .fields #[.ref l, .int 0 0] }).get? s.heap.objs.size = some (emptyS0 w) := Heap.get?_push_of_some _ g1
          exact setR_new_at g3
        · intro s3 c m3 hc3 hS3
          obtain ⟨h3, g3, d3, t3, o3⟩ := s3
          have e1 : g3 = s.gens := m3.gens
          have e2 : d3 = s.drawn := m3.drawn
          have e3 : o3 = s.os := m3.os
          subst e1 e2 e3
          show wpAny _ _ _ _ _ _
          refine wpAny_pure ?_
          show wpAny _ _ (ret Value.none) _ _ _
          refine wpAny_pure ⟨rfl, h3, t3, c, rfl, by omega, hS3, fun b o z e => ?_⟩
          refine m3.heap b o ?_ (Heap.get?_push_of_some _ (Heap.get?_push_of_some _ e))
          rw [Heap.size_push]
          simp only [List.mem_cons, List.not_mem_nil, or_false, not_or]
          exact ⟨Nat.ne_of_lt z, Nat.ne_of_lt (Nat.lt_succ_of_lt z)⟩
      · cases r2 with
        | error e => exact hr2
        | ok fl2 =>
          cases fl2 with
          | ret v =>
            obtain ⟨rfl, h', tk, c, rfl, hc, hS, hk⟩ := hr2
            repeat (any_goals (first | wp_step | assumption))
            exact h _ _ _ hS hc hk
          | _ => exact hr2.elim
    | _ => exact hr.elim
end
/-- sorted(set(xs)) -/
def sortSetM : DV → M DV := fun d st => match (itemsM d st).bind intsD with
  | some ns => if ns.length < 64 then alloc (.lst ((usrt ns).map DV.int)) st else .bad
  | none => .bad
theorem rvs_ints43 {K : PySem.W.Frag} {ads : List Addr} {H : Hp} : ∀ l : List Int, RVs K ads H (l.map DV.int) (l.map V.int)
  | [] => .nil
  | x :: l => .cons (.int x) (rvs_ints43 l)
section
variable {X : Cx} {W : WX}
theorem re_sortSet {a : Expr} {m : Ex} {p p2 q pos : Pos} (hc : X.calm = true) (hg : Gl X "sorted") (hm : X.mg "sorted" = none) (hg2 : Gl X "set") (hm2 : X.mg "set" = none) (ha : RE X W a m)
    (na : starEach [a] X.env = (false, eval a X.env) :: starEach [] X.env := by rfl) : RE X W (.Call (.Name "sorted" p) [.Call (.Name "set" p2) [a] [] q] [] pos) (eUn sortSetM m) := by
  refine ⟨fun pins s σ H Q I h => ?_⟩
  obtain ⟨ads, ss, st, R, L, z⟩ := h
  refine Call_ (ld_blt I hg hm bb_sorted ?_)
  refine PyProof.Rows.callWith_builtin1 (PyProof.Rows.args_cons ?_ rfl) rfl rfl
  refine Call_ (ld_blt I hg2 hm2 PyProof.Rows.boot_set ?_)
  have h1 : tM X.K X.mg W (rV X.K) m σ H _ := ⟨ads, ss, st, R, L, post.bind z⟩
  refine PyProof.Rows.callWith_type1 (PyProof.Rows.args_cons (thn (ha.run pins s σ H _ I h1) fun v s1 ⟨x, H1, I1, r1, ads1, d, st1, fu, R1, rv, q1⟩ => PyProof.Rows.args_nil ?_) na) na rfl
  unfold sortSetM at q1
  split at q1
  · rename_i ns hn
    split at q1
    · rename_i hl
      obtain ⟨l, rfl, hq⟩ := items_ints R1 rv hn
      cases r1
      obtain ⟨its, r, pl, hz⟩ := I1.list hq
      refine call_setI (I1.ok.hd hc) pl.isList (ns := ns) (by simpa using r.ints) (by unfold scanBound; omega) fun h' tk c hS hcl hold => ?_
      refine PyProof.Rows.args_nil ?_
      have hn0 := I1.hok.fresh (Nat.le_refl s1.heap.objs.size)
      have I2 := I1.laid (h' := h') (t' := tk) (fun b o e => hold b o (Heap.lt_size e) e) (Nat.le_refl _) (setO_new (P := X.prog) (H := upd H1 s1.heap.objs.size (SetO X.w s1.heap.objs.size (fun j => decide (j ∈ ns)) c)) hS)
      refine cr_sortedSet hc pins _ σ _ [.ref s1.heap.objs.size] _ Q I2 (.cons rfl .nil) ⟨_, _, _, rfl, upd_same, by omega, fun ms p' hp hmem hln hf => ?_⟩
      rw [usrt_eq hp fun k => (hmem k).trans decide_eq_true_iff]
      exact post.newL (R1.newU hn0) (rvs_ints43 _) (post.from (Fut.newU hn0) q1) hf
    · exact q1.elim
  · exact q1.elim
end
end ML

/-! MP1: what a mirror's run comes to. -/
namespace ML
open PySem PySem.Spec PyProof.Rows L2
theorem nd {a b : Prop} (h : a = b) : a = b := h
abbrev PQ (A : Type) := A → Sto → Prop
abbrev XQ := DX → Sto → Prop
def Wp {A : Type} (o : Out A) (Q : PQ A) (E : XQ) : Prop := match o with
  | .ok a st => Q a st
  | .exc e st => E e st
  | .bad => False
def tB {A B : Type} (f : A → M B) (Q : PQ B) (E : XQ) : PQ A := fun a st => Wp (f a st) Q E
def NX : XQ := fun _ _ => False
section
variable {A B : Type} {m : M A} {f : A → M B} {st : Sto} {ss : Sl} {Q : PQ A} {QB : PQ B} {QD : PQ DV} {QF : PQ Fl} {QT : PQ Bool} {E : XQ}
theorem Wp.imp {o : Out A} {Q Q' : PQ A} {E E' : XQ} (h : Wp o Q E) (hq : ∀ a st, Q a st → Q' a st) (he : ∀ e st, E e st → E' e st) : Wp o Q' E' := by
  cases o with
  | ok a st => exact hq _ _ h
  | exc e st => exact he _ _ h
  | bad => exact h
theorem Wp.mono {o : Out A} {Q Q' : PQ A} {E : XQ} (h : Wp o Q NX) (hq : ∀ a st, Q a st → Q' a st) : Wp o Q' E := h.imp hq fun _ _ z => z.elim
theorem Wp.ex {o : Out A} {Q : PQ A} (h : Wp o Q NX) : ∃ a st, o = .ok a st ∧ Q a st := by
  cases o with
  | ok a st => exact ⟨a, st, rfl, h⟩
  | exc e st => exact h.elim
  | bad => exact h.elim
theorem tB_app {a : A} : tB f QB E a st = Wp (f a st) QB E := nd rfl
theorem wp_ok {a : A} : Wp (.ok a st) Q E = Q a st := nd rfl
theorem wp_bad : Wp (.bad : Out A) Q E = False := nd rfl
theorem wp_pur {a : A} : Wp (pur a st) Q E = Q a st := nd rfl
theorem wp_bnd : Wp (bnd m f st) QB E = Wp (m st) (tB f QB E) E := by
  unfold bnd
  cases m st <;> rfl
theorem wp_ite {c : Prop} [Decidable c] {m m' : M A} : Wp ((if c then m else m') st) Q E = if c then Wp (m st) Q E else Wp (m' st) Q E := by split <;> rfl
theorem wp_ite' {c : Prop} [Decidable c] {o o' : Out A} : Wp (if c then o else o') Q E = if c then Wp o Q E else Wp o' Q E := by split <;> rfl
theorem ite_bad {c : Prop} [Decidable c] {P : Prop} : (if c then P else False) = (c ∧ P) := by
  split <;> simp [*]
/-! expressions -/
theorem wp_var {i : Nat} : Wp (eVar i ss st) QD E = (match ss[i]? with
  | some (some d) => QD d st
  | _ => False) := by
  unfold eVar
  cases ss[i]? with
  | none => rfl
  | some o => cases o <;> rfl
theorem wp_c {d : DV} : Wp (eC d ss st) QD E = QD d st := nd rfl
theorem wp_un {g : DV → M DV} {a : Ex} : Wp (eUn g a ss st) QD E = Wp (a ss st) (tB g QD E) E := wp_bnd
def tOp (g : DV → DV → M DV) (b : Ex) (ss : Sl) (Q : PQ DV) (E : XQ) : PQ DV := fun x st => Wp (b ss st) (tB (g x) Q E) E
theorem wp_op {g : DV → DV → M DV} {a b : Ex} : Wp (eOp g a b ss st) QD E = Wp (a ss st) (tOp g b ss QD E) E := by
  unfold eOp
  rw [wp_bnd]
  congr 1
  funext x st
  exact wp_bnd
theorem tOp_app {g : DV → DV → M DV} {b : Ex} {x : DV} : tOp g b ss QD E x st = Wp (b ss st) (tB (g x) QD E) E := nd rfl
def tArg (ms : List Ex) (ss : Sl) (Q : PQ (List DV)) (E : XQ) : PQ DV := fun x st => Wp (eArgs ms ss st) (fun xs st => Q (x :: xs) st) E
theorem wp_nil {Q : PQ (List DV)} : Wp (eArgs [] ss st) Q E = Q [] st := nd rfl
theorem wp_cons {Q : PQ (List DV)} {a : Ex} {ms : List Ex} : Wp (eArgs (a :: ms) ss st) Q E = Wp (a ss st) (tArg ms ss Q E) E := by
  show Wp (bnd (a ss) _ st) Q E = _
  rw [wp_bnd]
  congr 1
  funext x st
  show Wp (bnd _ _ st) Q E = _
  rw [wp_bnd]
  rfl
theorem tArg_app {Q : PQ (List DV)} {ms : List Ex} {x : DV} : tArg ms ss Q E x st = Wp (eArgs ms ss st) (fun xs st => Q (x :: xs) st) E := nd rfl
theorem wp_call {f : List DV → M DV} {ms : List Ex} : Wp (eCall f ms ss st) QD E = Wp (eArgs ms ss st) (tB f QD E) E := wp_bnd
theorem wp_tup {ms : List Ex} : Wp (eTup ms ss st) QD E = Wp (eArgs ms ss st) (fun xs st => QD (.tup xs) st) E := by
  unfold eTup
  rw [wp_bnd]
  rfl
theorem wp_lst {ms : List Ex} : Wp (eLst ms ss st) QD E = Wp (eArgs ms ss st) (tB (fun xs => alloc (.lst xs)) QD E) E := wp_bnd
theorem wp_val {a : Ex} : Wp (tVal a ss st) QT E = Wp (a ss st) (tB asB QT E) E := wp_bnd
theorem wp_tru {a : Ex} : Wp (tTru a ss st) QT E = Wp (a ss st) (tB truM QT E) E := wp_bnd
theorem wp_asB {b : Bool} : Wp (asB (.bl b) st) QT E = QT b st := nd rfl
theorem wp_truB {b : Bool} : Wp (truM (.bl b) st) QT E = QT b st := nd rfl
theorem wp_truI {i : Int} : Wp (truM (.int i) st) QT E = QT (i != 0) st := nd rfl
theorem wp_truN : Wp (truM .non st) QT E = QT false st := nd rfl
def tA (b : Sl → M Bool) (ss : Sl) (Q : PQ Bool) (E : XQ) : PQ Bool := fun c st => if c = true then Wp (b ss st) Q E else Q false st
def tO (b : Sl → M Bool) (ss : Sl) (Q : PQ Bool) (E : XQ) : PQ Bool := fun c st => if c = true then Q true st else Wp (b ss st) Q E
theorem wp_and {a b : Sl → M Bool} : Wp (tAnd a b ss st) QT E = Wp (a ss st) (tA b ss QT E) E := by
  unfold tAnd
  rw [wp_bnd]
  congr 1
  funext x st
  cases x <;> rfl
theorem wp_or {a b : Sl → M Bool} : Wp (tOr a b ss st) QT E = Wp (a ss st) (tO b ss QT E) E := by
  unfold tOr
  rw [wp_bnd]
  congr 1
  funext x st
  cases x <;> rfl
theorem tA_app {b : Sl → M Bool} {c : Bool} : tA b ss QT E c st = if c = true then Wp (b ss st) QT E else QT false st := nd rfl
theorem tO_app {b : Sl → M Bool} {c : Bool} : tO b ss QT E c st = if c = true then QT true st else Wp (b ss st) QT E := nd rfl
theorem wp_not {a : Sl → M Bool} : Wp (tNot a ss st) QT E = Wp (a ss st) (fun c st => QT (!c) st) E := by
  unfold tNot
  rw [wp_bnd]
  rfl
def tEA (b : Ex) (ss : Sl) (Q : PQ DV) (E : XQ) : PQ DV := fun x st => match x with
  | .bl true => Wp (b ss st) Q E
  | .bl false => Q (.bl false) st
  | _ => False
def tEO (b : Ex) (ss : Sl) (Q : PQ DV) (E : XQ) : PQ DV := fun x st => match x with
  | .bl false => Wp (b ss st) Q E
  | .bl true => Q (.bl true) st
  | _ => False
theorem wp_eand {a b : Ex} : Wp (eAnd a b ss st) QD E = Wp (a ss st) (tEA b ss QD E) E := by
  unfold eAnd
  rw [wp_bnd]
  congr 1
  funext x st
  cases x with
  | bl c => cases c <;> rfl
  | _ => rfl
theorem wp_eor {a b : Ex} : Wp (eOr a b ss st) QD E = Wp (a ss st) (tEO b ss QD E) E := by
  unfold eOr
  rw [wp_bnd]
  congr 1
  funext x st
  cases x with
  | bl c => cases c <;> rfl
  | _ => rfl
theorem tEA_app {b : Ex} {c : Bool} : tEA b ss QD E (.bl c) st = if c = true then Wp (b ss st) QD E else QD (.bl false) st := nd (by cases c <;> rfl)
theorem tEO_app {b : Ex} {c : Bool} : tEO b ss QD E (.bl c) st = if c = true then QD (.bl true) st else Wp (b ss st) QD E := nd (by cases c <;> rfl)
def tEN (Q : PQ DV) : PQ DV := fun x st => match x with
  | .bl c => Q (.bl (!c)) st
  | _ => False
theorem wp_enot {a : Ex} : Wp (eNot a ss st) QD E = Wp (a ss st) (tEN QD) E := by
  unfold eNot
  rw [wp_bnd]
  congr 1
  funext x st
  cases x <;> rfl
theorem tEN_app {c : Bool} : tEN QD (.bl c) st = QD (.bl (!c)) st := nd rfl
def tIt (a b : Ex) (ss : Sl) (Q : PQ DV) (E : XQ) : PQ Bool := fun c st => if c = true then Wp (a ss st) Q E else Wp (b ss st) Q E
theorem wp_eif {t : Sl → M Bool} {a b : Ex} : Wp (eIf t a b ss st) QD E = Wp (t ss st) (tIt a b ss QD E) E := by
  unfold eIf
  rw [wp_bnd]
  congr 1
  funext x st
  cases x <;> rfl
theorem tIt_app {a b : Ex} {c : Bool} : tIt a b ss QD E c st = if c = true then Wp (a ss st) QD E else Wp (b ss st) QD E := nd rfl
def tCh2 (g g' : DV → DV → M DV) (c : Ex) (ss : Sl) (x y : DV) (Q : PQ DV) (E : XQ) : PQ DV := fun z st => match z with
  | .bl true => Wp (c ss st) (tB (g' y) Q E) E
  | .bl false => Q (.bl false) st
  | _ => False
def tCh (g g' : DV → DV → M DV) (b c : Ex) (ss : Sl) (Q : PQ DV) (E : XQ) : PQ DV := fun x st => Wp (b ss st) (fun y st => Wp (g x y st) (tCh2 g g' c ss x y Q E) E) E
theorem wp_chain {g g' : DV → DV → M DV} {a b c : Ex} : Wp (eChain g g' a b c ss st) QD E = Wp (a ss st) (tCh g g' b c ss QD E) E := by
  unfold eChain
  rw [wp_bnd]
  congr 1
  funext x st
  show Wp (bnd _ _ st) QD E = _
  rw [wp_bnd]
  show _ = Wp _ _ E
  congr 1
  funext y st
  show Wp (bnd _ _ st) QD E = _
  rw [wp_bnd]
  congr 1
  funext z st
  cases z with
  | bl k =>
    cases k with
    | true =>
      show Wp (bnd (c ss) _ st) QD E = _
      rw [wp_bnd]
      rfl
    | false => rfl
  | _ => rfl
theorem tCh_app {g g' : DV → DV → M DV} {b c : Ex} {x : DV} : tCh g g' b c ss QD E x st = Wp (b ss st) (fun y st => Wp (g x y st) (tCh2 g g' c ss x y QD E) E) E := nd rfl
theorem tCh2_app {g g' : DV → DV → M DV} {c : Ex} {x y : DV} {k : Bool} : tCh2 g g' c ss x y QD E (.bl k) st = if k = true then Wp (c ss st) (tB (g' y) QD E) E else QD (.bl false) st := by cases k <;> rfl
/-! ints -/
theorem wp_add {i j : Int} : Wp (addM (.int i) (.int j) st) QD E = QD (.int (i + j)) st := nd rfl
theorem wp_sub {i j : Int} : Wp (subM (.int i) (.int j) st) QD E = QD (.int (i - j)) st := nd rfl
theorem wp_mul {i j : Int} : Wp (mulM (.int i) (.int j) st) QD E = (mulOk i j ∧ QD (.int (i * j)) st) := by
  show Wp (if mulOk i j then _ else _) QD E = _
  rw [wp_ite', wp_bad, ite_bad]
  rfl
theorem wp_fdiv {i j : Int} : Wp (fdivM (.int i) (.int j) st) QD E = (divOk j ∧ QD (.int (i / j)) st) := by
  show Wp (if divOk j then _ else _) QD E = _
  rw [wp_ite', wp_bad, ite_bad]
  rfl
theorem wp_mod {i j : Int} : Wp (modM (.int i) (.int j) st) QD E = (0 < j ∧ QD (.int (i % j)) st) := by
  show Wp (if 0 < j then _ else _) QD E = _
  rw [wp_ite', wp_bad, ite_bad]
  rfl
theorem wp_pow {i j : Int} : Wp (powM (.int i) (.int j) st) QD E = (powOk i j ∧ QD (.int (i ^ j.toNat)) st) := by
  show Wp (if powOk i j then _ else _) QD E = _
  rw [wp_ite', wp_bad, ite_bad]
  rfl
theorem wp_shl {i j : Int} : Wp (shlM (.int i) (.int j) st) QD E = (powOk i j ∧ QD (.int (i * 2 ^ j.toNat)) st) := by
  show Wp (if powOk i j then _ else _) QD E = _
  rw [wp_ite', wp_bad, ite_bad]
  rfl
theorem wp_shr {i j : Int} : Wp (shrM (.int i) (.int j) st) QD E = (0 ≤ j ∧ QD (.int (i / 2 ^ j.toNat)) st) := by
  show Wp (if 0 ≤ j then _ else _) QD E = _
  rw [wp_ite', wp_bad, ite_bad]
  rfl
theorem wp_iand {i j : Int} : Wp (andM (.int i) (.int j) st) QD E = QD (.int (Builtin.bitAnd i j)) st := nd rfl
theorem wp_ior {i j : Int} : Wp (orM (.int i) (.int j) st) QD E = QD (.int (Builtin.bitOr i j)) st := nd rfl
theorem wp_ixor {i j : Int} : Wp (xorM (.int i) (.int j) st) QD E = QD (.int (Builtin.bitXor i j)) st := nd rfl
theorem wp_neg {i : Int} : Wp (negM (.int i) st) QD E = QD (.int (-i)) st := nd rfl
theorem wp_eqI {i j : Int} : Wp (eqM (.int i) (.int j) st) QD E = QD (.bl (decide (i = j))) st := nd rfl
theorem wp_neI {i j : Int} : Wp (neM (.int i) (.int j) st) QD E = QD (.bl (!decide (i = j))) st := nd rfl
theorem wp_eqB {i j : Bool} : Wp (eqM (.bl i) (.bl j) st) QD E = QD (.bl (decide (i = j))) st := nd rfl
theorem wp_neB {i j : Bool} : Wp (neM (.bl i) (.bl j) st) QD E = QD (.bl (!decide (i = j))) st := nd rfl
theorem wp_eqS {i j : Str} : Wp (eqM (.str i) (.str j) st) QD E = QD (.bl (decide (i = j))) st := nd rfl
theorem wp_neS {i j : Str} : Wp (neM (.str i) (.str j) st) QD E = QD (.bl (!decide (i = j))) st := nd rfl
theorem wp_lt {i j : Int} : Wp (ltM (.int i) (.int j) st) QD E = QD (.bl (decide (i < j))) st := nd rfl
theorem wp_gt {i j : Int} : Wp (gtM (.int i) (.int j) st) QD E = QD (.bl (decide (j < i))) st := nd rfl
theorem wp_le {i j : Int} : Wp (leM (.int i) (.int j) st) QD E = QD (.bl (decide (i ≤ j))) st := nd rfl
theorem wp_ge {i j : Int} : Wp (geM (.int i) (.int j) st) QD E = QD (.bl (decide (j ≤ i))) st := nd rfl
theorem wp_isB {i j : Bool} : Wp (isM (.bl i) (.bl j) st) QD E = QD (.bl (decide (i = j))) st := nd rfl
theorem wp_isnB {i j : Bool} : Wp (isnM (.bl i) (.bl j) st) QD E = QD (.bl (!decide (i = j))) st := nd rfl
theorem wp_abs {i : Int} : Wp (absM [.int i] st) QD E = QD (.int (if i < 0 then -i else i)) st := nd rfl
theorem wp_max2 {i j : Int} : Wp (max2M [.int i, .int j] st) QD E = QD (.int (if j > i then j else i)) st := nd rfl
theorem wp_min2 {i j : Int} : Wp (min2M [.int i, .int j] st) QD E = QD (.int (if j < i then j else i)) st := nd rfl
theorem wp_intI {i : Int} : Wp (intM [.int i] st) QD E = QD (.int i) st := nd rfl
theorem wp_intB {b : Bool} : Wp (intM [.bl b] st) QD E = QD (.int (if b then 1 else 0)) st := nd rfl
/-! sequences -/
theorem wp_optD {o : Option DV} : Wp (optD o st) QD E = (match o with
  | some d => QD d st
  | none => False) := by cases o <;> rfl
theorem wp_ixT {xs : List DV} {i : Int} : Wp (ixM (.tup xs) (.int i) st) QD E = Wp (optD (atI xs i) st) QD E := nd rfl
theorem wp_ixF {xs : List DV} {i : Int} : Wp (ixM (.fzl xs) (.int i) st) QD E = Wp (optD (atI xs i) st) QD E := nd rfl
theorem wp_ixR {k : Nat} {i : Int} {xs : List DV} (h : st[k]? = some (.lst xs)) : Wp (ixM (.ref k) (.int i) st) QD E = Wp (optD (atI xs i) st) QD E := by
  show Wp (match st[k]? with
    | some (.lst xs) => _
    | some (.dic kvs) => _
    | _ => _) QD E = _
  rw [h]
theorem wp_lenT {xs : List DV} : Wp (lenM [.tup xs] st) QD E = QD (.int xs.length) st := nd rfl
theorem wp_lenF {xs : List DV} : Wp (lenM [.fzl xs] st) QD E = QD (.int xs.length) st := nd rfl
theorem wp_lenR {k : Nat} {xs : List DV} (h : st[k]? = some (.lst xs)) : Wp (lenM [.ref k] st) QD E = QD (.int xs.length) st := by
  show Wp (match st[k]? with
    | some (.lst xs) => _
    | some (.dic kvs) => _
    | _ => _) QD E = _
  rw [h]
  rfl
theorem at0 {a : DV} {r : List DV} : atI (a :: r) 0 = some a := by
  simp [atI, ixN]
theorem at1 {a b : DV} {r : List DV} : atI (a :: b :: r) 1 = some b := by
  simp [atI, ixN]
  rw [if_pos (by omega)]
  rfl
theorem at2 {a b c : DV} {r : List DV} : atI (a :: b :: c :: r) 2 = some c := by
  simp [atI, ixN]
  rw [if_pos (by omega)]
  rfl
theorem at3 {a b c d : DV} {r : List DV} : atI (a :: b :: c :: d :: r) 3 = some d := by
  simp [atI, ixN]
  rw [if_pos (by omega)]
  rfl
/-! statements -/
def tF (b : Stt) (Q : PQ Fl) (E : XQ) : PQ Fl := fun fl st => match fl with
  | .nx ss => Wp (b ss st) Q E
  | fl => Q fl st
theorem wp_seq {a b : Stt} : Wp (sSeq a b ss st) QF E = Wp (a ss st) (tF b QF E) E := by
  unfold sSeq
  cases a ss st with
  | ok fl st' => cases fl <;> rfl
  | exc e st' => rfl
  | bad => rfl
theorem tF_nx {b : Stt} : tF b QF E (.nx ss) st = Wp (b ss st) QF E := nd rfl
theorem tF_rt {b : Stt} {v : DV} : tF b QF E (.rt v) st = QF (.rt v) st := nd rfl
theorem tF_bk {b : Stt} : tF b QF E (.bk ss) st = QF (.bk ss) st := nd rfl
theorem tF_ct {b : Stt} : tF b QF E (.ct ss) st = QF (.ct ss) st := nd rfl
theorem tF_rs {b : Stt} {e : DX} : tF b QF E (.rs e ss) st = QF (.rs e ss) st := nd rfl
def tX (ss : Sl) (Q : PQ Fl) : XQ := fun e st => Q (.rs e ss) st
theorem tX_app {e : DX} : tX ss QF e st = QF (.rs e ss) st := nd rfl
theorem wp_lft {k : A → M Fl} : Wp (lft ss m k st) QF E = Wp (m st) (tB k QF E) (tX ss QF) := by
  unfold lft
  cases m st <;> rfl
theorem wp_skip : Wp (sSkip ss st) QF E = QF (.nx ss) st := nd rfl
theorem wp_expr {a : Ex} : Wp (sExpr a ss st) QF E = Wp (a ss st) (fun _ st => QF (.nx ss) st) (tX ss QF) := by
  unfold sExpr
  rw [wp_lft]
  rfl
theorem wp_ret {a : Ex} : Wp (sRet a ss st) QF E = Wp (a ss st) (fun v st => QF (.rt v) st) (tX ss QF) := by
  unfold sRet
  rw [wp_lft]
  rfl
theorem wp_retN : Wp (sRetN ss st) QF E = QF (.rt .non) st := nd rfl
theorem wp_brk : Wp (sBrk ss st) QF E = QF (.bk ss) st := nd rfl
theorem wp_cont : Wp (sCont ss st) QF E = QF (.ct ss) st := nd rfl
def tS2 (i : Nat) (ss : Sl) (Q : PQ Fl) : PQ DV := fun v st => Q (.nx (ss.set i (some v))) st
theorem wp_set {i : Nat} {a : Ex} : Wp (sSet i a ss st) QF E = Wp (a ss st) (tS2 i ss QF) (tX ss QF) := by
  unfold sSet
  rw [wp_lft]
  rfl
theorem tS2_app {i : Nat} {v : DV} : tS2 i ss QF v st = QF (.nx (ss.set i (some v))) st := nd rfl
def tI2 (a b : Stt) (ss : Sl) (Q : PQ Fl) (E : XQ) : PQ Bool := fun c st => if c = true then Wp (a ss st) Q E else Wp (b ss st) Q E
theorem wp_if {c : Sl → M Bool} {a b : Stt} : Wp (sIf c a b ss st) QF E = Wp (c ss st) (tI2 a b ss QF E) (tX ss QF) := by
  unfold sIf
  rw [wp_lft]
  congr 1
  funext x st
  cases x <;> rfl
theorem tI2_app {a b : Stt} {c : Bool} : tI2 a b ss QF E c st = if c = true then Wp (a ss st) QF E else Wp (b ss st) QF E := nd rfl
theorem wp_par {i j : Nat} {ms : List Ex} : Wp (sPar i j ms ss st) QF E = Wp (eArgs ms ss st) (fun xs st => match xs with
  | [x, y] => QF (.nx ((ss.set i (some x)).set j (some y))) st
  | _ => False) (tX ss QF) := by
  unfold sPar
  rw [wp_lft]
  congr 1
  funext xs st
  rcases xs with _ | ⟨x, _ | ⟨y, _ | ⟨z, r⟩⟩⟩ <;> rfl
def tG2 (g : Tg) (ss : Sl) (Q : PQ Fl) : PQ DV := fun v st => match g v ss st with
  | .ok ss' st' => Q (.nx ss') st'
  | _ => False
theorem wp_asg {g : Tg} {a : Ex} : Wp (sAsg g a ss st) QF E = Wp (a ss st) (tG2 g ss QF) (tX ss QF) := by
  unfold sAsg
  rw [wp_lft]
  congr 1
  funext v st
  show Wp (gK _ _ st) QF E = _
  unfold gK tG2
  cases g v ss st <;> rfl
theorem wp_aug {i : Nat} {g : DV → DV → M DV} {a : Ex} : Wp (sAug i g a ss st) QF E = Wp (eVar i ss st) (fun x st => Wp (a ss st) (tB (g x) (tS2 i ss QF) (tX ss QF)) (tX ss QF)) (tX ss QF) := by
  unfold sAug
  rw [wp_lft]
  congr 1
  funext x st
  show Wp (lft _ _ _ st) QF E = _
  rw [wp_lft]
  congr 1
  funext y st
  show Wp (lft _ _ _ st) QF E = _
  rw [wp_lft]
  rfl
theorem wp_iadd {i j : Int} : Wp (iaddM (.int i) (.int j) st) QD E = QD (.int (i + j)) st := nd rfl
/-! defs -/
def tR (Q : PQ DV) (E : XQ) : PQ Fl := fun fl st => match fl with
  | .nx _ => Q .non st
  | .rt v => Q v st
  | .rs e _ => E e st
  | _ => False
theorem wp_fn {n N : Nat} {body : Stt} {vs : List DV} (h : vs.length = n) : Wp (fnM n N body vs st) QD E = Wp (body (vs.map some ++ List.replicate (N - n) none) st) (tR QD E) NX := by
  unfold fnM
  rw [if_pos h]
  cases body (vs.map some ++ List.replicate (N - n) none) st with
  | ok fl st => cases fl <;> rfl
  | exc e st => rfl
  | bad => rfl
theorem tR_rt {v : DV} : tR QD E (.rt v) st = QD v st := nd rfl
theorem tR_nx : tR QD E (.nx ss) st = QD .non st := nd rfl
theorem tR_rs {e : DX} : tR QD E (.rs e ss) st = E e st := nd rfl
/-! loops -/
def tLp (I : Sl → Sto → Prop) (Q : PQ Fl) : PQ Fl := fun fl st => match fl with
  | .nx ss => I ss st
  | .ct ss => I ss st
  | .bk ss => Q (.nx ss) st
  | fl => Q fl st
theorem tLp_nx {I : Sl → Sto → Prop} : tLp I QF (.nx ss) st = I ss st := nd rfl
theorem tLp_ct {I : Sl → Sto → Prop} : tLp I QF (.ct ss) st = I ss st := nd rfl
theorem tLp_bk {I : Sl → Sto → Prop} : tLp I QF (.bk ss) st = QF (.nx ss) st := nd rfl
theorem tLp_rt {I : Sl → Sto → Prop} {v : DV} : tLp I QF (.rt v) st = QF (.rt v) st := nd rfl
theorem tLp_rs {I : Sl → Sto → Prop} {e : DX} : tLp I QF (.rs e ss) st = QF (.rs e ss) st := nd rfl
theorem for_rule {g : List (Nat × DO)} {tg : Tg} {b : Stt} {items : List DV} (I : Nat → Sl → Sto → Prop) (h0 : I 0 ss st)
    (hg : ∀ i ss st, i ≤ items.length → I i ss st → okG g st)
    (hs : ∀ i x ss st, items[i]? = some x → I i ss st → ∃ ss' st', tg x ss st = .ok ss' st' ∧ Wp (b ss' st') (tLp (I (i + 1)) QF) E)
    (he : ∀ ss st, I items.length ss st → QF (.nx ss) st) : Wp (forL g tg b items ss st) QF E := by
  have key : ∀ (n i : Nat) (ss : Sl) (st : Sto), i + n = items.length → I i ss st → Wp (forL g tg b (items.drop i) ss st) QF E := by
    intro n
    induction n with
    | zero =>
      intro i ss st hi hI
      have : i = items.length := by omega
      subst this
      rw [List.drop_eq_nil_of_le (Nat.le_refl _)]
      simp only [forL]
      rw [if_pos (hg _ _ _ (Nat.le_refl _) hI)]
      exact he _ _ hI
    | succ n ih =>
      intro i ss st hi hI
      have hl : i < items.length := by omega
      rw [List.drop_eq_getElem_cons hl]
      simp only [forL]
      rw [if_pos (hg _ _ _ (Nat.le_of_lt hl) hI)]
      obtain ⟨ss', st', e1, w⟩ := hs i _ ss st (List.getElem?_eq_getElem hl) hI
      unfold gK
      rw [e1]
      show Wp (match b ss' st' with
        | .ok (.nx ss2) st2 => forL g tg b (items.drop (i + 1)) ss2 st2
        | .ok (.ct ss2) st2 => forL g tg b (items.drop (i + 1)) ss2 st2
        | .ok (.bk ss2) st2 => .ok (.nx ss2) st2
        | o => o) QF E
      revert w
      cases b ss' st' with
      | ok fl st2 =>
        cases fl with
        | nx ss2 => exact fun w => ih _ _ _ (by omega) w
        | ct ss2 => exact fun w => ih _ _ _ (by omega) w
        | bk ss2 => exact fun w => w
        | rt v => exact fun w => w
        | rs e ss2 => exact fun w => w
      | exc e st2 => exact fun w => w
      | bad => exact fun w => w
  have := key items.length 0 ss st (by omega) h0
  rwa [List.drop_zero] at this
def tFr (tg : Tg) (b : Stt) (ss : Sl) (Q : PQ Fl) (E : XQ) : PQ Wk := fun wk st => Wp (forL wk.g tg b wk.items ss st) Q E
theorem wp_for {mi : Sl → M Wk} {tg : Tg} {b : Stt} : Wp (sFor mi tg b ss st) QF E = Wp (mi ss st) (tFr tg b ss QF E) (tX ss QF) := by
  unfold sFor
  rw [wp_lft]
  rfl
theorem tFr_app {tg : Tg} {b : Stt} {wk : Wk} : tFr tg b ss QF E wk st = Wp (forL wk.g tg b wk.items ss st) QF E := nd rfl
theorem wp_rg1 {ms : List Ex} {QW : PQ Wk} : Wp (iRg1 ms ss st) QW E = Wp (eArgs ms ss st) (fun ds st => match ds with
  | [.int j] => small62 j ∧ QW ⟨irange 0 j.toNat, []⟩ st
  | _ => False) E := by
  unfold iRg1
  rw [wp_bnd]
  congr 1
  funext ds st
  rcases ds with _ | ⟨d, _ | ⟨d', r⟩⟩
  · rfl
  · cases d with
    | int j =>
      show Wp (if small62 j then _ else _) QW E = _
      rw [wp_ite', wp_bad, ite_bad]
      rfl
    | _ => rfl
  · cases d <;> rfl
theorem wp_rg2 {ms : List Ex} {QW : PQ Wk} : Wp (iRg2 ms ss st) QW E = Wp (eArgs ms ss st) (fun ds st => match ds with
  | [.int i, .int j] => (small62 i ∧ small62 j) ∧ QW ⟨irange i (j - i).toNat, []⟩ st
  | _ => False) E := by
  unfold iRg2
  rw [wp_bnd]
  congr 1
  funext ds st
  rcases ds with _ | ⟨d, _ | ⟨d', _ | ⟨d2, r⟩⟩⟩
  · rfl
  · cases d <;> rfl
  · cases d with
    | int i =>
      cases d' with
      | int j =>
        show Wp (if small62 i ∧ small62 j then _ else _) QW E = _
        rw [wp_ite', wp_bad, ite_bad]
        rfl
      | _ => rfl
    | _ => rfl
  · cases d <;> cases d' <;> rfl
def tIy (Q : PQ Wk) : PQ DV := fun d st => match wkOf d st with
  | some w => Q w st
  | none => False
theorem wp_any {m : Ex} {QW : PQ Wk} : Wp (iAny m ss st) QW E = Wp (m ss st) (tIy QW) E := by
  unfold iAny
  rw [wp_bnd]
  congr 1
  funext d st
  show Wp (optW (wkOf d st) st) QW E = _
  unfold tIy optW
  cases wkOf d st <;> rfl
theorem tIy_R {k : Nat} {xs : List DV} {QW : PQ Wk} (h : st[k]? = some (.lst xs)) : tIy QW (.ref k) st = QW ⟨xs, [(k, .lst xs)]⟩ st := by
  unfold tIy
  simp only [wkOf, h]
theorem tIy_T {xs : List DV} {QW : PQ Wk} : tIy QW (.tup xs) st = QW ⟨xs, []⟩ st := nd rfl
theorem tIy_F {xs : List DV} {QW : PQ Wk} : tIy QW (.fzl xs) st = QW ⟨xs, []⟩ st := nd rfl
theorem wh_rule {c : Sl → M Bool} {b : Stt} (I : Nat → Sl → Sto → Prop) {n : Nat} (hn : n < FUEL) (h0 : I n ss st)
    (hs : ∀ n ss st, I n ss st → Wp (c ss st) (fun t st => if t = true then Wp (b ss st) (tLp (fun ss st => ∃ m, m < n ∧ I m ss st) QF) E else QF (.nx ss) st) (tX ss QF)) : Wp (sWhile c b ss st) QF E := by
  have key : ∀ (f n : Nat) (ss : Sl) (st : Sto), n < f → I n ss st → Wp (wh c b f ss st) QF E := by
    intro f
    induction f with
    | zero => intro n _ _ h; omega
    | succ f ih =>
      intro n ss st h hI
      simp only [wh]
      rw [wp_lft]
      refine (hs n ss st hI).imp (fun t st1 q => ?_) fun e st1 q => q
      cases t with
      | false => exact q
      | true =>
        have q : Wp (b ss st1) (tLp (fun ss st => ∃ m, m < n ∧ I m ss st) QF) E := q
        show Wp (match b ss st1 with
          | .ok (.nx ss') st' => wh c b f ss' st'
          | .ok (.ct ss') st' => wh c b f ss' st'
          | .ok (.bk ss') st' => .ok (.nx ss') st'
          | o => o) QF E
        revert q
        cases b ss st1 with
        | ok fl st2 =>
          cases fl with
          | nx ss2 => exact fun ⟨m, hm, q⟩ => ih m _ _ (by omega) q
          | ct ss2 => exact fun ⟨m, hm, q⟩ => ih m _ _ (by omega) q
          | bk ss2 => exact fun w => w
          | rt v => exact fun w => w
          | rs e ss2 => exact fun w => w
        | exc e st2 => exact fun w => w
        | bad => exact fun w => w
  exact key FUEL n ss st hn h0
end
end ML

/-! MP2: lists in the store; comprehensions; equalities. -/
namespace ML
open PySem PySem.Spec PyProof.Rows L2
theorem mulOk_l {i j : Int} (h : -(2 ^ 64) < i) (h' : i < 2 ^ 64) : mulOk i j := .inl ⟨h, h'⟩
theorem mulOk_r {i j : Int} (h : -(2 ^ 64) < j) (h' : j < 2 ^ 64) : mulOk i j := .inr (.inl ⟨h, h'⟩)
theorem sl_eq : sizeLine = 16777216 := sizeLine_eq
/-- what is there stays -/
def Sub (st st' : Sto) : Prop := ∀ (k : Nat) (o : DO), st[k]? = some o → st'[k]? = some o
theorem Sub.refl {st : Sto} : Sub st st := fun _ _ h => h
theorem Sub.trans {a b c : Sto} (h : Sub a b) (h' : Sub b c) : Sub a c := fun k o e => h' k o (h k o e)
theorem Sub.app {st l : Sto} : Sub st (st ++ l) := fun k o e => by
  have hk := (List.getElem?_eq_some_iff.mp e).1
  rw [List.getElem?_append_left hk]
  exact e
theorem Sub.len {a b : Sto} (h : Sub a b) : a.length ≤ b.length := by
  cases Nat.lt_or_ge b.length a.length with
  | inr h' => exact h'
  | inl h' =>
    have e := h b.length _ (List.getElem?_eq_getElem h')
    have := (List.getElem?_eq_some_iff.mp e).1
    omega
theorem Sub.set {a b : Sto} {k : Nat} {o : DO} (h : Sub a b) (hk : a.length ≤ k) : Sub a (b.set k o) := fun j o' e => by
  have hj := (List.getElem?_eq_some_iff.mp e).1
  rw [List.getElem?_set_ne (by omega)]
  exact h j o' e
theorem get_new {st : Sto} {o : DO} : (st ++ [o])[st.length]? = some o := List.getElem?_concat_length ..
theorem set_new {st : Sto} {o o' : DO} : (st ++ [o]).set st.length o' = st ++ [o'] := by
  rw [List.set_append_right _ _ (Nat.le_refl _), Nat.sub_self]
  rfl
theorem get_set {st : Sto} {k : Nat} {o o' : DO} (h : st[k]? = some o) : (st.set k o')[k]? = some o' := by
  rw [List.getElem?_set_self (List.getElem?_eq_some_iff.mp h).1]
theorem get_lt {st : Sto} {k : Nat} {o : DO} (h : st[k]? = some o) : k < st.length := (List.getElem?_eq_some_iff.mp h).1
section
variable {A B : Type} {m : M A} {f : A → M B} {st : Sto} {ss : Sl} {Q : PQ A} {QB : PQ B} {QD : PQ DV} {QF : PQ Fl} {QT : PQ Bool} {E : XQ}
theorem wp_alloc {o : DO} : Wp (alloc o st) QD E = QD (.ref st.length) (st ++ [o]) := nd rfl
/-! methods of lists -/
def tMt (T : String) (g : DV → List DV → M DV) (ms : List Ex) (ss : Sl) (Q : PQ DV) (E : XQ) : PQ DV := fun d st => isT T d st = true ∧ Wp (eArgs ms ss st) (tB (g d) Q E) E
theorem wp_mt {T : String} {g : DV → List DV → M DV} {a : Ex} {ms : List Ex} : Wp (eMt T g a ms ss st) QD E = Wp (a ss st) (tMt T g ms ss QD E) E := by
  unfold eMt
  rw [wp_bnd]
  congr 1
  funext d st
  show Wp (if isT T d st = true then _ else _) QD E = _
  rw [wp_ite', wp_bad, ite_bad, wp_bnd]
  rfl
theorem tMt_R {k : Nat} {xs : List DV} {g : DV → List DV → M DV} {ms : List Ex} (h : st[k]? = some (.lst xs)) : tMt "list" g ms ss QD E (.ref k) st = Wp (eArgs ms ss st) (tB (g (.ref k)) QD E) E := by
  have : isT "list" (.ref k) st = true := by
    unfold isT tyD
    simp only [h]
    rfl
  unfold tMt
  simp only [this, true_and]
theorem tMt_D {k : Nat} {xs : List (HK × DV)} {g : DV → List DV → M DV} {ms : List Ex} (h : st[k]? = some (.dic xs)) : tMt "dict" g ms ss QD E (.ref k) st = Wp (eArgs ms ss st) (tB (g (.ref k)) QD E) E := by
  have : isT "dict" (.ref k) st = true := by
    unfold isT tyD
    simp only [h]
    rfl
  unfold tMt
  simp only [this, true_and]
theorem wp_append {k : Nat} {xs : List DV} {y : DV} (h : st[k]? = some (.lst xs)) : Wp (appendM (.ref k) [y] st) QD E = (xs.length < sizeLine ∧ QD .non (st.set k (.lst (xs ++ [y])))) := by
  show Wp (match st[k]? with
    | some (.lst xs) => _
    | _ => _) QD E = _
  rw [h]
  simp only
  split
  · rename_i h'
    split at h'
    · cases h'; rename_i hl; simp only [hl, true_and]; rfl
    · cases h'
  · rename_i h'
    split at h'
    · cases h'
    · rename_i hl; simp only [hl, false_and]; rfl
theorem wp_addR {k l : Nat} {xs ys : List DV} (h : st[k]? = some (.lst xs)) (h' : st[l]? = some (.lst ys)) : Wp (addM (.ref k) (.ref l) st) QD E = (xs.length + ys.length ≤ sizeLine ∧ QD (.ref st.length) (st ++ [.lst (xs ++ ys)])) := by
  show Wp (match st[k]?, st[l]? with
    | some (.lst a), some (.lst b) => _
    | _, _ => _) QD E = _
  rw [h, h']
  simp only
  rw [wp_ite', wp_bad, ite_bad]
  rfl
theorem wp_listR {k : Nat} {xs : List DV} (h : st[k]? = some (.lst xs)) : Wp (listM [.ref k] st) QD E = QD (.ref st.length) (st ++ [.lst xs]) := by
  show Wp (match st[k]? with
    | some (.lst xs) => _
    | _ => _) QD E = _
  rw [h]
  rfl
def tSl (lo hi : Sl → M (Option Int)) (ss : Sl) (Q : PQ DV) (E : XQ) : PQ DV := fun d st => Wp (lo ss st) (fun l st => Wp (hi ss st) (fun h st => Wp (slM d l h st) Q E) E) E
theorem wp_sl {a : Ex} {lo hi : Sl → M (Option Int)} : Wp (eSl a lo hi ss st) QD E = Wp (a ss st) (tSl lo hi ss QD E) E := by
  unfold eSl
  rw [wp_bnd]
  congr 1
  funext d st
  show Wp (bnd _ _ st) QD E = _
  rw [wp_bnd]
  show _ = Wp _ _ E
  congr 1
  funext l st
  show Wp (bnd _ _ st) QD E = _
  rw [wp_bnd]
  rfl
theorem tSl_app {lo hi : Sl → M (Option Int)} {d : DV} : tSl lo hi ss QD E d st = Wp (lo ss st) (fun l st => Wp (hi ss st) (fun h st => Wp (slM d l h st) QD E) E) E := nd rfl
theorem wp_pNo {Q : PQ (Option Int)} : Wp (pNo ss st) Q E = Q none st := nd rfl
def tPs (Q : PQ (Option Int)) : PQ DV := fun d st => match d with
  | .int i => Q (some i) st
  | _ => False
theorem wp_pSm {a : Ex} {Q : PQ (Option Int)} : Wp (pSm a ss st) Q E = Wp (a ss st) (tPs Q) E := by
  unfold pSm
  rw [wp_bnd]
  congr 1
  funext d st
  cases d <;> rfl
theorem tPs_I {Q : PQ (Option Int)} {i : Int} : tPs Q (.int i) st = Q (some i) st := nd rfl
theorem wp_slT {xs : List DV} {lo hi : Option Int} : Wp (slM (.tup xs) lo hi st) QD E = QD (.tup (cutD xs lo hi)) st := nd rfl
theorem wp_slR {k : Nat} {xs : List DV} {lo hi : Option Int} (h : st[k]? = some (.lst xs)) : Wp (slM (.ref k) lo hi st) QD E = QD (.ref st.length) (st ++ [.lst (cutD xs lo hi)]) := by
  show Wp (match st[k]? with
    | some (.lst xs) => _
    | _ => _) QD E = _
  rw [h]
  rfl
theorem cut_tail {x : DV} {xs : List DV} : cutD (x :: xs) (some 1) none = xs := by
  unfold cutD
  rw [show HT.sIx (x :: xs).length 0 (some 1) = min 1 (x :: xs).length from HT.sIx_nat (x :: xs).length 0 1, HT.sIx_none]
  rw [show min 1 (x :: xs).length = 1 by
    rw [List.length_cons]
    omega]
  show List.take ((x :: xs).length - 1) xs = xs
  rw [List.length_cons, Nat.add_sub_cancel, List.take_length]
/-- the tail from n on -/
theorem cut_from {xs : List DV} {n : Nat} (h : n ≤ xs.length) : cutD xs (some (n : Int)) none = xs.drop n := by
  unfold cutD
  rw [show HT.sIx xs.length 0 (some (n : Int)) = min n xs.length from HT.sIx_nat xs.length 0 n, HT.sIx_none, Nat.min_eq_left h]
  rw [List.take_of_length_le]
  rw [List.length_drop]
  exact Nat.le_refl _
theorem cut_to {xs : List DV} {n : Nat} (h : n ≤ xs.length) : cutD xs none (some (n : Int)) = xs.take n := by
  unfold cutD
  rw [show HT.sIx xs.length xs.length (some (n : Int)) = min n xs.length from HT.sIx_nat xs.length xs.length n, HT.sIx_none, Nat.min_eq_left h, List.drop_zero, Nat.sub_zero]
/-! isinstance -/
theorem wp_isi {d : DV} {n : String} : Wp (isiM [d, .ty n] st) QD E = (match tyD d st with
  | some t => knownTy n = true ∧ QD (.bl (isTy t n)) st
  | none => False) := by
  show Wp (match tyD d st with
    | some t => if knownTy n = true then _ else _
    | none => _) QD E = _
  cases tyD d st with
  | none => rfl
  | some t =>
    show Wp (if knownTy n = true then _ else _) QD E = _
    rw [wp_ite', wp_bad, ite_bad]
    rfl
theorem ty_I {i : Int} : tyD (.int i) st = some "int" := rfl
theorem ty_B {i : Bool} : tyD (.bl i) st = some "bool" := rfl
theorem ty_N : tyD .non st = some "NoneType" := rfl
theorem ty_S {i : Str} : tyD (.str i) st = some "str" := rfl
theorem ty_T {xs : List DV} : tyD (.tup xs) st = some "tuple" := rfl
/-! all, sum -/
theorem wp_allR {k : Nat} {bs : List Bool} (h : st[k]? = some (.lst (bs.map DV.bl))) : Wp (allM [.ref k] st) QD E = QD (.bl (bs.all id)) st := by
  have e : ∀ bs : List Bool, blsD (bs.map DV.bl) = some bs := fun bs => by
    induction bs with
    | nil => rfl
    | cons b bs ih => simp only [List.map_cons, blsD, ih, Option.map_some]
  show Wp (match (itemsM (.ref k) st).bind blsD with
    | some bs => _
    | none => _) QD E = _
  have : itemsM (.ref k) st = some (bs.map DV.bl) := by
    unfold itemsM
    simp only [h]
  rw [this, Option.bind_some, e]
  rfl
/-! comprehensions -/
def tLc (own : List Nat) (tg : Tg) (c : Sl → M Bool) (e : Ex) (ss : Sl) (Q : PQ DV) (E : XQ) : PQ Wk := fun wk st => wk.items.length ≤ sizeLine ∧ Wp (lcL wk.g own tg c e wk.items ss st) (fun ys st => Q (.ref st.length) (st ++ [.lst ys])) NX
theorem wp_lc {mi : Sl → M Wk} {own : List Nat} {tg : Tg} {c : Sl → M Bool} {e : Ex} : Wp (eLc mi own tg c e ss st) QD E = Wp (mi ss st) (tLc own tg c e ss QD E) E := by
  unfold eLc
  rw [wp_bnd]
  congr 1
  funext wk st
  show Wp ((if _ then _ else _ : M DV) st) QD E = _
  rw [wp_ite]
  have : ∀ p : Prop, [Decidable p] → ∀ a : Prop, (if p then a else Wp ((stuck : M DV) st) QD E) = (p ∧ a) := fun p _ a => ite_bad
  rw [this]
  unfold tLc
  congr 1
  rw [wp_bnd]
  unfold noX
  cases lcL wk.g own tg c e wk.items ss st <;> rfl
theorem tLc_app {own : List Nat} {tg : Tg} {c : Sl → M Bool} {e : Ex} {wk : Wk} : tLc own tg c e ss QD E wk st = (wk.items.length ≤ sizeLine ∧ Wp (lcL wk.g own tg c e wk.items ss st) (fun ys st => QD (.ref st.length) (st ++ [.lst ys])) NX) := nd rfl
/-- by an invariant over what is gathered -/
theorem lc_rule {g : List (Nat × DO)} {own : List Nat} {tg : Tg} {c : Sl → M Bool} {e : Ex} {items : List DV} {QL : PQ (List DV)} (I : Nat → List DV → Sto → Prop) (h0 : I 0 [] st)
    (hg : ∀ i ys st, i ≤ items.length → I i ys st → okG g st)
    (hs : ∀ i x ys st, items[i]? = some x → I i ys st → ∃ ss' st', tg x (wipeD ss own) st = .ok ss' st' ∧ Wp (c ss' st') (fun t st => if t = true then Wp (e ss' st) (fun y st => I (i + 1) (ys ++ [y]) st) NX else I (i + 1) ys st) NX)
    (he : ∀ ys st, I items.length ys st → QL ys st) : Wp (lcL g own tg c e items ss st) QL NX := by
  have key : ∀ (n i : Nat) (ys : List DV) (st : Sto), i + n = items.length → I i ys st → Wp (lcL g own tg c e (items.drop i) ss st) (fun zs st => I items.length (ys ++ zs) st) NX := by
    intro n
    induction n with
    | zero =>
      intro i ys st hi hI
      have : i = items.length := by omega
      subst this
      rw [List.drop_eq_nil_of_le (Nat.le_refl _)]
      simp only [lcL]
      rw [if_pos (hg _ _ _ (Nat.le_refl _) hI)]
      rw [wp_ok, List.append_nil]
      exact hI
    | succ n ih =>
      intro i ys st hi hI
      have hl : i < items.length := by omega
      rw [List.drop_eq_getElem_cons hl]
      simp only [lcL]
      rw [if_pos (hg _ _ _ (Nat.le_of_lt hl) hI)]
      obtain ⟨ss', st', e1, w⟩ := hs i _ ys st (List.getElem?_eq_getElem hl) hI
      rw [wp_bnd, e1]
      rw [wp_ok, tB_app, wp_bnd]
      refine w.mono fun t st2 q => ?_
      rw [tB_app]
      cases t with
      | true =>
        have q : Wp (e ss' st2) (fun y st => I (i + 1) (ys ++ [y]) st) NX := q
        rw [if_pos rfl, wp_bnd]
        refine q.mono fun y st3 q => ?_
        rw [tB_app, wp_bnd]
        refine (ih (i + 1) _ st3 (by omega) q).mono fun zs st4 q => ?_
        show I items.length (ys ++ y :: zs) st4
        rw [List.append_assoc] at q
        exact q
      | false =>
        rw [if_neg Bool.false_ne_true]
        exact ih (i + 1) ys st2 (by omega) q
  have := key items.length 0 [] st (by omega) h0
  rw [List.drop_zero] at this
  exact this.mono fun zs st q => he zs st q
theorem okG_nil {st : Sto} : okG [] st := fun p hp => by simp at hp
theorem okG_one {st : Sto} {k : Nat} {o : DO} (h : st[k]? = some o) : okG [(k, o)] st := fun p hp => by
  have : p = (k, o) := by simpa using hp
  subst this
  exact h
end
/-! equality at any depth -/
mutual
theorem Rd.mono {st st' : Sto} (s : Sub st st') : ∀ {d : DV} {t : PyData}, Rd st d t → Rd st' d t
  | _, _, .non => .non
  | _, _, .bl b => .bl b
  | _, _, .int i => .int i
  | _, _, .str x => .str x
  | _, _, .tup h => .tup (RdAll.mono s h)
  | _, _, .ktp h => .ktp (RdAll.mono s h)
  | _, _, .fzl h => .fzl (RdAll.mono s h)
  | _, _, .ref e h => .ref (s _ _ e) (RdAll.mono s h)
theorem RdAll.mono {st st' : Sto} (s : Sub st st') : ∀ {d : List DV} {t : List PyData}, RdAll st d t → RdAll st' d t
  | _, _, .nil => .nil
  | _, _, .cons h r => .cons (Rd.mono s h) (RdAll.mono s r)
end
/-- small enough to be compared -/
def Sh (n : Nat) (d : PyData) : Prop := d.canLay0 = true ∧ d.depth ≤ n
theorem Sh.mono {n m : Nat} {d : PyData} (h : Sh n d) (l : n ≤ m) : Sh m d := ⟨h.1, Nat.le_trans h.2 l⟩
theorem Sh.int {n : Nat} (i : Int) : Sh n (.int i) := ⟨rfl, Nat.zero_le _⟩
theorem Sh.bl {n : Nat} (i : Bool) : Sh n (.bool i) := ⟨rfl, Nat.zero_le _⟩
theorem Sh.non {n : Nat} : Sh n .none := ⟨rfl, Nat.zero_le _⟩
theorem shAll {n : Nat} : ∀ {ds : List PyData}, (∀ d ∈ ds, Sh n d) → PyData.canLayAll0 ds = true ∧ PyData.depthAll ds ≤ n
  | [], _ => ⟨rfl, Nat.zero_le _⟩
  | d :: ds, h => by
    obtain ⟨h1, h2⟩ := h d List.mem_cons_self
    obtain ⟨h3, h4⟩ := shAll (ds := ds) fun e he => h e (List.mem_cons_of_mem _ he)
    refine ⟨?_, ?_⟩
    · unfold PyData.canLayAll0
      rw [h1, h3]
      rfl
    · unfold PyData.depthAll
      exact Nat.max_le.mpr ⟨h2, h4⟩
theorem Sh.list {n : Nat} {ds : List PyData} (h : ∀ d ∈ ds, Sh n d) : Sh (n + 1) (.list ds) := by
  obtain ⟨h1, h2⟩ := shAll h
  refine ⟨?_, ?_⟩
  · unfold PyData.canLay0; exact h1
  · unfold PyData.depth; omega
theorem Sh.tuple {n : Nat} {ds : List PyData} (h : ∀ d ∈ ds, Sh n d) : Sh (n + 1) (.tuple ds) := by
  obtain ⟨h1, h2⟩ := shAll h
  refine ⟨?_, ?_⟩
  · unfold PyData.canLay0; exact h1
  · unfold PyData.depth; omega
theorem Sh.ok {n : Nat} {d : PyData} (h : Sh n d) (hn : n ≤ 64) : SeqAt.shaped d = true := by
  unfold SeqAt.shaped
  rw [h.1, Bool.true_and]
  exact decide_eq_true (Nat.le_trans h.2 hn)
section
variable {st : Sto} {QD : PQ DV} {E : XQ}
theorem wp_eqD {x y : DV} {d e : PyData} {n m : Nat} (h1 : Rd st x d) (h2 : Rd st y e) (h3 : Sh n d) (h4 : Sh m e) (hn : n ≤ 64) (hm : m ≤ 64) : Wp (eqM x y st) QD E = QD (.bl (PyData.eqv d e)) st := by
  have gen : Wp (optM (deepEq st x y) st) QD E = QD (.bl (PyData.eqv d e)) st := by
    rw [deepEq_of h1 h2 (h3.ok hn) (h4.ok hm)]
    rfl
  cases h1 <;> cases h2 <;> first
    | exact gen
    | (rw [wp_eqI]; simp only [PyData.eqv]; exact congrArg (fun b => QD (.bl b) st) (by rw [Bool.eq_iff_iff]; simp))
    | (rw [wp_eqS]; simp only [PyData.eqv]; exact congrArg (fun b => QD (.bl b) st) (by rw [Bool.eq_iff_iff]; simp))
    | (rw [wp_eqB]; simp only [PyData.eqv]; exact congrArg (fun b => QD (.bl b) st) (by rw [Bool.eq_iff_iff]; simp))
theorem wp_neD {x y : DV} {d e : PyData} {n m : Nat} (h1 : Rd st x d) (h2 : Rd st y e) (h3 : Sh n d) (h4 : Sh m e) (hn : n ≤ 64) (hm : m ≤ 64) : Wp (neM x y st) QD E = QD (.bl (!PyData.eqv d e)) st := by
  have gen : Wp (optM ((deepEq st x y).map (!·)) st) QD E = QD (.bl (!PyData.eqv d e)) st := by
    rw [deepEq_of h1 h2 (h3.ok hn) (h4.ok hm)]
    rfl
  cases h1 <;> cases h2 <;> first
    | exact gen
    | (rw [wp_neI]; simp only [PyData.eqv]; exact congrArg (fun b => QD (.bl (!b)) st) (by rw [Bool.eq_iff_iff]; simp))
    | (rw [wp_neS]; simp only [PyData.eqv]; exact congrArg (fun b => QD (.bl (!b)) st) (by rw [Bool.eq_iff_iff]; simp))
    | (rw [wp_neB]; simp only [PyData.eqv]; exact congrArg (fun b => QD (.bl (!b)) st) (by rw [Bool.eq_iff_iff]; simp))
theorem wp_eqT {x y : DV} {d : PyData} {n : Nat} (h1 : Rd st x d) (h2 : Rd st y d) (h3 : Sh n d) (hn : n ≤ 64) : Wp (eqM x y st) QD E = QD (.bl true) st := by
  rw [wp_eqD h1 h2 h3 h3 hn hn, SeqAt.eqv_refl d h3.1]
theorem rdAll_map {A : Type} {f : A → DV} {g : A → PyData} (h : ∀ a, Rd st (f a) (g a)) : ∀ xs : List A, RdAll st (xs.map f) (xs.map g)
  | [] => .nil
  | x :: xs => .cons (h x) (rdAll_map h xs)
end
end ML
namespace ML
open PySem PySem.Spec PyProof.Rows L2
section
variable {st : Sto} {QD : PQ DV} {E : XQ} {N : Nat} {body : Stt} {a b c d e f g h : DV}
theorem wp_fn0 : Wp (fnM 0 N body [] st) QD E = Wp (body (List.replicate (N - 0) none) st) (tR QD E) NX := wp_fn rfl
theorem wp_fn1 : Wp (fnM 1 N body [a] st) QD E = Wp (body (some a :: List.replicate (N - 1) none) st) (tR QD E) NX := wp_fn rfl
theorem wp_fn2 : Wp (fnM 2 N body [a, b] st) QD E = Wp (body (some a :: some b :: List.replicate (N - 2) none) st) (tR QD E) NX := wp_fn rfl
theorem wp_fn3 : Wp (fnM 3 N body [a, b, c] st) QD E = Wp (body (some a :: some b :: some c :: List.replicate (N - 3) none) st) (tR QD E) NX := wp_fn rfl
theorem wp_fn4 : Wp (fnM 4 N body [a, b, c, d] st) QD E = Wp (body (some a :: some b :: some c :: some d :: List.replicate (N - 4) none) st) (tR QD E) NX := wp_fn rfl
theorem wp_fn5 : Wp (fnM 5 N body [a, b, c, d, e] st) QD E = Wp (body (some a :: some b :: some c :: some d :: some e :: List.replicate (N - 5) none) st) (tR QD E) NX := wp_fn rfl
theorem wp_fn6 : Wp (fnM 6 N body [a, b, c, d, e, f] st) QD E = Wp (body (some a :: some b :: some c :: some d :: some e :: some f :: List.replicate (N - 6) none) st) (tR QD E) NX := wp_fn rfl
end
end ML
namespace ML
open PySem PySem.Spec PyProof.Rows L2
theorem divOk_of {j : Int} (h : 0 < j) (h2 : j < 2 ^ 64) : divOk j := by
  refine ⟨h, ?_⟩
  have hn : j.natAbs ≠ 0 := by omega
  exact Nat.lt_of_lt_of_le ((Nat.log2_lt hn).mpr (show j.natAbs < 2 ^ 64 by omega)) (by decide)
theorem powOk_of {i j : Int} (h : 0 ≤ j) (h2 : j ≤ 1000000) (h3 : i.natAbs < 2 ^ 64) : powOk i j := ⟨h, h2, h3⟩
end ML
namespace ML
open PySem PySem.Spec PyProof.Rows L2
theorem ite2_neg {p q : Prop} [Decidable p] [Decidable q] {X Y : Prop} (h : ¬ (p ∧ q)) : (if p then (if q then X else Y) else Y) = Y := by
  split
  · split
    · exact absurd ⟨by assumption, by assumption⟩ h
    · rfl
  · rfl
theorem ite2_pos {p q : Prop} [Decidable p] [Decidable q] {X Y : Prop} (h : p ∧ q) : (if p then (if q then X else Y) else Y) = X := by
  rw [if_pos h.1, if_pos h.2]
end ML
namespace ML
open PySem PySem.Spec PyProof.Rows L2
theorem at_map {A : Type} (f : A → DV) (xs : List A) {i : Int} (d : A) (h0 : 0 ≤ i) (h : i < xs.length) : atI (xs.map f) i = some (f (xs.getD i.toNat d)) := by
  obtain ⟨j, rfl⟩ := Int.eq_ofNat_of_zero_le h0
  have hj : j < xs.length := by omega
  refine atI_nat ?_
  rw [List.getElem?_map, Int.toNat_natCast, List.getD_eq_getElem?_getD, List.getElem?_eq_getElem hj]
  rfl
theorem getD_mem {A : Type} {xs : List A} {i : Nat} {d : A} (h : i < xs.length) : xs.getD i d ∈ xs := by
  rw [List.getD_eq_getElem?_getD, List.getElem?_eq_getElem h]
  exact List.getElem_mem h
/-- pairs of numbers -/
def pr (p : Int × Int) : DV := .tup [.int p.1, .int p.2]
def pdI (i : Int) : PyData := .int i
def pdP (p : Int × Int) : PyData := .tuple [.int p.1, .int p.2]
theorem rd_I {st : Sto} (i : Int) : Rd st (.int i) (pdI i) := .int i
theorem rd_P {st : Sto} (p : Int × Int) : Rd st (pr p) (pdP p) := .tup (.cons (.int _) (.cons (.int _) .nil))
theorem rd_LI {st : Sto} {k : Nat} {L : List Int} (h : st[k]? = some (.lst (L.map DV.int))) : Rd st (.ref k) (.list (L.map pdI)) := .ref h (rdAll_map rd_I L)
theorem rd_LP {st : Sto} {k : Nat} {L : List (Int × Int)} (h : st[k]? = some (.lst (L.map pr))) : Rd st (.ref k) (.list (L.map pdP)) := .ref h (rdAll_map rd_P L)
theorem sh_I {n : Nat} (i : Int) : Sh n (pdI i) := .int i
theorem sh_map {A : Type} {n : Nat} {g : A → PyData} (h : ∀ a, Sh n (g a)) (L : List A) : Sh (n + 1) (.list (L.map g)) := .list fun d hd => by
  obtain ⟨a, _, rfl⟩ := List.mem_map.mp hd
  exact h a
/-- a work: doors in, boxes, gates, ends told -/
structure Work where
  ins : Int
  boxes : List (Int × Int)
  gates : List (Int × Int)
  outs : List Int
def Work.pd (W : Work) : PyData := .tuple [.int W.ins, .list (W.boxes.map pdP), .list (W.gates.map pdP), .list (W.outs.map pdI)]
structure IsW (st : Sto) (W : Work) (kb kg ko : Nat) : Prop where
  b : st[kb]? = some (.lst (W.boxes.map pr))
  g : st[kg]? = some (.lst (W.gates.map pr))
  o : st[ko]? = some (.lst (W.outs.map DV.int))
def Work.dv (W : Work) (kb kg ko : Nat) : DV := .tup [.int W.ins, .ref kb, .ref kg, .ref ko]
theorem IsW.mono {st st' : Sto} {W : Work} {kb kg ko : Nat} (h : IsW st W kb kg ko) (s : Sub st st') : IsW st' W kb kg ko := ⟨s _ _ h.b, s _ _ h.g, s _ _ h.o⟩
theorem IsW.rd {st : Sto} {W : Work} {kb kg ko : Nat} (h : IsW st W kb kg ko) : Rd st (W.dv kb kg ko) W.pd := .tup (.cons (.int _) (.cons (rd_LP h.b) (.cons (rd_LP h.g) (.cons (rd_LI h.o) .nil))))
structure Good (W : Work) (nb ng no : Nat) : Prop where
  i0 : 0 ≤ W.ins
  i1 : W.ins < 72
  nb : W.boxes.length ≤ nb
  ng : W.gates.length ≤ ng
  no : W.outs.length ≤ no
  bx : ∀ p ∈ W.boxes, 0 ≤ p.1 ∧ p.1 < 2 ∧ 0 ≤ p.2 ∧ p.2 < 2 * (1 + W.ins + W.boxes.length + W.gates.length)
  gt : ∀ (i : Nat) (p : Int × Int), W.gates[i]? = some p → 0 ≤ p.1 ∧ p.1 < 2 * (1 + W.ins + W.boxes.length + i) ∧ 0 ≤ p.2 ∧ p.2 < 2 * (1 + W.ins + W.boxes.length + i)
  ot : ∀ e ∈ W.outs, 0 ≤ e ∧ e < 2 * (1 + W.ins + W.boxes.length + W.gates.length)
end ML
namespace ML
open PySem PySem.Spec PyProof.Rows L2
section
variable {st : Sto} {QD : PQ DV} {E : XQ}
theorem wp_mull {i j : Int} (h : -18446744073709551616 < i) (h' : i < 18446744073709551616) : Wp (mulM (.int i) (.int j) st) QD E = QD (.int (i * j)) st := by
  rw [wp_mul]
  simp only [mulOk_l h h', true_and]
theorem wp_mulr {i j : Int} (h : -18446744073709551616 < j) (h' : j < 18446744073709551616) : Wp (mulM (.int i) (.int j) st) QD E = QD (.int (i * j)) st := by
  rw [wp_mul]
  simp only [mulOk_r h h', true_and]
theorem wp_fdivc {i j : Int} (h : 0 < j) (h' : j < 18446744073709551616) : Wp (fdivM (.int i) (.int j) st) QD E = QD (.int (i / j)) st := by
  rw [wp_fdiv]
  simp only [divOk_of h h', true_and]
theorem wp_modc {i j : Int} (h : 0 < j) : Wp (modM (.int i) (.int j) st) QD E = QD (.int (i % j)) st := by
  rw [wp_mod]
  simp only [h, true_and]
theorem wp_powc {i j : Int} (h : 0 ≤ j) (h2 : j ≤ 1000000) (h3 : i.natAbs < 18446744073709551616) : Wp (powM (.int i) (.int j) st) QD E = QD (.int (i ^ j.toNat)) st := by
  rw [wp_pow]
  simp only [powOk_of h h2 h3, true_and]
theorem wp_shlc {i j : Int} (h : 0 ≤ j) (h2 : j ≤ 1000000) (h3 : i.natAbs < 18446744073709551616) : Wp (shlM (.int i) (.int j) st) QD E = QD (.int (i * 2 ^ j.toNat)) st := by
  rw [wp_shl]
  simp only [powOk_of h h2 h3, true_and]
theorem wp_shrc {i j : Int} (h : 0 ≤ j) : Wp (shrM (.int i) (.int j) st) QD E = QD (.int (i / 2 ^ j.toNat)) st := by
  rw [wp_shr]
  simp only [h, true_and]
end
theorem at_int {xs : List Int} {i : Int} (h0 : 0 ≤ i) (h : i < xs.length) : atI (xs.map DV.int) i = some (.int (xs.getD i.toNat 0)) := at_map DV.int xs 0 h0 h
theorem at_pr {xs : List (Int × Int)} {i : Int} (h0 : 0 ≤ i) (h : i < xs.length) : atI (xs.map pr) i = some (pr (xs.getD i.toNat (0, 0))) := at_map pr xs (0, 0) h0 h
end ML
namespace ML
open PySem PySem.Spec PyProof.Rows L2
theorem wp_appendc {st : Sto} {QD : PQ DV} {E : XQ} {k : Nat} {xs : List DV} {y : DV} (h : st[k]? = some (.lst xs)) (hl : xs.length < 16777216) : Wp (appendM (.ref k) [y] st) QD E = QD .non (st.set k (.lst (xs ++ [y]))) := by
  rw [wp_append h, sl_eq]
  simp only [hl, true_and]
theorem wp_addRc {st : Sto} {QD : PQ DV} {E : XQ} {k l : Nat} {xs ys : List DV} (h : st[k]? = some (.lst xs)) (h' : st[l]? = some (.lst ys)) (hl : xs.length + ys.length ≤ 16777216) : Wp (addM (.ref k) (.ref l) st) QD E = QD (.ref st.length) (st ++ [.lst (xs ++ ys)]) := by
  rw [wp_addR h h', sl_eq]
  simp only [hl, true_and]
end ML
namespace ML
open PySem PySem.Spec PyProof.Rows L2
section
variable {st : Sto} {ss : Sl} {QD : PQ DV} {QW : PQ Wk} {E : XQ}
def tLn (Q : PQ DV) : PQ (List DV) := fun ys st => Q (.ref st.length) (st ++ [.lst ys])
def tRg1 (Q : PQ Wk) : PQ (List DV) := fun ds st => match ds with
  | [.int j] => small62 j ∧ Q ⟨irange 0 j.toNat, []⟩ st
  | _ => False
def tRg2 (Q : PQ Wk) : PQ (List DV) := fun ds st => match ds with
  | [.int i, .int j] => (small62 i ∧ small62 j) ∧ Q ⟨irange i (j - i).toNat, []⟩ st
  | _ => False
theorem wp_rg1t {ms : List Ex} : Wp (iRg1 ms ss st) QW E = Wp (eArgs ms ss st) (tRg1 QW) E := wp_rg1
theorem wp_rg2t {ms : List Ex} : Wp (iRg2 ms ss st) QW E = Wp (eArgs ms ss st) (tRg2 QW) E := wp_rg2
theorem tRg1_app {j : Int} (h : -4611686018427387904 ≤ j) (h' : j < 4611686018427387904) : tRg1 QW [.int j] st = QW ⟨irange 0 j.toNat, []⟩ st := by
  have : small62 j := ⟨h, h'⟩
  unfold tRg1
  simp only [this, true_and]
theorem tRg2_app {i j : Int} (h : -4611686018427387904 ≤ i) (h' : i < 4611686018427387904) (g : -4611686018427387904 ≤ j) (g' : j < 4611686018427387904) : tRg2 QW [.int i, .int j] st = QW ⟨irange i (j - i).toNat, []⟩ st := by
  have h1 : small62 i := ⟨h, h'⟩
  have h2 : small62 j := ⟨g, g'⟩
  unfold tRg2
  simp only [h1, h2, true_and]
theorem tLc_rg {own : List Nat} {tg : Tg} {c : Sl → M Bool} {e : Ex} {lo : Int} {n : Nat} {g : List (Nat × DO)} (h : n ≤ 16777216) : tLc own tg c e ss QD E ⟨irange lo n, g⟩ st = Wp (lcL g own tg c e (irange lo n) ss st) (tLn QD) NX := by
  rw [tLc_app, sl_eq]
  simp only [irange_length, h, true_and]
  rfl
theorem tLc_mp {A : Type} {f : A → DV} {L : List A} {own : List Nat} {tg : Tg} {c : Sl → M Bool} {e : Ex} {g : List (Nat × DO)} (h : L.length ≤ 16777216) : tLc own tg c e ss QD E ⟨L.map f, g⟩ st = Wp (lcL g own tg c e (L.map f) ss st) (tLn QD) NX := by
  rw [tLc_app, sl_eq]
  simp only [List.length_map, h, true_and]
  rfl
end
/-- over a list, one thing for each -/
theorem lc_mapL {A : Type} {f : A → DV} {L : List A} {st : Sto} {ss : Sl} {g : List (Nat × DO)} {own : List Nat} {tg : Tg} {e : Ex} {QL : PQ (List DV)} (F : A → DV)
    (hs : ∀ a st', a ∈ L → Sub st st' → ∃ ss', tg (f a) (wipeD ss own) st' = .ok ss' st' ∧ Wp (e ss' st') (fun y st2 => y = F a ∧ Sub st' st2) NX)
    (hg : ∀ st', Sub st st' → okG g st')
    (he : ∀ st', Sub st st' → QL (L.map F) st') : Wp (lcL g own tg tTrue e (L.map f) ss st) QL NX := by
  refine lc_rule (fun i ys st' => ys = (L.take i).map F ∧ Sub st st') ⟨by simp, .refl⟩ (fun i ys st' _ h => hg _ h.2) (fun i x ys st' hx h => ?_) fun ys st' h => ?_
  · obtain ⟨rfl, sub⟩ := h
    rw [List.getElem?_map] at hx
    cases hL : L[i]? with
    | none => rw [hL] at hx; cases hx
    | some a =>
      rw [hL] at hx
      cases hx
      obtain ⟨ss', e1, w⟩ := hs a st' (List.mem_of_getElem? hL) sub
      refine ⟨ss', st', e1, ?_⟩
      show Wp (e ss' st') _ NX
      refine w.mono fun y st2 ⟨ey, s2⟩ => ⟨?_, sub.trans s2⟩
      rw [List.take_add_one, hL, List.map_append, ey]
      rfl
  · obtain ⟨rfl, sub⟩ := h
    rw [List.length_map, List.take_length]
    exact he _ sub
/-- over a range -/
theorem lc_rg {lo : Int} {n : Nat} {st : Sto} {ss : Sl} {g : List (Nat × DO)} {own : List Nat} {tg : Tg} {e : Ex} {QL : PQ (List DV)} (F : Nat → DV)
    (hs : ∀ i st', i < n → Sub st st' → ∃ ss', tg (.int (lo + (i : Nat))) (wipeD ss own) st' = .ok ss' st' ∧ Wp (e ss' st') (fun y st2 => y = F i ∧ Sub st' st2) NX)
    (hg : ∀ st', Sub st st' → okG g st')
    (he : ∀ st', Sub st st' → QL ((List.range n).map F) st') : Wp (lcL g own tg tTrue e (irange lo n) ss st) QL NX := by
  unfold irange
  exact lc_mapL (L := List.range n) F (fun a st' ha s => hs a st' (List.mem_range.mp ha) s) hg he
end ML
namespace ML
open PySem PySem.Spec PyProof.Rows L2
/-- over a list, one thing of a kind for each -/
theorem lc_mapG {A B : Type} {f : A → DV} {L : List A} {st : Sto} {ss : Sl} {g : List (Nat × DO)} {own : List Nat} {tg : Tg} {e : Ex} {QL : PQ (List DV)} (G : B → DV) (F : A → B)
    (hs : ∀ a st', a ∈ L → Sub st st' → ∃ ss', tg (f a) (wipeD ss own) st' = .ok ss' st' ∧ Wp (e ss' st') (fun y st2 => y = G (F a) ∧ Sub st' st2) NX)
    (hg : ∀ st', Sub st st' → okG g st')
    (he : ∀ st', Sub st st' → QL ((L.map F).map G) st') : Wp (lcL g own tg tTrue e (L.map f) ss st) QL NX :=
  lc_mapL (fun a => G (F a)) hs hg fun st' s => by
    have := he st' s
    rw [List.map_map] at this
    exact this
theorem lc_rgG {B : Type} {lo : Int} {n : Nat} {st : Sto} {ss : Sl} {g : List (Nat × DO)} {own : List Nat} {tg : Tg} {e : Ex} {QL : PQ (List DV)} (G : B → DV) (F : Nat → B)
    (hs : ∀ i st', i < n → Sub st st' → ∃ ss', tg (.int (lo + (i : Nat))) (wipeD ss own) st' = .ok ss' st' ∧ Wp (e ss' st') (fun y st2 => y = G (F i) ∧ Sub st' st2) NX)
    (hg : ∀ st', Sub st st' → okG g st')
    (he : ∀ st', Sub st st' → QL (((List.range n).map F).map G) st') : Wp (lcL g own tg tTrue e (irange lo n) ss st) QL NX :=
  lc_rg (fun a => G (F a)) hs hg fun st' s => by
    have := he st' s
    rw [List.map_map] at this
    exact this
theorem xor_end (x e : Int) : Builtin.bitXor x (Builtin.bitAnd e 1) = if e % 2 = 0 then x else x + 1 - 2 * (x % 2) := by
  rw [bitAnd_m1]
  split
  · rename_i h
    rw [h, bitXor_zero]
  · rename_i h
    have h1 : e % 2 = 1 := by omega
    rw [h1, bitXor_and, bitAnd_m1]
end ML
namespace ML
open PySem PySem.Spec PyProof.Rows L2
section
variable {st : Sto} {ss : Sl} {QD : PQ DV} {E : XQ}
/-- what holds of a new list -/
def New (st : Sto) (xs : List DV) (Q : PQ DV) : Prop := ∀ st' k, Sub st st' → st.length ≤ k → k < st'.length → st'[k]? = some (.lst xs) → Q (.ref k) st'
theorem New.at {st1 : Sto} {xs : List DV} (h : New st xs QD) (s : Sub st st1) : QD (.ref st1.length) (st1 ++ [.lst xs]) := h _ _ (s.trans .app) s.len (by simp) get_new
theorem lcn_mapG {A B : Type} {f : A → DV} {L : List A} {g : List (Nat × DO)} {own : List Nat} {tg : Tg} {e : Ex} (G : B → DV) (F : A → B)
    (hs : ∀ a st', a ∈ L → Sub st st' → ∃ ss', tg (f a) (wipeD ss own) st' = .ok ss' st' ∧ Wp (e ss' st') (fun y st2 => y = G (F a) ∧ Sub st' st2) NX)
    (hg : ∀ st', Sub st st' → okG g st')
    (he : New st ((L.map F).map G) QD) : Wp (lcL g own tg tTrue e (L.map f) ss st) (tLn QD) NX :=
  lc_mapG G F hs hg fun _ s => he.at s
theorem lcn_rgG {B : Type} {lo : Int} {n : Nat} {g : List (Nat × DO)} {own : List Nat} {tg : Tg} {e : Ex} (G : B → DV) (F : Nat → B)
    (hs : ∀ i st', i < n → Sub st st' → ∃ ss', tg (.int (lo + (i : Nat))) (wipeD ss own) st' = .ok ss' st' ∧ Wp (e ss' st') (fun y st2 => y = G (F i) ∧ Sub st' st2) NX)
    (hg : ∀ st', Sub st st' → okG g st')
    (he : New st (((List.range n).map F).map G) QD) : Wp (lcL g own tg tTrue e (irange lo n) ss st) (tLn QD) NX :=
  lc_rgG G F hs hg fun _ s => he.at s
theorem wp_addN {k l : Nat} {xs ys : List DV} (h : st[k]? = some (.lst xs)) (h' : st[l]? = some (.lst ys)) (hl : xs.length + ys.length ≤ 16777216) (hq : New st (xs ++ ys) QD) : Wp (addM (.ref k) (.ref l) st) QD E := by
  rw [wp_addRc h h' hl]
  exact hq.at .refl
theorem wp_addNG {B : Type} {G : B → DV} {k l : Nat} {xs ys : List B} (h : st[k]? = some (.lst (xs.map G))) (h' : st[l]? = some (.lst (ys.map G))) (hl : xs.length + ys.length ≤ 16777216) (hq : New st ((xs ++ ys).map G) QD) : Wp (addM (.ref k) (.ref l) st) QD E := by
  refine wp_addN h h' (by rw [List.length_map, List.length_map]; exact hl) ?_
  rw [List.map_append] at hq
  exact hq
theorem wp_listN {k : Nat} {xs : List DV} (h : st[k]? = some (.lst xs)) (hq : New st xs QD) : Wp (listM [.ref k] st) QD E := by
  rw [wp_listR h]
  exact hq.at .refl
theorem wp_allocN {xs : List DV} (hq : New st xs QD) : Wp (alloc (.lst xs) st) QD E := by
  rw [wp_alloc]
  exact hq.at .refl
end
end ML
namespace ML
theorem kt_int : knownTy "int" = true := by decide
theorem kt_bool : knownTy "bool" = true := by decide
theorem kt_str : knownTy "str" = true := by decide
theorem kt_tuple : knownTy "tuple" = true := by decide
theorem kt_list : knownTy "list" = true := by decide
theorem kt_dict : knownTy "dict" = true := by decide
theorem it_NoneType_int : isTy "NoneType" "int" = false := by decide
theorem it_NoneType_bool : isTy "NoneType" "bool" = false := by decide
theorem it_NoneType_str : isTy "NoneType" "str" = false := by decide
theorem it_NoneType_tuple : isTy "NoneType" "tuple" = false := by decide
theorem it_NoneType_list : isTy "NoneType" "list" = false := by decide
theorem it_NoneType_dict : isTy "NoneType" "dict" = false := by decide
theorem it_bool_int : isTy "bool" "int" = true := by decide
theorem it_bool_bool : isTy "bool" "bool" = true := by decide
theorem it_bool_str : isTy "bool" "str" = false := by decide
theorem it_bool_tuple : isTy "bool" "tuple" = false := by decide
theorem it_bool_list : isTy "bool" "list" = false := by decide
theorem it_bool_dict : isTy "bool" "dict" = false := by decide
theorem it_int_int : isTy "int" "int" = true := by decide
theorem it_int_bool : isTy "int" "bool" = false := by decide
theorem it_int_str : isTy "int" "str" = false := by decide
theorem it_int_tuple : isTy "int" "tuple" = false := by decide
theorem it_int_list : isTy "int" "list" = false := by decide
theorem it_int_dict : isTy "int" "dict" = false := by decide
theorem it_str_int : isTy "str" "int" = false := by decide
theorem it_str_bool : isTy "str" "bool" = false := by decide
theorem it_str_str : isTy "str" "str" = true := by decide
theorem it_str_tuple : isTy "str" "tuple" = false := by decide
theorem it_str_list : isTy "str" "list" = false := by decide
theorem it_str_dict : isTy "str" "dict" = false := by decide
theorem it_tuple_int : isTy "tuple" "int" = false := by decide
theorem it_tuple_bool : isTy "tuple" "bool" = false := by decide
theorem it_tuple_str : isTy "tuple" "str" = false := by decide
theorem it_tuple_tuple : isTy "tuple" "tuple" = true := by decide
theorem it_tuple_list : isTy "tuple" "list" = false := by decide
theorem it_tuple_dict : isTy "tuple" "dict" = false := by decide
theorem it_list_int : isTy "list" "int" = false := by decide
theorem it_list_bool : isTy "list" "bool" = false := by decide
theorem it_list_str : isTy "list" "str" = false := by decide
theorem it_list_tuple : isTy "list" "tuple" = false := by decide
theorem it_list_list : isTy "list" "list" = true := by decide
theorem it_list_dict : isTy "list" "dict" = false := by decide
theorem it_dict_int : isTy "dict" "int" = false := by decide
theorem it_dict_bool : isTy "dict" "bool" = false := by decide
theorem it_dict_str : isTy "dict" "str" = false := by decide
theorem it_dict_tuple : isTy "dict" "tuple" = false := by decide
theorem it_dict_list : isTy "dict" "list" = false := by decide
theorem it_dict_dict : isTy "dict" "dict" = true := by decide
end ML
namespace ML
open PySem PySem.Spec PyProof.Rows L2
section
variable {st : Sto} {ss : Sl} {QD : PQ DV} {QF : PQ Fl} {E : XQ} {W : Work} {kb kg ko : Nat}
theorem wp_ixW0 : Wp (ixM (W.dv kb kg ko) (.int 0) st) QD E = QD (.int W.ins) st := nd rfl
theorem wp_ixW1 : Wp (ixM (W.dv kb kg ko) (.int 1) st) QD E = QD (.ref kb) st := by
  unfold Work.dv
  rw [wp_ixT, at1]
  rfl
theorem wp_ixW2 : Wp (ixM (W.dv kb kg ko) (.int 2) st) QD E = QD (.ref kg) st := by
  unfold Work.dv
  rw [wp_ixT, at2]
  rfl
theorem wp_ixW3 : Wp (ixM (W.dv kb kg ko) (.int 3) st) QD E = QD (.ref ko) st := by
  unfold Work.dv
  rw [wp_ixT, at3]
  rfl
theorem ty_W : tyD (W.dv kb kg ko) st = some "tuple" := rfl
theorem wp_lenW : Wp (lenM [W.dv kb kg ko] st) QD E = QD (.int 4) st := nd rfl
theorem wp_slW {lo hi : Option Int} : Wp (slM (W.dv kb kg ko) lo hi st) QD E = QD (.tup (cutD [.int W.ins, .ref kb, .ref kg, .ref ko] lo hi)) st := nd rfl
theorem tG2_W {a b c d : Nat} : tG2 (gTpL [a, b, c, d]) ss QF (W.dv kb kg ko) st = QF (.nx (setAll [a, b, c, d] [.int W.ins, .ref kb, .ref kg, .ref ko] ss)) st := nd rfl
theorem wp_ixP0 {p : Int × Int} : Wp (ixM (pr p) (.int 0) st) QD E = QD (.int p.1) st := nd rfl
theorem wp_ixP1 {p : Int × Int} : Wp (ixM (pr p) (.int 1) st) QD E = QD (.int p.2) st := by
  unfold pr
  rw [wp_ixT, at1]
  rfl
theorem tG2_P {a b : Nat} {p : Int × Int} : tG2 (gTpL [a, b]) ss QF (pr p) st = QF (.nx (setAll [a, b] [.int p.1, .int p.2] ss)) st := nd rfl
end
end ML
namespace ML
open PySem PySem.Spec PyProof.Rows L2
theorem rg_up {i j c : Int} (hi : -1099511627776 ≤ i) (hi' : i ≤ 1099511627776) (hj : -1099511627776 ≤ j) (hj' : j ≤ 1099511627776) (hc : 0 < c) (hc' : c < 1048576) : Builtin.Range.small i j c = true ∧ Builtin.Range.rangeSize i j c = (((if i < j then (j - i - 1) / c + 1 else 0 : Int).toNat : Nat) : Int) := by
  have e : Builtin.Range.rangeSize i j c = if i < j then (j - i - 1) / c + 1 else 0 := by
    unfold Builtin.Range.rangeSize
    rw [if_pos hc]
  have hb : 0 ≤ (if i < j then (j - i - 1) / c + 1 else 0) ∧ (if i < j then (j - i - 1) / c + 1 else 0) ≤ 4398046511104 := by
    split
    · rename_i h
      have h1 : 0 ≤ j - i - 1 := by omega
      have h2 := Int.ediv_nonneg h1 (Int.le_of_lt hc)
      have h3 := Int.ediv_le_self c h1
      omega
    · omega
  refine ⟨?_, by rw [e]; omega⟩
  unfold Builtin.Range.small
  rw [e]
  simp only [Builtin.Range.rangeFitsLong, Bool.and_eq_true, Bool.or_eq_true, decide_eq_true_eq, beq_iff_eq, show c > 0 from hc, if_true]
  omega
section
variable {st : Sto} {ss : Sl} {QW : PQ Wk} {E : XQ}
def tRg3 (Q : PQ Wk) : PQ (List DV) := fun ds st => match ds with
  | [.int i, .int j, .int c] => (c ≠ 0 ∧ c.natAbs < 1073741824 ∧ Builtin.Range.small i j c = true ∧ Builtin.Range.rangeSize i j c = ((Builtin.Range.rangeSize i j c).toNat : Int)) ∧ Q ⟨rsteps i c (Builtin.Range.rangeSize i j c).toNat, []⟩ st
  | _ => False
theorem wp_rg3 {ms : List Ex} : Wp (iRg3 ms ss st) QW E = Wp (eArgs ms ss st) (tRg3 QW) E := by
  unfold iRg3
  rw [wp_bnd]
  congr 1
  funext ds st
  rcases ds with _ | ⟨d, _ | ⟨d', _ | ⟨d2, _ | ⟨d3, r⟩⟩⟩⟩
  · rfl
  · cases d <;> rfl
  · cases d <;> cases d' <;> rfl
  · cases d with
    | int i =>
      cases d' with
      | int j =>
        cases d2 with
        | int c =>
          show Wp (if _ then _ else _) QW E = _
          rw [wp_ite', wp_bad, ite_bad]
          rfl
        | _ => rfl
      | _ => rfl
    | _ => rfl
  · cases d <;> cases d' <;> cases d2 <;> rfl
theorem tRg3_app {i j c : Int} (hi : -1099511627776 ≤ i) (hi' : i ≤ 1099511627776) (hj : -1099511627776 ≤ j) (hj' : j ≤ 1099511627776) (hc : 0 < c) (hc' : c < 1048576) : tRg3 QW [.int i, .int j, .int c] st = QW ⟨rsteps i c (if i < j then (j - i - 1) / c + 1 else 0 : Int).toNat, []⟩ st := by
  obtain ⟨h1, h2⟩ := rg_up hi hi' hj hj' hc hc'
  have h3 : (Builtin.Range.rangeSize i j c).toNat = (if i < j then (j - i - 1) / c + 1 else 0 : Int).toNat := by rw [h2, Int.toNat_natCast]
  show ((_ ∧ _) ∧ _) = _
  rw [h3]
  have h4 : c ≠ 0 := by omega
  have h5 : c.natAbs < 1073741824 := by omega
  simp only [h1, h2, h4, h5, true_and, ne_eq, not_false_eq_true]
theorem tRg3_dn {i j : Int} (ha : -4611686018427387904 ≤ i) (ha' : i < 4611686018427387904) (hb : -4611686018427387904 ≤ j) (hb' : j < 4611686018427387904) : tRg3 QW [.int i, .int j, .int (-1)] st = QW ⟨rsteps i (-1) (i - j).toNat, []⟩ st := by
  have h1 := PySem.W.small_down ha ha' hb hb'
  have h2 := PySem.W.rangeSize_downNat i j
  have h3 : (Builtin.Range.rangeSize i j (-1)).toNat = (i - j).toNat := by rw [h2, Int.toNat_natCast]
  show ((_ ∧ _) ∧ _) = _
  rw [h3]
  have h4 : (-1 : Int) ≠ 0 := by omega
  have h5 : (-1 : Int).natAbs < 1073741824 := by omega
  simp only [h1, h2, h4, h5, true_and, ne_eq, not_false_eq_true]
end
theorem rsteps_len {i c : Int} {n : Nat} : (rsteps i c n).length = n := by unfold rsteps; rw [List.length_map, List.length_range]
end ML
namespace ML
open PySem PySem.Spec PyProof.Rows L2
section
variable {st : Sto} {QD : PQ DV} {E : XQ}
theorem wp_isTN {xs : List DV} : Wp (isM (.tup xs) .non st) QD E = QD (.bl false) st := nd rfl
theorem wp_isnTN {xs : List DV} : Wp (isnM (.tup xs) .non st) QD E = QD (.bl true) st := nd rfl
theorem wp_isRN {k : Nat} : Wp (isM (.ref k) .non st) QD E = QD (.bl false) st := nd rfl
theorem wp_isnRN {k : Nat} : Wp (isnM (.ref k) .non st) QD E = QD (.bl true) st := nd rfl
theorem wp_isNN : Wp (isM .non .non st) QD E = QD (.bl true) st := nd rfl
theorem wp_isnNN : Wp (isnM .non .non st) QD E = QD (.bl false) st := nd rfl
theorem wp_isIN {i : Int} : Wp (isM (.int i) .non st) QD E = QD (.bl false) st := nd rfl
theorem wp_isnIN {i : Int} : Wp (isnM (.int i) .non st) QD E = QD (.bl true) st := nd rfl
end
theorem sh_LI {L : List Int} : Sh 1 (.list (L.map pdI)) := sh_map (sh_I (n := 0)) L
end ML
namespace ML
open PySem PySem.Spec PyProof.Rows L2
theorem cut_init {xs : List DV} {x : DV} : cutD (xs ++ [x]) none (some (-1)) = xs := by
  have e : HT.sIx (xs ++ [x]).length (xs ++ [x]).length (some (-1)) = xs.length := by
    have h : HT.sIx (xs ++ [x]).length (xs ++ [x]).length (some (-1)) = (-1 + ((xs ++ [x]).length : Int)).toNat := rfl
    rw [h, List.length_append, List.length_singleton]
    omega
  unfold cutD
  rw [HT.sIx_none, e, List.drop_zero, Nat.sub_zero, List.take_left']
  rfl
end ML

/-! MP3: lists of rows of numbers. -/
namespace ML
open PySem PySem.Spec PyProof.Rows L2
def rowR (q : Nat × List Int) : DV := .ref q.1
/-- the rows q lie at k -/
structure Rows (st : Sto) (k b : Nat) (qs : List (Nat × List Int)) : Prop where
  at_ : st[k]? = some (.lst (qs.map rowR))
  ob : ∀ q ∈ qs, b ≤ q.1 ∧ q.1 ≠ k ∧ st[q.1]? = some (.lst (q.2.map DV.int))
def pdR (R : List Int) : PyData := .list (R.map pdI)
theorem Rows.mono {st st' : Sto} {k b : Nat} {qs : List (Nat × List Int)} (h : Rows st k b qs) (s : Sub st st') : Rows st' k b qs := ⟨s _ _ h.at_, fun q hq => let ⟨h1, h2, h3⟩ := h.ob q hq; ⟨h1, h2, s _ _ h3⟩⟩
theorem Rows.low {st : Sto} {k b b' : Nat} {qs : List (Nat × List Int)} (h : Rows st k b qs) (hb : b' ≤ b) : Rows st k b' qs := ⟨h.at_, fun q hq => let ⟨h1, h2, h3⟩ := h.ob q hq; ⟨Nat.le_trans hb h1, h2, h3⟩⟩
theorem rdAll_rows {st : Sto} : ∀ {qs : List (Nat × List Int)}, (∀ q ∈ qs, st[q.1]? = some (.lst (q.2.map DV.int))) → RdAll st (qs.map rowR) ((qs.map (·.2)).map pdR)
  | [], _ => .nil
  | q :: qs, h => .cons (rd_LI (h q List.mem_cons_self)) (rdAll_rows fun p hp => h p (List.mem_cons_of_mem _ hp))
theorem Rows.rd {st : Sto} {k b : Nat} {qs : List (Nat × List Int)} (h : Rows st k b qs) : Rd st (.ref k) (.list ((qs.map (·.2)).map pdR)) := .ref h.at_ (rdAll_rows fun q hq => (h.ob q hq).2.2)
theorem Rows.nil {st : Sto} {k b : Nat} (h : st[k]? = some (.lst [])) : Rows st k b [] := ⟨h, fun q hq => by simp at hq⟩
/-- one row more -/
theorem Rows.push {st : Sto} {k b kk : Nat} {qs : List (Nat × List Int)} {R : List Int} (h : Rows st k b qs) (h1 : st[kk]? = some (.lst (R.map DV.int))) (hb : b ≤ kk) (hk : kk ≠ k) : Rows (st.set k (.lst (qs.map rowR ++ [.ref kk]))) k b (qs ++ [(kk, R)]) := by
  refine ⟨?_, fun q hq => ?_⟩
  · rw [get_set h.at_, List.map_append]
    rfl
  · rcases List.mem_append.mp hq with z | z
    · obtain ⟨h2, h3, h4⟩ := h.ob q z
      exact ⟨h2, h3, by rw [List.getElem?_set_ne (Ne.symm h3)]; exact h4⟩
    · simp only [List.mem_singleton] at z
      subst z
      exact ⟨hb, hk, by rw [List.getElem?_set_ne (Ne.symm hk)]; exact h1⟩
/-- a change of a list that is none of them -/
theorem Rows.other {st : Sto} {k b j : Nat} {o : DO} {qs : List (Nat × List Int)} (h : Rows st k b qs) (hk : k ≠ j) (hq : ∀ q ∈ qs, q.1 ≠ j) : Rows (st.set j o) k b qs :=
  ⟨by rw [List.getElem?_set_ne (Ne.symm hk)]; exact h.at_, fun q hm => let ⟨h1, h2, h3⟩ := h.ob q hm; ⟨h1, h2, by rw [List.getElem?_set_ne (Ne.symm (hq q hm))]; exact h3⟩⟩
section
variable {st : Sto} {ss : Sl} {QD : PQ DV} {E : XQ}
/-- rows, one for each -/
theorem lcn_rows {A : Type} {f : A → DV} {L : List A} {g : List (Nat × DO)} {own : List Nat} {tg : Tg} {e : Ex} (F : A → List Int)
    (hs : ∀ a st', a ∈ L → Sub st st' → ∃ ss', tg (f a) (wipeD ss own) st' = .ok ss' st' ∧ Wp (e ss' st') (fun y st2 => Sub st' st2 ∧ ∃ kk, y = .ref kk ∧ st'.length ≤ kk ∧ st2[kk]? = some (.lst ((F a).map DV.int))) NX)
    (hg : ∀ st', Sub st st' → okG g st')
    (he : ∀ st' k qs, Sub st st' → st.length ≤ k → k < st'.length → Rows st' k st.length qs → qs.map (·.2) = L.map F → QD (.ref k) st') : Wp (lcL g own tg tTrue e (L.map f) ss st) (tLn QD) NX := by
  refine lc_rule (fun i ys st' => Sub st st' ∧ ∃ qs : List (Nat × List Int), ys = qs.map rowR ∧ qs.map (·.2) = (L.take i).map F ∧ ∀ q ∈ qs, st.length ≤ q.1 ∧ st'[q.1]? = some (.lst (q.2.map DV.int))) ⟨.refl, [], rfl, by simp, fun q hq => by simp at hq⟩ (fun i ys st' _ h => hg _ h.1) (fun i x ys st' hx h => ?_) fun ys st' h => ?_
  · obtain ⟨sub, qs, rfl, hqs, hob⟩ := h
    rw [List.getElem?_map] at hx
    cases hL : L[i]? with
    | none => rw [hL] at hx; cases hx
    | some a =>
      rw [hL] at hx
      cases hx
      obtain ⟨ss', e1, w⟩ := hs a st' (List.mem_of_getElem? hL) sub
      refine ⟨ss', st', e1, ?_⟩
      show Wp (e ss' st') _ NX
      refine w.mono fun y st2 ⟨s2, kk, ey, lk, hk⟩ => ⟨sub.trans s2, qs ++ [(kk, F a)], ?_, ?_, fun q hq => ?_⟩
      · rw [List.map_append, ey]
        rfl
      · rw [List.map_append, hqs, List.take_add_one, hL, List.map_append]
        rfl
      · rcases List.mem_append.mp hq with z | z
        · exact ⟨(hob q z).1, s2 _ _ (hob q z).2⟩
        · simp only [List.mem_singleton] at z
          subst z
          exact ⟨Nat.le_trans sub.len lk, hk⟩
  · obtain ⟨sub, qs, rfl, hqs, hob⟩ := h
    rw [List.length_map, List.take_length] at hqs
    show QD (.ref st'.length) (st' ++ [.lst (qs.map rowR)])
    refine he _ _ qs (sub.trans .app) sub.len (by simp) ⟨get_new, fun q hq => ?_⟩ hqs
    have h2 := (hob q hq).2
    have := get_lt h2
    exact ⟨(hob q hq).1, by omega, Sub.app _ _ h2⟩
theorem lcn_rowsR {lo : Int} {n : Nat} {g : List (Nat × DO)} {own : List Nat} {tg : Tg} {e : Ex} (F : Nat → List Int)
    (hs : ∀ i st', i < n → Sub st st' → ∃ ss', tg (.int (lo + (i : Nat))) (wipeD ss own) st' = .ok ss' st' ∧ Wp (e ss' st') (fun y st2 => Sub st' st2 ∧ ∃ kk, y = .ref kk ∧ st'.length ≤ kk ∧ st2[kk]? = some (.lst ((F i).map DV.int))) NX)
    (hg : ∀ st', Sub st st' → okG g st')
    (he : ∀ st' k qs, Sub st st' → st.length ≤ k → k < st'.length → Rows st' k st.length qs → qs.map (·.2) = (List.range n).map F → QD (.ref k) st') : Wp (lcL g own tg tTrue e (irange lo n) ss st) (tLn QD) NX := by
  unfold irange
  exact lcn_rows (L := List.range n) F (fun a st' ha s => hs a st' (List.mem_range.mp ha) s) hg he
end
theorem at_row {qs : List (Nat × List Int)} {i : Int} (h0 : 0 ≤ i) (h : i < qs.length) : atI (qs.map rowR) i = some (.ref (qs.getD i.toNat (0, [])).1) := at_map rowR qs (0, []) h0 h
end ML
namespace ML
open PySem PySem.Spec PyProof.Rows L2
theorem cut_fromI {xs : List DV} {i : Int} (h0 : 0 ≤ i) (h : i.toNat ≤ xs.length) : cutD xs (some i) none = xs.drop i.toNat := by
  obtain ⟨j, rfl⟩ := Int.eq_ofNat_of_zero_le h0
  rw [Int.toNat_natCast] at h ⊢
  exact cut_from h
theorem cut_two {a b : DV} {r : List DV} : cutD (a :: b :: r) none (some 2) = [a, b] := by
  have := cut_to (xs := a :: b :: r) (n := 2) (by simp)
  simpa using this
theorem setM_R {st : Sto} {k : Nat} {n : Int} {v : DV} {xs : List DV} (h : st[k]? = some (.lst xs)) (h0 : 0 ≤ n) (h1 : n < xs.length) : setM (.ref k) (.int n) v st = .ok () (st.set k (.lst (xs.set n.toNat v))) := by
  obtain ⟨j, rfl⟩ := Int.eq_ofNat_of_zero_le h0
  have e : ixN xs.length (j : Int) = some j := by
    simp [ixN]
    omega
  unfold setM
  simp only [h, e, Int.toNat_natCast]
section
variable {st : Sto} {ss : Sl} {QF : PQ Fl} {E : XQ}
/-- o[i] = v -/
def tSub (mo mi : Ex) (ss : Sl) (Q : PQ Fl) : PQ DV := fun v st => Wp (mo ss st) (fun o st => Wp (mi ss st) (fun i st => Wp (setM o i v st) (fun _ st => Q (.nx ss) st) NX) NX) NX
theorem tG2_sub {mo mi : Ex} {v : DV} : tSub mo mi ss QF v st → tG2 (gSub mo mi) ss QF v st := by
  intro h
  unfold tSub at h
  unfold tG2 gSub bnd
  cases e1 : mo ss st with
  | ok o st1 =>
    rw [e1] at h
    simp only
    have h : Wp (mi ss st1) _ NX := h
    cases e2 : mi ss st1 with
    | ok i st2 =>
      rw [e2] at h
      simp only
      have h : Wp (setM o i v st2) _ NX := h
      cases e3 : setM o i v st2 with
      | ok u st3 =>
        rw [e3] at h
        exact h
      | exc x s => rw [e3] at h; exact h.elim
      | bad => rw [e3] at h; exact h.elim
    | exc x s => rw [e2] at h; exact h.elim
    | bad => rw [e2] at h; exact h.elim
  | exc x s => rw [e1] at h; exact h.elim
  | bad => rw [e1] at h; exact h.elim
end
end ML
namespace ML
open PySem PySem.Spec PyProof.Rows L2
section
variable {st : Sto} {QD : PQ DV} {QW : PQ Wk} {E : XQ} {p : Int × Int}
theorem tIy_P : tIy QW (pr p) st = QW ⟨[.int p.1, .int p.2], []⟩ st := nd rfl
theorem ty_P : tyD (pr p) st = some "tuple" := rfl
theorem wp_lenP : Wp (lenM [pr p] st) QD E = QD (.int 2) st := nd rfl
end
end ML

/-! MP4: instances, methods, dicts in the mirror. -/
namespace ML
open PySem PySem.Spec PyProof.Rows L2
section
variable {st : Sto} {ss : Sl} {QD : PQ DV} {QF : PQ Fl} {E : XQ}
def tFld (c : Str) (lay : List Str) (i : Nat) (Q : PQ DV) (E : XQ) : PQ DV := fun d st => Wp ((match d with
  | .ref k => match st[k]? with
    | some (.ins c' lay' vs) => if c' = c ∧ lay' = lay then optD vs[i]? st else .bad
    | _ => .bad
  | _ => .bad : Out DV)) Q E
theorem wp_fld {c : Str} {lay : List Str} {i : Nat} {m : Ex} : Wp (eFld c lay i m ss st) QD E = Wp (m ss st) (tFld c lay i QD E) E := by
  unfold eFld
  rw [wp_bnd]
  rfl
theorem tFld_R {c : Str} {lay : List Str} {i k : Nat} {vs : List DV} (h : st[k]? = some (.ins c lay vs)) : tFld c lay i QD E (.ref k) st = Wp (optD vs[i]? st) QD E := by
  unfold tFld
  simp only [h, and_self, if_true]
def tSfd (c : Str) (lay : List Str) (i : Nat) (v : DV) (ss : Sl) (Q : PQ Fl) (E : XQ) : PQ DV := fun d st => Wp ((match d with
  | .ref k => match st[k]? with
    | some (.ins c' lay' vs) => if c' = c ∧ lay' = lay then match putI i v vs with
      | some ws => .ok (.nx ss) (st.set k (.ins c lay ws))
      | none => .bad
    else .bad
    | _ => .bad
  | _ => .bad : Out Fl)) Q E
theorem wp_sfld {c : Str} {lay : List Str} {i : Nat} {mo mv : Ex} : Wp (sFld c lay i mo mv ss st) QF E = Wp (mv ss st) (fun v st => Wp (mo ss st) (tSfd c lay i v ss QF E) (tX ss QF)) (tX ss QF) := by
  unfold sFld
  rw [wp_lft]
  congr 1
  funext v st
  show Wp (lft _ _ _ st) QF E = _
  rw [wp_lft]
  rfl
theorem tSfd_R {c : Str} {lay : List Str} {i k : Nat} {vs ws : List DV} {v : DV} (h : st[k]? = some (.ins c lay vs)) (e : putI i v vs = some ws) : tSfd c lay i v ss QF E (.ref k) st = QF (.nx ss) (st.set k (.ins c lay ws)) := by
  unfold tSfd
  simp only [h, and_self, if_true, e]
  rfl
def tMeth (c : Str) (lay : List Str) (f : List DV → M DV) (ms : List Ex) (ss : Sl) (Q : PQ DV) (E : XQ) : PQ DV := fun o st => isIns c lay o st ∧ Wp (eArgs ms ss st) (fun as st => Wp (f (o :: as) st) Q E) E
open Classical in
theorem wp_meth {c : Str} {lay : List Str} {f : List DV → M DV} {mo : Ex} {ms : List Ex} : Wp (eMeth c lay f mo ms ss st) QD E = Wp (mo ss st) (tMeth c lay f ms ss QD E) E := by
  unfold eMeth
  rw [wp_bnd]
  congr 1
  funext o st
  unfold tMeth
  by_cases h : isIns c lay o st
  · simp only [h, true_and]
    show Wp ((if isIns c lay o st then bnd (eArgs ms ss) (fun as => f (o :: as)) st else .bad : Out DV)) QD E = _
    rw [if_pos h, wp_bnd]
    rfl
  · simp only [h, false_and]
    show Wp ((if isIns c lay o st then bnd (eArgs ms ss) (fun as => f (o :: as)) st else .bad : Out DV)) QD E = _
    rw [if_neg h]
    rfl
theorem tMeth_R {c : Str} {lay : List Str} {f : List DV → M DV} {ms : List Ex} {k : Nat} {vs : List DV} (h : st[k]? = some (.ins c lay vs)) : tMeth c lay f ms ss QD E (.ref k) st = Wp (eArgs ms ss st) (fun as st => Wp (f (.ref k :: as) st) QD E) E := by
  have : isIns c lay (.ref k) st := by
    unfold isIns
    simp only [h]
    exact ⟨trivial, trivial⟩
  unfold tMeth
  simp only [this, true_and]
theorem wp_make {c : Str} {lay : List Str} {init : List DV → M DV} {as : List DV} (h : Wp (init (.ref st.length :: as) (st ++ [.ins c lay []])) (fun v st' => v = .non ∧ QD (.ref st.length) st') NX) : Wp (mkM c lay init as st) QD E := by
  unfold mkM
  cases e : init (.ref st.length :: as) (st ++ [.ins c lay []]) with
  | ok v st' =>
    rw [e] at h
    obtain ⟨h1, h2⟩ := h
    subst h1
    exact h2
  | exc x s => rw [e] at h; exact h.elim
  | bad => rw [e] at h; exact h.elim
/-! dict displays -/
def tDis (Q : PQ DV) : PQ (List (DV × DV)) := fun t st => ∃ kvs, keysD t = some kvs ∧ kvs.length ≤ 15 ∧ Q (.ref st.length) (st ++ [.dic (mergeD kvs)])
theorem wp_disp {ps : List (Ex × Ex)} (h : Wp (pairsM ps ss st) (tDis QD) NX) : Wp (eDisp ps ss st) QD E := by
  unfold eDisp
  rw [wp_bnd]
  refine Wp.mono h fun t st' ht => ?_
  obtain ⟨kvs, e, hl, q⟩ := ht
  show Wp ((match keysD t with
    | some kvs => if kvs.length ≤ 15 then alloc (.dic (mergeD kvs)) else stuck
    | none => stuck : M DV) st') QD E
  rw [e]
  simp only [hl, if_true]
  exact q
theorem wp_pnil {Q : PQ (List (DV × DV))} : Wp (pairsM [] ss st) Q E = Q [] st := rfl
theorem wp_pcons {a b : Ex} {r : List (Ex × Ex)} {Q : PQ (List (DV × DV))} : Wp (pairsM ((a, b) :: r) ss st) Q E = Wp (a ss st) (fun x st => Wp (b ss st) (fun y st => Wp (pairsM r ss st) (fun t st => Q ((x, y) :: t) st) E) E) E := by
  rw [pairsM, wp_bnd]
  congr 1
  funext x st
  show Wp (bnd _ _ st) Q E = _
  rw [wp_bnd]
  congr 1
  funext y st
  show Wp (bnd _ _ st) Q E = _
  rw [wp_bnd]
  rfl
/-! dicts -/
theorem wp_inD {k : Nat} {i : Int} {kvs : List (HK × DV)} (h : st[k]? = some (.dic kvs)) (ho : kindOk kvs (.int i) = true) : Wp (inX (.int i) (.ref k) st) QD E = QD (.bl (hGet kvs (.int i)).isSome) st := by
  unfold inX
  simp only [h, kOf, ho, if_true]
  rfl
theorem wp_ninD {k : Nat} {i : Int} {kvs : List (HK × DV)} (h : st[k]? = some (.dic kvs)) (ho : kindOk kvs (.int i) = true) : Wp (ninX (.int i) (.ref k) st) QD E = QD (.bl (!(hGet kvs (.int i)).isSome)) st := by
  unfold ninX
  simp only [h, kOf, ho, if_true]
  rfl
theorem setM_D {k : Nat} {i : Int} {v : DV} {kvs : List (HK × DV)} (h : st[k]? = some (.dic kvs)) (ho : kindOk kvs (.int i) = true) (hl : kvs.length < 16777216) : setM (.ref k) (.int i) v st = .ok () (st.set k (.dic (hSet kvs (.int i) v))) := by
  unfold setM
  simp only [h, kOf]
  rw [if_pos ⟨ho, by rw [sl_eq]; exact hl⟩]
theorem wp_onD {k : Nat} {i : Int} {kvs : List (HK × DV)} {f : List (HK × DV) → HK → M DV} (h : st[k]? = some (.dic kvs)) (ho : kindOk kvs (.int i) = true) : Wp (onD (.ref k) (.int i) f st) QD E = Wp (f kvs (.int i) st) QD E := by
  unfold onD
  simp only [h, kOf, ho, if_true]
theorem wp_dget2 {k : Nat} {i : Int} {z : DV} {kvs : List (HK × DV)} (h : st[k]? = some (.dic kvs)) (ho : kindOk kvs (.int i) = true) : Wp (dgetM (.ref k) [.int i, z] st) QD E = QD ((hGet kvs (.int i)).getD z) st := by
  show Wp (onD (.ref k) (.int i) (fun kvs h => pur ((hGet kvs h).getD z)) st) QD E = _
  rw [wp_onD h ho]
  rfl
theorem wp_ixD {k : Nat} {i : Int} {kvs : List (HK × DV)} (h : st[k]? = some (.dic kvs)) (ho : kindOk kvs (.int i) = true) {w : DV} (e : hGet kvs (.int i) = some w) : Wp (ixM (.ref k) (.int i) st) QD E = QD w st := by
  unfold ixM
  simp only [h, kOf, Option.bind_some, ho, if_true, e]
  rfl
theorem hGet_set {kvs : List (HK × DV)} {a b : HK} {v : DV} : hGet (hSet kvs a v) b = if a = b then some v else hGet kvs b := by
  induction kvs with
  | nil =>
    show (if a = b then some v else none) = _
    by_cases e : a = b
    · rw [if_pos e, if_pos e]
    · rw [if_neg e, if_neg e]
      rfl
  | cons p r ih =>
    obtain ⟨k, w⟩ := p
    show hGet (if k = a then (k, v) :: r else (k, w) :: hSet r a v) b = _
    by_cases e : k = a
    · subst e
      rw [if_pos rfl]
      show (if k = b then some v else hGet r b) = if k = b then some v else (if k = b then some w else hGet r b)
      by_cases e2 : k = b
      · rw [if_pos e2, if_pos e2]
      · rw [if_neg e2, if_neg e2, if_neg e2]
    · rw [if_neg e]
      show (if k = b then some w else hGet (hSet r a v) b) = if a = b then some v else (if k = b then some w else hGet r b)
      rw [ih]
      by_cases e2 : k = b
      · rw [if_pos e2, if_neg (fun z => e (e2.trans z.symm)), if_pos e2]
      · rw [if_neg e2, if_neg e2]
/-! list(range(n)) -/
theorem wp_lrg {m : Ex} : Wp (eLrg [m] ss st) QD E = Wp (m ss st) (fun d st => Wp ((match d with
  | .int n => if lrgOk n then alloc (.lst (irange 0 n.toNat)) else stuck
  | _ => stuck : M DV) st) QD E) E := by
  have e1 : eLrg [m] ss st = bnd (m ss) (fun d => match d with
    | .int n => if lrgOk n then alloc (.lst (irange 0 n.toNat)) else stuck
    | _ => stuck) st := by
    unfold eLrg eArgs eArgs bnd
    cases m ss st with
    | ok d st' => cases d <;> rfl
    | exc _ _ => rfl
    | bad => rfl
  rw [e1, wp_bnd]
  rfl
theorem wp_lrgI {n : Int} (h0 : 0 ≤ n) (h1 : n ≤ 16777216) : Wp ((match DV.int n with
  | .int n => if lrgOk n then alloc (.lst (irange 0 n.toNat)) else stuck
  | _ => stuck : M DV) st) QD E = Wp (alloc (.lst (irange 0 n.toNat)) st) QD E := by
  show Wp ((if lrgOk n then alloc (.lst (irange 0 n.toNat)) else stuck : M DV) st) QD E = _
  rw [if_pos (show lrgOk n from ⟨by omega, by omega, by omega⟩)]
end
end ML

/-! MP5: dicts that are the same. -/
namespace ML
open PySem PySem.Spec PyProof.Rows L2
end ML

/-! MP6: the rules that wp! uses, as one. -/
namespace ML
open PySem PySem.Spec PyProof.Rows L2
def WZ := (And.intro (And.intro (And.intro (And.intro (And.intro (And.intro (And.intro @wp_fld (And.intro @wp_sfld @wp_meth)) (And.intro @wp_lrg (And.intro @wp_fn0 @wp_fn1))) (And.intro (And.intro @wp_fn2 (And.intro @wp_fn3 @wp_fn4)) (And.intro (And.intro @wp_fn5 @wp_fn6) (And.intro @tB_app @wp_ok)))) (And.intro (And.intro (And.intro @wp_pur (And.intro @wp_bnd @wp_var)) (And.intro (And.intro @wp_c @wp_un) (And.intro @wp_op @tOp_app))) (And.intro (And.intro @wp_nil (And.intro @wp_cons @tArg_app)) (And.intro (And.intro @wp_call @wp_tup) (And.intro @wp_lst @wp_val))))) (And.intro (And.intro (And.intro (And.intro @wp_tru (And.intro @wp_asB @wp_truB)) (And.intro (And.intro @wp_truI @wp_truN) (And.intro @wp_and @wp_or))) (And.intro (And.intro @tA_app (And.intro @tO_app @wp_not)) (And.intro (And.intro @wp_eand @wp_eor) (And.intro @tEA_app @tEO_app)))) (And.intro (And.intro (And.intro @wp_enot (And.intro @tEN_app @wp_eif)) (And.intro (And.intro @tIt_app @wp_chain) (And.intro @tCh_app @tCh2_app))) (And.intro (And.intro @wp_add (And.intro @wp_sub @wp_mull)) (And.intro (And.intro @wp_mulr @wp_fdivc) (And.intro @wp_modc @wp_powc)))))) (And.intro (And.intro (And.intro (And.intro (And.intro @wp_shlc (And.intro @wp_shrc @at_int)) (And.intro @at_pr (And.intro @at_row @irange_length))) (And.intro (And.intro @wp_iand (And.intro @wp_ior @wp_ixor)) (And.intro (And.intro @wp_neg @wp_eqI) (And.intro @wp_neI @wp_eqB)))) (And.intro (And.intro (And.intro @wp_neB (And.intro @wp_eqS @wp_neS)) (And.intro (And.intro @wp_lt @wp_gt) (And.intro @wp_le @wp_ge))) (And.intro (And.intro @wp_isB (And.intro @wp_isnB @wp_abs)) (And.intro (And.intro @wp_max2 @wp_min2) (And.intro @wp_intI @wp_intB))))) (And.intro (And.intro (And.intro (And.intro @wp_ixT (And.intro @wp_ixF @wp_lenT)) (And.intro (And.intro @wp_lenF @at0) (And.intro @at1 @at2))) (And.intro (And.intro @at3 (And.intro @wp_seq @tF_nx)) (And.intro (And.intro @tF_rt @tF_bk) (And.intro @tF_ct @tF_rs)))) (And.intro (And.intro (And.intro @tX_app (And.intro @wp_skip @wp_ret)) (And.intro (And.intro @wp_retN @wp_brk) (And.intro @wp_cont @wp_set))) (And.intro (And.intro @tS2_app (And.intro @tI2_app @wp_par)) (And.intro (And.intro @wp_asg @wp_aug) (And.intro @wp_iadd @tR_rt))))))) (And.intro (And.intro (And.intro (And.intro (And.intro (And.intro @tR_nx (And.intro @tR_rs @tLp_nx)) (And.intro @tLp_ct (And.intro @tLp_bk @tLp_rt))) (And.intro (And.intro @tLp_rs (And.intro @wp_for @tFr_app)) (And.intro (And.intro @wp_rg1t @wp_rg3) (And.intro @tRg3_app @tRg3_dn)))) (And.intro (And.intro (And.intro @rsteps_len (And.intro @wp_rg2t @tRg1_app)) (And.intro (And.intro @tRg2_app @wp_any) (And.intro @tIy_T @tIy_F))) (And.intro (And.intro @wp_mt (And.intro @wp_sl @tSl_app)) (And.intro (And.intro @wp_pNo @wp_pSm) (And.intro @tPs_I @wp_slT))))) (And.intro (And.intro (And.intro (And.intro @wp_ixW0 (And.intro @wp_ixW1 @wp_ixW2)) (And.intro (And.intro @wp_ixW3 @ty_W) (And.intro @wp_lenW @wp_slW))) (And.intro (And.intro @tG2_W (And.intro @wp_ixP0 @wp_ixP1)) (And.intro (And.intro @tG2_P @wp_isTN) (And.intro @wp_isnTN @wp_isRN)))) (And.intro (And.intro (And.intro @wp_isnRN (And.intro @wp_isNN @wp_isnNN)) (And.intro (And.intro @wp_isIN @wp_isnIN) (And.intro @tIy_P @ty_P))) (And.intro (And.intro @wp_lenP (And.intro @wp_isi @kt_int)) (And.intro (And.intro @kt_bool @kt_str) (And.intro @kt_tuple @kt_list)))))) (And.intro (And.intro (And.intro (And.intro (And.intro @kt_dict (And.intro @it_NoneType_int @it_NoneType_bool)) (And.intro @it_NoneType_str (And.intro @it_NoneType_tuple @it_NoneType_list))) (And.intro (And.intro @it_NoneType_dict (And.intro @it_bool_int @it_bool_bool)) (And.intro (And.intro @it_bool_str @it_bool_tuple) (And.intro @it_bool_list @it_bool_dict)))) (And.intro (And.intro (And.intro @it_int_int (And.intro @it_int_bool @it_int_str)) (And.intro (And.intro @it_int_tuple @it_int_list) (And.intro @it_int_dict @it_str_int))) (And.intro (And.intro @it_str_bool (And.intro @it_str_str @it_str_tuple)) (And.intro (And.intro @it_str_list @it_str_dict) (And.intro @it_tuple_int @it_tuple_bool))))) (And.intro (And.intro (And.intro (And.intro @it_tuple_str (And.intro @it_tuple_tuple @it_tuple_list)) (And.intro (And.intro @it_tuple_dict @it_list_int) (And.intro @it_list_bool @it_list_str))) (And.intro (And.intro @it_list_tuple (And.intro @it_list_list @it_list_dict)) (And.intro (And.intro @it_dict_int @it_dict_bool) (And.intro @it_dict_str @it_dict_tuple)))) (And.intro (And.intro (And.intro @it_dict_list (And.intro @it_dict_dict @cut_tail)) (And.intro (And.intro @cut_two @cut_fromI) (And.intro @cut_init @ty_I))) (And.intro (And.intro @ty_B (And.intro @ty_N @ty_S)) (And.intro (And.intro @ty_T @wp_lc) (And.intro @tLc_rg @tLc_mp))))))))
end ML

/-! MP7: what raise and try come to. -/
namespace ML
open PySem PySem.Spec PyProof.Rows L2
section
variable {st : Sto} {ss : Sl} {QD : PQ DV} {QF : PQ Fl} {E : XQ}
theorem wp_rai {x : Str} : Wp (sRai x ss st) QF E = QF (.rs ⟨x, []⟩ ss) st := nd rfl
theorem wp_raif1 {x f1 : Str} {a b : Ex} : Wp (sRaiF x [f1] [a, b] ss st) QF E = Wp (a ss st) (fun _ st => Wp (b ss st) (fun v st => QF (.rs ⟨x, [(f1, v)]⟩ ss) st) (tX ss QF)) (tX ss QF) := by
  unfold sRaiF
  rw [wp_lft, wp_cons]
  congr 1
  funext y st
  rw [tArg_app, wp_cons]
  rfl
theorem wp_raif2 {x f1 f2 : Str} {a b c : Ex} : Wp (sRaiF x [f1, f2] [a, b, c] ss st) QF E = Wp (a ss st) (fun _ st => Wp (b ss st) (fun v st => Wp (c ss st) (fun u st => QF (.rs ⟨x, [(f2, u), (f1, v)]⟩ ss) st) (tX ss QF)) (tX ss QF)) (tX ss QF) := by
  unfold sRaiF
  rw [wp_lft, wp_cons]
  congr 1
  funext y st
  rw [tArg_app, wp_cons]
  congr 1
  funext z st
  rw [tArg_app, wp_cons]
  rfl
def tTry (ds : List Str) (hs : List Hd) (Q : PQ Fl) (E : XQ) : PQ Fl := fun fl st => match fl with
  | .rs e ss' => Wp (hdl ds e ss' st hs) Q E
  | fl => Q fl st
theorem wp_try {ds : List Str} {b : Stt} {hs : List Hd} : Wp (sTry ds b hs ss st) QF E = Wp (b ss st) (tTry ds hs QF E) E := by
  unfold sTry
  cases b ss st with
  | ok fl st' => cases fl <;> rfl
  | exc e st' => rfl
  | bad => rfl
theorem tTry_nx {ds : List Str} {hs : List Hd} : tTry ds hs QF E (.nx ss) st = QF (.nx ss) st := nd rfl
theorem tTry_rt {ds : List Str} {hs : List Hd} {v : DV} : tTry ds hs QF E (.rt v) st = QF (.rt v) st := nd rfl
theorem tTry_bk {ds : List Str} {hs : List Hd} : tTry ds hs QF E (.bk ss) st = QF (.bk ss) st := nd rfl
theorem tTry_ct {ds : List Str} {hs : List Hd} : tTry ds hs QF E (.ct ss) st = QF (.ct ss) st := nd rfl
theorem tTry_rs {ds : List Str} {hs : List Hd} {e : DX} : tTry ds hs QF E (.rs e ss) st = Wp (hdl ds e ss st hs) QF E := nd rfl
theorem wp_isx {i : Nat} {a : Addr} {d : Option Addr} {c : Str} {ts : List Str} : Wp (eIsX i a d c ts ss st) QD E = (match ss[i]? with
  | some (some (.exn b d' _ _)) => if b = a ∧ d' = d then QD (.bl (isOne c ts)) st else False
  | _ => False) := by
  unfold eIsX
  generalize ss[i]? = o
  cases o with
  | none => rfl
  | some o =>
    cases o with
    | none => rfl
    | some v => cases v <;> first | rfl | exact wp_ite'
theorem wp_xf {i : Nat} {a : Addr} {d : Option Addr} {f : Str} : Wp (eXf i a d f ss st) QD E = (match ss[i]? with
  | some (some (.exn b d' ns xs)) => if b = a ∧ d' = d then (match (ns.zip xs).lookup f with
    | some v => QD v st
    | none => False) else False
  | _ => False) := by
  unfold eXf
  generalize ss[i]? = o
  cases o with
  | none => rfl
  | some o =>
    cases o with
    | none => rfl
    | some v =>
      cases v <;> first | rfl | skip
      refine wp_ite'.trans ?_
      congr 1
      generalize List.lookup f _ = z
      cases z <;> rfl
def WR := (And.intro (And.intro (And.intro @wp_rai (And.intro @wp_raif1 @wp_raif2)) (And.intro @wp_try (And.intro @tTry_nx @tTry_rt))) (And.intro (And.intro @tTry_bk @tTry_ct) (And.intro @tTry_rs (And.intro @wp_isx @wp_xf))))
end
def WY := (And.intro (And.intro (And.intro (And.intro @true_and @and_true) (And.intro @List.getElem?_cons_succ.{0} (And.intro @List.getElem?_cons_zero.{0} @List.set_cons_succ.{0}))) (And.intro (And.intro @List.set_cons_zero.{0} (And.intro @List.length_map.{0,0} @Int.toNat_natCast)) (And.intro @Int.zero_add (And.intro @List.map_cons.{0,0} @List.map_nil.{0,0})))) (And.intro (And.intro (And.intro @List.cons_append.{0} @List.nil_append.{0}) (And.intro @decide_eq_true_eq (And.intro @Bool.not_eq_true' @decide_eq_false_iff_not))) (And.intro (And.intro @Bool.true_eq_false (And.intro @Bool.false_eq_true @if_true.{1})) (And.intro @if_false.{1} (And.intro @Bool.not_true @Bool.not_false)))))
def WX2 := (And.intro (And.intro @List.length_cons.{0} @List.length_nil.{0}) (And.intro @Nat.zero_add @Int.cast_ofNat_Int))
end ML
/-! the mirror -/
namespace LK
open PySem PySem.Spec PyProof.Rows L2 ML
def c_FEW : DV := .int 6
def c_LOW : DV := .int (-1)
def c_MANY : DV := .int 64
def lay_Classes : List Str := ["roots", "lows", "members"]
@[irreducible] noncomputable def s_Classes_init : List DV → M DV := fnM 2 3 (sSeq (sFld "Classes" lay_Classes 0 (eVar 0) (eLc (iRg1 [(eVar 1)]) [2] (gNm 2) tTrue (eOp mulM (eC (.int 2)) (eVar 2))))
  (sSeq (sFld "Classes" lay_Classes 1 (eVar 0) (eLc (iRg1 [(eVar 1)]) [2] (gNm 2) tTrue (eOp mulM (eC (.int 2)) (eVar 2))))
  (sFld "Classes" lay_Classes 2 (eVar 0) (eLc (iRg1 [(eVar 1)]) [2] (gNm 2) tTrue (eLst [(eVar 2)])))))
@[irreducible] noncomputable def s_Classes_low : List DV → M DV := fnM 2 2 (sRet (eOp xorM (eOp ixM (eFld "Classes" lay_Classes 1 (eVar 0)) (eOp fdivM (eVar 1) (eC (.int 2)))) (eOp andM (eVar 1) (eC (.int 1)))))
@[irreducible] noncomputable def s_Classes_root : List DV → M DV := fnM 2 2 (sRet (eOp xorM (eOp ixM (eFld "Classes" lay_Classes 0 (eVar 0)) (eOp fdivM (eVar 1) (eC (.int 2)))) (eOp andM (eVar 1) (eC (.int 1)))))
noncomputable def s_Classes_join_L1 : Stt := (sAsg (gSub (eFld "Classes" lay_Classes 0 (eVar 0)) (eVar 6)) (eOp xorM (eOp xorM (eVar 3) (eOp andM (eVar 4) (eC (.int 1)))) (eOp andM (eOp ixM (eFld "Classes" lay_Classes 0 (eVar 0)) (eVar 6)) (eC (.int 1)))))
@[irreducible] noncomputable def s_Classes_join : List DV → M DV := fnM 3 7 (sSeq (sSet 3 (eMeth "Classes" lay_Classes s_Classes_root (eVar 0) [(eVar 1)]))
  (sSeq (sSet 4 (eMeth "Classes" lay_Classes s_Classes_root (eVar 0) [(eVar 2)]))
  (sSeq (sIf (tVal (eOp eqM (eOp fdivM (eVar 3) (eC (.int 2))) (eOp fdivM (eVar 4) (eC (.int 2))))) (sRet (eOp eqM (eVar 3) (eVar 4))) sSkip)
  (sSeq (sIf (tVal (eOp ltM (eCall lenM [(eOp ixM (eFld "Classes" lay_Classes 2 (eVar 0)) (eOp fdivM (eVar 3) (eC (.int 2))))]) (eCall lenM [(eOp ixM (eFld "Classes" lay_Classes 2 (eVar 0)) (eOp fdivM (eVar 4) (eC (.int 2))))]))) (sPar 3 4 [(eVar 4), (eVar 3)]) sSkip)
  (sSeq (sAsg (gSub (eFld "Classes" lay_Classes 1 (eVar 0)) (eOp fdivM (eVar 3) (eC (.int 2)))) (eOp xorM (eCall min2M [(eMeth "Classes" lay_Classes s_Classes_low (eVar 0) [(eVar 3)]), (eMeth "Classes" lay_Classes s_Classes_low (eVar 0) [(eVar 4)])]) (eOp andM (eVar 3) (eC (.int 1)))))
  (sSeq (sSet 5 (eOp ixM (eFld "Classes" lay_Classes 2 (eVar 0)) (eOp fdivM (eVar 4) (eC (.int 2)))))
  (sSeq (sFor (iAny (eVar 5)) (gNm 6) s_Classes_join_L1)
  (sSeq (sExpr (eMt "list" extendM (eOp ixM (eFld "Classes" lay_Classes 2 (eVar 0)) (eOp fdivM (eVar 3) (eC (.int 2)))) [(eVar 5)]))
  (sSeq (sAsg (gSub (eFld "Classes" lay_Classes 2 (eVar 0)) (eOp fdivM (eVar 4) (eC (.int 2)))) (eLst []))
  (sRet (eC (.bl true))))))))))))
@[irreducible] noncomputable def s_Classes_least : List DV → M DV := fnM 2 2 (sRet (eMeth "Classes" lay_Classes s_Classes_low (eVar 0) [(eMeth "Classes" lay_Classes s_Classes_root (eVar 0) [(eVar 1)])]))
noncomputable def s__law_both_L1 : Stt := (sIf (tVal (eOp inX (eUn negM (eVar 3)) (eVar 2))) (sRet (eLst [(eC (.int 0))])) sSkip)
@[irreducible] noncomputable def s__law_both : List DV → M DV := fnM 2 4 (sSeq (sIf (tOr (tVal (eOp eqM (eVar 0) (eLst [(eC (.int 0))]))) (tVal (eOp eqM (eVar 1) (eLst [(eC (.int 0))])))) (sRet (eLst [(eC (.int 0))])) sSkip)
  (sSeq (sIf (tOr (tVal (eOp isM (eVar 0) (eC .non))) (tVal (eOp isM (eVar 1) (eC .non)))) (sRet (eC .non)) sSkip)
  (sSeq (sSet 2 (eUn sortSetM (eOp addM (eVar 0) (eVar 1))))
  (sSeq (sFor (iAny (eVar 2)) (gNm 3) s__law_both_L1)
  (sRet (eVar 2))))))
noncomputable def s__law_come_L1 : Stt := (sSeq (sIf (tVal (eOp eqM (eOp ixM (eVar 0) (eVar 3)) (eOp ixM (eVar 0) (eOp ixM (eVar 1) (eVar 4))))) (sRet (eLst [(eOp addM (eVar 4) (eC (.int 1)))])) sSkip)
  (sIf (tVal (eOp eqM (eOp ixM (eVar 0) (eVar 3)) (eOp ixM (eVar 0) (eOp xorM (eOp ixM (eVar 1) (eVar 4)) (eC (.int 1)))))) (sRet (eLst [(eOp subM (eUn negM (eC (.int 1))) (eVar 4))])) sSkip))
@[irreducible] noncomputable def s__law_come : List DV → M DV := fnM 4 5 (sSeq (sIf (tVal (eOp eqM (eOp ixM (eVar 0) (eVar 3)) (eOp ixM (eVar 0) (eC (.int 0))))) (sRet (eLst [(eC (.int 0))])) sSkip)
  (sSeq (sIf (tVal (eOp eqM (eOp ixM (eVar 0) (eVar 3)) (eOp ixM (eVar 0) (eC (.int 1))))) (sRet (eLst [])) sSkip)
  (sSeq (sFor (iRg1 [(eCall lenM [(eVar 1)])]) (gNm 4) s__law_come_L1)
  (sSeq (sIf (tVal (eOp eqM (eOp modM (eVar 3) (eC (.int 2))) (eC (.int 1)))) (sRet (eC .non)) sSkip)
  (sRet (eOp ixM (eVar 2) (eOp fdivM (eVar 3) (eC (.int 2)))))))))
noncomputable def s__law_due_L1 : Stt := (sSeq (sIf (tVal (eOp inX (eOp ixM (eVar 1) (eVar 5)) (eVar 4))) (sRet (eC (.bl false))) sSkip)
  (sSet 4 (eOp addM (eVar 4) (eLst [(eOp ixM (eVar 1) (eVar 5)), (eOp ixM (eVar 1) (eOp xorM (eVar 5) (eC (.int 1))))]))))
noncomputable def s__law_due_L2 : Stt := (sExpr (eMt "list" appendM (eVar 6) [(eCall s__law_both [(eCall s__law_come [(eVar 1), (eVar 3), (eVar 6), (eVar 7)]), (eCall s__law_come [(eVar 1), (eVar 3), (eVar 6), (eVar 8)])])]))
@[irreducible] noncomputable def s__law_due : List DV → M DV := fnM 3 11 (sSeq (sSet 3 (eOp ixM (eVar 2) (eC (.int 3))))
  (sSeq (sIf (tVal (eOp gtM (eCall lenM [(eVar 3)]) (eC (.int 64)))) (sRet (eC (.bl false))) sSkip)
  (sSeq (sSet 4 (eLst [(eOp ixM (eVar 1) (eC (.int 0))), (eOp ixM (eVar 1) (eC (.int 1)))]))
  (sSeq (sFor (iAny (eVar 3)) (gNm 5) s__law_due_L1)
  (sSeq (sSet 6 (eLc (iRg1 [(eOp addM (eC (.int 1)) (eOp ixM (eVar 0) (eC (.int 0))))]) [10] (gNm 10) tTrue (eC .non)))
  (sSeq (sFor (iAny (eOp ixM (eVar 0) (eC (.int 1)))) (gTpL [7, 8]) s__law_due_L2)
  (sSeq (sSet 9 (eCall s__law_come [(eVar 1), (eVar 3), (eVar 6), (eOp ixM (eVar 2) (eC (.int 1)))]))
  (sRet (eAnd (eOp isnM (eVar 9) (eC .non)) (eOp eqM (eVar 9) (eCall s__law_come [(eVar 1), (eVar 3), (eVar 6), (eOp ixM (eVar 2) (eC (.int 2)))])))))))))))
@[irreducible] noncomputable def s__law_joined : List DV → M DV := fnM 3 5 (sSeq (sIf (tVal (eOp eqM (eOp ixM (eVar 0) (eVar 1)) (eOp ixM (eVar 0) (eOp xorM (eVar 2) (eC (.int 1)))))) (sRet (eC .non)) sSkip)
  (sSeq (sSet 3 (eDisp [((eOp ixM (eVar 0) (eVar 2)), (eOp ixM (eVar 0) (eVar 1))), ((eOp ixM (eVar 0) (eOp xorM (eVar 2) (eC (.int 1)))), (eOp ixM (eVar 0) (eOp xorM (eVar 1) (eC (.int 1)))))]))
  (sRet (eLc (iAny (eVar 0)) [4] (gNm 4) tTrue (eMt "dict" dgetM (eVar 3) [(eVar 4), (eVar 4)])))))
noncomputable def s__law_net_L1 : Stt := (sExpr (eMt "list" appendM (eVar 3) [(eTup [(eOp modM (eOp ixM (eVar 0) (eOp mulM (eC (.int 2)) (eVar 4))) (eOp mulM (eC (.int 2)) (eOp addM (eOp addM (eC (.int 1)) (eVar 2)) (eVar 4)))), (eOp modM (eOp ixM (eVar 0) (eOp addM (eOp mulM (eC (.int 2)) (eVar 4)) (eC (.int 1)))) (eOp mulM (eC (.int 2)) (eOp addM (eOp addM (eC (.int 1)) (eVar 2)) (eVar 4))))])]))
@[irreducible] noncomputable def s__law_net : List DV → M DV := fnM 2 5 (sSeq (sSet 2 (eOp modM (eOp ixM (eVar 1) (eC (.int 0))) (eC (.int 5))))
  (sSeq (sSet 3 (eLst []))
  (sSeq (sFor (iRg1 [(eOp modM (eOp ixM (eVar 1) (eC (.int 1))) (eC (.int 11)))]) (gNm 4) s__law_net_L1)
  (sRet (eTup [(eVar 2), (eVar 3)])))))
noncomputable def s__law_row_L1 : Stt := (sIf (tAnd (tTru (eVar 5)) (tVal (eOp gtM (eVar 4) (eC (.int 0))))) (sSeq (sExpr (eMt "list" appendM (eVar 6) [(eOp modM (eVar 4) (eOp powM (eC (.int 10)) (eC (.int 4))))]))
  (sSet 4 (eOp fdivM (eVar 4) (eOp powM (eC (.int 10)) (eC (.int 4)))))) (sSeq (sSet 8 (eOp addM (eOp addM (eOp addM (eOp addM (eOp modM (eCall absM [(eVar 3)]) (eC (.int 1000003))) (eOp mulM (eOp mulM (eC (.int 7919)) (eVar 7)) (eVar 7))) (eOp mulM (eC (.int 104729)) (eVar 1))) (eOp mulM (eC (.int 31)) (eVar 7))) (eC (.int 5))))
  (sSeq (sSet 8 (eOp modM (eOp mulM (eVar 8) (eC (.int 48271))) (eC (.int 2147483647))))
  (sExpr (eMt "list" appendM (eVar 6) [(eOp modM (eOp addM (eOp modM (eOp mulM (eVar 8) (eVar 8)) (eC (.int 2147483629))) (eOp fdivM (eVar 8) (eC (.int 7)))) (eOp powM (eC (.int 10)) (eC (.int 6))))])))))
@[irreducible] noncomputable def s__law_row : List DV → M DV := fnM 3 9 (sSeq (sSet 3 (eC (.int 0)))
  (sSeq (sIf (tVal (eOp ltM (eVar 1) (eCall lenM [(eVar 0)]))) (sSet 3 (eOp ixM (eVar 0) (eVar 1))) sSkip)
  (sSeq (sSet 4 (eCall absM [(eVar 3)]))
  (sSeq (sSet 5 (eOp geM (eVar 4) (eOp powM (eC (.int 10)) (eC (.int 18)))))
  (sSeq (sSet 6 (eLst []))
  (sSeq (sFor (iRg1 [(eVar 2)]) (gNm 7) s__law_row_L1)
  (sRet (eVar 6))))))))
@[irreducible] noncomputable def s__law_step : List DV → M DV := fnM 4 9 (sSeq (sSet 4 (eOp mulM (eC (.int 2)) (eOp addM (eOp addM (eC (.int 1)) (eOp ixM (eVar 0) (eC (.int 0)))) (eCall lenM [(eOp ixM (eVar 0) (eC (.int 1)))]))))
  (sSeq (sAsg (gTpL [5, 6]) (eVar 2))
  (sSeq (sSet 7 (eVar 3))
  (sSeq (sIf (tVal (eOp eqM (eOp modM (eOp ixM (eVar 1) (eC (.int 0))) (eC (.int 4))) (eC (.int 1)))) (sSeq (sSet 5 (eOp modM (eOp ixM (eVar 1) (eC (.int 1))) (eVar 4)))
  (sSet 6 (eOp modM (eOp ixM (eVar 1) (eC (.int 2))) (eVar 4)))) sSkip)
  (sSeq (sIf (tVal (eOp eqM (eOp modM (eOp ixM (eVar 1) (eC (.int 0))) (eC (.int 3))) (eC (.int 1)))) (sSet 7 (eLc (iRg1 [(eOp modM (eOp ixM (eVar 1) (eC (.int 3))) (eC (.int 6)))]) [8] (gNm 8) tTrue (eOp modM (eOp ixM (eVar 1) (eOp addM (eC (.int 4)) (eVar 8))) (eVar 4)))) sSkip)
  (sSeq (sIf (tVal (eOp eqM (eOp modM (eOp ixM (eVar 1) (eC (.int 0))) (eC (.int 9))) (eC (.int 5)))) (sSet 7 (eLc (iRg1 [(eC (.int 65))]) [8] (gNm 8) tTrue (eOp addM (eC (.int 2)) (eOp modM (eVar 8) (eOp addM (eOp subM (eVar 4) (eC (.int 2))) (eCall intM [(eOp eqM (eVar 4) (eC (.int 2)))])))))) sSkip)
  (sRet (eTup [(eC (.str "row")), (eVar 5), (eVar 6), (eCall tupleM [(eVar 7)])]))))))))
noncomputable def s__law_tree_L1 : Stt := (sIf (tTru (eVar 2)) (sSeq (sExpr (eMt "list" appendM (eVar 3) [(eTup [(eOp ixM (eVar 4) (eC (.int 0))), (eOp ixM (eVar 4) (eC (.int 1)))])]))
  (sSet 4 (eOp addM (eLst [(eOp mulM (eC (.int 2)) (eOp addM (eOp ixM (eVar 0) (eC (.int 0))) (eCall lenM [(eVar 3)])))]) (eSl (eVar 4) (pSm (eC (.int 2))) pNo)))) (sSeq (sExpr (eMt "list" appendM (eVar 3) [(eTup [(eOp ixM (eVar 4) (eUn negM (eC (.int 1)))), (eOp ixM (eVar 4) (eUn negM (eC (.int 2))))])]))
  (sSet 4 (eOp addM (eSl (eVar 4) pNo (pSm (eUn negM (eC (.int 2))))) (eLst [(eOp mulM (eC (.int 2)) (eOp addM (eOp ixM (eVar 0) (eC (.int 0))) (eCall lenM [(eVar 3)])))])))))
@[irreducible] noncomputable def s__law_tree : List DV → M DV := fnM 3 5 (sSeq (sSet 3 (eCall listM [(eOp ixM (eVar 0) (eC (.int 1)))]))
  (sSeq (sSet 4 (eCall listM [(eVar 1)]))
  (sSeq (sWhile (tVal (eOp gtM (eCall lenM [(eVar 4)]) (eC (.int 1)))) s__law_tree_L1)
  (sRet (eTup [(eTup [(eOp ixM (eVar 0) (eC (.int 0))), (eVar 3)]), (eOp ixM (eVar 4) (eC (.int 0)))])))))
@[irreducible] noncomputable def s_is_whole : List DV → M DV := fnM 1 1 (sRet (eAnd (eCall isiM [(eVar 0), (eC (.ty "int"))]) (eNot (eCall isiM [(eVar 0), (eC (.ty "bool"))]))))
@[irreducible] noncomputable def s_is_end : List DV → M DV := fnM 2 2 (sRet (eAnd (eCall s_is_whole [(eVar 0)]) (eChain leM ltM (eC (.int 0)) (eVar 0) (eOp mulM (eC (.int 2)) (eVar 1)))))
@[irreducible] noncomputable def s_is_step : List DV → M DV := fnM 2 5 (sSeq (sIf (tOr (tNot (tTru (eCall isiM [(eVar 1), (eC (.ty "tuple"))]))) (tOr (tVal (eOp neM (eCall lenM [(eVar 1)]) (eC (.int 4)))) (tNot (tTru (eCall isiM [(eOp ixM (eVar 1) (eC (.int 3))), (eC (.ty "tuple"))]))))) (sRet (eC (.bl false))) sSkip)
  (sSeq (sSet 2 (eC (.int 0)))
  (sSeq (sIf (tVal (eOp eqM (eOp ixM (eVar 1) (eC (.int 0))) (eC (.str "stands")))) (sSet 2 (eC c_FEW)) (sIf (tVal (eOp eqM (eOp ixM (eVar 1) (eC (.int 0))) (eC (.str "row")))) (sSet 2 (eC c_MANY)) (sRet (eC (.bl false)))))
  (sSeq (sSet 3 (eOp addM (eOp addM (eC (.int 1)) (eOp ixM (eVar 0) (eC (.int 0)))) (eCall lenM [(eOp ixM (eVar 0) (eC (.int 1)))])))
  (sRet (eAnd (eOp leM (eCall lenM [(eOp ixM (eVar 1) (eC (.int 3)))]) (eVar 2)) (eCall allM [(eLc (iAny (eOp addM (eSl (eVar 1) (pSm (eC (.int 1))) (pSm (eC (.int 3)))) (eOp ixM (eVar 1) (eC (.int 3))))) [4] (gNm 4) tTrue (eCall s_is_end [(eVar 4), (eVar 3)]))])))))))
noncomputable def s_leaf_ends_L1 : Stt := (sSeq (sSet 5 (eMeth "Classes" lay_Classes s_Classes_least (eVar 0) [(eVar 4)]))
  (sSeq (sIf (tOr (tVal (eOp ltM (eVar 5) (eC (.int 2)))) (tVal (eOp inX (eOp fdivM (eVar 5) (eC (.int 2))) (eVar 2)))) (sRet (eC .non)) sSkip)
  (sAsg (gSub (eVar 2) (eOp fdivM (eVar 5) (eC (.int 2)))) (eTup [(eVar 3), (eVar 5)]))))
@[irreducible] noncomputable def s_leaf_ends : List DV → M DV := fnM 2 6 (sSeq (sSet 2 eDic0)
  (sSeq (sFor (iEnX [(eVar 1)]) (gTpL [3, 4]) s_leaf_ends_L1)
  (sRet (eVar 2))))
noncomputable def s_cone_L1 : Stt := (sSeq (sSet 7 (eMt "list" popM (eVar 5) []))
  (sSeq (sSet 8 (eMeth "Classes" lay_Classes s_Classes_least (eVar 1) [(eOp mulM (eC (.int 2)) (eVar 7))]))
  (sIf (tAnd (tVal (eOp geM (eVar 7) (eVar 4))) (tAnd (tVal (eOp ninX (eVar 7) (eVar 6))) (tAnd (tVal (eOp gtM (eVar 8) (eC (.int 1)))) (tVal (eOp ninX (eOp fdivM (eVar 8) (eC (.int 2))) (eVar 2)))))) (sSeq (sAsg (gSub (eVar 6) (eVar 7)) (eC (.bl true)))
  (sSeq (sAsg (gTpL [9, 10]) (eOp ixM (eOp ixM (eVar 0) (eC (.int 1))) (eOp subM (eVar 7) (eVar 4))))
  (sExpr (eMt "list" extendM (eVar 5) [(eLst [(eOp fdivM (eVar 9) (eC (.int 2))), (eOp fdivM (eVar 10) (eC (.int 2)))])])))) sSkip)))
@[irreducible] noncomputable def s_cone : List DV → M DV := fnM 4 12 (sSeq (sSet 4 (eOp addM (eC (.int 1)) (eOp ixM (eVar 0) (eC (.int 0)))))
  (sSeq (sSet 5 (eLc (iAny (eVar 3)) [11] (gNm 11) tTrue (eOp fdivM (eVar 11) (eC (.int 2)))))
  (sSeq (sSet 6 eDic0)
  (sSeq (sWhile (tVal (eOp neM (eVar 5) (eLst []))) s_cone_L1)
  (sRet (eCall sortedM [(eCall listX [(eVar 6)])]))))))
@[irreducible] noncomputable def s_row_set : List DV → M DV := fnM 4 7 (sSeq (sSet 4 (eMeth "Classes" lay_Classes s_Classes_least (eVar 0) [(eVar 3)]))
  (sSeq (sIf (tVal (eOp eqM (eVar 4) (eC (.int 0)))) (sRet (eC c_LOW)) sSkip)
  (sSeq (sIf (tVal (eOp eqM (eVar 4) (eC (.int 1)))) (sRet (eC (.int 0))) sSkip)
  (sSeq (sIf (tVal (eOp inX (eOp fdivM (eVar 4) (eC (.int 2))) (eVar 1))) (sSeq (sAsg (gTpL [5, 6]) (eOp ixM (eVar 1) (eOp fdivM (eVar 4) (eC (.int 2)))))
  (sRet (eOp shlM (eC (.int 1)) (eOp addM (eOp mulM (eC (.int 2)) (eVar 5)) (eOp andM (eOp xorM (eVar 4) (eVar 6)) (eC (.int 1))))))) sSkip)
  (sSeq (sIf (tVal (eOp eqM (eOp modM (eVar 3) (eC (.int 2))) (eC (.int 1)))) (sRet (eC .non)) sSkip)
  (sRet (eMt "dict" dgetM (eVar 2) [(eOp fdivM (eVar 3) (eC (.int 2)))])))))))
@[irreducible] noncomputable def s_together : List DV → M DV := fnM 3 4 (sSeq (sIf (tOr (tVal (eOp eqM (eVar 0) (eC c_LOW))) (tVal (eOp eqM (eVar 1) (eC c_LOW)))) (sRet (eC c_LOW)) sSkip)
  (sSeq (sIf (tOr (tVal (eOp isM (eVar 0) (eC .non))) (tVal (eOp isM (eVar 1) (eC .non)))) (sRet (eC .non)) sSkip)
  (sSeq (sSet 3 (eOp orM (eVar 0) (eVar 1)))
  (sSeq (sIf (tTru (eOp andM (eOp andM (eVar 3) (eOp shrM (eVar 3) (eC (.int 1)))) (eVar 2))) (sRet (eC c_LOW)) sSkip)
  (sRet (eVar 3))))))
noncomputable def s_row_good_L1 : Stt := (sSet 4 (eOp orM (eVar 4) (eOp shlM (eC (.int 1)) (eOp mulM (eC (.int 2)) (eVar 5)))))
noncomputable def s_row_good_L2 : Stt := (sSeq (sAsg (gTpL [8, 9]) (eOp ixM (eOp ixM (eVar 0) (eC (.int 1))) (eOp subM (eOp subM (eVar 7) (eC (.int 1))) (eOp ixM (eVar 0) (eC (.int 0))))))
  (sSeq (sSet 10 (eCall s_row_set [(eVar 1), (eVar 3), (eVar 6), (eVar 8)]))
  (sAsg (gSub (eVar 6) (eVar 7)) (eCall s_together [(eVar 10), (eCall s_row_set [(eVar 1), (eVar 3), (eVar 6), (eVar 9)]), (eVar 4)]))))
@[irreducible] noncomputable def s_row_good : List DV → M DV := fnM 4 11 (sSeq (sSet 4 (eC (.int 0)))
  (sSeq (sFor (iRg1 [(eCall lenM [(eOp ixM (eVar 2) (eC (.int 3)))])]) (gNm 5) s_row_good_L1)
  (sSeq (sSet 6 eDic0)
  (sSeq (sFor (iAny (eCall s_cone [(eVar 0), (eVar 1), (eVar 3), (eSl (eVar 2) (pSm (eC (.int 1))) (pSm (eC (.int 3))))])) (gNm 7) s_row_good_L2)
  (sSeq (sSet 10 (eCall s_row_set [(eVar 1), (eVar 3), (eVar 6), (eOp ixM (eVar 2) (eC (.int 1)))]))
  (sRet (eAnd (eOp isnM (eVar 10) (eC .non)) (eOp eqM (eVar 10) (eCall s_row_set [(eVar 1), (eVar 3), (eVar 6), (eOp ixM (eVar 2) (eC (.int 2)))])))))))))
noncomputable def s_pattern_L1 : Stt := (sSet 2 (eOp orM (eVar 2) (eOp shlM (eOp andM (eOp shrM (eVar 3) (eVar 0)) (eC (.int 1))) (eVar 3))))
@[irreducible] noncomputable def s_pattern : List DV → M DV := fnM 2 4 (sSeq (sSet 2 (eC (.int 0)))
  (sSeq (sFor (iRg1 [(eOp shlM (eC (.int 1)) (eVar 1))]) (gNm 3) s_pattern_L1)
  (sRet (eVar 2))))
@[irreducible] noncomputable def s_stand_bits : List DV → M DV := fnM 5 9 (sSeq (sSet 5 (eMeth "Classes" lay_Classes s_Classes_least (eVar 0) [(eVar 4)]))
  (sSeq (sIf (tVal (eOp ltM (eVar 5) (eC (.int 2)))) (sRet (eOp mulM (eVar 3) (eVar 5))) sSkip)
  (sSeq (sIf (tVal (eOp inX (eOp fdivM (eVar 5) (eC (.int 2))) (eVar 1))) (sSeq (sAsg (gTpL [6, 7]) (eOp ixM (eVar 1) (eOp fdivM (eVar 5) (eC (.int 2)))))
  (sRet (eOp xorM (eOp ixM (eVar 2) (eOp subM (eUn negM (eC (.int 1))) (eVar 6))) (eOp mulM (eVar 3) (eOp andM (eOp xorM (eVar 5) (eVar 7)) (eC (.int 1))))))) sSkip)
  (sSeq (sSet 8 (eMt "dict" dgetM (eVar 2) [(eOp fdivM (eVar 4) (eC (.int 2)))]))
  (sSeq (sIf (tOr (tVal (eOp isM (eVar 8) (eC .non))) (tVal (eOp eqM (eOp modM (eVar 4) (eC (.int 2))) (eC (.int 0))))) (sRet (eVar 8)) sSkip)
  (sRet (eOp xorM (eVar 8) (eVar 3))))))))
noncomputable def s_stands_good_L1 : Stt := (sAsg (gSub (eVar 6) (eOp subM (eUn negM (eC (.int 1))) (eVar 7))) (eCall s_pattern [(eVar 7), (eVar 4)]))
noncomputable def s_stands_good_L2 : Stt := (sSeq (sAsg (gTpL [9, 10]) (eOp ixM (eOp ixM (eVar 0) (eC (.int 1))) (eOp subM (eOp subM (eVar 8) (eC (.int 1))) (eOp ixM (eVar 0) (eC (.int 0))))))
  (sSeq (sSet 11 (eCall s_stand_bits [(eVar 1), (eVar 3), (eVar 6), (eVar 5), (eVar 9)]))
  (sSeq (sSet 12 (eCall s_stand_bits [(eVar 1), (eVar 3), (eVar 6), (eVar 5), (eVar 10)]))
  (sIf (tAnd (tVal (eOp isnM (eVar 11) (eC .non))) (tVal (eOp isnM (eVar 12) (eC .non)))) (sAsg (gSub (eVar 6) (eVar 8)) (eOp andM (eVar 11) (eVar 12))) sSkip))))
@[irreducible] noncomputable def s_stands_good : List DV → M DV := fnM 4 13 (sSeq (sSet 4 (eCall lenM [(eOp ixM (eVar 2) (eC (.int 3)))]))
  (sSeq (sSet 5 (eOp subM (eOp shlM (eC (.int 1)) (eOp shlM (eC (.int 1)) (eVar 4))) (eC (.int 1))))
  (sSeq (sSet 6 eDic0)
  (sSeq (sFor (iRg1 [(eVar 4)]) (gNm 7) s_stands_good_L1)
  (sSeq (sFor (iAny (eCall s_cone [(eVar 0), (eVar 1), (eVar 3), (eSl (eVar 2) (pSm (eC (.int 1))) (pSm (eC (.int 3))))])) (gNm 8) s_stands_good_L2)
  (sSeq (sSet 11 (eCall s_stand_bits [(eVar 1), (eVar 3), (eVar 6), (eVar 5), (eOp ixM (eVar 2) (eC (.int 1)))]))
  (sRet (eAnd (eOp isnM (eVar 11) (eC .non)) (eOp eqM (eVar 11) (eCall s_stand_bits [(eVar 1), (eVar 3), (eVar 6), (eVar 5), (eOp ixM (eVar 2) (eC (.int 2)))]))))))))))
@[irreducible] noncomputable def s_is_good : List DV → M DV := fnM 3 4 (sSeq (sIf (tNot (tTru (eCall s_is_step [(eVar 0), (eVar 2)]))) (sRet (eC (.bl false))) sSkip)
  (sSeq (sSet 3 (eCall s_leaf_ends [(eVar 1), (eOp ixM (eVar 2) (eC (.int 3)))]))
  (sSeq (sIf (tVal (eOp isM (eVar 3) (eC .non))) (sRet (eC (.bl false))) sSkip)
  (sSeq (sIf (tVal (eOp eqM (eOp ixM (eVar 2) (eC (.int 0))) (eC (.str "stands")))) (sRet (eCall s_stands_good [(eVar 0), (eVar 1), (eVar 2), (eVar 3)])) sSkip)
  (sRet (eCall s_row_good [(eVar 0), (eVar 1), (eVar 2), (eVar 3)]))))))
noncomputable def s_law_L1 : Stt := (sIf (tTru (eMeth "Classes" lay_Classes s_Classes_join (eVar 10) [(eOp modM (eOp ixM (eVar 3) (eOp addM (eC (.int 40)) (eOp mulM (eC (.int 2)) (eVar 12)))) (eVar 9)), (eOp modM (eOp ixM (eVar 3) (eOp addM (eC (.int 41)) (eOp mulM (eC (.int 2)) (eVar 12)))) (eVar 9))])) (sSet 11 (eCall s__law_joined [(eVar 11), (eOp modM (eOp ixM (eVar 3) (eOp addM (eC (.int 40)) (eOp mulM (eC (.int 2)) (eVar 12)))) (eVar 9)), (eOp modM (eOp ixM (eVar 3) (eOp addM (eC (.int 41)) (eOp mulM (eC (.int 2)) (eVar 12)))) (eVar 9))])) sSkip)
noncomputable def s_law_L2 : Stt := (sSeq (sSet 14 (eCall s__law_step [(eVar 2), (eCall s__law_row [(eVar 0), (eVar 12), (eC (.int 10))]), (eTup [(eVar 6), (eVar 8)]), (eVar 13)]))
  (sSeq (sSet 15 (eCall s_is_good [(eVar 2), (eVar 10), (eVar 14)]))
  (sIf (tOr (tNot (tTru (eCall isiM [(eVar 15), (eC (.ty "bool"))]))) (tVal (eOp neM (eVar 15) (eCall s__law_due [(eVar 2), (eVar 11), (eVar 14)])))) (sRet (eC (.bl false))) sSkip)))
@[irreducible] noncomputable def s_law : List DV → M DV := fnM 1 18 (sSeq (sSet 1 (eCall s__law_row [(eVar 0), (eC (.int 0)), (eC (.int 8))]))
  (sSeq (sSet 2 (eCall s__law_net [(eCall s__law_row [(eVar 0), (eC (.int 1)), (eC (.int 20))]), (eVar 1)]))
  (sSeq (sSet 3 (eCall s__law_row [(eVar 0), (eC (.int 2)), (eC (.int 60))]))
  (sSeq (sSet 4 (eOp addM (eOp addM (eC (.int 2)) (eOp modM (eOp ixM (eVar 1) (eC (.int 2))) (eC (.int 7)))) (eOp mulM (eC (.int 24)) (eCall intM [(eOp eqM (eOp modM (eOp fdivM (eOp ixM (eVar 1) (eC (.int 2))) (eC (.int 7))) (eC (.int 8))) (eC (.int 5)))]))))
  (sSeq (sSet 5 (eLc (iRg1 [(eVar 4)]) [12] (gNm 12) tTrue (eOp modM (eOp ixM (eVar 3) (eVar 12)) (eOp mulM (eC (.int 2)) (eOp addM (eOp addM (eC (.int 1)) (eOp ixM (eVar 2) (eC (.int 0)))) (eCall lenM [(eOp ixM (eVar 2) (eC (.int 1)))]))))))
  (sSeq (sAsg (gTpL [2, 6]) (eCall s__law_tree [(eVar 2), (eVar 5), (eC (.bl true))]))
  (sSeq (sSet 7 (eCall listM [(eVar 5)]))
  (sSeq (sIf (tAnd (tVal (eOp eqM (eOp modM (eOp ixM (eVar 1) (eC (.int 3))) (eC (.int 4))) (eC (.int 1)))) (tVal (eOp gtM (eCall lenM [(eVar 7)]) (eC (.int 2))))) (sExpr (eMt "list" popM (eVar 7) [(eOp modM (eOp ixM (eVar 1) (eC (.int 4))) (eCall lenM [(eVar 7)]))])) sSkip)
  (sSeq (sIf (tVal (eOp eqM (eOp modM (eOp ixM (eVar 1) (eC (.int 3))) (eC (.int 4))) (eC (.int 2)))) (sAsg (gSub (eVar 7) (eOp modM (eOp ixM (eVar 1) (eC (.int 4))) (eCall lenM [(eVar 7)]))) (eOp xorM (eOp ixM (eVar 7) (eOp modM (eOp ixM (eVar 1) (eC (.int 4))) (eCall lenM [(eVar 7)]))) (eC (.int 1)))) sSkip)
  (sSeq (sAsg (gTpL [2, 8]) (eCall s__law_tree [(eVar 2), (eVar 7), (eC (.bl false))]))
  (sSeq (sSet 9 (eOp mulM (eC (.int 2)) (eOp addM (eOp addM (eC (.int 1)) (eOp ixM (eVar 2) (eC (.int 0)))) (eCall lenM [(eOp ixM (eVar 2) (eC (.int 1)))]))))
  (sSeq (sSet 10 (eCall (mkM "Classes" lay_Classes s_Classes_init) [(eOp fdivM (eVar 9) (eC (.int 2)))]))
  (sSeq (sSet 11 (eLrg [(eVar 9)]))
  (sSeq (sFor (iRg1 [(eOp modM (eOp ixM (eVar 1) (eC (.int 5))) (eC (.int 5)))]) (gNm 12) s_law_L1)
  (sSeq (sSet 13 (eLc (iAny (eUn sortSetM (eVar 5))) [16] (gNm 16) (tAnd (tVal (eOp gtM (eVar 16) (eC (.int 1)))) (tOr (tVal (eOp ninX (eOp xorM (eVar 16) (eC (.int 1))) (eVar 5))) (tVal (eOp eqM (eOp modM (eVar 16) (eC (.int 2))) (eC (.int 0)))))) (eVar 16)))
  (sSeq (sFor (iRg2 [(eC (.int 3)), (eCall max2M [(eC (.int 9)), (eCall min2M [(eCall lenM [(eVar 0)]), (eC (.int 27))])])]) (gNm 12) s_law_L2)
  (sRet (eOp eqM (eLc (iRg1 [(eVar 9)]) [16] (gNm 16) tTrue (eMeth "Classes" lay_Classes s_Classes_least (eVar 10) [(eVar 16)])) (eLc (iAny (eVar 11)) [17] (gNm 17) tTrue (eMt "list" indexM (eVar 11) [(eVar 17)]))))))))))))))))))))
end LK
namespace LK
open PySem PySem.Spec PyProof.Rows L2 ML
def Kp' (k : Nat) (st st' : Sto) : Prop := st.length ≤ st'.length ∧ ∀ (j : Nat) (o : DO), j ≠ k → st[j]? = some o → st'[j]? = some o
theorem Kp'.refl {k : Nat} {st : Sto} : Kp' k st st := ⟨Nat.le_refl _, fun _ _ _ h => h⟩
theorem Kp'.trans {k : Nat} {a b c : Sto} (h : Kp' k a b) (g : Kp' k b c) : Kp' k a c := ⟨Nat.le_trans h.1 g.1, fun j o n e => g.2 j o n (h.2 j o n e)⟩
theorem Kp'.sub {k : Nat} {a b : Sto} (h : Sub a b) : Kp' k a b := ⟨h.len, fun j o _ e => h j o e⟩
theorem Kp'.set {k : Nat} {a : Sto} {o : DO} : Kp' k a (a.set k o) := ⟨by simp, fun j o' n e => by rw [List.getElem?_set_ne (Ne.symm n)]; exact e⟩
def Bag (st : Sto) (k : Nat) : Prop := ∃ b0 b1 : Int, st[k]? = some (.lst [.int b0, .int b1]) ∧ 0 ≤ b0 ∧ 0 ≤ b1
theorem Bag.sub {st st' : Sto} {k : Nat} (h : Bag st k) (s : Sub st st') : Bag st' k := by
  obtain ⟨b0, b1, h1, h2⟩ := h
  exact ⟨b0, b1, s _ _ h1, h2⟩
theorem Bag.lt {st : Sto} {k : Nat} (h : Bag st k) : k < st.length := by
  obtain ⟨_, _, h1, _⟩ := h
  exact get_lt h1

def KI (kvs : List (HK × DV)) : Prop := ∀ p ∈ kvs, ∃ i, p.1 = HK.int i
theorem KI.ok {kvs : List (HK × DV)} (h : KI kvs) (i : Int) : kindOk kvs (.int i) = true := by
  cases kvs with
  | nil => rfl
  | cons p r =>
    obtain ⟨k, v⟩ := p
    obtain ⟨j, e⟩ := h (k, v) List.mem_cons_self
    have e : k = .int j := e
    subst e
    rfl
theorem hSet_mem {h : HK} {d : DV} {p : HK × DV} : ∀ {kvs : List (HK × DV)}, p ∈ hSet kvs h d → p = (h, d) ∨ p ∈ kvs
  | [], hp => by
    simp only [hSet, List.mem_singleton] at hp
    exact .inl hp
  | (k, v) :: r, hp => by
    simp only [hSet] at hp
    split at hp
    · rename_i e
      subst e
      rcases List.mem_cons.mp hp with z | z
      · exact .inl z
      · exact .inr (List.mem_cons_of_mem _ z)
    · rcases List.mem_cons.mp hp with z | z
      · exact .inr (z ▸ List.mem_cons_self)
      · rcases hSet_mem z with y | y
        · exact .inl y
        · exact .inr (List.mem_cons_of_mem _ y)
theorem hSet_len {h : HK} {d : DV} : ∀ {kvs : List (HK × DV)}, (hSet kvs h d).length ≤ kvs.length + 1
  | [] => Nat.le_refl _
  | (k, v) :: r => by
    simp only [hSet]
    split
    · simp
    · have := hSet_len (h := h) (d := d) (kvs := r)
      simp only [List.length_cons]
      omega
theorem KI.set {kvs : List (HK × DV)} (h : KI kvs) (i : Int) (d : DV) : KI (hSet kvs (.int i) d) := fun p hp => by
  rcases hSet_mem hp with z | z
  · exact ⟨i, by rw [z]⟩
  · exact h p z

/-! what is kept but for some handles -/
def KpS (S : List Nat) (st st' : Sto) : Prop := st.length ≤ st'.length ∧ ∀ (j : Nat) (o : DO), j ∉ S → st[j]? = some o → st'[j]? = some o
theorem KpS.refl {S : List Nat} {st : Sto} : KpS S st st := ⟨Nat.le_refl _, fun _ _ _ h => h⟩
theorem KpS.trans {S : List Nat} {a b c : Sto} (h : KpS S a b) (g : KpS S b c) : KpS S a c := ⟨Nat.le_trans h.1 g.1, fun j o n e => g.2 j o n (h.2 j o n e)⟩
theorem KpS.sub {S : List Nat} {a b : Sto} (h : Sub a b) : KpS S a b := ⟨h.len, fun j o _ e => h j o e⟩
theorem KpS.set {S : List Nat} {a : Sto} {k : Nat} {o : DO} (h : k ∈ S) : KpS S a (a.set k o) := ⟨by simp, fun j o' n e => by rw [List.getElem?_set_ne (fun q => n (by rw [← q]; exact h))]; exact e⟩
theorem KpS.mono {S T : List Nat} {a b : Sto} (h : KpS S a b) (s : ∀ j ∈ S, j ∈ T) : KpS T a b := ⟨h.1, fun j o n e => h.2 j o (fun q => n (s j q)) e⟩
theorem KpS.to {S : List Nat} {a b : Sto} (h : KpS S a b) (s : ∀ j ∈ S, a.length ≤ j) : Sub a b := fun j o e => h.2 j o (fun q => by have := s j q; have := get_lt e; omega) e
theorem wp_dic0 {ss : Sl} {st : Sto} {QD : PQ DV} {E : XQ} (h : ∀ (st' : Sto) (k : Nat), Sub st st' → st.length ≤ k → k < st'.length → st'[k]? = some (.dic []) → QD (.ref k) st') : Wp (eDic0 ss st) QD E := by
  show Wp (alloc (.dic []) st) QD E
  rw [wp_alloc]
  exact h (st ++ [.dic []]) st.length .app (Nat.le_refl _) (by simp) get_new

theorem wp_addT {a b : List DV} {st : Sto} {Q : PQ DV} {E : XQ} (h : a.length + b.length ≤ 16777216) : Wp (addM (.tup a) (.tup b) st) Q E = Q (.tup (a ++ b)) st := by
  show Wp (if a.length + b.length ≤ sizeLine then (Out.ok (.tup (a ++ b)) st) else .bad) Q E = _
  rw [if_pos (by rw [sl_eq]; exact h)]
  rfl
theorem wp_tupR {k : Nat} {xs : List DV} {st : Sto} {Q : PQ DV} {E : XQ} (h : st[k]? = some (.lst xs)) : Wp (tupleM [.ref k] st) Q E = Q (.tup xs) st := by
  show Wp (match st[k]? with
    | some (.lst xs) => _
    | _ => _) Q E = _
  rw [h]
  rfl
theorem wp_inL {l : Nat} {x : DV} {ys : List DV} {st : Sto} {Q : PQ DV} {E : XQ} (h : st[l]? = some (.lst ys)) (hx : flatD x = true) (hf : ys.all flatD = true) : Wp (inX x (.ref l) st) Q E = Q (.bl (inF x ys)) st := by
  unfold inX
  simp only [h]
  unfold inM inB
  simp only [h, hf, hx]
  rfl
theorem wp_ixTh {x : DV} {r : List DV} {st : Sto} {Q : PQ DV} {E : XQ} : Wp (ixM (.tup (x :: r)) (.int 0) st) Q E = Q x st := by
  rw [wp_ixT, at0]
  rfl
def fx (x e : Int) : Int := 2 * (x / 2) + (x + e) % 2
theorem xor_fx (x e : Int) : Builtin.bitXor x (Builtin.bitAnd e 1) = fx x e := by
  rw [xor_end]
  unfold fx
  split <;> omega
def g (L : List Int) (i : Int) : Int := L.getD i.toNat 0
def gM (L : List (List Int)) (i : Int) : List Int := L.getD i.toNat []
def RT (R : List Int) (e : Int) : Int := fx (g R (e / 2)) e
structure CInv (n : Int) (R L : List Int) (Ms : List (List Int)) : Prop where
  n0 : 0 ≤ n
  n1 : n ≤ 5000
  lr : (R.length : Int) = n
  ll : (L.length : Int) = n
  lm : (Ms.length : Int) = n
  rb : ∀ i, 0 ≤ i → i < n → 0 ≤ g R i ∧ g R i < 2 * n
  rr : ∀ i, 0 ≤ i → i < n → g R (g R i / 2) = 2 * (g R i / 2)
  mem : ∀ r, 0 ≤ r → r < n → g R r = 2 * r → ∀ i, i ∈ gM Ms r ↔ (0 ≤ i ∧ i < n ∧ g R i / 2 = r)
  md : ∀ r, 0 ≤ r → r < n → g R r = 2 * r → (gM Ms r).Nodup ∧ ((gM Ms r).length : Int) ≤ n
  lo : ∀ r, 0 ≤ r → r < n → g R r = 2 * r → 0 ≤ g L r ∧ g L r < 2 * n ∧ RT R (g L r) = 2 * r ∧ ∀ e, 0 ≤ e → e < 2 * n → RT R e = 2 * r → g L r ≤ e
structure CLs (st : Sto) (k kr kl km : Nat) (ks : List Nat) (R L : List Int) (Ms : List (List Int)) : Prop where
  o : st[k]? = some (.ins "Classes" lay_Classes [.ref kr, .ref kl, .ref km])
  r : st[kr]? = some (.lst (R.map DV.int))
  l : st[kl]? = some (.lst (L.map DV.int))
  m : st[km]? = some (.lst (ks.map DV.ref))
  lk : ks.length = Ms.length
  ms : ∀ (i : Nat) (x : Nat), ks[i]? = some x → st[x]? = some (.lst ((Ms.getD i []).map DV.int))
  n1 : k ≠ kr ∧ k ≠ kl ∧ k ≠ km ∧ kr ≠ kl ∧ kr ≠ km ∧ kl ≠ km
  n2 : ∀ x ∈ ks, x ≠ k ∧ x ≠ kr ∧ x ≠ kl ∧ x ≠ km
  n3 : ∀ (i j : Nat) (x : Nat), ks[i]? = some x → ks[j]? = some x → i = j
theorem CLs.mono {st st' : Sto} {k kr kl km : Nat} {ks : List Nat} {R L : List Int} {Ms : List (List Int)} (h : CLs st k kr kl km ks R L Ms) (s : Sub st st') : CLs st' k kr kl km ks R L Ms :=
  ⟨s _ _ h.o, s _ _ h.r, s _ _ h.l, s _ _ h.m, h.lk, fun i x e => s _ _ (h.ms i x e), h.n1, h.n2, h.n3⟩
theorem g_map {R : List Int} {f : Int → Int} {i : Int} (h0 : 0 ≤ i) (h1 : i < R.length) : g (R.map f) i = f (g R i) := by
  unfold g
  rw [List.getD_eq_getElem?_getD, List.getD_eq_getElem?_getD, List.getElem?_map, List.getElem?_eq_getElem (show i.toNat < R.length by omega)]
  rfl
theorem g_set {L : List Int} {a : Nat} {v i : Int} (h0 : 0 ≤ i) (ha : a < L.length) : g (L.set a v) i = if i = a then v else g L i := by
  unfold g
  rw [List.getD_eq_getElem?_getD, List.getD_eq_getElem?_getD]
  by_cases e : i = a
  · rw [if_pos e]
    have : i.toNat = a := by omega
    rw [this, List.getElem?_set_self ha]
    rfl
  · rw [if_neg e, List.getElem?_set_ne (by omega)]
theorem gM_set {L : List (List Int)} {a : Nat} {v : List Int} {i : Int} (h0 : 0 ≤ i) (ha : a < L.length) : gM (L.set a v) i = if i = a then v else gM L i := by
  unfold gM
  rw [List.getD_eq_getElem?_getD, List.getD_eq_getElem?_getD]
  by_cases e : i = a
  · rw [if_pos e]
    have : i.toNat = a := by omega
    rw [this, List.getElem?_set_self ha]
    rfl
  · rw [if_neg e, List.getElem?_set_ne (by omega)]
section
variable {st : Sto} {k kr kl km : Nat} {ks : List Nat} {R L : List Int} {Ms : List (List Int)} {n e : Int}
theorem RT_b (v : CInv n R L Ms) (h0 : 0 ≤ e) (h1 : e < 2 * n) : 0 ≤ RT R e ∧ RT R e < 2 * n ∧ RT R e / 2 = g R (e / 2) / 2 ∧ g R (RT R e / 2) = 2 * (RT R e / 2) := by
  have := v.rb (e / 2) (by omega) (by omega)
  have r := v.rr (e / 2) (by omega) (by omega)
  unfold RT fx
  have q : (2 * (g R (e / 2) / 2) + (g R (e / 2) + e) % 2) / 2 = g R (e / 2) / 2 := by omega
  rw [q]
  exact ⟨by omega, by omega, rfl, r⟩
theorem root_spec (c : CLs st k kr kl km ks R L Ms) (v : CInv n R L Ms) (h0 : 0 ≤ e) (h1 : e < 2 * n) : Wp (s_Classes_root [.ref k, .int e] st) (fun v st' => st' = st ∧ v = .int (RT R e)) NX := by
  have := v.lr
  unfold s_Classes_root
  (try simp (disch := omega) only [WZ, WR, wp_if, wp_expr, wp_optD, wipeD, List.reduceReplicate, Nat.reduceSub, Int.reduceToNat, Int.reducePow, WY, tFld_R c.o, wp_ixR c.r, xor_fx])
  rfl
theorem low_spec (c : CLs st k kr kl km ks R L Ms) (v : CInv n R L Ms) (h0 : 0 ≤ e) (h1 : e < 2 * n) : Wp (s_Classes_low [.ref k, .int e] st) (fun v st' => st' = st ∧ v = .int (RT L e)) NX := by
  have := v.ll
  unfold s_Classes_low
  (try simp (disch := omega) only [WZ, WR, wp_if, wp_expr, wp_optD, wipeD, List.reduceReplicate, Nat.reduceSub, Int.reduceToNat, Int.reducePow, WY, tFld_R c.o, wp_ixR c.l, xor_fx])
  rfl
def Least (n : Int) (R : List Int) (e m : Int) : Prop := 0 ≤ m ∧ m < 2 * n ∧ RT R m = RT R e ∧ ∀ x, 0 ≤ x → x < 2 * n → RT R x = RT R e → m ≤ x
theorem RT_flip {R : List Int} {e : Int} : RT R (fx e 1) = fx (RT R e) 1 := by
  unfold RT
  have : fx e 1 / 2 = e / 2 := by unfold fx; omega
  rw [this]
  unfold fx
  omega
theorem low_least (v : CInv n R L Ms) (h0 : 0 ≤ e) (h1 : e < 2 * n) : Least n R e (RT L (RT R e)) := by
  obtain ⟨b0, b1, b2, b3⟩ := RT_b v h0 h1
  obtain ⟨l0, l1, l2, l3⟩ := v.lo (RT R e / 2) (by omega) (by omega) b3
  have q : RT L (RT R e) = fx (g L (RT R e / 2)) (RT R e) := rfl
  rw [q]
  generalize hr : RT R e = r at *
  generalize g L (r / 2) = a at *
  have cs : fx a r = a ∧ r = 2 * (r / 2) ∨ fx a r = fx a 1 ∧ r = fx (2 * (r / 2)) 1 := by
    unfold fx
    omega
  have fb : ∀ x, 0 ≤ x → x < 2 * n → 0 ≤ fx x 1 ∧ fx x 1 < 2 * n := fun x _ _ => by unfold fx; omega
  have ff : ∀ x, fx (fx x 1) 1 = x := fun x => by unfold fx; omega
  rcases cs with ⟨e1, e2⟩ | ⟨e1, e2⟩
  · rw [e1]
    refine ⟨l0, l1, by rw [l2]; omega, fun x x0 x1 hx => l3 x x0 x1 (by omega)⟩
  · rw [e1]
    have := fb a l0 l1
    refine ⟨this.1, this.2, by rw [RT_flip, l2, hr]; exact e2.symm, fun x x0 x1 hx => ?_⟩
    have hx : RT R x = r := hx.trans hr
    have fx1 := fb x x0 x1
    have hx2 : RT R (fx x 1) = 2 * (r / 2) := by
      rw [RT_flip, hx]
      unfold fx at e2 ⊢
      omega
    have le := l3 _ fx1.1 fx1.2 hx2
    have ne : a / 2 ≠ x / 2 ∨ a = fx x 1 := by
      by_cases h : a / 2 = x / 2
      · by_cases h2 : a = x
        · subst h2
          rw [l2] at hx
          exfalso
          have : r = 2 * (r / 2) := by omega
          rw [← this] at e2
          unfold fx at e2
          omega
        · right
          unfold fx
          omega
      · exact .inl h
    rcases ne with ne | ne
    · unfold fx at le ⊢
      omega
    · rw [ne, ff]
      exact Int.le_refl _
theorem least_spec (c : CLs st k kr kl km ks R L Ms) (v : CInv n R L Ms) (h0 : 0 ≤ e) (h1 : e < 2 * n) : Wp (s_Classes_least [.ref k, .int e] st) (fun v st' => st' = st ∧ ∃ m, v = .int m ∧ Least n R e m) NX := by
  unfold s_Classes_least
  (try simp (disch := omega) only [WZ, WR, wp_if, wp_expr, wp_optD, wipeD, List.reduceReplicate, Nat.reduceSub, Int.reduceToNat, Int.reducePow, WY, tMeth_R c.o])
  refine (root_spec c v h0 h1).mono ?_
  rintro _ st ⟨rfl, rfl⟩
  obtain ⟨b0, b1, b2, b3⟩ := RT_b v h0 h1
  (try simp (disch := omega) only [WZ, WR, wp_if, wp_expr, wp_optD, wipeD, List.reduceReplicate, Nat.reduceSub, Int.reduceToNat, Int.reducePow, WY])
  refine (low_spec c v b0 b1).mono ?_
  rintro _ st ⟨rfl, rfl⟩
  (try simp (disch := omega) only [WZ, WR, wp_if, wp_expr, wp_optD, wipeD, List.reduceReplicate, Nat.reduceSub, Int.reduceToNat, Int.reducePow, WY])
  exact ⟨_, rfl, low_least v h0 h1⟩
end

def mp (m y x : Int) : Int := if x / 2 = y / 2 then fx (fx m y) x else x
theorem mp_half {m y x : Int} : mp m y x / 2 = if x / 2 = y / 2 then m / 2 else x / 2 := by
  unfold mp fx
  split <;> omega
theorem mp_fx {m y x e : Int} : fx (mp m y x) e = mp m y (fx x e) := by
  have : fx x e / 2 = x / 2 := by unfold fx; omega
  unfold mp
  rw [this]
  by_cases h : x / 2 = y / 2
  · rw [if_pos h, if_pos h]
    unfold fx
    omega
  · rw [if_neg h, if_neg h]
theorem pigeon : ∀ (n : Nat) (l : List Int), l.Nodup → (∀ x ∈ l, 0 ≤ x ∧ x < n) → l.length ≤ n
  | 0, l, _, h => by
    cases l with
    | nil => exact Nat.le_refl _
    | cons a r =>
      have := h a List.mem_cons_self
      omega
  | n + 1, l, hd, h => by
    by_cases hm : (n : Int) ∈ l
    · have := pigeon n (l.erase (n : Int)) (hd.erase _) (fun x hx => by
        have h1 := h x (List.mem_of_mem_erase hx)
        have h2 : x ≠ (n : Int) := fun e => by
          subst e
          exact (List.Nodup.not_mem_erase hd) hx
        omega)
      rw [List.length_erase_of_mem hm] at this
      omega
    · have := pigeon n l hd (fun x hx => by
        have h1 := h x hx
        have h2 : x ≠ (n : Int) := fun e => hm (e ▸ hx)
        omega)
      omega
def LeastOf (n : Int) (f : Int → Int) (r m : Int) : Prop := 0 ≤ m ∧ m < 2 * n ∧ f m = r ∧ ∀ x, 0 ≤ x → x < 2 * n → f x = r → m ≤ x
theorem least_flip {n r a : Int} {f : Int → Int} (hf : ∀ x, f (fx x 1) = fx (f x) 1) (h : LeastOf n f r a) : LeastOf n f (fx r 1) (fx a 1) := by
  obtain ⟨h0, h1, h2, h3⟩ := h
  have fb : ∀ x, 0 ≤ x → x < 2 * n → 0 ≤ fx x 1 ∧ fx x 1 < 2 * n := fun x _ _ => by unfold fx; omega
  have ff : ∀ x, fx (fx x 1) 1 = x := fun x => by unfold fx; omega
  refine ⟨(fb a h0 h1).1, (fb a h0 h1).2, by rw [hf, h2], fun x x0 x1 hx => ?_⟩
  have b := fb x x0 x1
  have le := h3 _ b.1 b.2 (by rw [hf, hx, ff])
  by_cases e : a / 2 = x / 2
  · by_cases e2 : a = x
    · subst e2
      rw [h2] at hx
      exfalso
      unfold fx at hx
      omega
    · have : fx a 1 = x := by unfold fx; omega
      rw [this]
      exact Int.le_refl _
  · unfold fx at le ⊢
    omega
theorem RT_even {R : List Int} {m : Int} (h : g R (m / 2) = 2 * (m / 2)) : RT R m = m := by
  unfold RT
  rw [h]
  unfold fx
  omega
section
variable {n m y : Int} {R L : List Int} {Ms : List (List Int)}
def joinR (m y : Int) (R : List Int) : List Int := R.map (mp m y)
def joinL (m y : Int) (L : List Int) : List Int := L.set (m / 2).toNat (fx (if RT L y < RT L m then RT L y else RT L m) m)
def joinM' (m y : Int) (Ms : List (List Int)) : List (List Int) := (Ms.set (m / 2).toNat (gM Ms (m / 2) ++ gM Ms (y / 2))).set (y / 2).toNat []
theorem joinR_RT (v : CInv n R L Ms) {e : Int} (h0 : 0 ≤ e) (h1 : e < 2 * n) : RT (joinR m y R) e = mp m y (RT R e) := by
  have := v.lr
  unfold RT joinR
  rw [g_map (by omega) (by omega)]
  exact mp_fx
theorem join_inv (v : CInv n R L Ms) (m0 : 0 ≤ m) (m1 : m < 2 * n) (y0 : 0 ≤ y) (y1 : y < 2 * n) (hm : g R (m / 2) = 2 * (m / 2)) (hy : g R (y / 2) = 2 * (y / 2)) (hne : m / 2 ≠ y / 2) : CInv n (joinR m y R) (joinL m y L) (joinM' m y Ms) := by
  have lr := v.lr
  have ll := v.ll
  have lm := v.lm
  have gR : ∀ i, 0 ≤ i → i < n → g (joinR m y R) i = mp m y (g R i) := fun i h0 h1 => g_map h0 (by omega)
  have root : ∀ r, 0 ≤ r → r < n → g (joinR m y R) r = 2 * r → g R r = 2 * r ∧ r ≠ y / 2 := fun r h0 h1 h => by
    rw [gR r h0 h1] at h
    have hh : mp m y (g R r) / 2 = r := by omega
    rw [mp_half] at hh
    by_cases e : g R r / 2 = y / 2
    · rw [if_pos e] at hh
      rw [← hh, hm] at e
      omega
    · rw [if_neg e] at hh
      unfold mp at h
      rw [if_neg e] at h
      exact ⟨h, by omega⟩
  have gMs : ∀ r, 0 ≤ r → r < n → r ≠ y / 2 → gM (joinM' m y Ms) r = if r = m / 2 then gM Ms (m / 2) ++ gM Ms (y / 2) else gM Ms r := fun r h0 h1 h => by
    unfold joinM'
    rw [gM_set h0 (by rw [List.length_set]; omega), if_neg (by omega), gM_set h0 (by omega)]
    by_cases e : r = m / 2
    · rw [if_pos (by omega), if_pos e]
    · rw [if_neg (by omega), if_neg e]
  have mm := v.mem (m / 2) (by omega) (by omega) hm
  have my := v.mem (y / 2) (by omega) (by omega) hy
  have dm := v.md (m / 2) (by omega) (by omega) hm
  have dy := v.md (y / 2) (by omega) (by omega) hy
  have mem' : ∀ r, 0 ≤ r → r < n → g (joinR m y R) r = 2 * r → ∀ i, i ∈ gM (joinM' m y Ms) r ↔ (0 ≤ i ∧ i < n ∧ g (joinR m y R) i / 2 = r) := fun r h0 h1 h i => by
    obtain ⟨h2, h3⟩ := root r h0 h1 h
    rw [gMs r h0 h1 h3]
    have q : ∀ i, 0 ≤ i → i < n → (g (joinR m y R) i / 2 = r ↔ (if g R i / 2 = y / 2 then m / 2 else g R i / 2) = r) := fun i i0 i1 => by rw [gR i i0 i1, mp_half]
    by_cases e : r = m / 2
    · rw [if_pos e, List.mem_append, mm, my]
      constructor
      · rintro (⟨i0, i1, i2⟩ | ⟨i0, i1, i2⟩)
        · refine ⟨i0, i1, (q i i0 i1).mpr ?_⟩
          split <;> omega
        · refine ⟨i0, i1, (q i i0 i1).mpr ?_⟩
          rw [if_pos i2]
          omega
      · rintro ⟨i0, i1, i2⟩
        have := (q i i0 i1).mp i2
        split at this
        · exact .inr ⟨i0, i1, by assumption⟩
        · exact .inl ⟨i0, i1, by omega⟩
    · rw [if_neg e, v.mem r h0 h1 h2]
      constructor
      · rintro ⟨i0, i1, i2⟩
        refine ⟨i0, i1, (q i i0 i1).mpr ?_⟩
        rw [if_neg (by omega)]
        exact i2
      · rintro ⟨i0, i1, i2⟩
        have := (q i i0 i1).mp i2
        split at this
        · omega
        · exact ⟨i0, i1, this⟩
  refine ⟨v.n0, v.n1, by unfold joinR; rw [List.length_map]; exact lr, by unfold joinL; rw [List.length_set]; exact ll, by unfold joinM'; rw [List.length_set, List.length_set]; exact lm, ?_, ?_, mem', ?_, ?_⟩
  · intro i h0 h1
    rw [gR i h0 h1]
    have := v.rb i h0 h1
    unfold mp
    split
    · unfold fx; omega
    · exact this
  · intro i h0 h1
    have b := v.rb i h0 h1
    have r := v.rr i h0 h1
    rw [gR i h0 h1, mp_half]
    by_cases e : g R i / 2 = y / 2
    · rw [if_pos e, gR _ (by omega) (by omega), hm]
      unfold mp
      rw [if_neg (by omega)]
    · rw [if_neg e, gR _ (by omega) (by omega), r]
      unfold mp
      rw [if_neg (by omega)]
  · intro r h0 h1 h
    obtain ⟨h2, h3⟩ := root r h0 h1 h
    have nd : (gM (joinM' m y Ms) r).Nodup := by
      rw [gMs r h0 h1 h3]
      by_cases e : r = m / 2
      · rw [if_pos e, List.nodup_append]
        refine ⟨dm.1, dy.1, fun a ha b hb e2 => ?_⟩
        subst e2
        have h1 := (mm a).mp ha
        have h2 := (my a).mp hb
        omega
      · rw [if_neg e]
        exact (v.md r h0 h1 h2).1
    refine ⟨nd, ?_⟩
    have := pigeon n.toNat _ nd (fun x hx => by
      have h2 := (mem' r h0 h1 h x).mp hx
      omega)
    omega
  · intro r h0 h1 h
    obtain ⟨h2, h3⟩ := root r h0 h1 h
    have hf : ∀ x, RT (joinR m y R) (fx x 1) = fx (RT (joinR m y R) x) 1 := fun x => RT_flip
    suffices hs : LeastOf n (RT (joinR m y R)) (2 * r) (g (joinL m y L) r) by exact hs
    unfold joinL
    rw [g_set h0 (by omega)]
    by_cases e : r = m / 2
    · rw [if_pos (by omega)]
      have Lm := low_least v m0 m1
      have Ly := low_least v y0 y1
      unfold Least at Lm Ly
      rw [RT_even hm] at Lm
      rw [RT_even hy] at Ly
      generalize RT L m = a at *
      generalize RT L y = b at *
      have key : LeastOf n (RT (joinR m y R)) m (if b < a then b else a) := by
        have back : ∀ x, 0 ≤ x → x < 2 * n → (RT (joinR m y R) x = m ↔ (RT R x = m ∨ RT R x = y)) := fun x x0 x1 => by
          rw [joinR_RT v x0 x1]
          unfold mp fx
          split <;> omega
        have c : 0 ≤ (if b < a then b else a) ∧ (if b < a then b else a) < 2 * n := by split <;> omega
        refine ⟨c.1, c.2, (back _ c.1 c.2).mpr ?_, fun x x0 x1 hx => ?_⟩
        · split
          · exact .inr Ly.2.2.1
          · exact .inl Lm.2.2.1
        · rcases (back x x0 x1).mp hx with q | q
          · have := Lm.2.2.2 x x0 x1 q
            split <;> omega
          · have := Ly.2.2.2 x x0 x1 q
            split <;> omega
      generalize (if b < a then b else a) = c at key
      by_cases ev : m % 2 = 0
      · have e1 : fx c m = c := by unfold fx; omega
        have e2 : 2 * r = m := by omega
        rw [e1, e2]
        exact key
      · have e1 : fx c m = fx c 1 := by unfold fx; omega
        have e2 : 2 * r = fx m 1 := by unfold fx; omega
        rw [e1, e2]
        exact least_flip hf key
    · rw [if_neg (by omega)]
      obtain ⟨l0, l1, l2, l3⟩ := v.lo r h0 h1 h2
      have back : ∀ x, 0 ≤ x → x < 2 * n → (RT (joinR m y R) x = 2 * r ↔ RT R x = 2 * r) := fun x x0 x1 => by
        rw [joinR_RT v x0 x1]
        unfold mp fx
        split <;> omega
      exact ⟨l0, l1, (back _ l0 l1).mpr l2, fun x x0 x1 hx => l3 x x0 x1 ((back x x0 x1).mp hx)⟩
end

theorem at_ref {ks : List Nat} {i : Int} (h0 : 0 ≤ i) (h1 : i < ks.length) : atI (ks.map DV.ref) i = some (.ref (ks.getD i.toNat 0)) := at_map DV.ref ks 0 h0 h1
theorem wp_extR {k l : Nat} {xs ys : List DV} {st : Sto} {Q : PQ DV} {E : XQ} (h : st[k]? = some (.lst xs)) (h' : st[l]? = some (.lst ys)) (hl : xs.length + ys.length ≤ 16777216) : Wp (extendM (.ref k) [.ref l] st) Q E = Q .non (st.set k (.lst (xs ++ ys))) := by
  show Wp (match st[l]? with
    | some (.lst ys) => onL (.ref k) (fun xs => if xs.length + ys.length ≤ sizeLine then some (.non, xs ++ ys) else none) st
    | _ => .bad) Q E = _
  rw [h']
  show Wp (onL (.ref k) (fun xs => if xs.length + ys.length ≤ sizeLine then some (.non, xs ++ ys) else none) st) Q E = _
  unfold onL
  simp only [h]
  rw [if_pos (by rw [sl_eq]; exact hl)]
  rfl
theorem getD_at {ks : List Nat} {i : Int} (h0 : 0 ≤ i) (h1 : i < ks.length) : ks[i.toNat]? = some (ks.getD i.toNat 0) := by
  rw [List.getD_eq_getElem?_getD, List.getElem?_eq_getElem (show i.toNat < ks.length by omega)]
  rfl
/-- what a step on the classes leaves alone -/
def CFr (own : List Nat) (st st' : Sto) : Prop := st.length ≤ st'.length ∧ ∀ (j : Nat) (o : DO), j ∉ own → st[j]? = some o → st'[j]? = some o
theorem CFr.refl {own : List Nat} {st : Sto} : CFr own st st := ⟨Nat.le_refl _, fun _ _ _ h => h⟩
theorem CFr.trans {own own' : List Nat} {a b c : Sto} (h : CFr own a b) (h' : CFr own' b c) (hs : ∀ j, j ∈ own' → j < a.length → j ∈ own) : CFr own a c := ⟨Nat.le_trans h.1 h'.1, fun j o n e => h'.2 j o (fun z => n (hs j z (get_lt e))) (h.2 j o n e)⟩
theorem CFr.sub {own : List Nat} {a b : Sto} (h : Sub a b) : CFr own a b := ⟨h.len, fun j o _ e => h j o e⟩
theorem CFr.set {own : List Nat} {a b : Sto} {k : Nat} {o : DO} (h : CFr own a b) (hk : k ∈ own ∨ a.length ≤ k) : CFr own a (b.set k o) := ⟨by rw [List.length_set]; exact h.1, fun j o' n e => by
  have := get_lt e
  have : k ≠ j := by
    rcases hk with z | z
    · exact fun e => n (e ▸ z)
    · omega
  rw [List.getElem?_set_ne this]
  exact h.2 j o' n e⟩
theorem loop_val {R : List Int} {mv : List Int} {m y : Int} {i : Nat} {x : Int} (hx : mv[i]? = some x) (nd : mv.Nodup) : x ∉ mv.take i := by
  intro h
  have e := List.take_append_drop i mv
  rw [← e, List.nodup_append] at nd
  have hm : x ∈ mv.drop i := by
    have : (mv.drop i)[0]? = some x := by
      rw [List.getElem?_drop]
      exact hx
    exact List.mem_of_getElem? this
  exact nd.2.2 x h x hm rfl
section
variable {st : Sto} {k kr kl km : Nat} {ks : List Nat} {R L : List Int} {Ms : List (List Int)} {n : Int}
def JoinR (k kr kl km : Nat) (ks : List Nat) (R L : List Int) (Ms : List (List Int)) (n a b : Int) (st : Sto) : PQ DV := fun v st' =>
  ∃ (ks' : List Nat) (R' L' : List Int) (Ms' : List (List Int)), CLs st' k kr kl km ks' R' L' Ms' ∧ CInv n R' L' Ms' ∧ CFr (k :: kr :: kl :: km :: ks) st st' ∧ (∀ x ∈ ks', x ∈ ks ∨ st.length ≤ x) ∧
    ((RT R a / 2 = RT R b / 2 ∧ v = .bl (decide (RT R a = RT R b)) ∧ R' = R) ∨
     (RT R a / 2 ≠ RT R b / 2 ∧ v = .bl true ∧ ∃ m y, ((m = RT R a ∧ y = RT R b) ∨ (m = RT R b ∧ y = RT R a)) ∧ ∀ e, 0 ≤ e → e < 2 * n → RT R' e = mp m y (RT R e)))
theorem join_spec {a b : Int} (c : CLs st k kr kl km ks R L Ms) (v : CInv n R L Ms) (a0 : 0 ≤ a) (a1 : a < 2 * n) (b0 : 0 ≤ b) (b1 : b < 2 * n) : Wp (s_Classes_join [.ref k, .int a, .int b] st) (JoinR k kr kl km ks R L Ms n a b st) NX := by
  have lr := v.lr
  have ll := v.ll
  have lm := v.lm
  have n1 := v.n1
  have lk := c.lk
  unfold s_Classes_join
  simp (disch := omega) only [WZ, WR, wp_expr, wp_optD, wipeD, List.reduceReplicate, Nat.reduceSub, Int.reduceToNat, Int.reducePow, WY, tMeth_R c.o]
  refine (root_spec c v a0 a1).mono ?_
  rintro _ st ⟨rfl, rfl⟩
  simp (disch := omega) only [WZ, WR, wp_expr, wp_optD, wipeD, List.reduceReplicate, Nat.reduceSub, Int.reduceToNat, Int.reducePow, WY, tMeth_R c.o]
  refine (root_spec c v b0 b1).mono ?_
  rintro _ st ⟨rfl, rfl⟩
  obtain ⟨p0, p1, p2, p3⟩ := RT_b v a0 a1
  obtain ⟨q0, q1, q2, q3⟩ := RT_b v b0 b1
  simp (disch := omega) only [WZ, WR, wp_expr, wp_optD, wipeD, List.reduceReplicate, Nat.reduceSub, Int.reduceToNat, Int.reducePow, WY]
  refine Wp.mono (Q := fun fl st' => st' = st ∧ ((RT R a / 2 = RT R b / 2 ∧ fl = .rt (.bl (decide (RT R a = RT R b)))) ∨ (RT R a / 2 ≠ RT R b / 2 ∧ fl = .nx [some (.ref k), some (.int a), some (.int b), some (.int (RT R a)), some (.int (RT R b)), none, none]))) ?_ ?_
  · (try simp (disch := omega) only [WZ, WR, wp_if, wp_expr, wp_optD, wipeD, List.reduceReplicate, Nat.reduceSub, Int.reduceToNat, Int.reducePow, WY])
    split
    · rename_i h
      exact .inl h
    · rename_i h
      exact .inr h
  rintro fl st' ⟨rfl, ⟨h, rfl⟩ | ⟨hne, rfl⟩⟩
  · (try simp (disch := omega) only [WZ, WR, wp_if, wp_expr, wp_optD, wipeD, List.reduceReplicate, Nat.reduceSub, Int.reduceToNat, Int.reducePow, WY])
    exact ⟨ks, R, L, Ms, c, v, .refl, fun x hx => .inl hx, .inl ⟨h, rfl, rfl⟩⟩
  simp (disch := omega) only [WZ, WR, wp_expr, wp_optD, wipeD, List.reduceReplicate, Nat.reduceSub, Int.reduceToNat, Int.reducePow, WY]
  refine Wp.mono (Q := fun fl st2 => st2 = st' ∧ ∃ m y, ((m = RT R a ∧ y = RT R b) ∨ (m = RT R b ∧ y = RT R a)) ∧ fl = .nx [some (.ref k), some (.int a), some (.int b), some (.int m), some (.int y), none, none]) ?_ ?_
  · have ha := c.ms _ _ (getD_at (ks := ks) (i := RT R a / 2) (by omega) (by omega))
    have hb := c.ms _ _ (getD_at (ks := ks) (i := RT R b / 2) (by omega) (by omega))
    (try simp (disch := omega) only [WZ, WR, wp_if, wp_expr, wp_optD, wipeD, List.reduceReplicate, Nat.reduceSub, Int.reduceToNat, Int.reducePow, WY, tFld_R c.o, wp_ixR c.m, at_ref, wp_lenR ha, wp_lenR hb])
    split
    · exact ⟨_, _, .inr ⟨rfl, rfl⟩, rfl⟩
    · exact ⟨_, _, .inl ⟨rfl, rfl⟩, rfl⟩
  rintro fl st ⟨rfl, m, y, hmy, rfl⟩
  have m0 : 0 ≤ m := by rcases hmy with ⟨rfl, _⟩ | ⟨rfl, _⟩ <;> assumption
  have m1 : m < 2 * n := by rcases hmy with ⟨rfl, _⟩ | ⟨rfl, _⟩ <;> assumption
  have y0 : 0 ≤ y := by rcases hmy with ⟨_, rfl⟩ | ⟨_, rfl⟩ <;> assumption
  have y1 : y < 2 * n := by rcases hmy with ⟨_, rfl⟩ | ⟨_, rfl⟩ <;> assumption
  have gm : g R (m / 2) = 2 * (m / 2) := by rcases hmy with ⟨rfl, _⟩ | ⟨rfl, _⟩ <;> assumption
  have gy : g R (y / 2) = 2 * (y / 2) := by rcases hmy with ⟨_, rfl⟩ | ⟨_, rfl⟩ <;> assumption
  have hne2 : m / 2 ≠ y / 2 := by rcases hmy with ⟨rfl, rfl⟩ | ⟨rfl, rfl⟩ <;> omega
  have v' := join_inv v m0 m1 y0 y1 gm gy hne2
  -- the lows
  (try simp (disch := omega) only [WZ, WR, wp_if, wp_expr, wp_optD, wipeD, List.reduceReplicate, Nat.reduceSub, Int.reduceToNat, Int.reducePow, WY, tMeth_R c.o])
  refine (low_spec c v m0 m1).mono ?_
  rintro _ st ⟨rfl, rfl⟩
  (try simp (disch := omega) only [WZ, WR, wp_if, wp_expr, wp_optD, wipeD, List.reduceReplicate, Nat.reduceSub, Int.reduceToNat, Int.reducePow, WY, tMeth_R c.o])
  refine (low_spec c v y0 y1).mono ?_
  rintro _ st ⟨rfl, rfl⟩
  (try simp (disch := omega) only [WZ, WR, wp_if, wp_expr, wp_optD, wipeD, List.reduceReplicate, Nat.reduceSub, Int.reduceToNat, Int.reducePow, WY, xor_fx])
  refine tG2_sub ?_
  unfold ML.tSub
  (try simp (disch := omega) only [WZ, WR, wp_if, wp_expr, wp_optD, wipeD, List.reduceReplicate, Nat.reduceSub, Int.reduceToNat, Int.reducePow, WY, tFld_R c.o])
  rw [setM_R c.l (by omega) (by rw [List.length_map]; omega)]
  (try simp (disch := omega) only [WZ, WR, wp_if, wp_expr, wp_optD, wipeD, List.reduceReplicate, Nat.reduceSub, Int.reduceToNat, Int.reducePow, WY])
  obtain ⟨d1, d2, d3, d4, d5, d6⟩ := c.n1
  have hL : List.set (L.map DV.int) (m / 2).toNat (.int (fx (if RT L y < RT L m then RT L y else RT L m) m)) = (joinL m y L).map DV.int := by
    unfold joinL
    rw [List.map_set]
  rw [hL]
  have c1 : CLs (st.set kl (.lst ((joinL m y L).map DV.int))) k kr kl km ks R (joinL m y L) Ms := by
    refine ⟨?_, ?_, get_set c.l, ?_, c.lk, fun i x e => ?_, c.n1, c.n2, c.n3⟩
    · rw [List.getElem?_set_ne (by omega)]; exact c.o
    · rw [List.getElem?_set_ne (by omega)]; exact c.r
    · rw [List.getElem?_set_ne (by omega)]; exact c.m
    · have := c.n2 x (List.mem_of_getElem? e)
      rw [List.getElem?_set_ne (by omega)]
      exact c.ms i x e
  have f1 : CFr (k :: kr :: kl :: km :: ks) st (st.set kl (.lst ((joinL m y L).map DV.int))) := CFr.refl.set (.inl (by simp))
  generalize st.set kl (.lst ((joinL m y L).map DV.int)) = st1 at c1 f1
  have am := getD_at (ks := ks) (i := m / 2) (by omega) (by omega)
  have ay := getD_at (ks := ks) (i := y / 2) (by omega) (by omega)
  have lk' : (ks.length : Int) = n := by omega
  -- the loop
  (try simp (disch := omega) only [WZ, WR, wp_if, wp_expr, wp_optD, wipeD, List.reduceReplicate, Nat.reduceSub, Int.reduceToNat, Int.reducePow, WY, tFld_R c1.o, wp_ixR c1.m, at_ref])
  have hmy1 := c1.ms _ _ ay
  (try simp (disch := omega) only [WZ, WR, wp_if, wp_expr, wp_optD, wipeD, List.reduceReplicate, Nat.reduceSub, Int.reduceToNat, Int.reducePow, WY, tIy_R hmy1])
  have mdy := v.md (y / 2) (by omega) (by omega) gy
  have memy := v.mem (y / 2) (by omega) (by omega) gy
  have mdm := v.md (m / 2) (by omega) (by omega) gm
  generalize hx : ks.getD (m / 2).toNat 0 = xm at am
  generalize hy : ks.getD (y / 2).toNat 0 = xy at ay
  rw [hy] at hmy1
  have hmy1 : st1[xy]? = some (.lst ((gM Ms (y / 2)).map DV.int)) := hmy1
  show Wp (forL [(xy, DO.lst ((gM Ms (y / 2)).map DV.int))] (gNm 6) s_Classes_join_L1 ((gM Ms (y / 2)).map DV.int) _ _) _ _
  generalize hmv : gM Ms (y / 2) = mv at *
  refine for_rule (fun i ss st' => ∃ (o6 : Option DV) (Ri : List Int), ss = [some (.ref k), some (.int a), some (.int b), some (.int m), some (.int y), some (.ref xy), o6] ∧ CLs st' k kr kl km ks Ri (joinL m y L) Ms ∧ CFr (k :: kr :: kl :: km :: ks) st st' ∧ (Ri.length : Int) = n ∧ ∀ j, 0 ≤ j → j < n → g Ri j = if j ∈ mv.take i then fx (fx m y) (g R j) else g R j) ⟨none, R, rfl, c1, f1, lr, fun j _ _ => by simp⟩ (fun i ss st' hi hI => ?_) ?_ ?_
  · obtain ⟨_, _, rfl, c2, _⟩ := hI
    have h := c2.ms _ _ ay
    rw [show Ms.getD (y / 2).toNat [] = mv from hmv] at h
    exact okG_one h
  · rintro i x ss st2 hx ⟨o6, Ri, rfl, c2, f2, lRi, hRi⟩
    rw [List.getElem?_map] at hx
    cases hj : mv[i]? with
    | none => rw [hj] at hx; cases hx
    | some j =>
    rw [hj] at hx
    cases hx
    obtain ⟨j0, j1, j2⟩ := (memy j).mp (List.mem_of_getElem? hj)
    have jn := loop_val (R := R) (m := m) (y := y) hj mdy.1
    have gj := hRi j j0 j1
    rw [if_neg jn] at gj
    refine ⟨_, _, rfl, ?_⟩
    unfold s_Classes_join_L1
    (try simp (disch := omega) only [WZ, WR, wp_if, wp_expr, wp_optD, wipeD, List.reduceReplicate, Nat.reduceSub, Int.reduceToNat, Int.reducePow, WY, tFld_R c2.o, wp_ixR c2.r, xor_fx])
    refine tG2_sub ?_
    unfold ML.tSub
    (try simp (disch := omega) only [WZ, WR, wp_if, wp_expr, wp_optD, wipeD, List.reduceReplicate, Nat.reduceSub, Int.reduceToNat, Int.reducePow, WY, tFld_R c2.o])
    rw [setM_R c2.r j0 (by rw [List.length_map]; omega)]
    (try simp (disch := omega) only [WZ, WR, wp_if, wp_expr, wp_optD, wipeD, List.reduceReplicate, Nat.reduceSub, Int.reduceToNat, Int.reducePow, WY])
    have e1 : Ri.getD j.toNat 0 = g R j := gj
    rw [e1, ← List.map_set]
    refine ⟨_, Ri.set j.toNat (fx (fx m y) (g R j)), rfl, ?_, f2.set (.inl (by simp)), by rw [List.length_set]; exact lRi, fun i2 i0 i1 => ?_⟩
    · refine ⟨?_, get_set c2.r, ?_, ?_, c2.lk, fun i x e => ?_, c2.n1, c2.n2, c2.n3⟩
      · rw [List.getElem?_set_ne (by omega)]; exact c2.o
      · rw [List.getElem?_set_ne (by omega)]; exact c2.l
      · rw [List.getElem?_set_ne (by omega)]; exact c2.m
      · have := c2.n2 x (List.mem_of_getElem? e)
        rw [List.getElem?_set_ne (by omega)]
        exact c2.ms i x e
    · rw [g_set i0 (by omega), hRi i2 i0 i1, List.take_succ, hj]
      by_cases e : i2 = j
      · subst e
        rw [if_pos (by omega), if_pos (by simp)]
      · rw [if_neg (by omega)]
        have : i2 ∈ mv.take i ++ (some j).toList ↔ i2 ∈ mv.take i := by
          simp [e]
        by_cases q : i2 ∈ mv.take i
        · rw [if_pos q, if_pos (this.mpr q)]
        · rw [if_neg q, if_neg (fun z => q (this.mp z))]
  · rintro ss st2 ⟨o6, Ri, rfl, c2, f2, lRi, hRi⟩
    rw [List.length_map, List.take_length] at hRi
    have eR : Ri = joinR m y R := by
      unfold joinR
      refine List.ext_getElem? fun j => ?_
      by_cases hj : j < Ri.length
      · have h1 := hRi (j : Int) (by omega) (by omega)
        have h2 := memy (j : Int)
        unfold g at h1
        rw [List.getD_eq_getElem?_getD, List.getD_eq_getElem?_getD, Int.toNat_natCast, List.getElem?_eq_getElem hj, List.getElem?_eq_getElem (show j < R.length by omega)] at h1
        unfold g at h2
        rw [List.getD_eq_getElem?_getD, Int.toNat_natCast, List.getElem?_eq_getElem (show j < R.length by omega)] at h2
        simp only [Option.getD_some] at h1 h2
        rw [List.getElem?_map, List.getElem?_eq_getElem hj, List.getElem?_eq_getElem (show j < R.length by omega)]
        show some Ri[j] = some (mp m y R[j])
        rw [h1]
        unfold mp
        by_cases q : R[j] / 2 = y / 2
        · rw [if_pos q, if_pos (h2.mpr ⟨by omega, by omega, q⟩)]
        · rw [if_neg q, if_neg (fun z => q (h2.mp z).2.2)]
      · rw [List.getElem?_eq_none (by omega), List.getElem?_eq_none (by rw [List.length_map]; omega)]
    subst eR
    have hym := c2.ms _ _ ay
    have hmm := c2.ms _ _ am
    rw [show Ms.getD (y / 2).toNat [] = mv from hmv] at hym
    have hmm : st2[xm]? = some (.lst ((gM Ms (m / 2)).map DV.int)) := hmm
    have hle : ((gM Ms (m / 2)).map DV.int).length + (mv.map DV.int).length ≤ 16777216 := by
      rw [List.length_map, List.length_map]
      omega
    (try simp (disch := omega) only [WZ, WR, wp_if, wp_expr, wp_optD, wipeD, List.reduceReplicate, Nat.reduceSub, Int.reduceToNat, Int.reducePow, WY, tFld_R c2.o, wp_ixR c2.m, at_ref])
    rw [hx]
    (try simp (disch := omega) only [WZ, WR, wp_if, wp_expr, wp_optD, wipeD, List.reduceReplicate, Nat.reduceSub, Int.reduceToNat, Int.reducePow, WY, tMt_R hmm, wp_extR hmm hym hle])
    have xne : xm ≠ xy := fun e => by
      subst e
      have := c2.n3 _ _ _ am ay
      omega
    obtain ⟨x1, x2, x3, x4⟩ := c2.n2 xm (List.mem_of_getElem? am)
    obtain ⟨y1', y2', y3', y4'⟩ := c2.n2 xy (List.mem_of_getElem? ay)
    rw [← List.map_append]
    have c3 : CLs (st2.set xm (.lst ((gM Ms (m / 2) ++ mv).map DV.int))) k kr kl km ks (joinR m y R) (joinL m y L) (Ms.set (m / 2).toNat (gM Ms (m / 2) ++ mv)) := by
      refine ⟨?_, ?_, ?_, ?_, by rw [List.length_set]; exact c2.lk, fun i x e => ?_, c2.n1, c2.n2, c2.n3⟩
      · rw [List.getElem?_set_ne (by omega)]; exact c2.o
      · rw [List.getElem?_set_ne (by omega)]; exact c2.r
      · rw [List.getElem?_set_ne (by omega)]; exact c2.l
      · rw [List.getElem?_set_ne (by omega)]; exact c2.m
      · by_cases q : xm = x
        · subst q
          have := c2.n3 _ _ _ e am
          subst this
          rw [get_set hmm, List.getD_eq_getElem?_getD, List.getElem?_set_self (by omega)]
          rfl
        · rw [List.getElem?_set_ne q]
          have ni : i ≠ (m / 2).toNat := fun z => by
            subst z
            rw [am] at e
            exact q (Option.some.inj e)
          have := c2.ms i x e
          rw [List.getD_eq_getElem?_getD] at this ⊢
          rw [List.getElem?_set_ne (Ne.symm ni)]
          exact this
    have f3 : CFr (k :: kr :: kl :: km :: ks) st (st2.set xm (.lst ((gM Ms (m / 2) ++ mv).map DV.int))) := f2.set (.inl (by have := List.mem_of_getElem? am; simp [this]))
    generalize st2.set xm (.lst ((gM Ms (m / 2) ++ mv).map DV.int)) = st3 at c3 f3
    refine wp_allocN fun st4 x4' sub4 l4 m4 h4 => ?_
    have c4 := c3.mono sub4
    refine tG2_sub ?_
    unfold ML.tSub
    (try simp (disch := omega) only [WZ, WR, wp_if, wp_expr, wp_optD, wipeD, List.reduceReplicate, Nat.reduceSub, Int.reduceToNat, Int.reducePow, WY, tFld_R c4.o])
    rw [setM_R c4.m (by omega) (by rw [List.length_map]; omega)]
    (try simp (disch := omega) only [WZ, WR, wp_if, wp_expr, wp_optD, wipeD, List.reduceReplicate, Nat.reduceSub, Int.reduceToNat, Int.reducePow, WY])
    have kk := get_lt c3.o
    have kkr := get_lt c3.r
    have kkl := get_lt c3.l
    have kkm := get_lt c3.m
    have kks : ∀ x ∈ ks, x < st3.length := fun x hx => by
      obtain ⟨i, hi⟩ := List.getElem?_of_mem hx
      exact get_lt (c3.ms i x hi)
    rw [← List.map_set]
    refine ⟨ks.set (y / 2).toNat x4', joinR m y R, joinL m y L, joinM' m y Ms, ?_, v', ?_, fun x hx => ?_, .inr ⟨hne, rfl, m, y, hmy, fun e e0 e1 => joinR_RT v e0 e1⟩⟩
    · have hms : joinM' m y Ms = (Ms.set (m / 2).toNat (gM Ms (m / 2) ++ mv)).set (y / 2).toNat [] := by
        unfold joinM'
        rw [hmv]
      rw [hms]
      have gs : ∀ (i : Nat) (x : Nat), (ks.set (y / 2).toNat x4')[i]? = some x → (i = (y / 2).toNat ∧ x = x4') ∨ (i ≠ (y / 2).toNat ∧ ks[i]? = some x) := fun i x e => by
        by_cases q : i = (y / 2).toNat
        · subst q
          rw [List.getElem?_set_self (by omega)] at e
          exact .inl ⟨rfl, (Option.some.inj e).symm⟩
        · rw [List.getElem?_set_ne (Ne.symm q)] at e
          exact .inr ⟨q, e⟩
      refine ⟨?_, ?_, ?_, get_set c4.m, by rw [List.length_set, List.length_set]; exact c3.lk, fun i x e => ?_, c3.n1, fun x hx => ?_, fun i j x e1 e2 => ?_⟩
      · rw [List.getElem?_set_ne (by omega)]; exact c4.o
      · rw [List.getElem?_set_ne (by omega)]; exact c4.r
      · rw [List.getElem?_set_ne (by omega)]; exact c4.l
      · rcases gs i x e with ⟨rfl, rfl⟩ | ⟨q, e⟩
        · rw [List.getElem?_set_ne (by omega), List.getD_eq_getElem?_getD, List.getElem?_set_self (by rw [List.length_set]; omega)]
          exact h4
        · have := c4.n2 x (List.mem_of_getElem? e)
          have h := c4.ms i x e
          rw [List.getElem?_set_ne (by omega)]
          rw [List.getD_eq_getElem?_getD] at h ⊢
          rw [List.getElem?_set_ne (Ne.symm q)]
          exact h
      · obtain ⟨i, hi⟩ := List.getElem?_of_mem hx
        rcases gs i x hi with ⟨_, rfl⟩ | ⟨_, e⟩
        · omega
        · exact c3.n2 x (List.mem_of_getElem? e)
      · rcases gs i x e1 with ⟨q1, r1⟩ | ⟨q1, r1⟩ <;> rcases gs j x e2 with ⟨q2, r2⟩ | ⟨q2, r2⟩
        · omega
        · have := kks x (List.mem_of_getElem? r2)
          omega
        · have := kks x (List.mem_of_getElem? r1)
          omega
        · exact c3.n3 i j x r1 r2
    · have f4 : CFr (k :: kr :: kl :: km :: ks) st st4 := f3.trans (own' := []) (.sub sub4) (fun j h _ => by simp at h)
      exact f4.set (.inl (by simp))
    · rcases List.mem_or_eq_of_mem_set hx with z | z
      · exact .inl z
      · right
        have := f3.1
        omega
end

def iota2 (n : Nat) : List Int := (List.range n).map fun (i : Nat) => 2 * (i : Int)
def singles (n : Nat) : List (List Int) := (List.range n).map fun (i : Nat) => [(i : Int)]
theorem g_iota {n : Nat} {i : Int} (h0 : 0 ≤ i) (h1 : i < n) : g (iota2 n) i = 2 * i := by
  obtain ⟨j, rfl⟩ := Int.eq_ofNat_of_zero_le h0
  unfold g iota2
  rw [Int.toNat_natCast, List.getD_eq_getElem?_getD, List.getElem?_map, List.getElem?_range (by omega)]
  rfl
theorem gM_singles {n : Nat} {i : Int} (h0 : 0 ≤ i) (h1 : i < n) : gM (singles n) i = [i] := by
  obtain ⟨j, rfl⟩ := Int.eq_ofNat_of_zero_le h0
  unfold gM singles
  rw [Int.toNat_natCast, List.getD_eq_getElem?_getD, List.getElem?_map, List.getElem?_range (by omega)]
  rfl
theorem RT_iota {n : Nat} {e : Int} (h0 : 0 ≤ e) (h1 : e < 2 * n) : RT (iota2 n) e = e := by
  unfold RT
  rw [g_iota (by omega) (by omega)]
  unfold fx
  omega
theorem init_inv {n : Nat} (h : n ≤ 5000) : CInv n (iota2 n) (iota2 n) (singles n) := by
  refine ⟨by omega, by omega, by simp [iota2], by simp [iota2], by simp [singles], fun i h0 h1 => by rw [g_iota h0 h1]; omega, fun i h0 h1 => ?_, fun r h0 h1 _ i => ?_, fun r h0 h1 _ => ?_, fun r h0 h1 _ => ?_⟩
  · rw [g_iota h0 h1, g_iota (by omega) (by omega)]
  · rw [gM_singles h0 h1, List.mem_singleton]
    constructor
    · rintro rfl
      exact ⟨h0, h1, by rw [g_iota h0 h1]; omega⟩
    · rintro ⟨i0, i1, i2⟩
      rw [g_iota i0 i1] at i2
      omega
  · rw [gM_singles h0 h1]
    exact ⟨by simp, by simp; omega⟩
  · rw [g_iota h0 h1]
    refine ⟨by omega, by omega, RT_iota (by omega) (by omega), fun e e0 e1 h => ?_⟩
    rw [RT_iota e0 e1] at h
    omega
theorem init_spec {k n : Nat} {st : Sto} (hk : st[k]? = some (.ins "Classes" lay_Classes [])) (hn : n ≤ 5000) : Wp (s_Classes_init [.ref k, .int (n : Int)] st) (fun v st' => v = .non ∧ ∃ kr kl km ks, CLs st' k kr kl km ks (iota2 n) (iota2 n) (singles n) ∧ CFr [k] st st' ∧ st.length ≤ kr ∧ st.length ≤ kl ∧ st.length ≤ km ∧ ∀ x ∈ ks, st.length ≤ x) NX := by
  have kl0 := get_lt hk
  unfold s_Classes_init
  (try simp (disch := omega) only [WZ, WR, wp_if, wp_expr, wp_optD, wipeD, List.reduceReplicate, Nat.reduceSub, Int.reduceToNat, Int.reducePow, WY])
  refine lcn_rgG DV.int (fun i => 2 * (i : Int)) (fun i st' hi sub => ⟨_, rfl, ?_⟩) (fun _ _ => okG_nil) fun st1 kr sub1 l1 m1 h1 => ?_
  · (try simp (disch := omega) only [WZ, WR, wp_if, wp_expr, wp_optD, wipeD, List.reduceReplicate, Nat.reduceSub, Int.reduceToNat, Int.reducePow, WY])
    exact .refl
  have hk1 := sub1 _ _ hk
  (try simp (disch := omega) only [WZ, WR, wp_if, wp_expr, wp_optD, wipeD, List.reduceReplicate, Nat.reduceSub, Int.reduceToNat, Int.reducePow, WY, tSfd_R hk1 (rfl : putI 0 (.ref kr) [] = some [.ref kr])])
  have f1 : CFr [k] st (st1.set k (.ins "Classes" lay_Classes [.ref kr])) := (CFr.sub sub1).set (.inl (by simp))
  have h1' : (st1.set k (.ins "Classes" lay_Classes [.ref kr]))[kr]? = some (.lst ((iota2 n).map DV.int)) := by
    rw [List.getElem?_set_ne (by omega)]; exact h1
  have hk2 := get_set (o' := .ins "Classes" lay_Classes [.ref kr]) hk1
  have ll1 : st1.length ≤ (st1.set k (.ins "Classes" lay_Classes [.ref kr])).length := by rw [List.length_set]; exact Nat.le_refl _
  generalize st1.set k (.ins "Classes" lay_Classes [.ref kr]) = st2 at *
  refine lcn_rgG DV.int (fun i => 2 * (i : Int)) (fun i st' hi sub => ⟨_, rfl, ?_⟩) (fun _ _ => okG_nil) fun st3 kl sub3 l3 m3 h3 => ?_
  · (try simp (disch := omega) only [WZ, WR, wp_if, wp_expr, wp_optD, wipeD, List.reduceReplicate, Nat.reduceSub, Int.reduceToNat, Int.reducePow, WY])
    exact .refl
  have hk3 := sub3 _ _ hk2
  (try simp (disch := omega) only [WZ, WR, wp_if, wp_expr, wp_optD, wipeD, List.reduceReplicate, Nat.reduceSub, Int.reduceToNat, Int.reducePow, WY, tSfd_R hk3 (rfl : putI 1 (.ref kl) [.ref kr] = some [.ref kr, .ref kl])])
  have f3 : CFr [k] st (st3.set k (.ins "Classes" lay_Classes [.ref kr, .ref kl])) := (f1.trans (.sub (own := []) sub3) (fun j h _ => by simp at h)).set (.inl (by simp))
  have h1'' : (st3.set k (.ins "Classes" lay_Classes [.ref kr, .ref kl]))[kr]? = some (.lst ((iota2 n).map DV.int)) := by
    rw [List.getElem?_set_ne (by omega)]; exact sub3 _ _ h1'
  have h3' : (st3.set k (.ins "Classes" lay_Classes [.ref kr, .ref kl]))[kl]? = some (.lst ((iota2 n).map DV.int)) := by
    have := f1.1
    rw [List.getElem?_set_ne (by omega)]; exact h3
  have hk4 := get_set (o' := .ins "Classes" lay_Classes [.ref kr, .ref kl]) hk3
  have ll3 : st3.length ≤ (st3.set k (.ins "Classes" lay_Classes [.ref kr, .ref kl])).length := by rw [List.length_set]; exact Nat.le_refl _
  generalize st3.set k (.ins "Classes" lay_Classes [.ref kr, .ref kl]) = st4 at *
  refine lcn_rowsR (fun i => [(i : Int)]) (fun i st' hi sub => ⟨_, rfl, ?_⟩) (fun _ _ => okG_nil) fun st5 km qs sub5 l5 m5 hR hqs => ?_
  · (try simp (disch := omega) only [WZ, WR, wp_if, wp_expr, wp_optD, wipeD, List.reduceReplicate, Nat.reduceSub, Int.reduceToNat, Int.reducePow, WY, wp_alloc])
    exact ⟨.app, _, rfl, Nat.le_refl _, get_new⟩
  have hk5 := sub5 _ _ hk4
  (try simp (disch := omega) only [WZ, WR, wp_if, wp_expr, wp_optD, wipeD, List.reduceReplicate, Nat.reduceSub, Int.reduceToNat, Int.reducePow, WY, tSfd_R hk5 (rfl : putI 2 (.ref km) [.ref kr, .ref kl] = some [.ref kr, .ref kl, .ref km])])
  have q1 := f1.1
  have q3 := f3.1
  have hr5 := sub5 _ _ h1''
  have hl5 := sub5 _ _ h3'
  have nk1 := get_lt h1'
  have nk3 := get_lt h3'
  have at_q : ∀ (i x : Nat), (qs.map (·.1))[i]? = some x → st4.length ≤ x ∧ x ≠ km ∧ st5[x]? = some (.lst [.int (i : Int)]) ∧ (singles n).getD i [] = [(i : Int)] := fun i x e => by
    rw [List.getElem?_map] at e
    cases hq : qs[i]? with
    | none => rw [hq] at e; cases e
    | some q =>
      rw [hq] at e
      cases e
      obtain ⟨r1, r2, r3⟩ := hR.ob q (List.mem_of_getElem? hq)
      have e2 : (qs.map (·.2))[i]? = some q.2 := by rw [List.getElem?_map, hq]; rfl
      have hi : i < n := by
        have := (List.getElem?_eq_some_iff.mp hq).1
        have h2 : (qs.map (·.2)).length = n := by rw [hqs]; simp
        rw [List.length_map] at h2
        omega
      have e3 : ((List.range n).map fun (i : Nat) => [(i : Int)])[i]? = some [(i : Int)] := by rw [List.getElem?_map, List.getElem?_range hi]; rfl
      rw [hqs, e3] at e2
      have e4 : q.2 = [(i : Int)] := (Option.some.inj e2).symm
      rw [e4] at r3
      refine ⟨r1, r2, r3, ?_⟩
      unfold singles
      rw [List.getD_eq_getElem?_getD, e3]
      rfl
  refine ⟨kr, kl, km, qs.map (·.1), ⟨get_set hk5, ?_, ?_, ?_, ?_, fun i x e => ?_, ⟨by omega, by omega, by omega, by omega, by omega, by omega⟩, fun x hx => ?_, fun i j x e1 e2 => ?_⟩, (f3.trans (.sub (own := []) sub5) (fun j h _ => by simp at h)).set (.inl (by simp)), by omega, by omega, by omega, fun x hx => ?_⟩
  · rw [List.getElem?_set_ne (by omega)]; exact hr5
  · rw [List.getElem?_set_ne (by omega)]; exact hl5
  · rw [List.getElem?_set_ne (by omega), List.map_map]
    exact hR.at_
  · have : (qs.map (·.2)).length = n := by rw [hqs]; simp
    rw [List.length_map] at this ⊢
    simp [singles, this]
  · obtain ⟨r1, r2, r3, r4⟩ := at_q i x e
    rw [List.getElem?_set_ne (by omega), r3, r4]
    rfl
  · obtain ⟨i, hi⟩ := List.getElem?_of_mem hx
    obtain ⟨r1, r2, r3, r4⟩ := at_q i x hi
    omega
  · obtain ⟨r1, r2, r3, r4⟩ := at_q i x e1
    obtain ⟨s1, s2, s3, s4⟩ := at_q j x e2
    rw [r3] at s3
    injection s3 with s3
    injection s3 with s3
    injection s3 with s3
    injection s3 with s3
    omega
  · obtain ⟨i, hi⟩ := List.getElem?_of_mem hx
    obtain ⟨r1, r2, r3, r4⟩ := at_q i x hi
    omega
theorem CLs.fr {own : List Nat} {st st' : Sto} {k kr kl km : Nat} {ks : List Nat} {R L : List Int} {Ms : List (List Int)} (h : CLs st k kr kl km ks R L Ms) (f : CFr own st st') (hk : ∀ j ∈ own, j ∉ k :: kr :: kl :: km :: ks) : CLs st' k kr kl km ks R L Ms := by
  have nn : ∀ j, j ∈ k :: kr :: kl :: km :: ks → j ∉ own := fun j h1 h2 => hk j h2 h1
  refine ⟨f.2 _ _ (nn _ (by simp)) h.o, f.2 _ _ (nn _ (by simp)) h.r, f.2 _ _ (nn _ (by simp)) h.l, f.2 _ _ (nn _ (by simp)) h.m, h.lk, fun i x e => f.2 _ _ (nn _ (by have := List.mem_of_getElem? e; simp [this])) (h.ms i x e), h.n1, h.n2, h.n3⟩
theorem CLs.lt {st : Sto} {k kr kl km : Nat} {ks : List Nat} {R L : List Int} {Ms : List (List Int)} (h : CLs st k kr kl km ks R L Ms) : ∀ j ∈ k :: kr :: kl :: km :: ks, j < st.length := fun j hj => by
  simp only [List.mem_cons] at hj
  rcases hj with rfl | rfl | rfl | rfl | hj
  · exact get_lt h.o
  · exact get_lt h.r
  · exact get_lt h.l
  · exact get_lt h.m
  · obtain ⟨i, hi⟩ := List.getElem?_of_mem hj
    exact get_lt (h.ms i j hi)
theorem RT_fx {R : List Int} {e s : Int} : RT R (fx e s) = fx (RT R e) s := by
  unfold RT
  have : fx e s / 2 = e / 2 := by unfold fx; omega
  rw [this]
  unfold fx
  omega
theorem ixor1 (e : Int) : Builtin.bitXor e 1 = fx e 1 := by
  have := xor_fx e 1
  rw [bitAnd_m1] at this
  exact this
section
variable {st : Sto} {k kr kl km : Nat} {ks : List Nat} {R L : List Int} {Ms : List (List Int)} {n : Int}
theorem Least.uniq {e m m' : Int} (h : Least n R e m) (h' : Least n R e m') : m = m' := by
  have a := h.2.2.2 m' h'.1 h'.2.1 h'.2.2.1
  have b := h'.2.2.2 m h.1 h.2.1 h.2.2.1
  omega
theorem mp_y {m y : Int} : mp m y y = m := by
  unfold mp
  rw [if_pos rfl]
  unfold fx
  omega
end

theorem fx_one (e : Int) : fx e 1 = if e % 2 = 0 then e + 1 else e - 1 := by
  unfold fx
  split <;> omega
/-- least ends: what a step needs of them -/
structure LS (n : Int) (ls : Int → Int) : Prop where
  b : ∀ e, 0 ≤ e → e < 2 * n → 0 ≤ ls e ∧ ls e ≤ e
  idem : ∀ e, 0 ≤ e → e < 2 * n → ls (ls e) = ls e
  flip : ∀ e, 0 ≤ e → e < 2 * n → ls (fx e 1) = fx (ls e) 1
theorem LS.half {n : Int} {ls : Int → Int} (h : LS n ls) {e : Int} (h0 : 0 ≤ e) (h1 : e < 2 * n) : ls (2 * (e / 2)) / 2 = ls e / 2 ∧ ((ls (2 * (e / 2)) < 2) = (ls e < 2)) := by
  by_cases q : e % 2 = 0
  · have : 2 * (e / 2) = e := by omega
    rw [this]
    exact ⟨rfl, rfl⟩
  · have e1 : e = fx (2 * (e / 2)) 1 := by
      rw [fx_one]
      split <;> omega
    have f := h.flip (2 * (e / 2)) (by omega) (by omega)
    rw [← e1] at f
    have hb := h.b (2 * (e / 2)) (by omega) (by omega)
    rw [f, fx_one]
    refine ⟨?_, ?_⟩
    · split <;> omega
    · simp only [eq_iff_iff]
      split <;> omega
/-- the place of a knot among the leaves' least ends -/
def pl (lv : List Int) (q : Int) : Option Nat := lv.findIdx? fun v => decide (v / 2 = q)
/-- it is neither known nor a leaf's -/
def Un (ls : Int → Int) (lv : List Int) (e : Int) : Prop := 2 ≤ ls e ∧ pl lv (ls e / 2) = none
structure Alg (V : Type) where
  lo : V
  hi : V
  leaf : Nat → Bool → V
  neg : V → Option V
  cj : Option V → Option V → Option V
section
variable {V : Type} (A : Alg V) (ls : Int → Int) (lv : List Int)
def ev (K : List (Option V)) (e : Int) : Option V :=
  if ls e < 1 then some A.lo else if ls e < 2 then some A.hi else match pl lv (ls e / 2) with
  | some k => some (A.leaf k (decide ((ls e - lv.getD k 0) % 2 ≠ 0)))
  | none => if e % 2 = 0 then K.getD (e / 2).toNat none else (K.getD (e / 2).toNat none).bind A.neg
/-- all knots' values, gate by gate -/
def evs (m : Nat) (G : List (Int × Int)) : Nat → List (Option V)
  | 0 => List.replicate m none
  | i + 1 => evs m G i ++ [A.cj (ev A ls lv (evs m G i) (G.getD i (0, 0)).1) (ev A ls lv (evs m G i) (G.getD i (0, 0)).2)]
theorem evs_len (m : Nat) (G : List (Int × Int)) : ∀ i, (evs A ls lv m G i).length = m + i
  | 0 => by rw [evs, List.length_replicate, Nat.add_zero]
  | i + 1 => by rw [evs, List.length_append, evs_len m G i]; rfl
theorem evs_pre (m : Nat) (G : List (Int × Int)) {i j : Nat} (h : i ≤ j) {k : Nat} (hk : k < m + i) : (evs A ls lv m G j).getD k none = (evs A ls lv m G i).getD k none := by
  induction j with
  | zero =>
    have : i = 0 := by omega
    subst this
    rfl
  | succ j ih =>
    by_cases q : i = j + 1
    · subst q; rfl
    · have hl := evs_len A ls lv m G j
      rw [evs, List.getD_eq_getElem?_getD, List.getElem?_append_left (by omega), ← List.getD_eq_getElem?_getD]
      exact ih (by omega)
/-- the value of a gate's knot -/
theorem evs_gate (m : Nat) (G : List (Int × Int)) {i j : Nat} (h : i < j) : (evs A ls lv m G j).getD (m + i) none = A.cj (ev A ls lv (evs A ls lv m G i) (G.getD i (0, 0)).1) (ev A ls lv (evs A ls lv m G i) (G.getD i (0, 0)).2) := by
  rw [evs_pre A ls lv m G (i := i + 1) (by omega) (by omega), evs]
  have hl := evs_len A ls lv m G i
  rw [List.getD_eq_getElem?_getD, List.getElem?_append_right (by omega), hl, Nat.sub_self]
  rfl
theorem evs_low (m : Nat) (G : List (Int × Int)) {j k : Nat} (h : k < m) : (evs A ls lv m G j).getD k none = none := by
  rw [evs_pre A ls lv m G (i := 0) (by omega) (by omega), evs]
  simp [List.getD, List.getElem?_replicate, h]
/-- what an end is, by its knot alone -/
theorem ev_congr {K K' : List (Option V)} {e : Int} (h : Un ls lv e → K.getD (e / 2).toNat none = K'.getD (e / 2).toNat none) : ev A ls lv K e = ev A ls lv K' e := by
  unfold ev
  split
  · rfl
  split
  · rfl
  rename_i h1 h2
  split
  · rfl
  · rename_i hp
    rw [h ⟨by omega, hp⟩]
end
/-- gates by lesser ends -/
def GV (m : Nat) (G : List (Int × Int)) : Prop := ∀ (i : Nat) (p : Int × Int), G[i]? = some p → 0 ≤ p.1 ∧ p.1 < 2 * ((m + i : Nat) : Int) ∧ 0 ≤ p.2 ∧ p.2 < 2 * ((m + i : Nat) : Int)
/-- the gates that are asked for -/
structure Cone (ls : Int → Int) (lv : List Int) (m : Nat) (G : List (Int × Int)) (es : List Int) (S : List Int) : Prop where
  srt : S.Pairwise (· < ·)
  ok : ∀ k ∈ S, (m : Int) ≤ k ∧ k < (m + G.length : Nat) ∧ Un ls lv (2 * k)
  top : ∀ e ∈ es, (m : Int) ≤ e / 2 → Un ls lv (2 * (e / 2)) → e / 2 ∈ S
  cl : ∀ k ∈ S, ∀ e, e = (G.getD (k - m).toNat (0, 0)).1 ∨ e = (G.getD (k - m).toNat (0, 0)).2 → (m : Int) ≤ e / 2 → Un ls lv (2 * (e / 2)) → e / 2 ∈ S
theorem un_half {n : Int} {ls : Int → Int} {lv : List Int} (h : LS n ls) {e : Int} (h0 : 0 ≤ e) (h1 : e < 2 * n) : Un ls lv (2 * (e / 2)) = Un ls lv e := by
  obtain ⟨a, b⟩ := h.half h0 h1
  unfold Un
  rw [a]
  simp only [eq_iff_iff] at b ⊢
  constructor
  · rintro ⟨x, y⟩
    exact ⟨by omega, y⟩
  · rintro ⟨x, y⟩
    exact ⟨by omega, y⟩

/-- a Classes object at k, its roots f, its least ends ls -/
structure CC (st : Sto) (k : Nat) (n : Int) (R L : List Int) : Prop where
  ex : ∃ kr kl km ks Ms, CLs st k kr kl km ks R L Ms ∧ CInv n R L Ms
def lsf (R L : List Int) (e : Int) : Int := RT L (RT R e)
theorem CC.mono {st st' : Sto} {k : Nat} {n : Int} {R L : List Int} (h : CC st k n R L) (s : Sub st st') : CC st' k n R L := by
  obtain ⟨kr, kl, km, ks, Ms, c, v⟩ := h.ex
  exact ⟨kr, kl, km, ks, Ms, c.mono s, v⟩
section
variable {st : Sto} {k : Nat} {n : Int} {R L : List Int} {e : Int}
theorem CC.least (h : CC st k n R L) (h0 : 0 ≤ e) (h1 : e < 2 * n) : Wp (s_Classes_least [.ref k, .int e] st) (fun v st' => st = st' ∧ v = .int (lsf R L e)) NX := by
  obtain ⟨kr, kl, km, ks, Ms, c, v⟩ := h.ex
  refine (least_spec c v h0 h1).mono ?_
  rintro _ _ ⟨rfl, m, rfl, hm⟩
  exact ⟨rfl, by rw [hm.uniq (low_least v h0 h1)]; rfl⟩
theorem CC.spec (h : CC st k n R L) (h0 : 0 ≤ e) (h1 : e < 2 * n) : Least n R e (lsf R L e) := by
  obtain ⟨kr, kl, km, ks, Ms, c, v⟩ := h.ex
  exact low_least v h0 h1
theorem CC.meth (h : CC st k n R L) : ∃ vs, st[k]? = some (.ins "Classes" lay_Classes vs) := by
  obtain ⟨kr, kl, km, ks, Ms, c, v⟩ := h.ex
  exact ⟨_, c.o⟩
theorem CC.n0 (h : CC st k n R L) : 0 ≤ n ∧ n ≤ 5000 := by
  obtain ⟨kr, kl, km, ks, Ms, c, v⟩ := h.ex
  exact ⟨v.n0, v.n1⟩
theorem fxb (h0 : 0 ≤ e) (h1 : e < 2 * n) : 0 ≤ fx e 1 ∧ fx e 1 < 2 * n := by
  rw [fx_one]
  split <;> omega
theorem fx_fx (e : Int) : fx (fx e 1) 1 = e := by
  unfold fx
  omega
theorem CC.ls (h : CC st k n R L) : LS n (lsf R L) := by
  have b : ∀ e, 0 ≤ e → e < 2 * n → 0 ≤ lsf R L e ∧ lsf R L e ≤ e := fun e h0 h1 => by
    have l := h.spec h0 h1
    exact ⟨l.1, l.2.2.2 e h0 h1 rfl⟩
  refine ⟨b, fun e h0 h1 => ?_, fun e h0 h1 => ?_⟩
  · obtain ⟨a0, a1⟩ := b e h0 h1
    have l := h.spec h0 h1
    have l2 := h.spec (e := lsf R L e) a0 (by omega)
    obtain ⟨c0, c1⟩ := b (lsf R L e) a0 (by omega)
    have := l.2.2.2 _ l2.1 l2.2.1 (l2.2.2.1.trans l.2.2.1)
    omega
  · obtain ⟨f0, f1⟩ := fxb h0 h1
    have l := h.spec h0 h1
    have l2 := h.spec f0 f1
    refine (Least.uniq l2 ?_).symm ▸ rfl
    obtain ⟨a0, a1⟩ := fxb l.1 l.2.1
    refine ⟨a0, a1, by rw [RT_flip, l.2.2.1, RT_flip], fun x x0 x1 hx => ?_⟩
    obtain ⟨y0, y1⟩ := fxb x0 x1
    have hy : RT R (fx x 1) = RT R e := by rw [RT_flip, hx, RT_flip, fx_fx]
    have q := l.2.2.2 _ y0 y1 hy
    have hne : x ≠ lsf R L e := fun z => by
      rw [z, l.2.2.1, RT_flip, fx_one] at hx
      split at hx <;> omega
    rw [fx_one] at q ⊢
    split at q <;> split <;> omega
end

/-- the leaves' least ends by their knots -/
def PLD (st : Sto) (kp : Nat) (lv : List Int) : Prop := ∃ kvs, st[kp]? = some (.dic kvs) ∧ KI kvs ∧ ∀ q : Int, hGet kvs (.int q) = (pl lv q).map fun i => DV.tup [.int (i : Nat), .int (lv.getD i 0)]
theorem PLD.mono {st st' : Sto} {kp : Nat} {lv : List Int} (h : PLD st kp lv) (s : Sub st st') : PLD st' kp lv := by
  obtain ⟨kvs, a, b⟩ := h
  exact ⟨kvs, s _ _ a, b⟩
theorem pl_app {lv : List Int} {v q : Int} : pl (lv ++ [v]) q = match pl lv q with
  | some i => some i
  | none => if v / 2 = q then some lv.length else none := by
  unfold pl
  rw [List.findIdx?_append]
  cases lv.findIdx? (fun v => decide (v / 2 = q)) with
  | some i => rfl
  | none =>
    simp only [Option.none_or, List.findIdx?_cons, List.findIdx?_nil]
    by_cases h : v / 2 = q
    · simp [h]
    · simp [h]
theorem pl_lt {lv : List Int} {q : Int} {i : Nat} (h : pl lv q = some i) : i < lv.length := by
  unfold pl at h
  rw [List.findIdx?_eq_some_iff_getElem] at h
  exact h.1
theorem pl_at {lv : List Int} {q : Int} {i : Nat} (h : pl lv q = some i) : lv.getD i 0 / 2 = q := by
  unfold pl at h
  rw [List.findIdx?_eq_some_iff_getElem] at h
  obtain ⟨hi, e, _⟩ := h
  have e := of_decide_eq_true e
  rw [List.getD_eq_getElem?_getD, List.getElem?_eq_getElem hi]
  exact e
theorem pl_none {lv : List Int} {q : Int} : pl lv q = none ↔ ∀ v ∈ lv, v / 2 ≠ q := by
  unfold pl
  rw [List.findIdx?_eq_none_iff]
  simp
/-- leaves that may stand together -/
def LvOk (lv : List Int) : Prop := (∀ v ∈ lv, 2 ≤ v) ∧ (lv.map (· / 2)).Nodup
instance (lv : List Int) : Decidable (LvOk lv) := by unfold LvOk; exact inferInstance
theorem lvok_app {lv : List Int} {v : Int} : LvOk (lv ++ [v]) ↔ LvOk lv ∧ 2 ≤ v ∧ pl lv (v / 2) = none := by
  unfold LvOk
  rw [pl_none, List.map_append, List.nodup_append]
  simp only [List.mem_append, List.mem_singleton, List.map_cons, List.map_nil, List.nodup_cons, List.not_mem_nil, not_false_eq_true, List.nodup_nil, and_true, true_and, List.mem_map]
  constructor
  · rintro ⟨h1, h2, h3⟩
    exact ⟨⟨fun x hx => h1 x (.inl hx), h2⟩, h1 v (.inr rfl), fun x hx e => h3 _ ⟨x, hx, rfl⟩ _ rfl e⟩
  · rintro ⟨⟨h1, h2⟩, h3, h4⟩
    refine ⟨fun x hx => ?_, h2, fun a ha b hb => ?_⟩
    · rcases hx with q | rfl
      · exact h1 x q
      · exact h3
    · obtain ⟨x, hx, rfl⟩ := ha
      subst hb
      exact h4 x hx
theorem lvok_pre {lv ys : List Int} (h : LvOk (lv ++ ys)) : LvOk lv := by
  unfold LvOk at h ⊢
  rw [List.map_append, List.nodup_append] at h
  exact ⟨fun v hv => h.1 v (List.mem_append_left _ hv), h.2.1⟩
theorem wp_enT {m : Ex} {ss : Sl} {st : Sto} {QW : PQ Wk} {E : XQ} {xs : List DV} (hm : ∀ Q : PQ (List DV), Wp (eArgs [m] ss st) Q E = Q [.tup xs] st) (hq : QW ⟨(List.range xs.length).zipWith (fun i x => .tup [.int (i : Nat), x]) xs, []⟩ st) : Wp (iEnX [m] ss st) QW E := by
  unfold iEnX
  rw [wp_bnd, hm]
  exact hq
theorem en_get {xs : List DV} {i : Nat} {x : DV} (h : ((List.range xs.length).zipWith (fun i x => DV.tup [.int (i : Nat), x]) xs)[i]? = some x) : ∃ y, xs[i]? = some y ∧ x = .tup [.int (i : Nat), y] := by
  obtain ⟨a, b, h1, h2, h3⟩ := List.getElem?_zipWith_eq_some.mp h
  have hi : i < xs.length := (List.getElem?_eq_some_iff.mp h2).1
  rw [List.getElem?_range hi] at h1
  cases h1
  exact ⟨b, h2, h3.symm⟩
theorem lt_of_get {A : Type} {L : List A} {i : Nat} {a : A} (h : L[i]? = some a) : i < L.length := (List.getElem?_eq_some_iff.mp h).1
theorem mapI_get {L : List Int} {i : Nat} {x : DV} (h : (L.map DV.int)[i]? = some x) : ∃ y, L[i]? = some y ∧ x = .int y := by
  rw [List.getElem?_map] at h
  cases e : L[i]? with
  | none => rw [e] at h; cases h
  | some y => rw [e] at h; cases h; exact ⟨y, rfl, rfl⟩
theorem leafends_spec {st : Sto} {k : Nat} {n : Int} {R L : List Int} {es : List Int} (h : CC st k n R L) (he : ∀ e ∈ es, 0 ≤ e ∧ e < 2 * n) (hl : es.length ≤ 1000) :
    Wp (s_leaf_ends [.ref k, .tup (es.map DV.int)] st) (fun v st' => Sub st st' ∧ if LvOk (es.map (lsf R L)) then ∃ kp, v = .ref kp ∧ PLD st' kp (es.map (lsf R L)) else v = .non) NX := by
  unfold s_leaf_ends
  (try simp (disch := omega) only [WZ, WR, wp_if, wp_expr, wp_optD, wipeD, List.reduceReplicate, Nat.reduceSub, Int.reduceToNat, Int.reducePow, WY])
  refine wp_dic0 fun st1 kd sub1 l1 m1 g1 => ?_
  (try simp (disch := omega) only [WZ, WR, wp_if, wp_expr, wp_optD, wipeD, List.reduceReplicate, Nat.reduceSub, Int.reduceToNat, Int.reducePow, WY])
  refine wp_enT (xs := es.map DV.int) (fun Q => by (try simp (disch := omega) only [WZ, WR, wp_if, wp_expr, wp_optD, wipeD, List.reduceReplicate, Nat.reduceSub, Int.reduceToNat, Int.reducePow, WY])) ?_
  (try simp (disch := omega) only [WZ, WR, wp_if, wp_expr, wp_optD, wipeD, List.reduceReplicate, Nat.reduceSub, Int.reduceToNat, Int.reducePow, WY])
  refine for_rule (fun i ss st' => ∃ o3 o4 o5 kvs, ss = [some (.ref k), some (.tup (es.map DV.int)), some (.ref kd), o3, o4, o5] ∧ Sub st st' ∧ st'[kd]? = some (.dic kvs) ∧ KI kvs ∧ kvs.length ≤ i ∧ LvOk ((es.take i).map (lsf R L)) ∧ ∀ q : Int, hGet kvs (.int q) = (pl ((es.take i).map (lsf R L)) q).map fun j => DV.tup [.int (j : Nat), .int (((es.take i).map (lsf R L)).getD j 0)]) ⟨none, none, none, [], rfl, sub1, g1, fun p hp => by simp at hp, Nat.le_refl _, ⟨fun v hv => by simp at hv, by simp⟩, fun q => rfl⟩ (fun _ _ _ _ _ => okG_nil) ?_ ?_
  · rintro i x ss st' hx ⟨o3, o4, o5, kvs, rfl, sub, hk, hK, hlen, hlv, hpl⟩
    rw [← List.length_map (f := DV.int)] at hx
    obtain ⟨y, hy, rfl⟩ := en_get hx
    obtain ⟨e, hes, rfl⟩ := mapI_get hy
    have hi := lt_of_get hes
    have heb := he e (List.mem_of_getElem? hes)
    refine ⟨_, _, rfl, ?_⟩
    unfold s_leaf_ends_L1
    obtain ⟨vs, hm⟩ := (h.mono sub).meth
    (try simp (disch := omega) only [WZ, WR, wp_if, wp_expr, wp_optD, wipeD, List.reduceReplicate, Nat.reduceSub, Int.reduceToNat, Int.reducePow, WY, setAll, tMeth_R hm])
    refine ((h.mono sub).least heb.1 heb.2).mono ?_
    rintro _ _ ⟨rfl, rfl⟩
    have hb := h.ls.b e heb.1 heb.2
    generalize hv : lsf R L e = v at hb
    have tk : (es.take (i + 1)).map (lsf R L) = (es.take i).map (lsf R L) ++ [v] := by
      rw [List.take_succ, hes, List.map_append, ← hv]
      rfl
    have fin : ¬ (LvOk ((es.take (i + 1)).map (lsf R L))) → ¬ LvOk (es.map (lsf R L)) := fun hn q => hn (by
      have : es.map (lsf R L) = (es.take (i + 1)).map (lsf R L) ++ (es.drop (i + 1)).map (lsf R L) := by rw [← List.map_append, List.take_append_drop]
      rw [this] at q
      exact lvok_pre q)
    rw [tk, lvok_app] at fin
    (try simp (disch := omega) only [WZ, WR, wp_if, wp_expr, wp_optD, wipeD, List.reduceReplicate, Nat.reduceSub, Int.reduceToNat, Int.reducePow, WY, wp_inD hk (hK.ok _), hpl])
    split
    · rename_i h2
      exact ⟨sub, by rw [if_neg (fin (by rintro ⟨_, q, _⟩; omega))]; trivial⟩
    rename_i h2
    cases hp : pl ((es.take i).map (lsf R L)) (v / 2) with
    | some j =>
      simp only [Option.map_some, Option.isSome_some, if_true]
      exact ⟨sub, by rw [if_neg (fin (by rintro ⟨_, _, q⟩; rw [hp] at q; cases q))]; trivial⟩
    | none =>
      simp only [Option.map_none, Option.isSome_none, Bool.false_eq_true, if_false]
      (try simp (disch := omega) only [WZ, WR, wp_if, wp_expr, wp_optD, wipeD, List.reduceReplicate, Nat.reduceSub, Int.reduceToNat, Int.reducePow, WY])
      refine tG2_sub ?_
      unfold ML.tSub
      (try simp (disch := omega) only [WZ, WR, wp_if, wp_expr, wp_optD, wipeD, List.reduceReplicate, Nat.reduceSub, Int.reduceToNat, Int.reducePow, WY, setM_D hk (hK.ok _) (by omega)])
      have lt : ((es.take i).map (lsf R L)).length = i := by rw [List.length_map, List.length_take]; omega
      refine ⟨_, _, _, _, rfl, sub.set (by omega), get_set hk, hK.set _ _, ?_, ?_, fun q => ?_⟩
      · have := hSet_len (h := .int (v / 2)) (d := .tup [.int ((i : Nat) : Int), .int v]) (kvs := kvs)
        omega
      · rw [tk, lvok_app]
        exact ⟨hlv, by omega, hp⟩
      · rw [hGet_set, tk, pl_app, hpl]
        by_cases hq : v / 2 = q
        · subst hq
          rw [if_pos rfl, hp]
          simp only [if_true, Option.map_some, lt]
          rw [List.getD_eq_getElem?_getD, List.getElem?_append_right (by omega), lt, Nat.sub_self]
          rfl
        · rw [if_neg (by simpa using hq)]
          cases e2 : pl ((es.take i).map (lsf R L)) q with
          | none => simp [hq]
          | some j =>
            have := pl_lt e2
            simp only [Option.map_some]
            rw [List.getD_eq_getElem?_getD (l := _ ++ _), List.getElem?_append_left this, ← List.getD_eq_getElem?_getD]
  · rintro ss st' ⟨o3, o4, o5, kvs, rfl, sub, hk, hK, hlen, hlv, hpl⟩
    have ll : ∀ f : Nat → DV → DV, ((List.range es.length).zipWith f (es.map DV.int)).length = es.length := fun f => by simp
    rw [ll, List.take_length] at hlv
    simp only [ll, List.take_length] at hpl
    (try simp (disch := omega) only [WZ, WR, wp_if, wp_expr, wp_optD, wipeD, List.reduceReplicate, Nat.reduceSub, Int.reduceToNat, Int.reducePow, WY])
    refine ⟨sub, ?_⟩
    rw [if_pos hlv]
    exact ⟨kd, rfl, kvs, hk, hK, hpl⟩

theorem wp_popL {k : Nat} {x : DV} {r : List DV} {st : Sto} {Q : PQ DV} {E : XQ} (h : st[k]? = some (.lst (r ++ [x]))) : Wp (popM (.ref k) [] st) Q E = Q x (st.set k (.lst r)) := by
  show Wp (onL (.ref k) (fun xs => (xs[xs.length - 1]?).map fun y => (y, xs.dropLast)) st) Q E = _
  unfold onL
  simp only [h]
  have e : (r ++ [x])[(r ++ [x]).length - 1]? = some x := by simp
  rw [e]
  simp only [Option.map_some, List.dropLast_concat]
  rfl
theorem eqv_nil {L : List Int} : PyData.eqv (.list (L.map pdI)) (.list []) = decide (L = []) := by
  cases L with
  | nil => rfl
  | cons x r => rfl
theorem wp_neL0 {k k2 : Nat} {L : List Int} {st : Sto} {Q : PQ DV} {E : XQ} (h : st[k]? = some (.lst (L.map DV.int))) (h2 : st[k2]? = some (.lst [])) : Wp (neM (.ref k) (.ref k2) st) Q E = Q (.bl (!decide (L = []))) st := by
  have r2 : Rd st (.ref k2) (.list (([] : List Int).map pdI)) := rd_LI (by simpa using h2)
  rw [wp_neD (rd_LI h) r2 sh_LI sh_LI (by decide) (by decide)]
  rw [show (([] : List Int).map pdI) = [] from rfl, eqv_nil]
theorem wp_ninDk {k : Nat} {i : Int} {kvs : List (HK × DV)} {st : Sto} {QD : PQ DV} {E : XQ} (h : st[k]? = some (.dic kvs)) (ho : KI kvs) : Wp (ninX (.int i) (.ref k) st) QD E = QD (.bl (!(hGet kvs (.int i)).isSome)) st := wp_ninD h (ho.ok i)
theorem wp_inDk {k : Nat} {i : Int} {kvs : List (HK × DV)} {st : Sto} {QD : PQ DV} {E : XQ} (h : st[k]? = some (.dic kvs)) (ho : KI kvs) : Wp (inX (.int i) (.ref k) st) QD E = QD (.bl (hGet kvs (.int i)).isSome) st := wp_inD h (ho.ok i)
/-- a net: leaves, gates -/
structure NetAt (st : Sto) (kg m : Nat) (G : List (Int × Int)) : Prop where
  g : st[kg]? = some (.lst (G.map pr))
  v : GV m G
  z : G.length ≤ 4000
theorem NetAt.mono {st st' : Sto} {kg m : Nat} {G : List (Int × Int)} (h : NetAt st kg m G) (s : Sub st st') : NetAt st' kg m G := ⟨s _ _ h.g, h.v, h.z⟩
theorem at_pr {G : List (Int × Int)} {i : Nat} (h : i < G.length) : atI (G.map pr) (i : Int) = some (pr (G.getD i (0, 0))) := by
  rw [atI_nat (v := pr G[i]) (by rw [List.getElem?_map, List.getElem?_eq_getElem h]; rfl)]
  rw [List.getD_eq_getElem?_getD, List.getElem?_eq_getElem h]
  rfl
/-- the keys of a dict of ints, each once -/
def ksI (S : List Int) : List (HK × DV) := S.map fun k => (HK.int k, DV.bl true)
theorem ksI_get {S : List Int} {q : Int} : hGet (ksI S) (.int q) = if q ∈ S then some (.bl true) else none := by
  induction S with
  | nil => rfl
  | cons k S ih =>
    show (if HK.int k = HK.int q then some (DV.bl true) else hGet (ksI S) (.int q)) = _
    rw [ih]
    by_cases h : k = q
    · subst h; simp
    · rw [if_neg (by simpa using h)]
      simp [h, Ne.symm h]
theorem ksI_set {S : List Int} {q : Int} (h : q ∉ S) : hSet (ksI S) (.int q) (.bl true) = ksI (S ++ [q]) := by
  induction S with
  | nil => rfl
  | cons k S ih =>
    have h1 : k ≠ q := fun e => h (by simp [e])
    show (if HK.int k = HK.int q then (HK.int k, DV.bl true) :: ksI S else (HK.int k, DV.bl true) :: hSet (ksI S) (.int q) (.bl true)) = _
    rw [if_neg (by simpa using h1), ih fun e => h (List.mem_cons_of_mem _ e)]
    rfl
theorem ksI_KI (S : List Int) : KI (ksI S) := fun p hp => by
  obtain ⟨k, _, rfl⟩ := List.mem_map.mp hp
  exact ⟨k, rfl⟩
theorem wp_listXD {k : Nat} {S : List Int} {st : Sto} {Q : PQ DV} {E : XQ} (h : st[k]? = some (.dic (ksI S))) (hq : New st (S.map DV.int) Q) : Wp (listX [.ref k] st) Q E := by
  have hf : (ksI S).all (fun p => flatH p.1) = true := List.all_eq_true.mpr fun p hp => by
    obtain ⟨k, _, rfl⟩ := List.mem_map.mp hp
    rfl
  have e : (ksI S).map (fun p => dOf p.1) = S.map DV.int := by
    unfold ksI
    rw [List.map_map]
    rfl
  show Wp (match st[k]? with
    | some (.dic kvs) => if kvs.all (fun p => flatH p.1) = true then alloc (.lst (kvs.map fun p => dOf p.1)) st else .bad
    | _ => listM [.ref k] st) Q E
  rw [h]
  simp only [hf, if_true, e]
  exact wp_allocN hq
theorem ints_map (ns : List Int) : intsD (ns.map DV.int) = some ns := by
  induction ns with
  | nil => rfl
  | cons n ns ih => simp only [List.map_cons, intsD, ih, Option.map_some]
theorem wp_sortedN {k : Nat} {L : List Int} {st : Sto} {Q : PQ DV} {E : XQ} (h : st[k]? = some (.lst (L.map DV.int))) (hq : New st ((isrt L).map DV.int) Q) : Wp (sortedM [.ref k] st) Q E := by
  show Wp (match (itemsM (.ref k) st).bind intsD with
    | some ns => alloc (.lst ((isrt ns).map DV.int)) st
    | none => .bad) Q E
  have : itemsM (.ref k) st = some (L.map DV.int) := by
    unfold itemsM
    simp only [h]
  rw [this, Option.bind_some, ints_map]
  exact wp_allocN hq
theorem isrt_lt {S : List Int} (h : S.Nodup) : (isrt S).Pairwise (· < ·) := by
  have hn : (isrt S).Nodup := (isrt_perm S).nodup_iff.mpr h
  have := (isrt_le S).and hn
  exact this.imp fun ⟨a, b⟩ => by omega

theorem getD_mem {G : List (Int × Int)} {i : Nat} (h : i < G.length) : G[i]? = some (G.getD i (0, 0)) := by
  rw [List.getD_eq_getElem?_getD, List.getElem?_eq_getElem h]
  rfl
def ConeR (ls : Int → Int) (lv : List Int) (m : Nat) (G : List (Int × Int)) (es : List Int) (S T : List Int) : Prop :=
  S.Nodup ∧ (∀ k ∈ S, (m : Int) ≤ k ∧ k < (m + G.length : Nat) ∧ Un ls lv (2 * k)) ∧ (∀ e ∈ es, (m : Int) ≤ e / 2 → Un ls lv (2 * (e / 2)) → e / 2 ∈ S ∨ e / 2 ∈ T) ∧
  (∀ k ∈ S, ∀ e, e = (G.getD (k - m).toNat (0, 0)).1 ∨ e = (G.getD (k - m).toNat (0, 0)).2 → (m : Int) ≤ e / 2 → Un ls lv (2 * (e / 2)) → e / 2 ∈ S ∨ e / 2 ∈ T) ∧
  ∀ t ∈ T, 0 ≤ t ∧ t < (m + G.length : Nat)
theorem ConeR.fin {ls : Int → Int} {lv : List Int} {m : Nat} {G : List (Int × Int)} {es S : List Int} (h : ConeR ls lv m G es S []) : Cone ls lv m G es (isrt S) := by
  obtain ⟨h1, h2, h3, h4, h5⟩ := h
  have mem : ∀ x, x ∈ isrt S ↔ x ∈ S := fun x => (isrt_perm S).mem_iff
  refine ⟨isrt_lt h1, fun k hk => h2 k ((mem k).mp hk), fun e he a b => (mem _).mpr ?_, fun k hk e he a b => (mem _).mpr ?_⟩
  · rcases h3 e he a b with q | q
    · exact q
    · simp at q
  · rcases h4 k ((mem k).mp hk) e he a b with q | q
    · exact q
    · simp at q
theorem ConeR.skip {ls : Int → Int} {lv : List Int} {m : Nat} {G : List (Int × Int)} {es S T : List Int} {t : Int} (h : ConeR ls lv m G es S (T ++ [t])) (hs : (m : Int) ≤ t → Un ls lv (2 * t) → t ∈ S) : ConeR ls lv m G es S T := by
  obtain ⟨h1, h2, h3, h4, h5⟩ := h
  have key : ∀ x, (m : Int) ≤ x → Un ls lv (2 * x) → (x ∈ S ∨ x ∈ T ++ [t]) → x ∈ S ∨ x ∈ T := fun x a b q => by
    rcases q with q | q
    · exact .inl q
    · rcases List.mem_append.mp q with q | q
      · exact .inr q
      · simp only [List.mem_singleton] at q
        subst q
        exact .inl (hs a b)
  exact ⟨h1, h2, fun e he a b => key _ a b (h3 e he a b), fun k hk e he a b => key _ a b (h4 k hk e he a b), fun x hx => h5 x (List.mem_append_left _ hx)⟩
theorem ConeR.add {ls : Int → Int} {lv : List Int} {m : Nat} {G : List (Int × Int)} {es S T : List Int} {t : Int} (h : ConeR ls lv m G es S (T ++ [t])) (v : GV m G) (hm : (m : Int) ≤ t) (hu : Un ls lv (2 * t)) (hs : t ∉ S) :
    ConeR ls lv m G es (S ++ [t]) (T ++ [(G.getD (t - m).toNat (0, 0)).1 / 2, (G.getD (t - m).toNat (0, 0)).2 / 2]) := by
  obtain ⟨h1, h2, h3, h4, h5⟩ := h
  have ht := h5 t (by simp)
  have key : ∀ x, (x ∈ S ∨ x ∈ T ++ [t]) → x ∈ S ++ [t] ∨ x ∈ T ++ [(G.getD (t - m).toNat (0, 0)).1 / 2, (G.getD (t - m).toNat (0, 0)).2 / 2] := fun x q => by
    rcases q with q | q
    · exact .inl (List.mem_append_left _ q)
    · rcases List.mem_append.mp q with q | q
      · exact .inr (List.mem_append_left _ q)
      · exact .inl (List.mem_append_right _ q)
  have hg := v _ _ (getD_mem (G := G) (i := (t - m).toNat) (by omega))
  refine ⟨?_, fun k hk => ?_, fun e he a b => key _ (h3 e he a b), fun k hk e he a b => ?_, fun x hx => ?_⟩
  · rw [List.nodup_append]
    refine ⟨h1, by simp, fun a ha b hb => ?_⟩
    simp only [List.mem_singleton] at hb
    subst hb
    rintro rfl
    exact hs ha
  · rcases List.mem_append.mp hk with q | q
    · exact h2 k q
    · simp only [List.mem_singleton] at q
      subst q
      exact ⟨hm, ht.2, hu⟩
  · rcases List.mem_append.mp hk with q | q
    · exact key _ (h4 k q e he a b)
    · simp only [List.mem_singleton] at q
      subst q
      rcases he with rfl | rfl
      · exact .inr (List.mem_append_right _ (by simp))
      · exact .inr (List.mem_append_right _ (by simp))
  · rcases List.mem_append.mp hx with q | q
    · exact h5 x (List.mem_append_left _ q)
    · simp only [List.mem_cons, List.not_mem_nil, or_false] at q
      rcases q with rfl | rfl <;> omega
theorem cone_spec {st : Sto} {k kg kp m : Nat} {nl n : Int} {R L lv es : List Int} {G : List (Int × Int)} (hc : CC st k n R L) (hn : NetAt st kg m G) (hp : PLD st kp lv) (hm : (m : Int) = 1 + nl) (hN : n = (m + G.length : Nat)) (he : ∀ e ∈ es, 0 ≤ e ∧ e < 2 * n) (hel : es.length ≤ 100) :
    Wp (s_cone [.tup [.int nl, .ref kg], .ref k, .ref kp, .tup (es.map DV.int)] st) (fun v st' => Sub st st' ∧ ∃ kc S, v = .ref kc ∧ st.length ≤ kc ∧ kc < st'.length ∧ st'[kc]? = some (.lst (S.map DV.int)) ∧ Cone (lsf R L) lv m G es S) NX := by
  have n5 := hc.n0
  unfold s_cone
  (try simp (disch := omega) only [WZ, WR, wp_if, wp_expr, wp_optD, wipeD, List.reduceReplicate, Nat.reduceSub, Int.reduceToNat, Int.reducePow, WY, wp_ixTh])
  refine lcn_mapG DV.int (fun e => e / 2) (fun e st' hm' sub => ⟨_, rfl, ?_⟩) (fun st' sub => okG_nil) fun st1 kt sub1 l1 m1 g1 => ?_
  · (try simp (disch := omega) only [WZ, WR, wp_if, wp_expr, wp_optD, wipeD, List.reduceReplicate, Nat.reduceSub, Int.reduceToNat, Int.reducePow, WY])
    exact .refl
  (try simp (disch := omega) only [WZ, WR, wp_if, wp_expr, wp_optD, wipeD, List.reduceReplicate, Nat.reduceSub, Int.reduceToNat, Int.reducePow, WY])
  refine wp_dic0 fun st2 ks sub2 l2 m2 g2 => ?_
  (try simp (disch := omega) only [WZ, WR, wp_if, wp_expr, wp_optD, wipeD, List.reduceReplicate, Nat.reduceSub, Int.reduceToNat, Int.reducePow, WY])
  have e1 := sub1.len
  have e2 := sub2.len
  refine wh_rule (fun N ss st' => ∃ T S o7 o8 o9 o10 o11, ss = [some (.tup [.int nl, .ref kg]), some (.ref k), some (.ref kp), some (.tup (es.map DV.int)), some (.int (1 + nl)), some (.ref kt), some (.ref ks), o7, o8, o9, o10, o11] ∧ Sub st st' ∧ st'[kt]? = some (.lst (T.map DV.int)) ∧ st'[ks]? = some (.dic (ksI S)) ∧ ConeR (lsf R L) lv m G es S T ∧ T.length + 3 * (m + G.length - S.length) ≤ N ∧ T.length + 3 * (m + G.length - S.length) ≤ 20000) (n := 100 + 3 * (m + G.length)) (by show _ < 18446744073709551616; omega) ⟨es.map (fun e => e / 2), [], none, none, none, none, none, rfl, sub1.trans sub2, sub2 _ _ g1, g2, ?_, ?_, ?_⟩ ?_
  · refine ⟨by simp, fun k hk => by simp at hk, fun e hm' _ _ => .inr (List.mem_map.mpr ⟨e, hm', rfl⟩), fun k hk => by simp at hk, fun t ht => ?_⟩
    obtain ⟨e, hm', rfl⟩ := List.mem_map.mp ht
    have := he e hm'
    omega
  · rw [List.length_map]; simp; omega
  · rw [List.length_map]; simp; omega
  rintro N ss st' ⟨T, S, o7, o8, o9, o10, o11, rfl, sub, ht, hs, hC, hN1, hN2⟩
  (try simp (disch := omega) only [WZ, WR, wp_if, wp_expr, wp_optD, wipeD, List.reduceReplicate, Nat.reduceSub, Int.reduceToNat, Int.reducePow, WY])
  refine wp_allocN fun st3 k3 sub3 l3 m3 g3 => ?_
  (try simp (disch := omega) only [WZ, WR, wp_if, wp_expr, wp_optD, wipeD, List.reduceReplicate, Nat.reduceSub, Int.reduceToNat, Int.reducePow, WY, wp_neL0 (sub3 _ _ ht) g3])
  rcases List.eq_nil_or_concat T with rfl | ⟨T', t, rfl⟩
  · rw [if_neg (by simp)]
    (try simp (disch := omega) only [WZ, WR, wp_if, wp_expr, wp_optD, wipeD, List.reduceReplicate, Nat.reduceSub, Int.reduceToNat, Int.reducePow, WY])
    refine wp_listXD (sub3 _ _ hs) fun st4 k4 sub4 l4 m4 g4 => ?_
    (try simp (disch := omega) only [WZ, WR, wp_if, wp_expr, wp_optD, wipeD, List.reduceReplicate, Nat.reduceSub, Int.reduceToNat, Int.reducePow, WY])
    refine wp_sortedN g4 fun st5 k5 sub5 l5 m5 g5 => ?_
    (try simp (disch := omega) only [WZ, WR, wp_if, wp_expr, wp_optD, wipeD, List.reduceReplicate, Nat.reduceSub, Int.reduceToNat, Int.reducePow, WY])
    have := (sub.trans sub3).len
    have := sub4.len
    exact ⟨sub.trans (sub3.trans (sub4.trans sub5)), k5, isrt S, rfl, by omega, m5, g5, hC.fin⟩
  · rw [if_pos (by simp)]
    have ht5 := hC.2.2.2.2 t (by simp)
    rw [List.concat_eq_append] at *
    have ht3 := sub3 _ _ ht
    have hs3 := sub3 _ _ hs
    have kne : kt ≠ ks := by omega
    rw [List.map_append] at ht3
    unfold s_cone_L1
    (try simp (disch := omega) only [WZ, WR, wp_if, wp_expr, wp_optD, wipeD, List.reduceReplicate, Nat.reduceSub, Int.reduceToNat, Int.reducePow, WY, tMt_R ht3, wp_popL ht3])
    have sub4 : Sub st (st3.set kt (.lst (T'.map DV.int))) := (sub.trans sub3).set (by omega)
    have ht4 := get_set (o' := .lst (T'.map DV.int)) ht3
    have hs4 : (st3.set kt (.lst (T'.map DV.int)))[ks]? = some (.dic (ksI S)) := by rw [List.getElem?_set_ne kne]; exact hs3
    generalize st3.set kt (.lst (T'.map DV.int)) = st4 at sub4 ht4 hs4 ⊢
    clear ht3 hs3
    obtain ⟨vs, hmt⟩ := (hc.mono sub4).meth
    (try simp (disch := omega) only [WZ, WR, wp_if, wp_expr, wp_optD, wipeD, List.reduceReplicate, Nat.reduceSub, Int.reduceToNat, Int.reducePow, WY, tMeth_R hmt])
    refine ((hc.mono sub4).least (e := 2 * t) (by omega) (by omega)).mono ?_
    rintro _ _ ⟨rfl, rfl⟩
    have hpl := hp.mono sub4
    obtain ⟨kvs, hk1, hK, hpl⟩ := hpl
    have hskip : ((m : Int) ≤ t → Un (lsf R L) lv (2 * t) → t ∈ S) → ∃ m_1, m_1 < N ∧ ∃ T S' p7 p8 p9 p10 p11, [some (DV.tup [DV.int nl, DV.ref kg]), some (DV.ref k), some (DV.ref kp), some (DV.tup (List.map DV.int es)), some (DV.int (1 + nl)), some (DV.ref kt), some (DV.ref ks), some (.int t), some (.int (lsf R L (2 * t))), o9, o10, o11] = [some (DV.tup [DV.int nl, DV.ref kg]), some (DV.ref k), some (DV.ref kp), some (DV.tup (List.map DV.int es)), some (DV.int (1 + nl)), some (DV.ref kt), some (DV.ref ks), p7, p8, p9, p10, p11] ∧ Sub st st4 ∧ st4[kt]? = some (.lst (T.map DV.int)) ∧ st4[ks]? = some (.dic (ksI S')) ∧ ConeR (lsf R L) lv m G es S' T ∧ T.length + 3 * (m + G.length - S'.length) ≤ m_1 ∧ T.length + 3 * (m + G.length - S'.length) ≤ 20000 := fun h => by
      rw [List.length_append, List.length_singleton] at hN1 hN2
      exact ⟨N - 1, by omega, T', S, _, _, o9, o10, o11, rfl, sub4, ht4, hs4, hC.skip h, by omega, by omega⟩
    (try simp (disch := omega) only [WZ, WR, wp_if, wp_expr, wp_optD, wipeD, List.reduceReplicate, Nat.reduceSub, Int.reduceToNat, Int.reducePow, WY, wp_ninDk hs4 (ksI_KI S), ksI_get, wp_ninDk hk1 hK, hpl])
    have mt : (if t ∈ S then some (DV.bl true) else none).isSome = false ↔ t ∉ S := by
      by_cases q : t ∈ S <;> simp [q]
    have mp' : (Option.map (fun i : Nat => DV.tup [DV.int (i : Int), DV.int (lv.getD i 0)]) (pl lv (lsf R L (2 * t) / 2))).isSome = false ↔ pl lv (lsf R L (2 * t) / 2) = none := by
      cases pl lv (lsf R L (2 * t) / 2) <;> simp
    simp only [mt, mp']
    split
    rotate_left
    · exact hskip fun q => by omega
    rename_i q1
    split
    rotate_left
    · rename_i q2
      exact hskip fun _ _ => Decidable.not_not.mp q2
    rename_i q2
    split
    rotate_left
    · rename_i q3
      exact hskip fun _ u => absurd u.1 (by omega)
    rename_i q3
    split
    rotate_left
    · rename_i q4
      exact hskip fun _ u => absurd u.2 q4
    rename_i q4
    have nd := (hC.add hn.v (by omega) ⟨by omega, q4⟩ q2)
    have pg := pigeon (m + G.length) (S ++ [t]) nd.1 (fun x hx => ⟨by have := (nd.2.1 x hx).1; omega, (nd.2.1 x hx).2.1⟩)
    rw [List.length_append, List.length_singleton] at pg hN1 hN2
    refine tG2_sub ?_
    unfold ML.tSub
    (try simp (disch := omega) only [WZ, WR, wp_if, wp_expr, wp_optD, wipeD, List.reduceReplicate, Nat.reduceSub, Int.reduceToNat, Int.reducePow, WY, setM_D hs4 ((ksI_KI S).ok _) (by rw [ksI, List.length_map]; omega)])
    rw [ksI_set q2]
    have sub5 : Sub st (st4.set ks (.dic (ksI (S ++ [t])))) := sub4.set (by omega)
    have hs5 := get_set (o' := .dic (ksI (S ++ [t]))) hs4
    have ht5' : (st4.set ks (.dic (ksI (S ++ [t]))))[kt]? = some (.lst (T'.map DV.int)) := by rw [List.getElem?_set_ne (Ne.symm kne)]; exact ht4
    generalize st4.set ks (.dic (ksI (S ++ [t]))) = st5 at sub5 hs5 ht5' ⊢
    have hg := sub5 _ _ hn.g
    (try simp (disch := omega) only [WZ, WR, wp_if, wp_expr, wp_optD, wipeD, List.reduceReplicate, Nat.reduceSub, Int.reduceToNat, Int.reducePow, WY, wp_ixTh])
    have hat : atI (G.map pr) (t - (1 + nl)) = some (pr (G.getD (t - m).toNat (0, 0))) := by
      rw [← at_pr (by omega)]
      congr 1
      omega
    (try simp (disch := omega) only [WZ, WR, wp_if, wp_expr, wp_optD, wipeD, List.reduceReplicate, Nat.reduceSub, Int.reduceToNat, Int.reducePow, WY, wp_ixR hg, hat, tMt_R ht5', setAll])
    refine wp_allocN fun st6 k6 sub6 l6 m6 g6 => ?_
    have ht6 := sub6 _ _ ht5'
    (try simp (disch := omega) only [WZ, WR, wp_if, wp_expr, wp_optD, wipeD, List.reduceReplicate, Nat.reduceSub, Int.reduceToNat, Int.reducePow, WY, wp_extR ht6 g6 (by rw [List.length_map]; simp; omega)])
    have := sub5.len
    have := sub6.len
    clear hskip
    refine ⟨T'.length + 2 + 3 * (m + G.length - (S.length + 1)), by omega, T' ++ [(G.getD (t - m).toNat (0, 0)).1 / 2, (G.getD (t - m).toNat (0, 0)).2 / 2], S ++ [t], _, _, _, _, o11, rfl, (sub5.trans sub6).set (by omega), ?_, ?_, nd, ?_, ?_⟩
    · rw [get_set ht6, List.map_append]
      rfl
    · rw [List.getElem?_set_ne kne]
      exact sub6 _ _ hs5
    · rw [List.length_append, List.length_append]; simp
    · rw [List.length_append, List.length_append]; simp; omega

theorem band_nat' (x y : Nat) : Builtin.bitAnd (x : Int) (y : Int) = ((x &&& y : Nat) : Int) := by
  rw [bitAnd_pp (by omega) (by omega)]
  simp
theorem nat_xor_and (m : Nat) : ∀ n : Nat, (m ^^^ n) + 2 * (m &&& n) = m + n := by
  induction m using Nat.strongRecOn with
  | ind m ih =>
    intro n
    by_cases h0 : m = 0
    · subst h0; simp
    · have ih' := ih (m / 2) (by omega) (n / 2)
      rw [← Nat.xor_div_two, ← Nat.and_div_two] at ih'
      have o1 := @Nat.xor_mod_two_eq_one m n
      have a1 := @Nat.and_mod_two_eq_one m n
      omega
theorem bor_nat' (x y : Nat) : Builtin.bitOr (x : Int) (y : Int) = ((x ||| y : Nat) : Int) := by
  have h := nat_or_add_and x y
  rw [bitOr_and, band_nat']
  omega
theorem bxor_nat' (x y : Nat) : Builtin.bitXor (x : Int) (y : Int) = ((x ^^^ y : Nat) : Int) := by
  have h := nat_xor_and x y
  rw [bitXor_and, band_nat']
  omega
theorem two_nat' (w : Nat) : ((2 : Int) ^ w) = ((2 ^ w : Nat) : Int) := by simp
/-- bit s is bit k of s -/
def pat (k : Nat) : Nat → Nat
  | 0 => 0
  | s + 1 => pat k s ||| ((s.testBit k).toNat * 2 ^ s)
def ones (many : Nat) : Nat := 2 ^ 2 ^ many - 1
structure WdAt (st : Sto) (kw many N : Nat) (D : Int → Option Nat) : Prop where
  ex : ∃ kvs, st[kw]? = some (.dic kvs) ∧ KI kvs ∧ kvs.length ≤ N ∧ (∀ p : Nat, p < many → hGet kvs (.int (-1 - p)) = some (.int ((pat p (2 ^ many) : Nat) : Int))) ∧ ∀ q : Int, 0 ≤ q → hGet kvs (.int q) = (D q).map fun w => .int (w : Int)
theorem wp_dgetI1 {k : Nat} {x : Int} {kvs : List (HK × DV)} {st : Sto} {QD : PQ DV} {E : XQ} (h : st[k]? = some (.dic kvs)) (ho : KI kvs) : Wp (dgetM (.ref k) [.int x] st) QD E = QD ((hGet kvs (.int x)).getD .non) st := by
  show Wp (onD (.ref k) (.int x) (fun kvs h => pur ((hGet kvs h).getD .non)) st) QD E = _
  rw [wp_onD h (ho.ok _)]
  rfl
theorem tG2_T2' {a b : Nat} {x y : DV} {ss : Sl} {QF : PQ Fl} {st : Sto} : tG2 (gTpL [a, b]) ss QF (.tup [x, y]) st = QF (.nx (setAll [a, b] [x, y] ss)) st := rfl
theorem par_nat (a b : Nat) : (a ^^^ b) % 2 = (a + b) % 2 := by
  have o1 := @Nat.xor_mod_two_eq_one a b
  omega
theorem par_xor {a b : Int} (ha : 0 ≤ a) (hb : 0 ≤ b) : Builtin.bitAnd (Builtin.bitXor a b) 1 = if decide ((a - b) % 2 ≠ 0) = true then 1 else 0 := by
  obtain ⟨x, rfl⟩ := Int.eq_ofNat_of_zero_le ha
  obtain ⟨y, rfl⟩ := Int.eq_ofNat_of_zero_le hb
  have h1 : (1 : Int) = ((1 : Nat) : Int) := rfl
  have e : Builtin.bitAnd (Builtin.bitXor (x : Int) (y : Int)) 1 = (((x + y) % 2 : Nat) : Int) := by
    rw [bxor_nat', h1, band_nat', Nat.and_one_is_mod, par_nat]
  rw [e]
  split
  · rename_i h
    have := of_decide_eq_true h
    omega
  · rename_i h
    have : ¬ ((x : Int) - y) % 2 ≠ 0 := fun q => h (decide_eq_true q)
    omega
theorem K_gate {V : Type} {A : Alg V} {ls : Int → Int} {lv : List Int} {m : Nat} {G : List (Int × Int)} (v : GV m G) {i : Nat} (hi : i < G.length) : (evs A ls lv m G G.length).getD (m + i) none = A.cj (ev A ls lv (evs A ls lv m G G.length) (G.getD i (0, 0)).1) (ev A ls lv (evs A ls lv m G G.length) (G.getD i (0, 0)).2) := by
  rw [evs_gate A ls lv m G hi]
  have hg := v _ _ (getD_mem hi)
  congr 1
  · exact ev_congr A ls lv fun _ => (evs_pre A ls lv m G (by omega) (by omega)).symm
  · exact ev_congr A ls lv fun _ => (evs_pre A ls lv m G (by omega) (by omega)).symm
/-- an end that a gate of the cone reads -/
theorem cone_reads {V : Type} {A : Alg V} {ls : Int → Int} {lv : List Int} {n : Int} {m : Nat} {G : List (Int × Int)} {es S : List Int} (hL : LS n ls) (c : Cone ls lv m G es S) (v : GV m G) {i : Nat} {k e : Int} (hk : S[i]? = some k) (he : e = (G.getD (k - m).toNat (0, 0)).1 ∨ e = (G.getD (k - m).toNat (0, 0)).2) (hN : n = (m + G.length : Nat)) (hu : Un ls lv e) :
    (if e / 2 ∈ S.take i then (evs A ls lv m G G.length).getD (e / 2).toNat none else none) = (evs A ls lv m G G.length).getD (e / 2).toNat none := by
  have hkS := List.mem_of_getElem? hk
  obtain ⟨k0, k1, k2⟩ := c.ok k hkS
  have hg := v _ _ (getD_mem (G := G) (i := (k - m).toNat) (by omega))
  have eb : 0 ≤ e ∧ e < 2 * k := by rcases he with rfl | rfl <;> omega
  by_cases q : (m : Int) ≤ e / 2
  · have hu' : Un ls lv (2 * (e / 2)) := by rw [un_half hL (by omega) (by omega)]; exact hu
    have hm := c.cl k hkS e he q hu'
    obtain ⟨j, hj⟩ := List.getElem?_of_mem hm
    have hi : i < S.length := lt_of_get hk
    have hjl : j < S.length := lt_of_get hj
    have hji : j < i := by
      rcases Nat.lt_trichotomy j i with q | q | q
      · exact q
      · subst q; rw [hk] at hj; have := Option.some.inj hj; omega
      · have := List.pairwise_iff_getElem.mp c.srt i j hi hjl q
        rw [List.getElem?_eq_getElem hi] at hk
        rw [List.getElem?_eq_getElem hjl] at hj
        have := Option.some.inj hk
        have := Option.some.inj hj
        omega
    rw [if_pos]
    rw [List.mem_iff_getElem?]
    exact ⟨j, by rw [List.getElem?_take_of_lt hji]; exact hj⟩
  · rw [evs_low A ls lv m G (k := (e / 2).toNat) (by omega)]
    simp
/-- an end that is asked for -/
theorem cone_tops {V : Type} {A : Alg V} {ls : Int → Int} {lv : List Int} {n : Int} {m : Nat} {G : List (Int × Int)} {es S : List Int} (hL : LS n ls) (c : Cone ls lv m G es S) {e : Int} (he : e ∈ es) (h0 : 0 ≤ e) (h1 : e < 2 * n) (hu : Un ls lv e) :
    (if e / 2 ∈ S then (evs A ls lv m G G.length).getD (e / 2).toNat none else none) = (evs A ls lv m G G.length).getD (e / 2).toNat none := by
  by_cases q : (m : Int) ≤ e / 2
  · have hu' : Un ls lv (2 * (e / 2)) := by rw [un_half hL h0 h1]; exact hu
    rw [if_pos (c.top e he q hu')]
  · rw [evs_low A ls lv m G (k := (e / 2).toNat) (by omega)]
    simp
def goodB {V : Type} [DecidableEq V] (A : Alg V) (ls : Int → Int) (lv : List Int) (m : Nat) (G : List (Int × Int)) (a b : Int) : Bool :=
  match ev A ls lv (evs A ls lv m G G.length) a with
  | none => false
  | some x => decide (ev A ls lv (evs A ls lv m G G.length) b = some x)

theorem wp_eqIN {i : Int} {st : Sto} {Q : PQ DV} {E : XQ} : Wp (eqM (.int i) .non st) Q E = Q (.bl false) st := by
  rw [wp_eqD (.int i) .non (Sh.int (n := 0) i) (Sh.non (n := 0)) (by decide) (by decide)]
  rfl
theorem iswhole_spec {st : Sto} {i : Int} : Wp (s_is_whole [.int i] st) (fun v st' => st = st' ∧ v = .bl true) NX := by
  unfold s_is_whole
  (try simp +decide (disch := omega) only [↓reduceIte, WX2, Nat.reduceAdd, Int.reduceSub, Int.reduceAdd, Int.reduceMul, WZ, WR, wp_if, wp_expr, wp_optD, wipeD, List.reduceReplicate, Nat.reduceSub, Int.reduceToNat, Int.reducePow, WY])
theorem isend_spec {st : Sto} {i n : Int} : Wp (s_is_end [.int i, .int n] st) (fun v st' => st = st' ∧ v = .bl (decide (0 ≤ i ∧ i < 2 * n))) NX := by
  unfold s_is_end
  (try simp (disch := omega) only [WZ, WR, wp_if, wp_expr, wp_optD, wipeD, List.reduceReplicate, Nat.reduceSub, Int.reduceToNat, Int.reducePow, WY])
  refine iswhole_spec.mono ?_
  rintro _ _ ⟨rfl, rfl⟩
  (try simp (disch := omega) only [WZ, WR, wp_if, wp_expr, wp_optD, wipeD, List.reduceReplicate, Nat.reduceSub, Int.reduceToNat, Int.reducePow, WY])
  split <;> rename_i h
  · congr 1
    simp only [h, true_and]
  · simp [h]
section
variable {V W : Type} (A : Alg V) (B : Alg W) (h : V → W) (ls : Int → Int) (lv : List Int)
structure HomA (N : Nat) : Prop where
  lo : h A.lo = B.lo
  hi : h A.hi = B.hi
  leaf : ∀ k, k < N → ∀ b, h (A.leaf k b) = B.leaf k b
  neg : ∀ w, (A.neg w).map h = B.neg (h w)
  cj : ∀ a b, (A.cj a b).map h = B.cj (a.map h) (b.map h)
variable {A B h ls lv}
theorem getD_mapO {K : List (Option V)} {i : Nat} : (K.map (Option.map h)).getD i none = (K.getD i none).map h := by
  rw [List.getD_eq_getElem?_getD, List.getD_eq_getElem?_getD, List.getElem?_map]
  cases K[i]? <;> rfl
/-- what holds of all values -/
structure PreA (A : Alg V) (P : V → Prop) (N : Nat) : Prop where
  lo : P A.lo
  hi : P A.hi
  leaf : ∀ k, k < N → ∀ b, P (A.leaf k b)
  neg : ∀ w, P w → ∀ v, A.neg w = some v → P v
  cj : ∀ a b, (∀ v, a = some v → P v) → (∀ v, b = some v → P v) → ∀ v, A.cj a b = some v → P v
variable {P : V → Prop}
theorem ev_pre (H : PreA A P lv.length) {K : List (Option V)} (hK : ∀ i v, K.getD i none = some v → P v) (e : Int) : ∀ v, ev A ls lv K e = some v → P v := by
  intro v
  unfold ev
  split
  · intro q; cases q; exact H.lo
  split
  · intro q; cases q; exact H.hi
  cases hp : pl lv (ls e / 2) with
  | some k =>
    simp only
    intro q; cases q; exact H.leaf k (pl_lt hp) _
  | none =>
    simp only
    split
    · exact hK _ _
    · intro q
      cases hk : K.getD (e / 2).toNat none with
      | none => rw [hk] at q; cases q
      | some w => rw [hk] at q; exact H.neg w (hK _ _ hk) v q
theorem evs_pr (H : PreA A P lv.length) (m : Nat) (G : List (Int × Int)) : ∀ i j v, (evs A ls lv m G i).getD j none = some v → P v
  | 0, j, v, q => by
    rw [evs] at q
    simp [List.getD, List.getElem?_replicate] at q
    split at q <;> cases q
  | i + 1, j, v, q => by
    rw [evs] at q
    have hl := evs_len A ls lv m G i
    rcases Nat.lt_trichotomy j (m + i) with c | c | c
    · rw [List.getD_eq_getElem?_getD, List.getElem?_append_left (by omega), ← List.getD_eq_getElem?_getD] at q
      exact evs_pr H m G i j v q
    · rw [List.getD_eq_getElem?_getD, List.getElem?_append_right (by omega), hl, c, Nat.sub_self] at q
      exact H.cj _ _ (ev_pre H (evs_pr H m G i) _) (ev_pre H (evs_pr H m G i) _) v q
    · rw [List.getD_eq_getElem?_getD, List.getElem?_append_right (by omega), hl] at q
      have : j - (m + i) = (j - (m + i) - 1) + 1 := by omega
      rw [this] at q
      cases q
end
def CO (n : Nat) (st : Sto) (k : Nat) (own : List Nat) (R : List Int) : Prop := ∃ (kr kl km : Nat) (ks : List Nat) (L : List Int) (Ms : List (List Int)), CLs st k kr kl km ks R L Ms ∧ CInv n R L Ms ∧ own = k :: kr :: kl :: km :: ks
section
variable {n : Nat} {st st' : Sto} {k : Nat} {own : List Nat} {R : List Int} {a b e : Int}
theorem CO.fr {o : List Nat} (h : CO n st k own R) (f : CFr o st st') (hk : ∀ j ∈ o, j ∉ own) : CO n st' k own R := by
  obtain ⟨kr, kl, km, ks, L, Ms, c, v, rfl⟩ := h
  exact ⟨kr, kl, km, ks, L, Ms, c.fr f hk, v, rfl⟩
theorem CO.mono (h : CO n st k own R) (s : Sub st st') : CO n st' k own R := h.fr (o := []) (.sub s) (fun j hj => by simp at hj)
theorem CO.lt (h : CO n st k own R) : ∀ j ∈ own, j < st.length := by
  obtain ⟨kr, kl, km, ks, L, Ms, c, v, rfl⟩ := h
  exact c.lt
theorem CO.obj (h : CO n st k own R) : ∃ vs, st[k]? = some (.ins "Classes" lay_Classes vs) := by
  obtain ⟨kr, kl, km, ks, L, Ms, c, v, rfl⟩ := h
  exact ⟨_, c.o⟩
theorem CO.least (h : CO n st k own R) (h0 : 0 ≤ e) (h1 : e < 2 * n) : Wp (s_Classes_least [.ref k, .int e] st) (fun v st' => st' = st ∧ ∃ m, v = .int m ∧ Least n R e m) NX := by
  obtain ⟨kr, kl, km, ks, L, Ms, c, v, rfl⟩ := h
  exact least_spec c v h0 h1
theorem CO.join (h : CO n st k own R) (a0 : 0 ≤ a) (a1 : a < 2 * n) (b0 : 0 ≤ b) (b1 : b < 2 * n) : Wp (s_Classes_join [.ref k, .int a, .int b] st) (fun v st' => ∃ own' R', CO n st' k own' R' ∧ CFr own st st' ∧ (∀ x ∈ own', x ∈ own ∨ st.length ≤ x) ∧
    ((RT R a / 2 = RT R b / 2 ∧ v = .bl (decide (RT R a = RT R b)) ∧ R' = R) ∨
     (RT R a / 2 ≠ RT R b / 2 ∧ v = .bl true ∧ ∃ m y, ((m = RT R a ∧ y = RT R b) ∨ (m = RT R b ∧ y = RT R a)) ∧ ∀ e : Int, 0 ≤ e → e < 2 * n → RT R' e = mp m y (RT R e)))) NX := by
  obtain ⟨kr, kl, km, ks, L, Ms, c, v, rfl⟩ := h
  refine (join_spec c v a0 a1 b0 b1).mono ?_
  rintro vv st2 ⟨ks', R', L', Ms', c', v', f, nk, q⟩
  refine ⟨_, R', ⟨kr, kl, km, ks', L', Ms', c', v', rfl⟩, f, fun x hx => ?_, q⟩
  simp only [List.mem_cons] at hx ⊢
  rcases hx with h | h | h | h | h
  · exact .inl (.inl h)
  · exact .inl (.inr (.inl h))
  · exact .inl (.inr (.inr (.inl h)))
  · exact .inl (.inr (.inr (.inr (.inl h))))
  · rcases nk x h with z | z
    · exact .inl (.inr (.inr (.inr (.inr z))))
    · exact .inr z
theorem CO.make (hn : n ≤ 2000) : Wp (mkM "Classes" lay_Classes s_Classes_init [.int (n : Int)] st) (fun v st' => ∃ k own, v = .ref k ∧ Sub st st' ∧ (∀ j ∈ own, st.length ≤ j) ∧ CO n st' k own (iota2 n)) NX := by
  refine wp_make ((init_spec get_new (by omega)).mono ?_)
  rintro _ st1 ⟨rfl, kr, kl, km, ks, c, fr, l1, l2, l3, l4⟩
  have hl : (st ++ [DO.ins "Classes" lay_Classes []]).length = st.length + 1 := by simp
  refine ⟨rfl, _, _, rfl, fun j o e => fr.2 j o (by have := get_lt e; simp; omega) (Sub.app _ _ e), fun j hj => ?_, kr, kl, km, ks, _, _, c, init_inv (by omega), rfl⟩
  simp only [List.mem_cons] at hj
  rcases hj with rfl | rfl | rfl | rfl | h
  · exact Nat.le_refl _
  · omega
  · omega
  · omega
  · have := l4 j h
    omega
end
/-! labels -/
def Lab (n : Nat) (R Lb : List Int) : Prop := ∀ a b, 0 ≤ a → a < 2 * (n : Int) → 0 ≤ b → b < 2 * (n : Int) → (g Lb a = g Lb b ↔ RT R a = RT R b)
def joinLb (Lb : List Int) (a b : Int) : List Int := Lb.map fun l => if l = g Lb (fx b 1) then g Lb (fx a 1) else if l = g Lb b then g Lb a else l
theorem mp_swap {m y p q : Int} (h : m / 2 ≠ y / 2) : (mp m y p = mp m y q ↔ mp y m p = mp y m q) := by
  unfold mp fx
  split <;> split <;> split <;> split <;> omega
theorem fx_b {n : Nat} {e : Int} (h0 : 0 ≤ e) (h1 : e < 2 * (n : Int)) : 0 ≤ fx e 1 ∧ fx e 1 < 2 * (n : Int) := by unfold fx; omega
section
variable {n : Nat} {R R' Lb : List Int} {a b : Int}
theorem joinLb_at (h : Lab n R Lb) (ll : Lb.length = 2 * n) (a0 : 0 ≤ a) (a1 : a < 2 * (n : Int)) (b0 : 0 ≤ b) (b1 : b < 2 * (n : Int)) {x : Int} (x0 : 0 ≤ x) (x1 : x < 2 * (n : Int)) :
    ∃ z, 0 ≤ z ∧ z < 2 * (n : Int) ∧ g (joinLb Lb a b) x = g Lb z ∧ RT R z = mp (RT R a) (RT R b) (RT R x) := by
  have fa := fx_b a0 a1
  have fb := fx_b b0 b1
  unfold joinLb
  rw [g_map x0 (by omega)]
  by_cases h1 : g Lb x = g Lb (fx b 1)
  · rw [if_pos h1]
    have e := (h x _ x0 x1 fb.1 fb.2).mp h1
    refine ⟨_, fa.1, fa.2, rfl, ?_⟩
    rw [e, RT_fx, RT_fx]
    unfold mp fx
    split <;> omega
  · rw [if_neg h1]
    have e1 : RT R x ≠ fx (RT R b) 1 := fun z => h1 ((h x _ x0 x1 fb.1 fb.2).mpr (by rw [RT_fx]; exact z))
    by_cases h2 : g Lb x = g Lb b
    · rw [if_pos h2]
      have e := (h x _ x0 x1 b0 b1).mp h2
      refine ⟨_, a0, a1, rfl, ?_⟩
      rw [e, mp_y]
    · rw [if_neg h2]
      have e2 : RT R x ≠ RT R b := fun z => h2 ((h x _ x0 x1 b0 b1).mpr z)
      refine ⟨_, x0, x1, rfl, ?_⟩
      unfold mp
      rw [if_neg]
      unfold fx at e1
      omega
theorem Lab.join (h : Lab n R Lb) (ll : Lb.length = 2 * n) (a0 : 0 ≤ a) (a1 : a < 2 * (n : Int)) (b0 : 0 ≤ b) (b1 : b < 2 * (n : Int)) (hn : RT R a ≠ fx (RT R b) 1)
    (hR : (RT R a / 2 = RT R b / 2 ∧ R' = R) ∨ (RT R a / 2 ≠ RT R b / 2 ∧ ∃ m y, ((m = RT R a ∧ y = RT R b) ∨ (m = RT R b ∧ y = RT R a)) ∧ ∀ e, 0 ≤ e → e < 2 * (n : Int) → RT R' e = mp m y (RT R e))) : Lab n R' (joinLb Lb a b) := by
  intro x z x0 x1 z0 z1
  obtain ⟨p, p0, p1, ep, rp⟩ := joinLb_at h ll a0 a1 b0 b1 x0 x1
  obtain ⟨q, q0, q1, eq, rq⟩ := joinLb_at h ll a0 a1 b0 b1 z0 z1
  rw [ep, eq, h p q p0 p1 q0 q1, rp, rq]
  rcases hR with ⟨h1, rfl⟩ | ⟨h1, m, y, hmy, hR⟩
  · have e : RT R' a = RT R' b := by unfold fx at hn; omega
    have k : ∀ r, mp (RT R' a) (RT R' b) r = r := fun r => by
      rw [e]
      unfold mp fx
      split <;> omega
    rw [k, k]
  · rw [hR x x0 x1, hR z z0 z1]
    rcases hmy with ⟨rfl, rfl⟩ | ⟨rfl, rfl⟩
    · exact Iff.rfl
    · exact mp_swap h1
theorem joinLb_len : (joinLb Lb a b).length = Lb.length := by
  unfold joinLb
  rw [List.length_map]
end
section
variable {n : Nat} {st : Sto} {R Lb : List Int} {kl : Nat} {a b : Int}
theorem joined_spec (hl : st[kl]? = some (.lst (Lb.map DV.int))) (h : Lab n R Lb) (ll : Lb.length = 2 * n) (hn : n ≤ 2000) (a0 : 0 ≤ a) (a1 : a < 2 * (n : Int)) (b0 : 0 ≤ b) (b1 : b < 2 * (n : Int)) :
    Wp (s__law_joined [.ref kl, .int a, .int b] st) (fun v st' => Sub st st' ∧ ((RT R a = fx (RT R b) 1 ∧ v = .non) ∨ (RT R a ≠ fx (RT R b) 1 ∧ ∃ k, v = .ref k ∧ st.length ≤ k ∧ st'[k]? = some (.lst ((joinLb Lb a b).map DV.int))))) NX := by
  have fa := fx_b a0 a1
  have fb := fx_b b0 b1
  have fab : g Lb a = g Lb (fx b 1) ↔ RT R a = fx (RT R b) 1 := by rw [h a _ a0 a1 fb.1 fb.2, RT_fx]
  unfold s__law_joined
  simp (disch := omega) only [WZ, WR, wp_expr, wp_optD, wipeD, List.reduceReplicate, Nat.reduceSub, Int.reduceToNat, Int.reducePow, WY, wp_ixR hl, ixor1]
  refine Wp.mono (Q := fun fl st' => st' = st ∧ ((RT R a = fx (RT R b) 1 ∧ fl = .rt .non) ∨ (RT R a ≠ fx (RT R b) 1 ∧ fl = .nx [some (.ref kl), some (.int a), some (.int b), none, none]))) ?_ ?_
  · (try simp (disch := omega) only [WZ, WR, wp_if, wp_expr, wp_optD, wipeD, List.reduceReplicate, Nat.reduceSub, Int.reduceToNat, Int.reducePow, WY, wp_ixR hl, ixor1])
    by_cases q : RT R a = fx (RT R b) 1
    · have := fab.mpr q
      unfold g at this
      rw [if_pos this]
      exact .inl q
    · have := fun z => q (fab.mp z)
      unfold g at this
      rw [if_neg this]
      exact .inr q
  rintro fl st' ⟨rfl, ⟨q, rfl⟩ | ⟨q, rfl⟩⟩
  · (try simp (disch := omega) only [WZ, WR, wp_if, wp_expr, wp_optD, wipeD, List.reduceReplicate, Nat.reduceSub, Int.reduceToNat, Int.reducePow, WY])
    exact ⟨.refl, .inl q⟩
  · (try simp (disch := omega) only [WZ, WR, wp_if, wp_expr, wp_optD, wipeD, List.reduceReplicate, Nat.reduceSub, Int.reduceToNat, Int.reducePow, WY, ixor1])
    refine wp_disp ?_
    (try simp (disch := omega) only [WZ, WR, wp_if, wp_expr, wp_optD, wipeD, List.reduceReplicate, Nat.reduceSub, Int.reduceToNat, Int.reducePow, WY, wp_pcons, wp_pnil, wp_ixR hl, ixor1])
    refine ⟨_, rfl, by show 2 ≤ 15; decide, ?_⟩
    generalize hkv : mergeD _ = kvs
    have kv2 : kvs = hSet (hSet [] (.int (g Lb b)) (.int (g Lb a))) (.int (g Lb (fx b 1))) (.int (g Lb (fx a 1))) := hkv.symm
    have ki : KI kvs := by
      rw [kv2]
      exact KI.set (KI.set (fun p hp => by simp at hp) _ _) _ _
    have hg : ∀ l, (hGet kvs (.int l)).getD (.int l) = .int (if l = g Lb (fx b 1) then g Lb (fx a 1) else if l = g Lb b then g Lb a else l) := fun l => by
      rw [kv2, hGet_set, hGet_set]
      by_cases h1 : g Lb (fx b 1) = l
      · rw [if_pos (by rw [h1]), if_pos h1.symm]
        rfl
      · rw [if_neg (fun z => h1 (by injection z)), if_neg (Ne.symm h1)]
        by_cases h2 : g Lb b = l
        · rw [if_pos (by rw [h2]), if_pos h2.symm]
          rfl
        · rw [if_neg (fun z => h2 (by injection z)), if_neg (Ne.symm h2)]
          rfl
    clear hkv
    have hl2 := (Sub.app (l := [DO.dic kvs])) _ _ hl
    have hk2 : (st' ++ [DO.dic kvs])[st'.length]? = some (.dic kvs) := get_new
    have sub2 : Sub st' (st' ++ [DO.dic kvs]) := .app
    generalize st' ++ [DO.dic kvs] = st2 at *
    (try simp (disch := omega) only [WZ, WR, wp_if, wp_expr, wp_optD, wipeD, List.reduceReplicate, Nat.reduceSub, Int.reduceToNat, Int.reducePow, WY, tIy_R hl2])
    refine lcn_mapG DV.int (fun l => if l = g Lb (fx b 1) then g Lb (fx a 1) else if l = g Lb b then g Lb a else l) (fun l st3 hl3 sub3 => ⟨_, rfl, ?_⟩) (fun st3 sub3 => okG_one (sub3 _ _ hl2)) fun st3 k3 sub3 l3 m3 h3 => ?_
    · have hk3 := sub3 _ _ hk2
      (try simp (disch := omega) only [WZ, WR, wp_if, wp_expr, wp_optD, wipeD, List.reduceReplicate, Nat.reduceSub, Int.reduceToNat, Int.reducePow, WY, tMt_D hk3, wp_dget2 hk3 (ki.ok _), hg])
      exact .refl
    · have := sub2.len
      exact ⟨sub2.trans sub3, .inr ⟨q, k3, rfl, by omega, h3⟩⟩
end
def nums (n : Nat) : List Int := (List.range (2 * n)).map fun (i : Nat) => (i : Int)
theorem nums_dv {n : Nat} : irange 0 (2 * (n : Int)).toNat = (nums n).map DV.int := by
  unfold irange nums
  rw [show (2 * (n : Int)).toNat = 2 * n by omega, List.map_map]
  congr 1
  funext i
  show DV.int (0 + (i : Int)) = DV.int i
  rw [Int.zero_add]
theorem nums_at {n : Nat} {i : Int} (h0 : 0 ≤ i) (h1 : i < 2 * (n : Int)) : g (nums n) i = i := by
  obtain ⟨j, rfl⟩ := Int.eq_ofNat_of_zero_le h0
  unfold g nums
  rw [Int.toNat_natCast, List.getD_eq_getElem?_getD, List.getElem?_map, List.getElem?_range (by omega)]
  rfl
theorem nums_lab {n : Nat} : Lab n (iota2 n) (nums n) := fun a b a0 a1 b0 b1 => by
  rw [nums_at a0 a1, nums_at b0 b1, RT_iota a0 (by omega), RT_iota b0 (by omega)]

def odI : Option Int → DV
  | none => .non
  | some w => .int w
def LabL (n : Int) (ls : Int → Int) (Lb : List Int) : Prop := ∀ a b, 0 ≤ a → a < 2 * n → 0 ≤ b → b < 2 * n → (g Lb a = g Lb b ↔ ls a = ls b)
theorem CC.lab {st : Sto} {k n : Nat} {R L Lb : List Int} (h : CC st k n R L) (hl : Lab n R Lb) : LabL n (lsf R L) Lb := fun a b a0 a1 b0 b1 => by
  rw [hl a b a0 a1 b0 b1]
  have la := h.spec a0 a1
  have lb := h.spec b0 b1
  constructor
  · intro q
    refine Least.uniq la ?_
    unfold Least at lb ⊢
    rw [q]
    exact lb
  · intro q
    rw [← la.2.2.1, q, lb.2.2.1]
theorem LS.zero {n : Int} {ls : Int → Int} (h : LS n ls) (hn : 1 ≤ n) : ls 0 = 0 ∧ ls 1 = 1 := by
  have a := h.b 0 (by omega) (by omega)
  have b := h.flip 0 (by omega) (by omega)
  have e : ls 0 = 0 := by omega
  rw [e] at b
  exact ⟨e, b⟩
theorem mapP_get {G : List (Int × Int)} {i : Nat} {x : DV} (h : (G.map pr)[i]? = some x) : ∃ p, G[i]? = some p ∧ x = pr p := by
  rw [List.getElem?_map] at h
  cases e : G[i]? with
  | none => rw [e] at h; cases h
  | some y => rw [e] at h; cases h; exact ⟨y, rfl, rfl⟩
theorem inF_numsI {xs : List Int} {i : Int} : inF (.int i) (xs.map DV.int) = decide (i ∈ xs) := by
  induction xs with
  | nil => rfl
  | cons x xs ih =>
    have : inF (.int i) ((x :: xs).map DV.int) = (x == i || inF (.int i) (xs.map DV.int)) := rfl
    rw [this, ih]
    by_cases h : x = i
    · simp [h]
    · simp [h, Ne.symm h]
theorem flat_nums {xs : List Int} : (xs.map DV.int).all flatD = true := List.all_eq_true.mpr fun x hx => by
  obtain ⟨i, _, rfl⟩ := List.mem_map.mp hx
  rfl
theorem GV.snoc {m : Nat} {G : List (Int × Int)} {p : Int × Int} (v : GV m G) (h : 0 ≤ p.1 ∧ p.1 < 2 * ((m + G.length : Nat) : Int) ∧ 0 ≤ p.2 ∧ p.2 < 2 * ((m + G.length : Nat) : Int)) : GV m (G ++ [p]) := fun i q hq => by
  by_cases c : i < G.length
  · rw [List.getElem?_append_left c] at hq
    exact v i q hq
  · rw [List.getElem?_append_right (by omega)] at hq
    have e : i - G.length = 0 := by
      have := lt_of_get hq
      simp at this
      omega
    rw [e] at hq
    cases hq
    have : i = G.length := by omega
    subst this
    exact h
theorem net_spec {st : Sto} {kr ks : Nat} {L S : List Int} (hr : st[kr]? = some (.lst (L.map DV.int))) (hs : st[ks]? = some (.lst (S.map DV.int))) (hL : L.length = 20) (hS : 2 ≤ S.length) (h0 : ∀ x ∈ L, 0 ≤ x) :
    Wp (s__law_net [.ref kr, .ref ks] st) (fun v st' => Sub st st' ∧ ∃ (m kg : Nat) (G : List (Int × Int)), v = .tup [.int ((m : Int) - 1), .ref kg] ∧ 1 ≤ m ∧ m ≤ 5 ∧ NetAt st' kg m G ∧ G.length ≤ 10) NX := by
  unfold s__law_net
  (try simp (disch := omega) only [WZ, WR, wp_if, wp_expr, wp_optD, wipeD, List.reduceReplicate, Nat.reduceSub, Int.reduceToNat, Int.reducePow, WY, wp_ixR hs])
  refine wp_allocN fun st1 kg sub1 l1 m1 g1 => ?_
  have hs1 := sub1 _ _ hs
  (try simp (disch := omega) only [WZ, WR, wp_if, wp_expr, wp_optD, wipeD, List.reduceReplicate, Nat.reduceSub, Int.reduceToNat, Int.reducePow, WY, wp_ixR hs1])
  obtain ⟨m, hm⟩ : ∃ m : Nat, (m : Int) = 1 + S.getD 0 0 % 5 := ⟨(1 + S.getD 0 0 % 5).toNat, by omega⟩
  have e1 : S.getD 0 0 % 5 = (m : Int) - 1 := by omega
  refine for_rule (fun i ss st' => ∃ o4 G, ss = [some (.ref kr), some (.ref ks), some (.int ((m : Int) - 1)), some (.ref kg), o4] ∧ Sub st st' ∧ NetAt st' kg m G ∧ G.length = i ∧ i ≤ 10) ⟨none, [], by rw [e1], sub1, ⟨g1, fun i p h => (by cases h), by decide⟩, rfl, by decide⟩ (fun _ _ _ _ _ => okG_nil) ?_ ?_
  · rintro i x ss st' hx ⟨o4, G, rfl, sub, hn, hG, hi⟩
    obtain ⟨hi, rfl⟩ := irange_get hx
    refine ⟨_, _, rfl, ?_⟩
    have hr' := sub _ _ hr
    have hg := hn.g
    rw [Int.zero_add]
    unfold s__law_net_L1
    (try simp (disch := omega) only [WZ, WR, wp_if, wp_expr, wp_optD, wipeD, List.reduceReplicate, Nat.reduceSub, Int.reduceToNat, Int.reducePow, WY, tMt_R hg, wp_ixR hr'])
    rw [wp_appendc hg (by rw [List.length_map]; omega)]
    have p0 : 0 < 2 * (1 + ((m : Int) - 1) + i) := by omega
    have a0 := Int.emod_nonneg (L.getD (2 * (i : Int)).toNat 0) (Int.ne_of_gt p0)
    have a1 := Int.emod_lt_of_pos (L.getD (2 * (i : Int)).toNat 0) p0
    have b0 := Int.emod_nonneg (L.getD (2 * (i : Int) + 1).toNat 0) (Int.ne_of_gt p0)
    have b1 := Int.emod_lt_of_pos (L.getD (2 * (i : Int) + 1).toNat 0) p0
    refine ⟨_, G ++ [(L.getD (2 * (i : Int)).toNat 0 % (2 * (1 + ((m : Int) - 1) + i)), L.getD (2 * (i : Int) + 1).toNat 0 % (2 * (1 + ((m : Int) - 1) + i)))], rfl, sub.set (by omega), ⟨?_, hn.v.snoc ⟨a0, by rw [hG]; omega, b0, by rw [hG]; omega⟩, by rw [List.length_append]; simp; omega⟩, by rw [List.length_append, hG]; rfl, by omega⟩
    rw [get_set hg, List.map_append]
    rfl
  · rintro ss st' ⟨o4, G, rfl, sub, hn, hG, hi⟩
    (try simp (disch := omega) only [WZ, WR, wp_if, wp_expr, wp_optD, wipeD, List.reduceReplicate, Nat.reduceSub, Int.reduceToNat, Int.reducePow, WY])
    exact ⟨sub, m, kg, G, rfl, by omega, by omega, hn, by omega⟩
theorem emod_rg (x : Int) {n : Int} (h : 0 < n) : 0 ≤ x % n ∧ x % n < n := ⟨Int.emod_nonneg x (Int.ne_of_gt h), Int.emod_lt_of_pos x h⟩
theorem wp_indexI {k : Nat} {L : List Int} {x : Int} {j : Nat} {st : Sto} {Q : PQ DV} {E : XQ} (h : st[k]? = some (.lst (L.map DV.int))) (hj : L.findIdx? (fun z => decide (z = x)) = some j) : Wp (indexM (.ref k) [.int x] st) Q E = Q (.int (j : Nat)) st := by
  have e2 : ∀ L : List Int, (L.map DV.int).findIdx? (fun z => eqF z (.int x)) = L.findIdx? (fun z => decide (z = x)) := fun L => by
    rw [List.findIdx?_map]
    congr 1
  have e : indexM (.ref k) [.int x] st = .ok (.int (j : Nat)) st := by
    unfold indexM
    simp only [h]
    rw [if_pos (by rw [flat_nums]; rfl), e2, hj]
  unfold Wp
  rw [e]
theorem index_ls {n e : Int} {ls : Int → Int} {Lb : List Int} (h : LS n ls) (hl : LabL n ls Lb) (ll : (Lb.length : Int) = 2 * n) (e0 : 0 ≤ e) (e1 : e < 2 * n) : Lb.findIdx? (fun z => decide (z = g Lb e)) = some (ls e).toNat := by
  have hb := h.b e e0 e1
  rw [List.findIdx?_eq_some_iff_getElem]
  have key : ∀ i (hi : i < Lb.length), Lb[i] = g Lb i := fun i hi => by
    unfold g
    rw [Int.toNat_natCast, List.getD_eq_getElem?_getD, List.getElem?_eq_getElem hi]
    rfl
  refine ⟨by omega, ?_, fun i hi => ?_⟩
  · rw [key, show (((ls e).toNat : Nat) : Int) = ls e by omega]
    exact decide_eq_true ((hl _ _ hb.1 (by omega) e0 e1).mpr (h.idem e e0 e1))
  · rw [key i (by omega)]
    simp only [decide_eq_true_eq]
    intro q
    have q := (hl _ _ (by omega) (by omega) e0 e1).mp q
    have := h.b i (by omega) (by omega)
    omega
theorem lsf_map {n : Int} {ls : Int → Int} {Lb : List Int} (hl : LabL n ls Lb) (ll : (Lb.length : Int) = 2 * n) (F : Int → Int) (hF : ∀ e, 0 ≤ e → e < 2 * n → F (g Lb e) = ls e) : (List.range (2 * n).toNat).map (fun (i : Nat) => ls (i : Int)) = Lb.map F := by
  refine List.ext_getElem (by simp; omega) fun i h1 h2 => ?_
  rw [List.length_map, List.length_range] at h1
  rw [List.getElem_map, List.getElem_map, List.getElem_range]
  have := hF i (by omega) (by omega)
  unfold g at this
  rw [Int.toNat_natCast, List.getD_eq_getElem?_getD, List.getElem?_eq_getElem (by omega)] at this
  exact this.symm

theorem row_spec {ns : List Int} {at_ many : Int} {st : Sto} (ha : 0 ≤ at_) (h0 : 0 ≤ many) (h1 : many ≤ 1000000) :
    Wp (s__law_row [.fzl (ns.map DV.int), .int at_, .int many] st) (fun v st' => ∃ L : List Int, v = .ref st.length ∧ st' = st ++ [.lst (L.map DV.int)] ∧ L.length = many.toNat ∧ ∀ x ∈ L, 0 ≤ x) NX := by
  unfold s__law_row
  simp (disch := omega) only [WZ, WR, wp_expr, wp_optD, wipeD, List.reduceReplicate, Nat.reduceSub, Int.reduceToNat, Int.reducePow, WY]
  refine Wp.mono (Q := fun fl st' => st' = st ∧ ∃ c : Int, fl = .nx [some (.fzl (ns.map DV.int)), some (.int at_), some (.int many), some (.int c), none, none, none, none, none]) ?_ ?_
  · (try simp (disch := omega) only [WZ, WR, wp_if, wp_expr, wp_optD, wipeD, List.reduceReplicate, Nat.reduceSub, Int.reduceToNat, Int.reducePow, WY])
    split
    · exact ⟨_, rfl⟩
    · exact ⟨_, rfl⟩
  · rintro fl st' ⟨rfl, c, rfl⟩
    (try simp (disch := omega) only [WZ, WR, wp_if, wp_expr, wp_optD, wipeD, List.reduceReplicate, Nat.reduceSub, Int.reduceToNat, Int.reducePow, WY, wp_alloc])
    refine for_rule (fun i ss st1 => ∃ (L : List Int) (rest : Int) (great : Bool) (o7 o8 : Option DV), ss = [some (.fzl (ns.map DV.int)), some (.int at_), some (.int many), some (.int c), some (.int rest), some (.bl great), some (.ref st'.length), o7, o8] ∧ st1 = st' ++ [.lst (L.map DV.int)] ∧ L.length = i ∧ (∀ x ∈ L, 0 ≤ x) ∧ 0 ≤ rest) ?_ (fun i ss st _ _ => okG_nil) ?_ ?_
    · exact ⟨[], _, _, none, none, rfl, rfl, rfl, (fun x hx => by simp at hx), by split <;> omega⟩
    · rintro i x ss st1 hx ⟨L, rest, great, o7, o8, rfl, rfl, hL, hpos, hrest⟩
      obtain ⟨hi, rfl⟩ := irange_get hx
      refine ⟨_, _, rfl, ?_⟩
      unfold s__law_row_L1
      have hsz : (L.map DV.int).length < 16777216 := by rw [List.length_map, hL]; omega
      have hi' : (i : Int) < 1000000 := by omega
      have hpush : ∀ x : Int, 0 ≤ x → ∀ y ∈ L ++ [x], 0 ≤ y := fun x hx y hy => by
        rcases List.mem_append.mp hy with h | h
        · exact hpos y h
        · simp at h; subst h; exact hx
      have fin : ∀ x : Int, List.map DV.int L ++ [DV.int x] = (L ++ [x]).map DV.int := fun x => by rw [List.map_append]; rfl
      have key : ∀ one : Int, 0 ≤ one → one < 2147483647 → 0 ≤ (one * one % 2147483629 + one / 7) % 1000000 := fun one _ _ => Int.emod_nonneg _ (by decide)
      (try simp (disch := omega) only [WZ, WR, wp_if, wp_expr, wp_optD, wipeD, List.reduceReplicate, Nat.reduceSub, Int.reduceToNat, Int.reducePow, WY, tMt_R get_new, wp_appendc get_new, set_new, fin])
      by_cases hgr : great = true ∧ 0 < rest
      · rw [ite2_pos hgr]
        exact ⟨_, _, _, _, _, rfl, rfl, by simp [hL], hpush _ (Int.emod_nonneg _ (by decide)), Int.ediv_nonneg hrest (by decide)⟩
      · rw [ite2_neg hgr]
        exact ⟨_, _, _, _, _, rfl, rfl, by simp [hL], hpush _ (Int.emod_nonneg _ (by decide)), hrest⟩
    · rintro ss st1 ⟨L, rest, great, o7, o8, rfl, rfl, hL, hpos, hrest⟩
      (try simp (disch := omega) only [WZ, WR, wp_if, wp_expr, wp_optD, wipeD, List.reduceReplicate, Nat.reduceSub, Int.reduceToNat, Int.reducePow, WY])
      rw [irange_length] at hL
      exact ⟨L, rfl, hL, hpos⟩
theorem row_new {ns : List Int} {at_ many : Int} {st : Sto} (ha : 0 ≤ at_) (h0 : 0 ≤ many) (h1 : many ≤ 1000000) :
    Wp (s__law_row [.fzl (ns.map DV.int), .int at_, .int many] st) (fun v st' => Sub st st' ∧ ∃ (L : List Int) (k : Nat), v = .ref k ∧ st.length ≤ k ∧ k < st'.length ∧ st'[k]? = some (.lst (L.map DV.int)) ∧ L.length = many.toNat ∧ ∀ x ∈ L, 0 ≤ x) NX := by
  refine (row_spec ha h0 h1).mono ?_
  rintro _ _ ⟨L, rfl, rfl, hL, hp⟩
  exact ⟨.app, L, _, rfl, Nat.le_refl _, by simp, get_new, hL, hp⟩

def rPairs : Nat → Int
  | 0 => 0
  | l + 1 => Builtin.bitOr (rPairs l) (2 ^ (2 * l))
def rBoth (P x y : Int) : Int := if Builtin.bitAnd (Builtin.bitAnd (Builtin.bitOr x y) (Builtin.bitOr x y / 2)) P ≠ 0 then -1 else Builtin.bitOr x y
def rCj (P : Int) (a b : Option Int) : Option Int := if a = some (-1) ∨ b = some (-1) then some (-1) else match a, b with
  | some x, some y => some (rBoth P x y)
  | _, _ => none
/-- sets of ends that must all be high -/
def rAlg (l : Nat) : Alg Int := ⟨-1, 0, fun k b => 2 ^ (2 * k + (if b = true then 1 else 0)), fun _ => none, rCj (rPairs l)⟩
structure RdAt (st : Sto) (kw N : Nat) (D : Int → Option Int) : Prop where
  ex : ∃ kvs, st[kw]? = some (.dic kvs) ∧ KI kvs ∧ kvs.length ≤ N ∧ ∀ q : Int, (hGet kvs (.int q)).getD .non = odI (D q)
theorem rowset_spec {st : Sto} {k kp kw l N : Nat} {n e : Int} {R L lv : List Int} {D : Int → Option Int} {K : List (Option Int)} (hc : CC st k n R L) (hp : PLD st kp lv) (hlv : LvOk lv) (hl : lv.length ≤ 64) (hw : RdAt st kw N D) (h0 : 0 ≤ e) (h1 : e < 2 * n) (hD : Un (lsf R L) lv e → D (e / 2) = K.getD (e / 2).toNat none) :
    Wp (s_row_set [.ref k, .ref kp, .ref kw, .int e] st) (fun v st' => st = st' ∧ v = odI (ev (rAlg l) (lsf R L) lv K e)) NX := by
  unfold s_row_set
  obtain ⟨vs, hmt⟩ := hc.meth
  (try simp (disch := omega) only [WZ, WR, wp_if, wp_expr, wp_optD, wipeD, List.reduceReplicate, Nat.reduceSub, Int.reduceToNat, Int.reducePow, WY, tMeth_R hmt])
  refine (hc.least h0 h1).mono ?_
  rintro _ _ ⟨rfl, rfl⟩
  obtain ⟨kvp, hk1, hK, hpl⟩ := hp
  obtain ⟨kvs, hk2, hK2, _, hD2⟩ := hw.ex
  have hb := hc.ls.b e h0 h1
  generalize hv : lsf R L e = v at hb
  (try simp (disch := omega) only [WZ, WR, wp_if, wp_expr, wp_optD, wipeD, List.reduceReplicate, Nat.reduceSub, Int.reduceToNat, Int.reducePow, WY, wp_inDk hk1 hK, hpl])
  split
  · rename_i q
    subst q
    unfold ev
    rw [hv]
    rfl
  rename_i q0
  split
  · rename_i q
    subst q
    unfold ev
    rw [hv]
    rfl
  rename_i q1
  cases hpv : pl lv (v / 2) with
  | some i =>
    have hi := pl_lt hpv
    have hia := pl_at hpv
    have l0 : 0 ≤ lv.getD i 0 := by omega
    have hg : hGet kvp (.int (v / 2)) = some (.tup [.int (i : Nat), .int (lv.getD i 0)]) := by rw [hpl, hpv]; rfl
    (try simp (disch := omega) only [WZ, WR, wp_if, wp_expr, wp_optD, wipeD, List.reduceReplicate, Nat.reduceSub, Int.reduceToNat, Int.reducePow, WY, Option.map_some, Option.isSome_some, if_true, wp_ixD hk1 (hK.ok _) hg, tG2_T2', setAll, par_xor (show 0 ≤ v by omega) l0])
    have ee : ev (rAlg l) (lsf R L) lv K e = some ((rAlg l).leaf i (decide ((v - lv.getD i 0) % 2 ≠ 0))) := by
      unfold ev
      rw [hv, if_neg (by omega), if_neg (by omega), hpv]
    rw [ee]
    show _ = DV.int (2 ^ (2 * i + (if decide ((v - lv.getD i 0) % 2 ≠ 0) = true then 1 else 0)))
    congr 1
    rw [Int.one_mul]
    congr 1
    simp only [decide_eq_true_eq]
    split <;> omega
  | none =>
    have hD' := hD ⟨by omega, by rw [hv]; exact hpv⟩
    have ee : ev (rAlg l) (lsf R L) lv K e = if e % 2 = 0 then K.getD (e / 2).toNat none else none := by
      unfold ev
      rw [hv, if_neg (by omega), if_neg (by omega), hpv]
      simp only
      congr 1
      cases K.getD (e / 2).toNat none <;> rfl
    rw [ee]
    (try simp (disch := omega) only [WZ, WR, wp_if, wp_expr, wp_optD, wipeD, List.reduceReplicate, Nat.reduceSub, Int.reduceToNat, Int.reducePow, WY, Option.map_none, Option.isSome_none, tMt_D hk2, wp_dgetI1 hk2 hK2, hD2 (e / 2), hD'])
    split
    · rw [if_neg (by omega)]
      rfl
    · rw [if_pos (by omega)]
theorem wp_eqNI {i : Int} {st : Sto} {Q : PQ DV} {E : XQ} : Wp (eqM .non (.int i) st) Q E = Q (.bl false) st := by
  rw [wp_eqD .non (.int i) (Sh.non (n := 0)) (Sh.int (n := 0) i) (by decide) (by decide)]
  rfl
theorem together_spec {st : Sto} {P : Int} {a b : Option Int} : Wp (s_together [odI a, odI b, .int P] st) (fun v st' => st = st' ∧ v = odI (rCj P a b)) NX := by
  unfold s_together
  cases a with
  | none =>
    cases b with
    | none =>
      unfold odI
      (try simp +decide (disch := omega) only [↓reduceIte, WX2, Nat.reduceAdd, Int.reduceSub, Int.reduceAdd, Int.reduceMul, WZ, WR, wp_if, wp_expr, wp_optD, wipeD, List.reduceReplicate, Nat.reduceSub, Int.reduceToNat, Int.reducePow, WY, wp_eqNI, wp_eqIN, c_LOW])
      rfl
    | some y =>
      unfold odI
      (try simp +decide (disch := omega) only [↓reduceIte, WX2, Nat.reduceAdd, Int.reduceSub, Int.reduceAdd, Int.reduceMul, WZ, WR, wp_if, wp_expr, wp_optD, wipeD, List.reduceReplicate, Nat.reduceSub, Int.reduceToNat, Int.reducePow, WY, wp_eqNI, wp_eqIN, c_LOW])
      by_cases h : y = -1
      · subst h
        rfl
      · rw [if_neg h]
        unfold rCj
        rw [if_neg (by simp; omega)]
  | some x =>
    cases b with
    | none =>
      unfold odI
      (try simp +decide (disch := omega) only [↓reduceIte, WX2, Nat.reduceAdd, Int.reduceSub, Int.reduceAdd, Int.reduceMul, WZ, WR, wp_if, wp_expr, wp_optD, wipeD, List.reduceReplicate, Nat.reduceSub, Int.reduceToNat, Int.reducePow, WY, wp_eqNI, wp_eqIN, c_LOW])
      by_cases h : x = -1
      · subst h
        rfl
      · rw [if_neg h]
        unfold rCj
        rw [if_neg (by simp; omega)]
    | some y =>
      unfold odI
      (try simp +decide (disch := omega) only [↓reduceIte, WX2, Nat.reduceAdd, Int.reduceSub, Int.reduceAdd, Int.reduceMul, WZ, WR, wp_if, wp_expr, wp_optD, wipeD, List.reduceReplicate, Nat.reduceSub, Int.reduceToNat, Int.reducePow, WY, wp_eqNI, wp_eqIN, c_LOW])
      show _
      by_cases h1 : x = -1
      · subst h1
        rfl
      rw [if_neg h1]
      by_cases h2 : y = -1
      · subst h2
        rw [if_pos rfl]
        unfold rCj
        rw [if_pos (.inr rfl)]
      rw [if_neg h2]
      have e : rCj P (some x) (some y) = some (rBoth P x y) := by
        unfold rCj
        rw [if_neg (by simp [h1, h2])]
      rw [e]
      unfold rBoth
      simp only [bne_iff_ne]
      split <;> rfl
theorem rPairs_step (l : Nat) : rPairs (l + 1) = Builtin.bitOr (rPairs l) (2 ^ (2 * l)) := rfl
theorem row_spec' {st : Sto} {k kg kp m : Nat} {nl n a b : Int} {R L lv es : List Int} {G : List (Int × Int)} {s : DV} (hc : CC st k n R L) (hn : NetAt st kg m G) (hp : PLD st kp lv) (hlv : LvOk lv) (hl : lv.length = es.length) (he : es.length ≤ 64) (hm : (m : Int) = 1 + nl) (hN : n = (m + G.length : Nat)) (a0 : 0 ≤ a) (a1 : a < 2 * n) (b0 : 0 ≤ b) (b1 : b < 2 * n) :
    Wp (s_row_good [.tup [.int nl, .ref kg], .ref k, .tup [s, .int a, .int b, .tup (es.map DV.int)], .ref kp] st) (fun v st' => Sub st st' ∧ v = .bl (goodB (rAlg es.length) (lsf R L) lv m G a b)) NX := by
  have n5 := hc.n0
  unfold s_row_good
  (try simp (disch := omega) only [WZ, WR, wp_if, wp_expr, wp_optD, wipeD, List.reduceReplicate, Nat.reduceSub, Int.reduceToNat, Int.reducePow, WY, wp_ixTh])
  refine for_rule (fun i ss st' => ∃ o5, ss = [some (.tup [.int nl, .ref kg]), some (.ref k), some (.tup [s, .int a, .int b, .tup (es.map DV.int)]), some (.ref kp), some (.int (rPairs i)), o5, none, none, none, none, none] ∧ st = st') ⟨none, rfl, rfl⟩ (fun _ _ _ _ _ => okG_nil) ?_ ?_
  · rintro i x ss st' hx ⟨o5, rfl, rfl⟩
    obtain ⟨hi, rfl⟩ := irange_get hx
    refine ⟨_, _, rfl, ?_⟩
    unfold s_row_good_L1
    rw [Int.zero_add]
    (try simp (disch := omega) only [WZ, WR, wp_if, wp_expr, wp_optD, wipeD, List.reduceReplicate, Nat.reduceSub, Int.reduceToNat, Int.reducePow, WY])
    refine ⟨some (.int (i : Int)), ?_⟩
    rw [rPairs_step]
    have : (2 * (i : Int)).toNat = 2 * i := by omega
    rw [this, Int.one_mul]
  · rintro ss st' ⟨o5, rfl, rfl⟩
    rw [irange_length]
    (try simp (disch := omega) only [WZ, WR, wp_if, wp_expr, wp_optD, wipeD, List.reduceReplicate, Nat.reduceSub, Int.reduceToNat, Int.reducePow, WY])
    refine wp_dic0 fun st1 kw sub l1 m1 g1 => ?_
    (try simp (disch := omega) only [WZ, WR, wp_if, wp_expr, wp_optD, wipeD, List.reduceReplicate, Nat.reduceSub, Int.reduceToNat, Int.reducePow, WY])
    have hcut : ML.cutD [s, DV.int a, DV.int b, DV.tup (List.map DV.int es)] (some 1) (some 3) = [a, b].map DV.int := rfl
    rw [hcut]
    refine (cone_spec (hc.mono sub) (hn.mono sub) (hp.mono sub) hm hN (es := [a, b]) (fun e he => by simp at he; rcases he with rfl | rfl <;> constructor <;> assumption) (by simp)).mono ?_
    rintro _ st2 ⟨sub2, kc, S, rfl, lc, mc, gc, C⟩
    have hS := pigeon (m + G.length) S (C.srt.imp (fun h => by omega)) (fun x hx => ⟨by have := (C.ok x hx).1; omega, (C.ok x hx).2.1⟩)
    (try simp (disch := omega) only [WZ, WR, wp_if, wp_expr, wp_optD, wipeD, List.reduceReplicate, Nat.reduceSub, Int.reduceToNat, Int.reducePow, WY, tIy_R gc])
    have l1' := sub.len
    have kwl := lt_of_get g1
    have el : lv.length ≤ 64 := by omega
    refine for_rule (fun i ss st' => ∃ o7 o8 o9 o10, ss = [some (.tup [.int nl, .ref kg]), some (.ref k), some (.tup [s, .int a, .int b, .tup (es.map DV.int)]), some (.ref kp), some (.int (rPairs es.length)), o5, some (.ref kw), o7, o8, o9, o10] ∧ Sub st st' ∧ st'[kc]? = some (.lst (S.map DV.int)) ∧ RdAt st' kw i (fun q => if q ∈ S.take i then (evs (rAlg es.length) (lsf R L) lv m G G.length).getD q.toNat none else none)) ⟨none, none, none, none, rfl, sub.trans sub2, gc, ⟨[], sub2 _ _ g1, fun p hp => by simp at hp, Nat.le_refl _, fun q => by simp; rfl⟩⟩ (fun i ss st' _ ⟨_, _, _, _, _, _, h, _⟩ => okG_one h) ?_ ?_
    · rintro i x ss st' hx ⟨o7, o8, o9, o10, rfl, sub, gc, W⟩
      obtain ⟨t, ht, rfl⟩ := mapI_get hx
      have hi := lt_of_get ht
      obtain ⟨t0, t1, t2⟩ := C.ok t (List.mem_of_getElem? ht)
      refine ⟨_, _, rfl, ?_⟩
      unfold s_row_good_L2
      have hg := sub _ _ hn.g
      have hat : atI (G.map pr) (t - 1 - nl) = some (pr (G.getD (t - m).toNat (0, 0))) := by
        rw [← at_pr (by omega)]
        congr 1
        omega
      have hgv := hn.v _ _ (getD_mem (G := G) (i := (t - m).toNat) (by omega))
      (try simp (disch := omega) only [WZ, WR, wp_if, wp_expr, wp_optD, wipeD, List.reduceReplicate, Nat.reduceSub, Int.reduceToNat, Int.reducePow, WY, wp_ixTh, wp_ixR hg, hat, setAll])
      refine (rowset_spec (l := es.length) (hc.mono sub) (hp.mono sub) hlv el W (e := (G.getD (t - m).toNat (0, 0)).1) (by omega) (by omega) (fun u => cone_reads hc.ls C hn.v ht (.inl rfl) hN u)).mono ?_
      rintro _ _ ⟨rfl, rfl⟩
      (try simp (disch := omega) only [WZ, WR, wp_if, wp_expr, wp_optD, wipeD, List.reduceReplicate, Nat.reduceSub, Int.reduceToNat, Int.reducePow, WY])
      refine (rowset_spec (l := es.length) (hc.mono sub) (hp.mono sub) hlv el W (e := (G.getD (t - m).toNat (0, 0)).2) (by omega) (by omega) (fun u => cone_reads hc.ls C hn.v ht (.inr rfl) hN u)).mono ?_
      rintro _ _ ⟨rfl, rfl⟩
      (try simp (disch := omega) only [WZ, WR, wp_if, wp_expr, wp_optD, wipeD, List.reduceReplicate, Nat.reduceSub, Int.reduceToNat, Int.reducePow, WY])
      refine together_spec.mono ?_
      rintro _ _ ⟨rfl, rfl⟩
      have kg := K_gate (A := rAlg es.length) (ls := lsf R L) (lv := lv) hn.v (i := (t - m).toNat) (by omega)
      have em : m + (t - m).toNat = t.toNat := by omega
      rw [em] at kg
      have kg : (evs (rAlg es.length) (lsf R L) lv m G G.length).getD t.toNat none = rCj (rPairs es.length) (ev (rAlg es.length) (lsf R L) lv (evs (rAlg es.length) (lsf R L) lv m G G.length) (G.getD (t - m).toNat (0, 0)).1) (ev (rAlg es.length) (lsf R L) lv (evs (rAlg es.length) (lsf R L) lv m G G.length) (G.getD (t - m).toNat (0, 0)).2) := kg
      rw [← kg]
      have tk : ∀ q, q ∈ S.take (i + 1) ↔ q ∈ S.take i ∨ q = t := fun q => by
        rw [List.take_succ, ht]
        simp
      (try simp (disch := omega) only [WZ, WR, wp_if, wp_expr, wp_optD, wipeD, List.reduceReplicate, Nat.reduceSub, Int.reduceToNat, Int.reducePow, WY])
      refine tG2_sub ?_
      unfold ML.tSub
      obtain ⟨kvs', hk, hK, hlen, hq⟩ := W.ex
      (try simp (disch := omega) only [WZ, WR, wp_if, wp_expr, wp_optD, wipeD, List.reduceReplicate, Nat.reduceSub, Int.reduceToNat, Int.reducePow, WY, setM_D hk (hK.ok _) (by omega)])
      have kne : kw ≠ kc := by omega
      refine ⟨_, _, _, _, rfl, sub.set (by omega), by rw [List.getElem?_set_ne kne]; exact gc, ⟨_, get_set hk, hK.set _ _, ?_, fun q => ?_⟩⟩
      · have := hSet_len (h := .int t) (d := odI ((evs (rAlg es.length) (lsf R L) lv m G G.length).getD t.toNat none)) (kvs := kvs')
        omega
      · rw [hGet_set]
        by_cases q2 : q = t
        · subst q2
          rw [if_pos rfl, if_pos ((tk q).mpr (.inr rfl))]
          rfl
        · rw [if_neg (by simp; omega), hq q]
          simp only [tk, q2, or_false]
    · rintro ss st' ⟨o7, o8, o9, o10, rfl, sub, gc, W⟩
      rw [List.length_map, List.take_length] at W
      (try simp (disch := omega) only [WZ, WR, wp_if, wp_expr, wp_optD, wipeD, List.reduceReplicate, Nat.reduceSub, Int.reduceToNat, Int.reducePow, WY, wp_ixTh])
      refine (rowset_spec (l := es.length) (hc.mono sub) (hp.mono sub) hlv el W (e := a) a0 a1 (fun u => cone_tops hc.ls C (by simp) a0 a1 u)).mono ?_
      rintro _ _ ⟨rfl, rfl⟩
      (try simp (disch := omega) only [WZ, WR, wp_if, wp_expr, wp_optD, wipeD, List.reduceReplicate, Nat.reduceSub, Int.reduceToNat, Int.reducePow, WY, wp_ixTh])
      unfold goodB
      cases ev (rAlg es.length) (lsf R L) lv (evs (rAlg es.length) (lsf R L) lv m G G.length) a with
      | none =>
        unfold odI
        (try simp +decide (disch := omega) only [↓reduceIte, WX2, Nat.reduceAdd, Int.reduceSub, Int.reduceAdd, Int.reduceMul, WZ, WR, wp_if, wp_expr, wp_optD, wipeD, List.reduceReplicate, Nat.reduceSub, Int.reduceToNat, Int.reducePow, WY])
        exact sub
      | some x =>
        show Wp (isnM (.int x) .non st') _ _
        (try simp +decide (disch := omega) only [↓reduceIte, WX2, Nat.reduceAdd, Int.reduceSub, Int.reduceAdd, Int.reduceMul, WZ, WR, wp_if, wp_expr, wp_optD, wipeD, List.reduceReplicate, Nat.reduceSub, Int.reduceToNat, Int.reducePow, WY, wp_ixTh])
        refine (rowset_spec (l := es.length) (hc.mono sub) (hp.mono sub) hlv el W (e := b) b0 b1 (fun u => cone_tops hc.ls C (by simp) b0 b1 u)).mono ?_
        rintro _ _ ⟨rfl, rfl⟩
        cases ev (rAlg es.length) (lsf R L) lv (evs (rAlg es.length) (lsf R L) lv m G G.length) b with
        | none =>
          unfold odI
          (try simp +decide (disch := omega) only [↓reduceIte, WX2, Nat.reduceAdd, Int.reduceSub, Int.reduceAdd, Int.reduceMul, WZ, WR, wp_if, wp_expr, wp_optD, wipeD, List.reduceReplicate, Nat.reduceSub, Int.reduceToNat, Int.reducePow, WY, wp_eqIN])
          exact ⟨sub, rfl⟩
        | some y =>
          unfold odI
          (try simp +decide (disch := omega) only [↓reduceIte, WX2, Nat.reduceAdd, Int.reduceSub, Int.reduceAdd, Int.reduceMul, WZ, WR, wp_if, wp_expr, wp_optD, wipeD, List.reduceReplicate, Nat.reduceSub, Int.reduceToNat, Int.reducePow, WY])
          refine ⟨sub, ?_⟩
          congr 1
          simp only [Option.some.injEq]
          congr 1
          simp only [eq_iff_iff]
          omega

theorem isstepR_spec {st : Sto} {kg m : Nat} {nl n a b : Int} {es : List Int} {G : List (Int × Int)} (hn : NetAt st kg m G) (hm : (m : Int) = 1 + nl) (hN : n = (m + G.length : Nat)) (hl : es.length ≤ 1000) :
    Wp (s_is_step [.tup [.int nl, .ref kg], .tup [.str "row", .int a, .int b, .tup (es.map DV.int)]] st) (fun v st' => Sub st st' ∧ v = .bl (decide (es.length ≤ 64) && (a :: b :: es).all fun e => decide (0 ≤ e ∧ e < 2 * n))) NX := by
  have hz := hn.z
  unfold s_is_step
  (try simp +decide (disch := omega) only [↓reduceIte, WX2, Nat.reduceAdd, Int.reduceSub, Int.reduceAdd, Int.reduceMul, WZ, WR, wp_if, wp_expr, wp_optD, wipeD, List.reduceReplicate, Nat.reduceSub, Int.reduceToNat, Int.reducePow, WY, wp_ixTh, wp_eqS, wp_lenR hn.g, c_MANY])
  split
  rotate_left
  · rename_i q
    exact ⟨.refl, by simp; omega⟩
  rename_i q
  have hcut : ML.cutD [DV.str "row", DV.int a, DV.int b, DV.tup (List.map DV.int es)] (some 1) (some 3) = [DV.int a, DV.int b] := rfl
  have ht : [DV.int a, DV.int b] ++ es.map DV.int = (a :: b :: es).map DV.int := rfl
  rw [hcut, wp_addT (by simp; omega), ht]
  generalize hT : a :: b :: es = T
  have hTl : T.length = es.length + 2 := by rw [← hT]; rfl
  (try simp (disch := omega) only [WZ, WR, wp_if, wp_expr, wp_optD, wipeD, List.reduceReplicate, Nat.reduceSub, Int.reduceToNat, Int.reducePow, WY])
  refine lcn_mapG DV.bl (fun e => decide (0 ≤ e ∧ e < 2 * n)) (fun e st' hm' sub => ⟨_, rfl, ?_⟩) (fun st' sub => okG_nil) fun st1 kt sub1 l1 m1 g1 => ?_
  · (try simp (disch := omega) only [WZ, WR, wp_if, wp_expr, wp_optD, wipeD, List.reduceReplicate, Nat.reduceSub, Int.reduceToNat, Int.reducePow, WY])
    refine isend_spec.mono ?_
    rintro _ _ ⟨rfl, rfl⟩
    have hn' : 1 + nl + (G.length : Int) = n := by omega
    rw [hn']
    exact ⟨rfl, .refl⟩
  (try simp (disch := omega) only [WZ, WR, wp_if, wp_expr, wp_optD, wipeD, List.reduceReplicate, Nat.reduceSub, Int.reduceToNat, Int.reducePow, WY, wp_allR g1])
  refine ⟨sub1, ?_⟩
  rw [List.all_map, decide_eq_true (by omega : es.length ≤ 64), Bool.true_and]
  rfl
def rowOk (ls : Int → Int) (m : Nat) (G : List (Int × Int)) (a b : Int) (es : List Int) : Bool :=
  decide (es.length ≤ 64) && (decide (LvOk (es.map ls)) && goodB (rAlg es.length) ls (es.map ls) m G a b)
theorem isgoodR_spec {st : Sto} {k kg m : Nat} {nl n a b : Int} {R L es : List Int} {G : List (Int × Int)} (hc : CC st k n R L) (hn : NetAt st kg m G) (hm : (m : Int) = 1 + nl) (hN : n = (m + G.length : Nat)) (hl : es.length ≤ 1000) (he : ∀ e ∈ a :: b :: es, 0 ≤ e ∧ e < 2 * n) :
    Wp (s_is_good [.tup [.int nl, .ref kg], .ref k, .tup [.str "row", .int a, .int b, .tup (es.map DV.int)]] st) (fun v st' => Sub st st' ∧ v = .bl (rowOk (lsf R L) m G a b es)) NX := by
  unfold s_is_good
  (try simp (disch := omega) only [WZ, WR, wp_if, wp_expr, wp_optD, wipeD, List.reduceReplicate, Nat.reduceSub, Int.reduceToNat, Int.reducePow, WY])
  refine (isstepR_spec hn hm hN hl).mono ?_
  rintro _ st1 ⟨s1, rfl⟩
  have hall : ((a :: b :: es).all fun e => decide (0 ≤ e ∧ e < 2 * n)) = true := List.all_eq_true.mpr fun e h => decide_eq_true (he e h)
  rw [hall, Bool.and_true]
  unfold rowOk
  by_cases q : es.length ≤ 64
  · rw [decide_eq_true q]
    (try simp +decide (disch := omega) only [↓reduceIte, WX2, Nat.reduceAdd, Int.reduceSub, Int.reduceAdd, Int.reduceMul, WZ, WR, wp_if, wp_expr, wp_optD, wipeD, List.reduceReplicate, Nat.reduceSub, Int.reduceToNat, Int.reducePow, WY, wp_ixTh])
    have ha := he a (by simp)
    have hb := he b (by simp)
    refine (leafends_spec (hc.mono s1) (fun e h => he e (List.mem_cons_of_mem _ (List.mem_cons_of_mem _ h))) hl).mono ?_
    rintro v st2 ⟨s2, hv⟩
    by_cases q2 : LvOk (es.map (lsf R L))
    · rw [if_pos q2] at hv
      obtain ⟨kp, rfl, hp⟩ := hv
      (try simp +decide (disch := omega) only [↓reduceIte, WX2, Nat.reduceAdd, Int.reduceSub, Int.reduceAdd, Int.reduceMul, WZ, WR, wp_if, wp_expr, wp_optD, wipeD, List.reduceReplicate, Nat.reduceSub, Int.reduceToNat, Int.reducePow, WY, wp_ixTh, wp_eqS])
      have s12 := s1.trans s2
      refine (row_spec' (s := .str "row") (hc.mono s12) (hn.mono s12) hp q2 (by rw [List.length_map]) q hm hN ha.1 ha.2 hb.1 hb.2).mono ?_
      rintro _ _ ⟨s3, rfl⟩
      (try simp (disch := omega) only [WZ, WR, wp_if, wp_expr, wp_optD, wipeD, List.reduceReplicate, Nat.reduceSub, Int.reduceToNat, Int.reducePow, WY])
      rw [decide_eq_true q2]
      exact ⟨s12.trans s3, rfl⟩
    · rw [if_neg q2] at hv
      subst hv
      (try simp +decide (disch := omega) only [↓reduceIte, WX2, Nat.reduceAdd, Int.reduceSub, Int.reduceAdd, Int.reduceMul, WZ, WR, wp_if, wp_expr, wp_optD, wipeD, List.reduceReplicate, Nat.reduceSub, Int.reduceToNat, Int.reducePow, WY])
      rw [decide_eq_false q2]
      exact ⟨s1.trans s2, rfl⟩
  · rw [decide_eq_false q]
    (try simp +decide (disch := omega) only [↓reduceIte, WX2, Nat.reduceAdd, Int.reduceSub, Int.reduceAdd, Int.reduceMul, WZ, WR, wp_if, wp_expr, wp_optD, wipeD, List.reduceReplicate, Nat.reduceSub, Int.reduceToNat, Int.reducePow, WY])
    exact ⟨s1, rfl⟩

/-! k37: sets of leaves as lists of places -/
theorem lt_ext : ∀ {a b : List Int}, a.Pairwise (· < ·) → b.Pairwise (· < ·) → (∀ k, k ∈ a ↔ k ∈ b) → a = b := fun ha hb h =>
  (usrt_eq ha h).trans (usrt_eq hb fun _ => .rfl).symm
def plcN (l m : Nat) : List Int := ((List.range l).reverse.filter fun k => m.testBit (2 * k + 1)).map (fun (k : Nat) => -1 - (k : Int))
def plcP (l m : Nat) : List Int := ((List.range l).filter fun k => m.testBit (2 * k)).map (fun (k : Nat) => (k : Int) + 1)
/-- the places of a mask, turned ones below nought -/
def plc (l m : Nat) : List Int := plcN l m ++ plcP l m
theorem mem_plc {l m : Nat} {p : Int} : p ∈ plc l m ↔ ∃ k, k < l ∧ ((m.testBit (2 * k) = true ∧ p = (k : Int) + 1) ∨ (m.testBit (2 * k + 1) = true ∧ p = -1 - (k : Int))) := by
  unfold plc plcN plcP
  simp only [List.mem_append, List.mem_map, List.mem_filter, List.mem_reverse, List.mem_range]
  constructor
  · rintro (⟨k, ⟨h1, h2⟩, rfl⟩ | ⟨k, ⟨h1, h2⟩, rfl⟩)
    · exact ⟨k, h1, .inr ⟨h2, rfl⟩⟩
    · exact ⟨k, h1, .inl ⟨h2, rfl⟩⟩
  · rintro ⟨k, h1, ⟨h2, rfl⟩ | ⟨h2, rfl⟩⟩
    · exact .inr ⟨k, ⟨h1, h2⟩, rfl⟩
    · exact .inl ⟨k, ⟨h1, h2⟩, rfl⟩
theorem plc_lt {l m : Nat} : (plc l m).Pairwise (· < ·) := by
  unfold plc plcN plcP
  rw [List.pairwise_append]
  refine ⟨?_, ?_, fun a ha b hb => ?_⟩
  · rw [List.pairwise_map]
    refine List.Pairwise.filter _ ?_
    rw [List.pairwise_reverse]
    exact List.pairwise_lt_range.imp fun h => by omega
  · rw [List.pairwise_map]
    refine List.Pairwise.filter _ ?_
    exact List.pairwise_lt_range.imp fun h => by omega
  · obtain ⟨i, _, rfl⟩ := List.mem_map.mp ha
    obtain ⟨j, _, rfl⟩ := List.mem_map.mp hb
    omega
theorem plc_len {l m : Nat} : (plc l m).length ≤ 2 * l := by
  unfold plc plcN plcP
  rw [List.length_append, List.length_map, List.length_map]
  have h1 := List.length_filter_le (fun k => m.testBit (2 * k + 1)) (List.range l).reverse
  have h2 := List.length_filter_le (fun k => m.testBit (2 * k)) (List.range l)
  rw [List.length_reverse, List.length_range] at h1
  rw [List.length_range] at h2
  omega
theorem plc_inj {l a b : Nat} (ha : a < 2 ^ (2 * l)) (hb : b < 2 ^ (2 * l)) (h : plc l a = plc l b) : a = b := by
  refine Nat.eq_of_testBit_eq fun i => ?_
  by_cases hi : i < 2 * l
  · have key : ∀ p, p ∈ plc l a ↔ p ∈ plc l b := fun p => by rw [h]
    have nz : ∀ {k k' : Nat}, (k : Int) + 1 ≠ -1 - (k' : Int) := fun {k k'} => by omega
    rcases Nat.mod_two_eq_zero_or_one i with e | e
    · have k1 := key ((i / 2 : Nat) + 1)
      rw [mem_plc, mem_plc] at k1
      have ei : 2 * (i / 2) = i := by omega
      have one : ∀ m : Nat, (∃ k, k < l ∧ ((m.testBit (2 * k) = true ∧ ((i / 2 : Nat) : Int) + 1 = (k : Int) + 1) ∨ (m.testBit (2 * k + 1) = true ∧ ((i / 2 : Nat) : Int) + 1 = -1 - (k : Int)))) ↔ m.testBit i = true := fun m => by
        constructor
        · rintro ⟨k, _, ⟨q, e⟩ | ⟨_, e⟩⟩
          · have : k = i / 2 := by omega
            rw [this, ei] at q
            exact q
          · exact absurd e nz
        · intro q
          exact ⟨i / 2, by omega, .inl ⟨by rw [ei]; exact q, rfl⟩⟩
      rw [one, one] at k1
      exact Bool.eq_iff_iff.mpr k1
    · have k1 := key (-1 - ((i / 2 : Nat) : Int))
      rw [mem_plc, mem_plc] at k1
      have ei : 2 * (i / 2) + 1 = i := by omega
      have one : ∀ m : Nat, (∃ k, k < l ∧ ((m.testBit (2 * k) = true ∧ -1 - ((i / 2 : Nat) : Int) = (k : Int) + 1) ∨ (m.testBit (2 * k + 1) = true ∧ -1 - ((i / 2 : Nat) : Int) = -1 - (k : Int)))) ↔ m.testBit i = true := fun m => by
        constructor
        · rintro ⟨k, _, ⟨_, e⟩ | ⟨q, e⟩⟩
          · exact absurd e.symm nz
          · have : k = i / 2 := by omega
            rw [this, ei] at q
            exact q
        · intro q
          exact ⟨i / 2, by omega, .inr ⟨by rw [ei]; exact q, rfl⟩⟩
      rw [one, one] at k1
      exact Bool.eq_iff_iff.mpr k1
  · have hp : 2 ^ (2 * l) ≤ 2 ^ i := Nat.pow_le_pow_right (by decide) (by omega)
    rw [Nat.testBit_lt_two_pow (by omega), Nat.testBit_lt_two_pow (by omega)]
/-- a set of leaves as the law has it: low is [0] -/
def hq (l : Nat) (x : Int) : List Int := if x = -1 then [0] else plc l x.toNat
/-- a set that comes -/
def Vq (l : Nat) (x : Int) : Prop := x = -1 ∨ ∃ m : Nat, x = (m : Int) ∧ m < 2 ^ (2 * l)
theorem hq_nat {l m : Nat} : hq l (m : Int) = plc l m := by
  unfold hq
  rw [if_neg (by omega), Int.toNat_natCast]
theorem zero_plc {l m : Nat} : (0 : Int) ∉ plc l m := fun h => by
  obtain ⟨k, _, ⟨_, e⟩ | ⟨_, e⟩⟩ := mem_plc.mp h <;> omega
theorem hq_low {l : Nat} {x : Int} (h : Vq l x) : hq l x = [0] ↔ x = -1 := by
  constructor
  · intro e
    rcases h with h | ⟨m, rfl, _⟩
    · exact h
    · rw [hq_nat] at e
      exact absurd (e ▸ List.mem_singleton.mpr rfl) (zero_plc (l := l) (m := m))
  · rintro rfl
    rfl
theorem hq_inj {l : Nat} {x y : Int} (hx : Vq l x) (hy : Vq l y) (h : hq l x = hq l y) : x = y := by
  rcases hx with rfl | ⟨a, rfl, ha⟩
  · exact ((hq_low hy).mp (h ▸ rfl)).symm
  · rcases hy with rfl | ⟨b, rfl, hb⟩
    · exact (hq_low (.inr ⟨a, rfl, ha⟩)).mp h
    · rw [hq_nat, hq_nat] at h
      rw [plc_inj ha hb h]
theorem hq_len {l : Nat} {x : Int} (hl : 1 ≤ l ∨ True) : (hq l x).length ≤ 2 * l + 1 := by
  unfold hq
  split
  · simp
  · have := plc_len (l := l) (m := x.toNat)
    omega
/-- both sets together, as the law has it -/
def qBoth (x y : List Int) : List Int := if (usrt (x ++ y)).any (fun p => decide (-p ∈ usrt (x ++ y))) = true then [0] else usrt (x ++ y)
def qCj (a b : Option (List Int)) : Option (List Int) := if a = some [0] ∨ b = some [0] then some [0] else match a, b with
  | some x, some y => some (qBoth x y)
  | _, _ => none
def qAlg : Alg (List Int) := ⟨[0], [], fun k b => [if b = true then -1 - (k : Int) else (k : Int) + 1], fun _ => none, qCj⟩
theorem usrt_plc {l a b : Nat} : usrt (plc l a ++ plc l b) = plc l (a ||| b) := by
  refine lt_ext usrt_lt plc_lt fun k => ?_
  rw [mem_usrt, List.mem_append, mem_plc, mem_plc, mem_plc]
  constructor
  · rintro (⟨i, h, ⟨q, e⟩ | ⟨q, e⟩⟩ | ⟨i, h, ⟨q, e⟩ | ⟨q, e⟩⟩) <;> first
      | exact ⟨i, h, .inl ⟨by rw [Nat.testBit_or, q]; simp, e⟩⟩
      | exact ⟨i, h, .inr ⟨by rw [Nat.testBit_or, q]; simp, e⟩⟩
  · rintro ⟨i, h, ⟨q, e⟩ | ⟨q, e⟩⟩ <;> (rw [Nat.testBit_or, Bool.or_eq_true] at q; rcases q with q | q)
    · exact .inl ⟨i, h, .inl ⟨q, e⟩⟩
    · exact .inr ⟨i, h, .inl ⟨q, e⟩⟩
    · exact .inl ⟨i, h, .inr ⟨q, e⟩⟩
    · exact .inr ⟨i, h, .inr ⟨q, e⟩⟩
theorem rPairs_bits : ∀ l, ∃ p : Nat, rPairs l = (p : Int) ∧ ∀ i, p.testBit i = decide (i % 2 = 0 ∧ i < 2 * l)
  | 0 => ⟨0, rfl, fun i => by simp⟩
  | l + 1 => by
    obtain ⟨p, hp, hb⟩ := rPairs_bits l
    refine ⟨p ||| 2 ^ (2 * l), by rw [rPairs, hp, two_nat', bor_nat'], fun i => ?_⟩
    rw [Nat.testBit_or, hb, Nat.testBit_two_pow, ← Bool.decide_or]
    exact decide_eq_decide.mpr (by omega)
theorem pair_bits {l u p : Nat} (hp : ∀ i, p.testBit i = decide (i % 2 = 0 ∧ i < 2 * l)) : (u &&& (u / 2) &&& p ≠ 0) ↔ ∃ k, k < l ∧ u.testBit (2 * k) = true ∧ u.testBit (2 * k + 1) = true := by
  constructor
  · intro h
    obtain ⟨i, hi⟩ := Nat.exists_testBit_of_ne_zero h
    rw [Nat.testBit_and, Nat.testBit_and, hp, Nat.testBit_div_two] at hi
    simp only [Bool.and_eq_true, decide_eq_true_eq] at hi
    refine ⟨i / 2, by omega, ?_, ?_⟩
    · rw [show 2 * (i / 2) = i by omega]; exact hi.1.1
    · rw [show 2 * (i / 2) + 1 = i + 1 by omega]; exact hi.1.2
  · rintro ⟨k, h1, h2, h3⟩ e
    have : (u &&& (u / 2) &&& p).testBit (2 * k) = true := by
      rw [Nat.testBit_and, Nat.testBit_and, hp, Nat.testBit_div_two, h2, h3]
      simp
      omega
    rw [e] at this
    simp at this
theorem pair_plc {l u : Nat} : (plc l u).any (fun p => decide (-p ∈ plc l u)) = true ↔ ∃ k, k < l ∧ u.testBit (2 * k) = true ∧ u.testBit (2 * k + 1) = true := by
  rw [List.any_eq_true]
  simp only [decide_eq_true_eq]
  constructor
  · rintro ⟨x, h1, h2⟩
    obtain ⟨i, hi, q1⟩ := mem_plc.mp h1
    obtain ⟨j, hj, q2⟩ := mem_plc.mp h2
    rcases q1 with ⟨a, e1⟩ | ⟨a, e1⟩ <;> rcases q2 with ⟨b, e2⟩ | ⟨b, e2⟩
    · omega
    · have : i = j := by omega
      exact ⟨i, hi, a, this ▸ b⟩
    · have : i = j := by omega
      exact ⟨i, hi, this ▸ b, a⟩
    · omega
  · rintro ⟨k, h1, h2, h3⟩
    refine ⟨(k : Int) + 1, mem_plc.mpr ⟨k, h1, .inl ⟨h2, rfl⟩⟩, mem_plc.mpr ⟨k, h1, .inr ⟨h3, by omega⟩⟩⟩
theorem rBoth_nat {l a b : Nat} : rBoth (rPairs l) (a : Int) (b : Int) = if ∃ k, k < l ∧ (a ||| b).testBit (2 * k) = true ∧ (a ||| b).testBit (2 * k + 1) = true then -1 else ((a ||| b : Nat) : Int) := by
  obtain ⟨p, hp, hb⟩ := rPairs_bits l
  unfold rBoth
  rw [bor_nat', hp]
  have e2 : (((a ||| b : Nat) : Int) / 2) = (((a ||| b) / 2 : Nat) : Int) := by omega
  rw [e2, band_nat', band_nat']
  have := pair_bits (u := a ||| b) hb
  by_cases q : ∃ k, k < l ∧ (a ||| b).testBit (2 * k) = true ∧ (a ||| b).testBit (2 * k + 1) = true
  · rw [if_pos q, if_pos]
    have := this.mpr q
    omega
  · rw [if_neg q, if_neg]
    intro h
    exact q (this.mp (by omega))
theorem or_lt {l a b : Nat} (ha : a < 2 ^ l) (hb : b < 2 ^ l) : a ||| b < 2 ^ l := Nat.or_lt_two_pow ha hb
theorem rBoth_v {l : Nat} {x y : Int} (hx : Vq l x) (hy : Vq l y) (nx : x ≠ -1) (ny : y ≠ -1) : Vq l (rBoth (rPairs l) x y) ∧ hq l (rBoth (rPairs l) x y) = qBoth (hq l x) (hq l y) := by
  obtain ⟨a, rfl, ha⟩ := hx.resolve_left nx
  obtain ⟨b, rfl, hb⟩ := hy.resolve_left ny
  rw [rBoth_nat, hq_nat, hq_nat]
  unfold qBoth
  rw [usrt_plc]
  have := pair_plc (l := l) (u := a ||| b)
  by_cases q : ∃ k, k < l ∧ (a ||| b).testBit (2 * k) = true ∧ (a ||| b).testBit (2 * k + 1) = true
  · rw [if_pos q, if_pos (this.mpr q)]
    exact ⟨.inl rfl, rfl⟩
  · rw [if_neg q, if_neg (fun h => q (this.mp h)), hq_nat]
    exact ⟨.inr ⟨_, rfl, or_lt ha hb⟩, rfl⟩
theorem r_pre {l : Nat} : PreA (rAlg l) (Vq l) l := by
  refine ⟨.inl rfl, .inr ⟨0, rfl, Nat.two_pow_pos _⟩, fun k hk b => ?_, fun w hw v hv => (by cases hv), fun a b ha hb v hv => ?_⟩
  · show Vq l (2 ^ (2 * k + (if b = true then 1 else 0)))
    refine .inr ⟨2 ^ (2 * k + (if b = true then 1 else 0)), by rw [two_nat'], Nat.pow_lt_pow_right (by decide) (by split <;> omega)⟩
  · have hv : rCj (rPairs l) a b = some v := hv
    unfold rCj at hv
    split at hv
    · cases hv; exact .inl rfl
    · rename_i hn
      cases a with
      | none => cases hv
      | some x =>
        cases b with
        | none => cases hv
        | some y =>
          cases hv
          exact (rBoth_v (ha x rfl) (hb y rfl) (fun e => hn (.inl (by rw [e]))) (fun e => hn (.inr (by rw [e])))).1
theorem q_leaf {l k : Nat} (hk : k < l) (b : Bool) : hq l (2 ^ (2 * k + (if b = true then 1 else 0))) = [if b = true then -1 - (k : Int) else (k : Int) + 1] := by
  rw [two_nat', hq_nat]
  refine lt_ext plc_lt (List.pairwise_singleton _ _) fun p => ?_
  rw [mem_plc, List.mem_singleton]
  simp only [Nat.testBit_two_pow, decide_eq_true_eq]
  constructor
  · rintro ⟨i, hi, ⟨q, e⟩ | ⟨q, e⟩⟩
    · cases b
      · simp at q ⊢; omega
      · simp at q; omega
    · cases b
      · simp at q; omega
      · simp at q ⊢; omega
  · intro e
    refine ⟨k, hk, ?_⟩
    cases b
    · simp at e; exact .inl ⟨by simp, e⟩
    · simp at e; exact .inr ⟨by simp, e⟩
theorem q_cj {l : Nat} {a b : Option Int} (ha : ∀ v, a = some v → Vq l v) (hb : ∀ v, b = some v → Vq l v) : (rCj (rPairs l) a b).map (hq l) = qCj (a.map (hq l)) (b.map (hq l)) := by
  have ea : (a.map (hq l) = some [0]) ↔ a = some (-1) := by
    cases a with
    | none => simp
    | some x => simp [hq_low (ha x rfl)]
  have eb : (b.map (hq l) = some [0]) ↔ b = some (-1) := by
    cases b with
    | none => simp
    | some x => simp [hq_low (hb x rfl)]
  unfold rCj qCj
  by_cases h : a = some (-1) ∨ b = some (-1)
  · rw [if_pos h, if_pos (h.imp ea.mpr eb.mpr)]
    rfl
  · rw [if_neg h, if_neg (fun z => h (z.imp ea.mp eb.mp))]
    cases a with
    | none => rfl
    | some x =>
      cases b with
      | none => rfl
      | some y =>
        show some (hq l (rBoth (rPairs l) x y)) = some (qBoth (hq l x) (hq l y))
        rw [(rBoth_v (ha x rfl) (hb y rfl) (fun e => h (.inl (by rw [e]))) (fun e => h (.inr (by rw [e])))).2]
section
variable {ls : Int → Int} {lv : List Int}
theorem evq_hom {K : List (Option Int)} (e : Int) : ev qAlg ls lv (K.map (Option.map (hq lv.length))) e = (ev (rAlg lv.length) ls lv K e).map (hq lv.length) := by
  unfold ev
  split
  · rfl
  split
  · show some [] = some (hq lv.length ((0 : Nat) : Int))
    rw [hq_nat]
    congr 1
    refine lt_ext .nil plc_lt fun k => ?_
    rw [mem_plc]
    simp
  cases hp : pl lv (ls e / 2) with
  | some k =>
    simp only
    exact congrArg some (q_leaf (pl_lt hp) _).symm
  | none =>
    simp only
    rw [getD_mapO]
    split
    · rfl
    · cases K.getD (e / 2).toNat none <;> rfl
theorem evsq_hom (m : Nat) (G : List (Int × Int)) : ∀ i, evs qAlg ls lv m G i = (evs (rAlg lv.length) ls lv m G i).map (Option.map (hq lv.length))
  | 0 => by simp [evs]
  | i + 1 => by
    rw [evs, evs, List.map_append, evsq_hom m G i, evq_hom, evq_hom]
    congr 1
    have p := fun e => ev_pre (A := rAlg lv.length) (ls := ls) (lv := lv) (P := Vq lv.length) r_pre (evs_pr (A := rAlg lv.length) (ls := ls) (lv := lv) (P := Vq lv.length) r_pre m G i) e
    exact congrArg (fun z => [z]) (q_cj (p _) (p _)).symm
theorem evq_len {m i : Nat} {G : List (Int × Int)} (e : Int) : ∀ L, ev qAlg ls lv (evs qAlg ls lv m G i) e = some L → L.length ≤ 2 * lv.length + 1 := fun L h => by
  rw [evsq_hom, evq_hom] at h
  cases hx : ev (rAlg lv.length) ls lv (evs (rAlg lv.length) ls lv m G i) e with
  | none => rw [hx] at h; cases h
  | some x =>
    rw [hx] at h
    cases h
    exact hq_len (.inr trivial)
theorem goodQ {m : Nat} {G : List (Int × Int)} {a b : Int} : goodB (rAlg lv.length) ls lv m G a b = true ↔ ev qAlg ls lv (evs qAlg ls lv m G G.length) a ≠ none ∧ ev qAlg ls lv (evs qAlg ls lv m G G.length) a = ev qAlg ls lv (evs qAlg ls lv m G G.length) b := by
  have p := fun e => ev_pre (A := rAlg lv.length) (ls := ls) (lv := lv) (P := Vq lv.length) r_pre (evs_pr (A := rAlg lv.length) (ls := ls) (lv := lv) (P := Vq lv.length) r_pre m G G.length) e
  rw [evsq_hom, evq_hom, evq_hom]
  unfold goodB
  have pa := p a
  have pb := p b
  revert pa pb
  cases ev (rAlg lv.length) ls lv (evs (rAlg lv.length) ls lv m G G.length) a with
  | none => intro _ _; simp
  | some x =>
    cases ev (rAlg lv.length) ls lv (evs (rAlg lv.length) ls lv m G G.length) b with
    | none => intro _ _; simp
    | some y =>
      intro pa pb
      simp only [Option.map_some, ne_eq, reduceCtorEq, not_false_eq_true, true_and, Option.some.injEq, decide_eq_true_eq]
      exact ⟨fun h => by rw [h], fun h => (hq_inj (pb y rfl) (pa x rfl) h.symm)⟩
end

/-- one set of the law's row of sets -/
def OLn (st : Sto) (kb : Nat) (d : DV) : Option (List Int) → Prop
  | none => d = .non
  | some L => ∃ k, d = .ref k ∧ k ≠ kb ∧ st[k]? = some (.lst (L.map DV.int))
theorem OLn.mono {st st' : Sto} {kb : Nat} {d : DV} {o : Option (List Int)} (h : OLn st kb d o) (s : Sub st st') : OLn st' kb d o := by
  cases o with
  | none => exact h
  | some L =>
    obtain ⟨k, a, b, c⟩ := h
    exact ⟨k, a, b, s _ _ c⟩
theorem OLn.new {st : Sto} {kb k : Nat} {L : List Int} (h : kb < st.length) (hk : st.length ≤ k) {st' : Sto} (g : st'[k]? = some (.lst (L.map DV.int))) : OLn st' kb (.ref k) (some L) := ⟨k, rfl, by omega, g⟩
/-- the law's row of sets -/
structure QAt (st : Sto) (kb : Nat) (K : List (Option (List Int))) : Prop where
  ex : ∃ ds, st[kb]? = some (.lst ds) ∧ ds.length = K.length ∧ ∀ i d, ds[i]? = some d → OLn st kb d (K.getD i none)
theorem QAt.mono {st st' : Sto} {kb : Nat} {K : List (Option (List Int))} (h : QAt st kb K) (s : Sub st st') : QAt st' kb K := by
  obtain ⟨ds, a, b, c⟩ := h.ex
  exact ⟨ds, s _ _ a, b, fun i d e => (c i d e).mono s⟩
section
variable {V : Type} {A : Alg V} {ls : Int → Int} {lv : List Int} {K : List (Option V)} {e : Int}
theorem ev_lo (h : ls e < 1) : ev A ls lv K e = some A.lo := by
  unfold ev
  rw [if_pos h]
theorem ev_hi (h : ls e = 1) : ev A ls lv K e = some A.hi := by
  unfold ev
  rw [if_neg (by omega), if_pos (by omega)]
theorem ev_lf {k : Nat} (h : 2 ≤ ls e) (hp : pl lv (ls e / 2) = some k) : ev A ls lv K e = some (A.leaf k (decide ((ls e - lv.getD k 0) % 2 ≠ 0))) := by
  unfold ev
  rw [if_neg (by omega), if_neg (by omega), hp]
theorem ev_kn (h : 2 ≤ ls e) (hp : pl lv (ls e / 2) = none) : ev A ls lv K e = if e % 2 = 0 then K.getD (e / 2).toNat none else (K.getD (e / 2).toNat none).bind A.neg := by
  unfold ev
  rw [if_neg (by omega), if_neg (by omega), hp]
end
theorem pl_first {lv : List Int} {q : Int} {i : Nat} (hi : i < lv.length) (h : lv.getD i 0 / 2 = q) (hb : ∀ k, k < i → lv.getD k 0 / 2 ≠ q) : pl lv q = some i := by
  unfold pl
  rw [List.findIdx?_eq_some_iff_getElem]
  refine ⟨hi, ?_, fun k hk => ?_⟩
  · rw [List.getD_eq_getElem?_getD, List.getElem?_eq_getElem hi] at h
    exact decide_eq_true h
  · have := hb k hk
    rw [List.getD_eq_getElem?_getD, List.getElem?_eq_getElem (by omega)] at this
    simp only [Option.getD_some] at this
    simp [this]
theorem getD_mapI {es : List Int} {ls : Int → Int} {k : Nat} (h : k < es.length) : (es.map ls).getD k 0 = ls (es.getD k 0) := by
  rw [List.getD_eq_getElem?_getD, List.getElem?_map, List.getD_eq_getElem?_getD, List.getElem?_eq_getElem h]
  rfl
theorem at_od2 {ds : List DV} {i : Int} (h0 : 0 ≤ i) (h1 : i < ds.length) : ∃ d, ds[i.toNat]? = some d ∧ atI ds i = some d := by
  have hl : i.toNat < ds.length := by omega
  refine ⟨ds[i.toNat], List.getElem?_eq_getElem hl, ?_⟩
  obtain ⟨j, rfl⟩ := Int.eq_ofNat_of_zero_le h0
  exact atI_nat (List.getElem?_eq_getElem hl)
theorem come_spec {st : Sto} {kl kb : Nat} {n e : Int} {ls : Int → Int} {Lb es : List Int} {K : List (Option (List Int))} (h : LS n ls) (hlab : LabL n ls Lb) (ll : (Lb.length : Int) = 2 * n) (hl : st[kl]? = some (.lst (Lb.map DV.int))) (hq : QAt st kb K) (he : ∀ x ∈ es, 0 ≤ x ∧ x < 2 * n) (hel : es.length ≤ 1000) (e0 : 0 ≤ e) (e1 : e < 2 * n) (hK : e / 2 < K.length) :
    Wp (s__law_come [.ref kl, .tup (es.map DV.int), .ref kb, .int e] st) (fun v st' => Sub st st' ∧ OLn st' kb v (ev qAlg ls (es.map ls) K e)) NX := by
  obtain ⟨z0, z1⟩ := h.zero (by omega)
  obtain ⟨ds, hkb, hdl, hds⟩ := hq.ex
  have kbl := lt_of_get hkb
  have hb0 := h.b e e0 e1
  have q0 := hlab e 0 e0 e1 (by omega) (by omega)
  have q1 := hlab e 1 e0 e1 (by omega) (by omega)
  rw [z0] at q0
  rw [z1] at q1
  unfold g at q0 q1
  unfold s__law_come
  (try simp (disch := omega) only [WZ, WR, wp_if, wp_expr, wp_optD, wipeD, List.reduceReplicate, Nat.reduceSub, Int.reduceToNat, Int.reducePow, WY, wp_ixR hl])
  split
  · rename_i q
    have q := q0.mp q
    refine wp_allocN fun st1 k1 sub1 l1 m1 g1 => ?_
    (try simp (disch := omega) only [WZ, WR, wp_if, wp_expr, wp_optD, wipeD, List.reduceReplicate, Nat.reduceSub, Int.reduceToNat, Int.reducePow, WY])
    rw [ev_lo (by omega)]
    exact ⟨sub1, .new (L := [0]) kbl l1 g1⟩
  rename_i q
  have n0 : ls e ≠ 0 := fun z => q (q0.mpr z)
  (try simp (disch := omega) only [WZ, WR, wp_if, wp_expr, wp_optD, wipeD, List.reduceReplicate, Nat.reduceSub, Int.reduceToNat, Int.reducePow, WY, wp_ixR hl])
  split
  · rename_i q
    have q := q1.mp q
    refine wp_allocN fun st1 k1 sub1 l1 m1 g1 => ?_
    (try simp (disch := omega) only [WZ, WR, wp_if, wp_expr, wp_optD, wipeD, List.reduceReplicate, Nat.reduceSub, Int.reduceToNat, Int.reducePow, WY])
    rw [ev_hi q]
    exact ⟨sub1, .new (L := []) kbl l1 g1⟩
  rename_i q
  have n1 : ls e ≠ 1 := fun z => q (q1.mpr z)
  have l2 : 2 ≤ ls e := by omega
  (try simp (disch := omega) only [WZ, WR, wp_if, wp_expr, wp_optD, wipeD, List.reduceReplicate, Nat.reduceSub, Int.reduceToNat, Int.reducePow, WY])
  refine for_rule (fun i ss st' => ∃ o4, ss = [some (.ref kl), some (.tup (es.map DV.int)), some (.ref kb), some (.int e), o4] ∧ st = st' ∧ ∀ k, k < i → (es.map ls).getD k 0 / 2 ≠ ls e / 2) ⟨none, rfl, rfl, fun k hk => by omega⟩ (fun _ _ _ _ _ => okG_nil) ?_ ?_
  · rintro i x ss st' hx ⟨o4, rfl, rfl, hb⟩
    obtain ⟨hi, rfl⟩ := irange_get hx
    have hi : i < es.length := by simpa using hi
    have hm : es.getD i 0 ∈ es := by
      rw [List.getD_eq_getElem?_getD, List.getElem?_eq_getElem hi]
      exact List.getElem_mem hi
    have hr := he _ hm
    have hf := fxb hr.1 hr.2
    have h1 := hlab e (es.getD i 0) e0 e1 hr.1 hr.2
    have h2 := hlab e (fx (es.getD i 0) 1) e0 e1 hf.1 hf.2
    rw [h.flip _ hr.1 hr.2] at h2
    unfold g at h1 h2
    have gm := getD_mapI (ls := ls) hi
    have hil : i < (es.map ls).length := by rw [List.length_map]; exact hi
    refine ⟨_, _, rfl, ?_⟩
    unfold s__law_come_L1
    rw [Int.zero_add]
    (try simp (disch := omega) only [WZ, WR, wp_if, wp_expr, wp_optD, wipeD, List.reduceReplicate, Nat.reduceSub, Int.reduceToNat, Int.reducePow, WY, wp_ixR hl, wp_ixTh, ixor1])
    generalize es.getD i 0 = y at *
    split
    · rename_i q
      have q := h1.mp q
      refine wp_allocN fun st1 k1 sub1 l1 m1 g1 => ?_
      (try simp (disch := omega) only [WZ, WR, wp_if, wp_expr, wp_optD, wipeD, List.reduceReplicate, Nat.reduceSub, Int.reduceToNat, Int.reducePow, WY])
      rw [ev_lf l2 (pl_first hil (by rw [gm, q]) hb), gm, q, Int.sub_self]
      exact ⟨sub1, .new (L := [(i : Int) + 1]) kbl l1 g1⟩
    rename_i q
    have n2 : ls e ≠ ls y := fun z => q (h1.mpr z)
    (try simp (disch := omega) only [WZ, WR, wp_if, wp_expr, wp_optD, wipeD, List.reduceReplicate, Nat.reduceSub, Int.reduceToNat, Int.reducePow, WY, wp_ixR hl, wp_ixTh, ixor1])
    split
    · rename_i q
      have q := h2.mp q
      refine wp_allocN fun st1 k1 sub1 l1 m1 g1 => ?_
      (try simp (disch := omega) only [WZ, WR, wp_if, wp_expr, wp_optD, wipeD, List.reduceReplicate, Nat.reduceSub, Int.reduceToNat, Int.reducePow, WY])
      have hh : ls e / 2 = ls y / 2 := by rw [q]; unfold fx; omega
      have od : (ls e - ls y) % 2 ≠ 0 := by rw [q]; unfold fx; omega
      rw [ev_lf l2 (pl_first hil (by rw [gm, hh]) hb), gm, decide_eq_true od]
      exact ⟨sub1, .new (L := [-1 - (i : Int)]) kbl l1 g1⟩
    rename_i q
    have n3 : ls e ≠ fx (ls y) 1 := fun z => q (h2.mpr z)
    (try simp (disch := omega) only [WZ, WR, wp_if, wp_expr, wp_optD, wipeD, List.reduceReplicate, Nat.reduceSub, Int.reduceToNat, Int.reducePow, WY])
    refine ⟨_, rfl, fun k hk => ?_⟩
    by_cases hki : k = i
    · subst hki
      rw [gm]
      intro z
      unfold fx at n3
      omega
    · exact hb k (by omega)
  · rintro ss st' ⟨o4, rfl, rfl, hb⟩
    have hp : pl (es.map ls) (ls e / 2) = none := by
      rw [pl_none]
      intro v hv
      obtain ⟨k, hk⟩ := List.getElem?_of_mem hv
      have hkl := lt_of_get hk
      have := hb k (by rw [irange_length]; simpa using hkl)
      rw [List.getD_eq_getElem?_getD, hk] at this
      exact this
    rw [ev_kn l2 hp]
    obtain ⟨d, hd, hat⟩ := at_od2 (ds := ds) (i := e / 2) (by omega) (by omega)
    have ho := hds _ _ hd
    (try simp (disch := omega) only [WZ, WR, wp_if, wp_expr, wp_optD, wipeD, List.reduceReplicate, Nat.reduceSub, Int.reduceToNat, Int.reducePow, WY, wp_ixR hkb, hat])
    split
    · rename_i q
      rw [if_neg (by omega)]
      refine ⟨.refl, ?_⟩
      cases K.getD (e / 2).toNat none <;> rfl
    · rename_i q
      rw [if_pos (by omega)]
      exact ⟨.refl, ho⟩
theorem eqv_LI0 : ∀ {A B : List Int}, PyData.eqvAll (A.map pdI) (B.map pdI) = decide (A = B)
  | [], [] => rfl
  | [], _ :: _ => by simp [PyData.eqvAll]
  | _ :: _, [] => by simp [PyData.eqvAll]
  | a :: A, b :: B => by
    show (PyData.eqv (pdI a) (pdI b) && PyData.eqvAll (A.map pdI) (B.map pdI)) = _
    rw [eqv_LI0]
    have : PyData.eqv (pdI a) (pdI b) = decide (a = b) := rfl
    rw [this, ← Bool.decide_and]
    exact decide_eq_decide.mpr (by simp)
def rdO : Option (List Int) → PyData
  | none => .none
  | some L => .list (L.map pdI)
theorem OLn.rd {st : Sto} {kb : Nat} {d : DV} {o : Option (List Int)} (h : OLn st kb d o) : Rd st d (rdO o) := by
  cases o with
  | none => cases h; exact .non
  | some L =>
    obtain ⟨k, rfl, _, g⟩ := h
    exact rd_LI g
theorem sh_O {o : Option (List Int)} : Sh 1 (rdO o) := by
  cases o with
  | none => exact Sh.non
  | some L => exact sh_LI
theorem eqv_O {a b : Option (List Int)} : PyData.eqv (rdO a) (rdO b) = decide (a = b) := by
  cases a with
  | none => cases b <;> rfl
  | some A =>
    cases b with
    | none => rfl
    | some B =>
      show PyData.eqvAll (A.map pdI) (B.map pdI) = _
      rw [eqv_LI0]
      exact decide_eq_decide.mpr (by simp)
theorem wp_eqO {st : Sto} {kb kb' : Nat} {x y : DV} {a b : Option (List Int)} {Q : PQ DV} {E : XQ} (h1 : OLn st kb x a) (h2 : OLn st kb' y b) : Wp (eqM x y st) Q E = Q (.bl (decide (a = b))) st := by
  rw [wp_eqD h1.rd h2.rd sh_O sh_O (by decide) (by decide), eqv_O]
theorem wp_sortSet {k : Nat} {L : List Int} {st : Sto} {Q : PQ DV} {E : XQ} (g : st[k]? = some (.lst (L.map DV.int))) (h : L.length < 64) (hq : New st ((usrt L).map DV.int) Q) : Wp (sortSetM (.ref k) st) Q E := by
  have e : (itemsM (.ref k) st).bind intsD = some L := by
    unfold itemsM
    simp only [g]
    exact ints_map L
  unfold sortSetM
  rw [e]
  simp only
  rw [if_pos h]
  exact wp_allocN hq

def qC2 : Option (List Int) → Option (List Int) → Option (List Int)
  | some x, some y => some (qBoth x y)
  | _, _ => none
theorem qCj_else {a b : Option (List Int)} (h : ¬ (a = some [0] ∨ b = some [0])) : qCj a b = qC2 a b := by
  unfold qCj
  rw [if_neg h]
  cases a <;> cases b <;> rfl
theorem both_spec {st : Sto} {kb : Nat} {x y : DV} {a b : Option (List Int)} (hx : OLn st kb x a) (hy : OLn st kb y b) (hkb : kb < st.length) (la : ∀ L, a = some L → L.length ≤ 31) (lb : ∀ L, b = some L → L.length ≤ 31) :
    Wp (s__law_both [x, y] st) (fun v st' => Sub st st' ∧ OLn st' kb v (qCj a b)) NX := by
  unfold s__law_both
  (try simp (disch := omega) only [WZ, WR, wp_if, wp_expr, wp_optD, wipeD, List.reduceReplicate, Nat.reduceSub, Int.reduceToNat, Int.reducePow, WY])
  refine wp_allocN fun st1 k1 sub1 l1 m1 g1 => ?_
  have r0 : OLn st1 kb (.ref k1) (some [0]) := .new (L := [0]) hkb l1 g1
  have hkb1 : kb < st1.length := Nat.lt_of_lt_of_le hkb sub1.len
  (try simp (disch := omega) only [WZ, WR, wp_if, wp_expr, wp_optD, wipeD, List.reduceReplicate, Nat.reduceSub, Int.reduceToNat, Int.reducePow, WY, wp_eqO (hx.mono sub1) r0])
  split
  · rename_i q
    refine wp_allocN fun st3 k3 sub3 l3 m3 g3 => ?_
    (try simp (disch := omega) only [WZ, WR, wp_if, wp_expr, wp_optD, wipeD, List.reduceReplicate, Nat.reduceSub, Int.reduceToNat, Int.reducePow, WY])
    refine ⟨sub1.trans sub3, ?_⟩
    unfold qCj
    rw [if_pos (.inl q)]
    exact .new (L := [0]) hkb1 l3 g3
  rename_i na
  refine wp_allocN fun st2 k2 sub2 l2 m2 g2 => ?_
  have r2 : OLn st2 kb (.ref k2) (some [0]) := .new (L := [0]) hkb1 l2 g2
  have hkb2 : kb < st2.length := Nat.lt_of_lt_of_le hkb1 sub2.len
  have s12 := sub1.trans sub2
  (try simp (disch := omega) only [WZ, WR, wp_if, wp_expr, wp_optD, wipeD, List.reduceReplicate, Nat.reduceSub, Int.reduceToNat, Int.reducePow, WY, wp_eqO (hy.mono s12) r2])
  split
  · rename_i q
    refine wp_allocN fun st3 k3 sub3 l3 m3 g3 => ?_
    (try simp (disch := omega) only [WZ, WR, wp_if, wp_expr, wp_optD, wipeD, List.reduceReplicate, Nat.reduceSub, Int.reduceToNat, Int.reducePow, WY])
    refine ⟨s12.trans sub3, ?_⟩
    unfold qCj
    rw [if_pos (.inr q)]
    exact .new (L := [0]) hkb2 l3 g3
  rename_i nb
  have hx2 := hx.mono s12
  have hy2 := hy.mono s12
  rw [qCj_else (fun z => z.elim na nb)]
  unfold qC2
  cases a with
  | none =>
    cases hx2
    (try simp +decide (disch := omega) only [↓reduceIte, WX2, Nat.reduceAdd, Int.reduceSub, Int.reduceAdd, Int.reduceMul, WZ, WR, wp_if, wp_expr, wp_optD, wipeD, List.reduceReplicate, Nat.reduceSub, Int.reduceToNat, Int.reducePow, WY])
    exact ⟨s12, rfl⟩
  | some A =>
  cases b with
  | none =>
    obtain ⟨ka, rfl, _, _⟩ := hx2
    cases hy2
    (try simp +decide (disch := omega) only [↓reduceIte, WX2, Nat.reduceAdd, Int.reduceSub, Int.reduceAdd, Int.reduceMul, WZ, WR, wp_if, wp_expr, wp_optD, wipeD, List.reduceReplicate, Nat.reduceSub, Int.reduceToNat, Int.reducePow, WY])
    exact ⟨s12, rfl⟩
  | some B =>
  obtain ⟨ka, rfl, _, ga⟩ := hx2
  obtain ⟨kb', rfl, _, gb⟩ := hy2
  have lA := la A rfl
  have lB := lb B rfl
  (try simp +decide (disch := omega) only [↓reduceIte, WX2, Nat.reduceAdd, Int.reduceSub, Int.reduceAdd, Int.reduceMul, WZ, WR, wp_if, wp_expr, wp_optD, wipeD, List.reduceReplicate, Nat.reduceSub, Int.reduceToNat, Int.reducePow, WY])
  refine wp_addNG ga gb (by omega) fun st3 k3 sub3 l3 m3 g3 => ?_
  (try simp (disch := omega) only [WZ, WR, wp_if, wp_expr, wp_optD, wipeD, List.reduceReplicate, Nat.reduceSub, Int.reduceToNat, Int.reducePow, WY])
  refine wp_sortSet g3 (by rw [List.length_append]; omega) fun st4 k4 sub4 l4 m4 g4 => ?_
  have s14 := s12.trans (sub3.trans sub4)
  have e4 : kb < st3.length := Nat.lt_of_lt_of_le hkb2 sub3.len
  (try simp (disch := omega) only [WZ, WR, wp_if, wp_expr, wp_optD, wipeD, List.reduceReplicate, Nat.reduceSub, Int.reduceToNat, Int.reducePow, WY, tIy_R g4])
  unfold qBoth
  generalize usrt (A ++ B) = U at g4 ⊢
  refine for_rule (fun i ss st' => ∃ o3, ss = [some (.ref ka), some (.ref kb'), some (.ref k4), o3] ∧ st4 = st' ∧ ∀ p ∈ U.take i, ¬ -p ∈ U) ⟨none, rfl, rfl, fun p hp => by simp at hp⟩ (fun i ss st' _ ⟨_, _, e, _⟩ => e ▸ okG_one g4) ?_ ?_
  · rintro i x ss st' hx ⟨o3, rfl, rfl, hb⟩
    obtain ⟨p, hp, rfl⟩ := mapI_get hx
    refine ⟨_, _, rfl, ?_⟩
    unfold s__law_both_L1
    (try simp (disch := omega) only [WZ, WR, wp_if, wp_expr, wp_optD, wipeD, List.reduceReplicate, Nat.reduceSub, Int.reduceToNat, Int.reducePow, WY])
    rw [wp_inL g4 rfl flat_nums, inF_numsI]
    (try simp (disch := omega) only [WZ, WR, wp_if, wp_expr, wp_optD, wipeD, List.reduceReplicate, Nat.reduceSub, Int.reduceToNat, Int.reducePow, WY])
    split
    · rename_i q
      refine wp_allocN fun st5 k5 sub5 l5 m5 g5 => ?_
      (try simp (disch := omega) only [WZ, WR, wp_if, wp_expr, wp_optD, wipeD, List.reduceReplicate, Nat.reduceSub, Int.reduceToNat, Int.reducePow, WY])
      rw [if_pos (List.any_eq_true.mpr ⟨p, List.mem_of_getElem? hp, decide_eq_true q⟩)]
      exact ⟨s14.trans sub5, .new (L := [0]) (Nat.lt_of_lt_of_le e4 sub4.len) l5 g5⟩
    · rename_i q
      refine ⟨_, rfl, fun r hr => ?_⟩
      rw [List.take_succ, hp] at hr
      rcases List.mem_append.mp hr with z | z
      · exact hb r z
      · simp only [Option.toList_some, List.mem_singleton] at z
        rw [z]
        exact q
  · rintro ss st' ⟨o3, rfl, rfl, hb⟩
    rw [List.length_map, List.take_length] at hb
    (try simp (disch := omega) only [WZ, WR, wp_if, wp_expr, wp_optD, wipeD, List.reduceReplicate, Nat.reduceSub, Int.reduceToNat, Int.reducePow, WY])
    rw [if_neg]
    · exact ⟨s14, .new e4 l4 g4⟩
    · intro z
      obtain ⟨p, hp, q⟩ := List.any_eq_true.mp z
      exact hb p hp (of_decide_eq_true q)

theorem QAt.push {st : Sto} {kb : Nat} {K : List (Option (List Int))} {d : DV} {o : Option (List Int)} {ds : List DV} (hk : st[kb]? = some (.lst ds)) (hl : ds.length = K.length) (hd : ∀ i d, ds[i]? = some d → OLn st kb d (K.getD i none)) (h : OLn st kb d o) : QAt (st.set kb (.lst (ds ++ [d]))) kb (K ++ [o]) := by
  have keep : ∀ {d : DV} {o : Option (List Int)}, OLn st kb d o → OLn (st.set kb (.lst (ds ++ [d]))) kb d o ∧ ∀ x : DO, OLn (st.set kb x) kb d o := fun {d o} h => by
    have g : ∀ x : DO, OLn (st.set kb x) kb d o := fun x => by
      cases o with
      | none => exact h
      | some L =>
        obtain ⟨k, a, b, c⟩ := h
        exact ⟨k, a, b, by rw [List.getElem?_set_ne (Ne.symm b)]; exact c⟩
    exact ⟨g _, g⟩
  refine ⟨⟨ds ++ [d], get_set hk, by simp [hl], fun i x hx => ?_⟩⟩
  by_cases hi : i < ds.length
  · rw [List.getElem?_append_left hi] at hx
    rw [List.getD_eq_getElem?_getD, List.getElem?_append_left (by omega), ← List.getD_eq_getElem?_getD]
    exact (keep (hd i x hx)).2 _
  · have hil := lt_of_get hx
    rw [List.length_append, List.length_singleton] at hil
    have : i = ds.length := by omega
    subst this
    rw [List.getElem?_append_right (Nat.le_refl _), Nat.sub_self] at hx
    cases hx
    rw [List.getD_eq_getElem?_getD, List.getElem?_append_right (by omega), hl, Nat.sub_self]
    exact (keep h).2 _
/-- leaves that are few enough where it matters -/
def Few (es : List Int) : Prop := es.length ≤ 14 ∨ 64 < es.length ∨ ∀ e ∈ es, e < 30
theorem few_len {n : Int} {ls : Int → Int} {es : List Int} (h : LS n ls) (hf : Few es) (he : ∀ x ∈ es, 0 ≤ x ∧ x < 2 * n) (hv : LvOk (es.map ls)) (hl : es.length ≤ 64) : es.length ≤ 15 := by
  rcases hf with hf | hf | hf
  · omega
  · omega
  · have nd : (es.map (· / 2)).Nodup := by
      have h2 := hv.2
      rw [List.map_map] at h2
      have : ∀ es : List Int, (∀ x ∈ es, 0 ≤ x ∧ x < 2 * n) → (es.map ((· / 2) ∘ ls)).Nodup → (es.map (· / 2)).Nodup := fun es => by
        induction es with
        | nil => intro _ _; exact List.nodup_nil
        | cons x r ih =>
          intro he hn
          rw [List.map_cons, List.nodup_cons] at hn ⊢
          refine ⟨fun hm => hn.1 ?_, ih (fun y hy => he y (List.mem_cons_of_mem _ hy)) hn.2⟩
          obtain ⟨y, hy, e⟩ := List.mem_map.mp hm
          refine List.mem_map.mpr ⟨y, hy, ?_⟩
          have hx := he x List.mem_cons_self
          have hy' := he y (List.mem_cons_of_mem _ hy)
          have h1 := (h.half hx.1 hx.2).1
          have h2 := (h.half hy'.1 hy'.2).1
          have e : y / 2 = x / 2 := e
          show ls y / 2 = ls x / 2
          rw [← h1, ← h2, e]
      exact this es he h2
    have := pigeon 15 (es.map (· / 2)) nd fun x hx => by
      obtain ⟨y, hy, rfl⟩ := List.mem_map.mp hx
      have := he y hy
      have := hf y hy
      show 0 ≤ y / 2 ∧ y / 2 < 15
      omega
    rw [List.length_map] at this
    exact this
theorem due37 {st : Sto} {kg kl m : Nat} {nl n a b : Int} {ls : Int → Int} {Lb es : List Int} {G : List (Int × Int)} {t : DV} (hn : NetAt st kg m G) (hm : (m : Int) = 1 + nl) (hN : n = (m + G.length : Nat)) (hm5 : m ≤ 1000) (h : LS n ls) (hlab : LabL n ls Lb) (ll : (Lb.length : Int) = 2 * n) (hl : st[kl]? = some (.lst (Lb.map DV.int))) (he : ∀ x ∈ es, 0 ≤ x ∧ x < 2 * n) (hf : Few es) (hel : es.length ≤ 1000) (a0 : 0 ≤ a) (a1 : a < 2 * n) (b0 : 0 ≤ b) (b1 : b < 2 * n) :
    Wp (s__law_due [.tup [.int nl, .ref kg], .ref kl, .tup [t, .int a, .int b, .tup (es.map DV.int)]] st) (fun v st' => Sub st st' ∧ v = .bl (rowOk ls m G a b es)) NX := by
  have hz := hn.z
  obtain ⟨z0, z1⟩ := h.zero (by omega)
  unfold s__law_due
  (try simp +decide (disch := omega) only [↓reduceIte, WX2, Nat.reduceAdd, Int.reduceSub, Int.reduceAdd, Int.reduceMul, WZ, WR, wp_if, wp_expr, wp_optD, wipeD, List.reduceReplicate, Nat.reduceSub, Int.reduceToNat, Int.reducePow, WY, wp_ixTh])
  split
  · rename_i q
    refine ⟨.refl, ?_⟩
    unfold rowOk
    rw [decide_eq_false (by omega)]
    rfl
  rename_i q
  (try simp (disch := omega) only [WZ, WR, wp_if, wp_expr, wp_optD, wipeD, List.reduceReplicate, Nat.reduceSub, Int.reduceToNat, Int.reducePow, WY, wp_ixR hl])
  refine wp_allocN fun st1 k1 sub1 l1 m1 g1 => ?_
  (try simp (disch := omega) only [WZ, WR, wp_if, wp_expr, wp_optD, wipeD, List.reduceReplicate, Nat.reduceSub, Int.reduceToNat, Int.reducePow, WY])
  refine for_rule (fun i ss st' => ∃ o5 o6 o7 o8 o9 o10 k1 Sn, ss = [some (.tup [.int nl, .ref kg]), some (.ref kl), some (.tup [t, .int a, .int b, .tup (es.map DV.int)]), some (.tup (es.map DV.int)), some (.ref k1), o5, o6, o7, o8, o9, o10] ∧ Sub st st' ∧ st'[k1]? = some (.lst (Sn.map DV.int)) ∧ Sn.length ≤ 2 + 2 * i ∧ (∀ x, 0 ≤ x → x < 2 * n → (g Lb x ∈ Sn ↔ (ls x < 2 ∨ ∃ y ∈ es.take i, ls x / 2 = ls y / 2))) ∧ LvOk ((es.take i).map ls)) ⟨none, none, none, none, none, none, k1, [g Lb 0, g Lb 1], rfl, sub1, g1, by simp, fun x x0 x1 => ?_, ⟨fun v hv => by simp at hv, by simp⟩⟩ (fun _ _ _ _ _ => okG_nil) ?_ ?_
  · have hb := h.b x x0 x1
    simp only [List.mem_cons, List.not_mem_nil, or_false, List.take_zero, false_and, exists_false]
    rw [hlab x 0 x0 x1 (by omega) (by omega), hlab x 1 x0 x1 (by omega) (by omega), z0, z1]
    omega
  · rintro i x ss st' hx ⟨o5, o6, o7, o8, o9, o10, k1, Sn, rfl, sub, g1, hlen, hS, hlv⟩
    obtain ⟨y, hy, rfl⟩ := mapI_get hx
    have hi := lt_of_get hy
    have hyb := he y (List.mem_of_getElem? hy)
    have hfb := fxb hyb.1 hyb.2
    have tk : (es.take (i + 1)) = es.take i ++ [y] := by
      rw [List.take_succ, hy]; rfl
    have fin : ¬ (LvOk ((es.take (i + 1)).map ls)) → ¬ LvOk (es.map ls) := fun hn q => hn (by
      have : es.map ls = (es.take (i + 1)).map ls ++ (es.drop (i + 1)).map ls := by rw [← List.map_append, List.take_append_drop]
      rw [this] at q
      exact lvok_pre q)
    have app : LvOk ((es.take (i + 1)).map ls) ↔ LvOk ((es.take i).map ls) ∧ 2 ≤ ls y ∧ pl ((es.take i).map ls) (ls y / 2) = none := by rw [tk, List.map_append]; exact lvok_app
    refine ⟨_, _, rfl, ?_⟩
    unfold s__law_due_L1
    have hl' := sub _ _ hl
    (try simp (disch := omega) only [WZ, WR, wp_if, wp_expr, wp_optD, wipeD, List.reduceReplicate, Nat.reduceSub, Int.reduceToNat, Int.reducePow, WY, wp_ixR hl', ixor1])
    rw [wp_inL g1 rfl flat_nums, inF_numsI]
    (try simp (disch := omega) only [WZ, WR, wp_if, wp_expr, wp_optD, wipeD, List.reduceReplicate, Nat.reduceSub, Int.reduceToNat, Int.reducePow, WY])
    have hSy := hS y hyb.1 hyb.2
    unfold g at hSy
    split
    · rename_i q2
      have q3 := hSy.mp q2
      refine ⟨sub, ?_⟩
      have : ¬ LvOk (es.map ls) := fin (by
        rw [app]
        rintro ⟨_, u1, u2⟩
        rcases q3 with q3 | ⟨w, hw, q3⟩
        · omega
        · rw [pl_none] at u2
          exact u2 _ (List.mem_map.mpr ⟨w, hw, rfl⟩) q3.symm)
      unfold rowOk
      rw [decide_eq_false this, Bool.false_and, Bool.and_false]
    · rename_i q2
      have q3 := fun z => q2 (hSy.mpr z)
      (try simp (disch := omega) only [WZ, WR, wp_if, wp_expr, wp_optD, wipeD, List.reduceReplicate, Nat.reduceSub, Int.reduceToNat, Int.reducePow, WY, wp_ixR hl', ixor1])
      refine wp_allocN fun st2 k2 sub2 l2 m2 g2 => ?_
      have g1' := sub2 _ _ g1
      (try simp (disch := omega) only [WZ, WR, wp_if, wp_expr, wp_optD, wipeD, List.reduceReplicate, Nat.reduceSub, Int.reduceToNat, Int.reducePow, WY])
      refine wp_addN g1' g2 (by rw [List.length_map]; simp; omega) fun st3 k3 sub3 l3 m3 g3 => ?_
      (try simp (disch := omega) only [WZ, WR, wp_if, wp_expr, wp_optD, wipeD, List.reduceReplicate, Nat.reduceSub, Int.reduceToNat, Int.reducePow, WY])
      refine ⟨_, _, _, _, _, _, k3, Sn ++ [g Lb y, g Lb (fx y 1)], rfl, sub.trans (sub2.trans sub3), ?_, by rw [List.length_append]; simp; omega, fun x x0 x1 => ?_, ?_⟩
      · rw [g3, List.map_append]
        rfl
      · have hby := h.b y hyb.1 hyb.2
        have hbx := h.b x x0 x1
        have hfy := h.flip y hyb.1 hyb.2
        simp only [tk, List.mem_append, List.mem_cons, List.not_mem_nil, or_false]
        rw [hS x x0 x1, hlab x y x0 x1 hyb.1 hyb.2, hlab x (fx y 1) x0 x1 hfb.1 hfb.2, hfy]
        constructor
        · rintro ((u | ⟨w, hw, u⟩) | u | u)
          · exact .inl u
          · exact .inr ⟨w, .inl hw, u⟩
          · exact .inr ⟨y, .inr rfl, by rw [u]⟩
          · exact .inr ⟨y, .inr rfl, by rw [u]; unfold fx; omega⟩
        · rintro (u | ⟨w, hw | rfl, u⟩)
          · exact .inl (.inl u)
          · exact .inl (.inr ⟨w, hw, u⟩)
          · refine .inr ?_
            unfold fx
            omega
      · rw [app]
        refine ⟨hlv, ?_, ?_⟩
        · have : ¬ ls y < 2 := fun z => q3 (.inl z)
          omega
        · rw [pl_none]
          intro v hv e
          obtain ⟨w, hw, rfl⟩ := List.mem_map.mp hv
          exact q3 (.inr ⟨w, hw, e.symm⟩)
  · rintro ss st' ⟨o5, o6, o7, o8, o9, o10, k1, Sn, rfl, sub, g1, hlen, hS, hlv⟩
    rw [List.length_map, List.take_length] at hlv
    have le64 : es.length ≤ 64 := by omega
    have l15 := few_len h hf he hlv le64
    have ro : rowOk ls m G a b es = goodB (rAlg es.length) ls (es.map ls) m G a b := by
      unfold rowOk
      rw [decide_eq_true le64, decide_eq_true hlv, Bool.true_and, Bool.true_and]
    rw [ro]
    have gq := goodQ (ls := ls) (lv := es.map ls) (m := m) (G := G) (a := a) (b := b)
    have lq := fun (i : Nat) (e : Int) => evq_len (ls := ls) (lv := es.map ls) (m := m) (i := i) (G := G) e
    rw [List.length_map] at gq lq
    clear hS hlen g1
    generalize hgo : goodB (rAlg es.length) ls (es.map ls) m G a b = good at gq ⊢
    have em : (1 + nl).toNat = m := by omega
    (try simp (disch := omega) only [WZ, WR, wp_if, wp_expr, wp_optD, wipeD, List.reduceReplicate, Nat.reduceSub, Int.reduceToNat, Int.reducePow, WY, wp_ixTh, em])
    refine lcn_rgG odI (fun _ => none) (fun i st' hi sub => ⟨_, rfl, ?_⟩) (fun _ _ => okG_nil) fun st2 kb sub2 l2 m2 h2 => ?_
    · (try simp (disch := omega) only [WZ, WR, wp_if, wp_expr, wp_optD, wipeD, List.reduceReplicate, Nat.reduceSub, Int.reduceToNat, Int.reducePow, WY])
      exact ⟨rfl, .refl⟩
    have s2 := sub.trans sub2
    have hg := s2 _ _ hn.g
    have q0 : QAt st2 kb (evs qAlg ls (es.map ls) m G 0) := by
      rw [evs]
      refine ⟨⟨_, h2, by simp, fun i d hd => ?_⟩⟩
      rw [List.map_map, List.getElem?_map] at hd
      cases hr : (List.range m)[i]? with
      | none => rw [hr] at hd; cases hd
      | some j =>
        rw [hr] at hd
        cases hd
        have : (List.replicate m (none : Option (List Int))).getD i none = none := by
          rw [List.getD_eq_getElem?_getD, List.getElem?_replicate]
          split <;> rfl
        rw [this]
        rfl
    have kbn : st.length ≤ kb := Nat.le_trans sub.len l2
    clear h2 em
    (try simp (disch := omega) only [WZ, WR, wp_if, wp_expr, wp_optD, wipeD, List.reduceReplicate, Nat.reduceSub, Int.reduceToNat, Int.reducePow, WY, wp_ixTh, tIy_R hg])
    refine for_rule (fun i ss st' => ∃ o7 o8 o9 o10, ss = [some (.tup [.int nl, .ref kg]), some (.ref kl), some (.tup [t, .int a, .int b, .tup (es.map DV.int)]), some (.tup (es.map DV.int)), some (.ref k1), o5, some (.ref kb), o7, o8, o9, o10] ∧ Sub st st' ∧ QAt st' kb (evs qAlg ls (es.map ls) m G i)) ⟨_, _, _, _, rfl, s2, q0⟩ (fun i ss st' _ ⟨_, _, _, _, _, h, _⟩ => okG_one (h _ _ hn.g)) ?_ ?_
    · clear sub s2 q0 hg sub2 l2 m2
      rintro i x ss st' hx ⟨o7, o8, o9, o10, rfl, sub, hq⟩
      obtain ⟨p, hp, rfl⟩ := mapP_get hx
      have hi := lt_of_get hp
      have hv := hn.v i p hp
      have el := evs_len qAlg ls (es.map ls) m G i
      have gd : G.getD i (0, 0) = p := by rw [List.getD_eq_getElem?_getD, hp]; rfl
      obtain ⟨ds, hk, hdl, hds⟩ := hq.ex
      refine ⟨_, _, rfl, ?_⟩
      unfold s__law_due_L2
      (try simp (disch := omega) only [WZ, WR, wp_if, wp_expr, wp_optD, wipeD, List.reduceReplicate, Nat.reduceSub, Int.reduceToNat, Int.reducePow, WY, setAll, tMt_R hk])
      refine (come_spec h hlab ll (sub _ _ hl) hq he hel (e := p.1) (by omega) (by omega) (by omega)).mono ?_
      rintro d1 st3 ⟨sub3, o1⟩
      (try simp (disch := omega) only [WZ, WR, wp_if, wp_expr, wp_optD, wipeD, List.reduceReplicate, Nat.reduceSub, Int.reduceToNat, Int.reducePow, WY])
      refine (come_spec h hlab ll (sub3 _ _ (sub _ _ hl)) (hq.mono sub3) he hel (e := p.2) (by omega) (by omega) (by omega)).mono ?_
      rintro d2 st4 ⟨sub4, o2⟩
      (try simp (disch := omega) only [WZ, WR, wp_if, wp_expr, wp_optD, wipeD, List.reduceReplicate, Nat.reduceSub, Int.reduceToNat, Int.reducePow, WY])
      have s4 := sub3.trans sub4
      refine (both_spec (o1.mono sub4) o2 (lt_of_get (s4 _ _ hk)) (fun L hL => by have := lq i p.1 L hL; omega) (fun L hL => by have := lq i p.2 L hL; omega)).mono ?_
      rintro d3 st5 ⟨sub5, o3⟩
      have s5 := s4.trans sub5
      have hk5 := s5 _ _ hk
      (try simp (disch := omega) only [WZ, WR, wp_if, wp_expr, wp_optD, wipeD, List.reduceReplicate, Nat.reduceSub, Int.reduceToNat, Int.reducePow, WY, tMt_R hk5])
      rw [wp_appendc hk5 (by omega)]
      (try simp (disch := omega) only [WZ, WR, wp_if, wp_expr, wp_optD, wipeD, List.reduceReplicate, Nat.reduceSub, Int.reduceToNat, Int.reducePow, WY])
      have nx : evs qAlg ls (es.map ls) m G (i + 1) = evs qAlg ls (es.map ls) m G i ++ [qCj (ev qAlg ls (es.map ls) (evs qAlg ls (es.map ls) m G i) p.1) (ev qAlg ls (es.map ls) (evs qAlg ls (es.map ls) m G i) p.2)] := by
        rw [evs, gd]
        rfl
      refine ⟨_, _, _, _, rfl, (sub.trans s5).set kbn, ?_⟩
      rw [nx]
      exact .push hk5 hdl (fun i d e => (hds i d e).mono s5) o3
    · clear sub s2 q0 hg sub2 l2 m2
      rintro ss st' ⟨o7, o8, o9, o10, rfl, sub, hq⟩
      rw [List.length_map] at hq
      have el := evs_len qAlg ls (es.map ls) m G G.length
      (try simp (disch := omega) only [WZ, WR, wp_if, wp_expr, wp_optD, wipeD, List.reduceReplicate, Nat.reduceSub, Int.reduceToNat, Int.reducePow, WY, wp_ixTh])
      refine (come_spec h hlab ll (sub _ _ hl) hq he hel (e := a) (by omega) (by omega) (by omega)).mono ?_
      rintro d1 st3 ⟨sub3, o1⟩
      have s3 := sub.trans sub3
      have hq3 := hq.mono sub3
      generalize ev qAlg ls (es.map ls) (evs qAlg ls (es.map ls) m G G.length) a = va at o1 gq
      cases va with
      | none =>
        cases o1
        (try simp +decide (disch := omega) only [↓reduceIte, WX2, Nat.reduceAdd, Int.reduceSub, Int.reduceAdd, Int.reduceMul, WZ, WR, wp_if, wp_expr, wp_optD, wipeD, List.reduceReplicate, Nat.reduceSub, Int.reduceToNat, Int.reducePow, WY])
        refine ⟨s3, ?_⟩
        cases good with
        | false => rfl
        | true => exact absurd rfl (gq.mp rfl).1
      | some A =>
        obtain ⟨ka, rfl, q1, q2⟩ := o1
        (try simp +decide (disch := omega) only [↓reduceIte, WX2, Nat.reduceAdd, Int.reduceSub, Int.reduceAdd, Int.reduceMul, WZ, WR, wp_if, wp_expr, wp_optD, wipeD, List.reduceReplicate, Nat.reduceSub, Int.reduceToNat, Int.reducePow, WY, wp_ixTh])
        refine (come_spec h hlab ll (s3 _ _ hl) hq3 he hel (e := b) (by omega) (by omega) (by omega)).mono ?_
        rintro d2 st4 ⟨sub4, o2⟩
        have o1 : OLn st4 kb (.ref ka) (some A) := ⟨ka, rfl, q1, sub4 _ _ q2⟩
        generalize ev qAlg ls (es.map ls) (evs qAlg ls (es.map ls) m G G.length) b = vb at o2 gq
        (try simp (disch := omega) only [WZ, WR, wp_if, wp_expr, wp_optD, wipeD, List.reduceReplicate, Nat.reduceSub, Int.reduceToNat, Int.reducePow, WY, wp_eqO o1 o2])
        refine ⟨s3.trans sub4, ?_⟩
        congr 1
        cases good with
        | false => exact decide_eq_false fun z => by have := gq.mpr ⟨by simp, z⟩; cases this
        | true => exact decide_eq_true (gq.mp rfl).2

theorem wp_slN2 {k : Nat} {xs : List DV} {lo hi : Option Int} {st : Sto} {Q : PQ DV} {E : XQ} (h : st[k]? = some (.lst xs)) (hq : New st (ML.cutD xs lo hi) Q) : Wp (slM (.ref k) lo hi st) Q E := by
  rw [wp_slR h]
  exact hq.at .refl
theorem at_l2 {xs : List DV} {x y : DV} : atI (xs ++ [x, y]) (-2) = some x := by
  unfold atI
  have e : ixN (xs ++ [x, y]).length (-2) = some xs.length := by
    unfold ixN
    rw [List.length_append]
    rw [if_neg (by omega)]
    rw [if_pos (by simp; omega)]
    congr 1
    simp
    omega
  rw [e]
  show (xs ++ [x, y])[xs.length]? = _
  rw [List.getElem?_append_right (Nat.le_refl _), Nat.sub_self]
  rfl
theorem at_l1 {xs : List DV} {x y : DV} : atI (xs ++ [x, y]) (-1) = some y := by
  have := atI_last (xs ++ [x]) y
  rw [List.append_assoc] at this
  exact this
theorem cut_init2 {xs : List DV} {x y : DV} : ML.cutD (xs ++ [x, y]) none (some (-2)) = xs := by
  have e : HT.sIx (xs ++ [x, y]).length (xs ++ [x, y]).length (some (-2)) = xs.length := by
    have h : HT.sIx (xs ++ [x, y]).length (xs ++ [x, y]).length (some (-2)) = (-2 + ((xs ++ [x, y]).length : Int)).toNat := rfl
    rw [h, List.length_append]
    simp
    omega
  unfold ML.cutD
  rw [HT.sIx_none, e, List.drop_zero, Nat.sub_zero, List.take_left']
  rfl
theorem cut_2 {xs : List DV} {x y : DV} : ML.cutD (x :: y :: xs) (some 2) none = xs := cut_fromI (by decide) (by simp)
theorem last_two : ∀ {E : List Int}, 2 ≤ E.length → ∃ A x y, E = A ++ [x, y] := fun {E} h => by
  refine ⟨E.take (E.length - 2), E[E.length - 2], E[E.length - 1], ?_⟩
  apply List.ext_getElem
  · simp
    omega
  · intro i h1 h2
    by_cases hi : i < E.length - 2
    · rw [List.getElem_append_left (by simp; omega), List.getElem_take]
    · rw [List.getElem_append_right (by simp; omega)]
      simp only [List.length_take]
      have : i = E.length - 2 ∨ i = E.length - 1 := by omega
      rcases this with rfl | rfl
      · have : E.length - 2 - min (E.length - 2) E.length = 0 := by omega
        simp [this]
      · have e : E.length - 1 - min (E.length - 2) E.length = 1 := by omega
        have e2 : E.length - 1 - (E.length - 2) = 1 := by omega
        simp [e2]
theorem tree_spec {st : Sto} {kg ke m : Nat} {nl : Int} {G : List (Int × Int)} {E : List Int} {c : Bool} (hn : NetAt st kg m G) (he : st[ke]? = some (.lst (E.map DV.int))) (hE : 1 ≤ E.length) (hm : (m : Int) = 1 + nl) (hz : G.length + E.length ≤ 1000) (hr : ∀ e ∈ E, 0 ≤ e ∧ e < 2 * ((m + G.length : Nat) : Int)) :
    Wp (s__law_tree [.tup [.int nl, .ref kg], .ref ke, .bl c] st) (fun v st' => Sub st st' ∧ ∃ (kg' : Nat) (G' : List (Int × Int)) (t : Int), v = .tup [.tup [.int nl, .ref kg'], .int t] ∧ NetAt st' kg' m G' ∧ G'.length + 1 = G.length + E.length ∧ 0 ≤ t ∧ t < 2 * ((m + G'.length : Nat) : Int)) NX := by
  unfold s__law_tree
  (try simp (disch := omega) only [WZ, WR, wp_if, wp_expr, wp_optD, wipeD, List.reduceReplicate, Nat.reduceSub, Int.reduceToNat, Int.reducePow, WY, wp_ixTh])
  refine wp_listN hn.g fun st1 k1 sub1 l1 m1 g1 => ?_
  (try simp (disch := omega) only [WZ, WR, wp_if, wp_expr, wp_optD, wipeD, List.reduceReplicate, Nat.reduceSub, Int.reduceToNat, Int.reducePow, WY])
  refine wp_listN (sub1 _ _ he) fun st2 k2 sub2 l2 m2 g2 => ?_
  (try simp (disch := omega) only [WZ, WR, wp_if, wp_expr, wp_optD, wipeD, List.reduceReplicate, Nat.reduceSub, Int.reduceToNat, Int.reducePow, WY])
  refine wh_rule (n := E.length) (fun n ss st' => ∃ (E' : List Int) (k2 : Nat) (G' : List (Int × Int)), ss = [some (.tup [.int nl, .ref kg]), some (.ref ke), some (.bl c), some (.ref k1), some (.ref k2)] ∧ Sub st st' ∧ NetAt st' k1 m G' ∧ st'[k2]? = some (.lst (E'.map DV.int)) ∧ k2 ≠ k1 ∧ E'.length = n ∧ 1 ≤ n ∧ G'.length + n = G.length + E.length ∧ G.length ≤ G'.length ∧ ∀ e ∈ E', 0 ≤ e ∧ e < 2 * ((m + G'.length : Nat) : Int)) (Nat.lt_of_le_of_lt (show E.length ≤ 1000 by omega) (by decide)) ⟨E, k2, G, rfl, sub1.trans sub2, ⟨sub2 _ _ g1, hn.v, hn.z⟩, g2, by omega, rfl, hE, rfl, Nat.le_refl _, hr⟩ ?_
  clear g2 g1 sub2 l2 m2 he
  rintro n ss st' ⟨E', k2, G', rfl, sub, hn', g2, ne, rfl, n1, hz', hGG, hr'⟩
  have hg := hn'.g
  (try simp (disch := omega) only [WZ, WR, wp_if, wp_expr, wp_optD, wipeD, List.reduceReplicate, Nat.reduceSub, Int.reduceToNat, Int.reducePow, WY, wp_lenR g2])
  split
  · rename_i q
    have gl : (G'.map pr).length < 16777216 := by rw [List.length_map]; omega
    unfold s__law_tree_L1
    have step : ∀ (x y : Int) (A : List Int), (∀ e ∈ A, e ∈ E') → x ∈ E' → y ∈ E' → NetAt (st'.set k1 (.lst (G'.map pr ++ [DV.tup [.int x, .int y]]))) k1 m (G' ++ [(x, y)]) ∧ (∀ e ∈ A, 0 ≤ e ∧ e < 2 * ((m + (G' ++ [(x, y)]).length : Nat) : Int)) ∧ (0 ≤ 2 * (nl + ((G'.length : Int) + 1)) ∧ 2 * (nl + ((G'.length : Int) + 1)) < 2 * ((m + (G' ++ [(x, y)]).length : Nat) : Int)) := fun x y A hA hx hy => by
      have ll : (G' ++ [(x, y)]).length = G'.length + 1 := by simp
      refine ⟨⟨?_, hn'.v.snoc ?_, by rw [ll]; omega⟩, fun e h => ?_, ?_⟩
      · rw [get_set hg, List.map_append]
        rfl
      · have := hr' x hx
        have := hr' y hy
        exact ⟨by omega, by omega, by omega, by omega⟩
      · have := hr' e (hA e h)
        rw [ll]
        omega
      · rw [ll]
        omega
    cases c with
    | true =>
      match E', q, g2, hr', step, hz', n1 with
      | x :: y :: A, q, g2, hr', step, hz', n1 =>
        (try simp (disch := omega) only [WZ, WR, wp_if, wp_expr, wp_optD, wipeD, List.reduceReplicate, Nat.reduceSub, Int.reduceToNat, Int.reducePow, WY, tMt_R hg, wp_ixR g2, at0, at1, List.map_cons])
        rw [wp_appendc hg gl]
        obtain ⟨a1, a2, a3⟩ := step x y A (fun e h => by simp [h]) (by simp) (by simp)
        have g2' : (st'.set k1 (.lst (G'.map pr ++ [DV.tup [.int x, .int y]])))[k2]? = some (.lst ((x :: y :: A).map DV.int)) := by rw [List.getElem?_set_ne (Ne.symm ne)]; exact g2
        have sub' : Sub st (st'.set k1 (.lst (G'.map pr ++ [DV.tup [.int x, .int y]]))) := sub.set l1
        generalize st'.set k1 (.lst (G'.map pr ++ [DV.tup [.int x, .int y]])) = st3 at *
        (try simp (disch := omega) only [WZ, WR, wp_if, wp_expr, wp_optD, wipeD, List.reduceReplicate, Nat.reduceSub, Int.reduceToNat, Int.reducePow, WY, wp_ixTh, wp_lenR a1.g])
        refine wp_allocN fun st4 k4 sub4 l4 m4 g4 => ?_
        (try simp (disch := omega) only [WZ, WR, wp_if, wp_expr, wp_optD, wipeD, List.reduceReplicate, Nat.reduceSub, Int.reduceToNat, Int.reducePow, WY])
        refine wp_slN2 (sub4 _ _ g2') fun st5 k5 sub5 l5 m5 g5 => ?_
        rw [List.map_cons, List.map_cons, cut_2] at g5
        (try simp (disch := omega) only [WZ, WR, wp_if, wp_expr, wp_optD, wipeD, List.reduceReplicate, Nat.reduceSub, Int.reduceToNat, Int.reducePow, WY])
        refine wp_addN (sub5 _ _ g4) g5 (by rw [List.length_map]; simp at hz' ⊢; omega) fun st6 k6 sub6 l6 m6 g6 => ?_
        have s46 := sub4.trans (sub5.trans sub6)
        have kl := lt_of_get a1.g
        have ll := s46.len
        have l46 := (sub4.trans sub5).len
        (try simp (disch := omega) only [WZ, WR, wp_if, wp_expr, wp_optD, wipeD, List.reduceReplicate, Nat.reduceSub, Int.reduceToNat, Int.reducePow, WY])
        refine ⟨A.length + 1, by simp, (2 * (nl + ((G'.length : Int) + 1))) :: A, k6, G' ++ [(x, y)], rfl, sub'.trans s46, a1.mono s46, ?_, by omega, rfl, by omega, by simp at hz' ⊢; omega, by simp; omega, fun e h => ?_⟩
        · rw [g6]
          simp [List.map_cons]
        · rcases List.mem_cons.mp h with rfl | h
          · exact a3
          · exact a2 e h
    | false =>
      obtain ⟨A, y, x, rfl⟩ := last_two (show 2 ≤ E'.length by omega)
      rw [List.map_append] at g2
      have g2 : st'[k2]? = some (.lst (A.map DV.int ++ [DV.int y, DV.int x])) := g2
      (try simp (disch := omega) only [WZ, WR, wp_if, wp_expr, wp_optD, wipeD, List.reduceReplicate, Nat.reduceSub, Int.reduceToNat, Int.reducePow, WY, tMt_R hg, wp_ixR g2, at_l1, at_l2])
      rw [wp_appendc hg gl]
      obtain ⟨a1, a2, a3⟩ := step x y A (fun e h => by simp [h]) (by simp) (by simp)
      have g2' : (st'.set k1 (.lst (G'.map pr ++ [DV.tup [.int x, .int y]])))[k2]? = some (.lst (A.map DV.int ++ [DV.int y, DV.int x])) := by rw [List.getElem?_set_ne (Ne.symm ne)]; exact g2
      have sub' : Sub st (st'.set k1 (.lst (G'.map pr ++ [DV.tup [.int x, .int y]]))) := sub.set l1
      generalize st'.set k1 (.lst (G'.map pr ++ [DV.tup [.int x, .int y]])) = st3 at *
      (try simp (disch := omega) only [WZ, WR, wp_if, wp_expr, wp_optD, wipeD, List.reduceReplicate, Nat.reduceSub, Int.reduceToNat, Int.reducePow, WY, wp_ixTh, wp_lenR a1.g])
      refine wp_slN2 g2' fun st5 k5 sub5 l5 m5 g5 => ?_
      rw [cut_init2] at g5
      (try simp (disch := omega) only [WZ, WR, wp_if, wp_expr, wp_optD, wipeD, List.reduceReplicate, Nat.reduceSub, Int.reduceToNat, Int.reducePow, WY, wp_ixTh, wp_lenR (sub5 _ _ a1.g)])
      refine wp_allocN fun st4 k4 sub4 l4 m4 g4 => ?_
      (try simp (disch := omega) only [WZ, WR, wp_if, wp_expr, wp_optD, wipeD, List.reduceReplicate, Nat.reduceSub, Int.reduceToNat, Int.reducePow, WY])
      refine wp_addN (sub4 _ _ g5) g4 (by rw [List.length_map]; simp at hz' ⊢; omega) fun st6 k6 sub6 l6 m6 g6 => ?_
      have s46 := sub5.trans (sub4.trans sub6)
      have kl := lt_of_get a1.g
      have l46 := (sub5.trans sub4).len
      (try simp (disch := omega) only [WZ, WR, wp_if, wp_expr, wp_optD, wipeD, List.reduceReplicate, Nat.reduceSub, Int.reduceToNat, Int.reducePow, WY])
      refine ⟨A.length + 1, by simp, A ++ [2 * (nl + ((G'.length : Int) + 1))], k6, G' ++ [(x, y)], rfl, sub'.trans s46, a1.mono s46, ?_, by omega, by simp, by omega, by simp at hz' ⊢; omega, by simp; omega, fun e h => ?_⟩
      · rw [g6]
        simp
      · rcases List.mem_append.mp h with h | h
        · exact a2 e h
        · rw [List.mem_singleton.mp h]
          exact a3
  · rename_i q
    obtain ⟨t, rfl⟩ := List.length_eq_one_iff.mp (show E'.length = 1 by omega)
    (try simp (disch := omega) only [WZ, WR, wp_if, wp_expr, wp_optD, wipeD, List.reduceReplicate, Nat.reduceSub, Int.reduceToNat, Int.reducePow, WY, wp_ixR g2, at0, List.map_cons])
    have := hr' t (by simp)
    simp only [List.length_singleton] at hz'
    exact ⟨sub, k1, G', t, rfl, hn', by omega, this.1, by omega⟩

def StJ (st : Sto) (n : Int) (d0 d1 d2 d3 : DV) (fl : Fl) (st' : Sto) : Prop := Sub st st' ∧ ∃ (a b : Int) (k : Nat) (es : List Int) (o8 : Option DV), fl = .nx [some d0, some d1, some d2, some d3, some (.int (2 * n)), some (.int a), some (.int b), some (.ref k), o8] ∧ (0 ≤ a ∧ a < 2 * n) ∧ (0 ≤ b ∧ b < 2 * n) ∧ st'[k]? = some (.lst (es.map DV.int)) ∧ es.length ≤ 1000 ∧ Few es ∧ ∀ e ∈ es, 0 ≤ e ∧ e < 2 * n
theorem step37 {st : Sto} {kg kr ke m : Nat} {n t1 t2 : Int} {G : List (Int × Int)} {L Lv : List Int} (hn : NetAt st kg m G) (hN : n = (m + G.length : Nat)) (n2 : 2 ≤ n) (n5 : n ≤ 2000) (hr : st[kr]? = some (.lst (L.map DV.int))) (hL : L.length = 10) (h0 : ∀ x ∈ L, 0 ≤ x) (he : st[ke]? = some (.lst (Lv.map DV.int))) (hl : Lv.length ≤ 1000) (hf : Few Lv) (hv : ∀ e ∈ Lv, 0 ≤ e ∧ e < 2 * n) (h1 : 0 ≤ t1 ∧ t1 < 2 * n) (h2 : 0 ≤ t2 ∧ t2 < 2 * n) :
    Wp (s__law_step [.tup [.int ((m : Int) - 1), .ref kg], .ref kr, .tup [.int t1, .int t2], .ref ke] st) (fun v st' => Sub st st' ∧ ∃ a b es, v = .tup [.str "row", .int a, .int b, .tup (es.map DV.int)] ∧ es.length ≤ 1000 ∧ Few es ∧ ∀ e ∈ a :: b :: es, 0 ≤ e ∧ e < 2 * n) NX := by
  have hg := hn.g
  have np : (0 : Int) < 2 * n := by omega
  have en : 2 * (1 + ((m : Int) - 1) + (G.length : Int)) = 2 * n := by omega
  unfold s__law_step
  simp (disch := omega) only [WZ, WR, wp_expr, wp_optD, wipeD, List.reduceReplicate, Nat.reduceSub, Int.reduceToNat, Int.reducePow, WY, wp_ixTh, wp_lenR hg, wp_ixR hr, en, tG2_T2', setAll]
  refine Wp.mono (Q := StJ st n (.tup [.int ((m : Int) - 1), .ref kg]) (.ref kr) (.tup [.int t1, .int t2]) (.ref ke)) ?_ ?_
  · (try simp (disch := omega) only [WZ, WR, wp_if, wp_expr, wp_optD, wipeD, List.reduceReplicate, Nat.reduceSub, Int.reduceToNat, Int.reducePow, WY, wp_ixR hr])
    split
    · (try simp (disch := omega) only [WZ, WR, wp_if, wp_expr, wp_optD, wipeD, List.reduceReplicate, Nat.reduceSub, Int.reduceToNat, Int.reducePow, WY, wp_ixR hr])
      exact ⟨.refl, _, _, ke, Lv, _, rfl, emod_rg _ np, emod_rg _ np, he, hl, hf, hv⟩
    · exact ⟨.refl, _, _, ke, Lv, _, rfl, h1, h2, he, hl, hf, hv⟩
  rintro fl st1 ⟨s1, a, b, k, es, o8, rfl, ha, hb, hk, hkl, hkf, hkv⟩
  have hr1 := s1 _ _ hr
  simp (disch := omega) only [WZ, WR, wp_expr, wp_optD, wipeD, List.reduceReplicate, Nat.reduceSub, Int.reduceToNat, Int.reducePow, WY]
  refine Wp.mono (Q := StJ st n (.tup [.int ((m : Int) - 1), .ref kg]) (.ref kr) (.tup [.int t1, .int t2]) (.ref ke)) ?_ ?_
  · (try simp (disch := omega) only [WZ, WR, wp_if, wp_expr, wp_optD, wipeD, List.reduceReplicate, Nat.reduceSub, Int.reduceToNat, Int.reducePow, WY, wp_ixR hr1])
    split
    · have e6 := emod_rg (L.getD 3 0) (show (0 : Int) < 6 by decide)
      (try simp (disch := omega) only [WZ, WR, wp_if, wp_expr, wp_optD, wipeD, List.reduceReplicate, Nat.reduceSub, Int.reduceToNat, Int.reducePow, WY, wp_ixR hr1])
      refine lcn_rgG DV.int (fun i => L.getD (4 + i) 0 % (2 * n)) (fun i st' hi sub => ⟨_, rfl, ?_⟩) (fun _ _ => okG_nil) fun st2 k2 sub2 l2 m2 g2 => ?_
      · have hr' := sub _ _ hr1
        rw [Int.zero_add]
        have e4 : ((4 : Int) + (i : Int)).toNat = 4 + i := by omega
        (try simp (disch := omega) only [WZ, WR, wp_if, wp_expr, wp_optD, wipeD, List.reduceReplicate, Nat.reduceSub, Int.reduceToNat, Int.reducePow, WY, wp_ixR hr', e4])
        exact .refl
      (try simp (disch := omega) only [WZ, WR, wp_if, wp_expr, wp_optD, wipeD, List.reduceReplicate, Nat.reduceSub, Int.reduceToNat, Int.reducePow, WY])
      have hlen : ((List.range (L.getD 3 0 % 6).toNat).map (fun i => L.getD (4 + i) 0 % (2 * n))).length ≤ 5 := by
        rw [List.length_map, List.length_range]
        omega
      exact ⟨s1.trans sub2, a, b, k2, _, _, rfl, ha, hb, g2, by omega, .inl (by omega), fun e he => by
        obtain ⟨x, _, rfl⟩ := List.mem_map.mp he
        exact emod_rg _ np⟩
    · exact ⟨s1, a, b, k, es, _, rfl, ha, hb, hk, hkl, hkf, hkv⟩
  clear s1 hr1 ha hb hk hkl hkf hkv
  rintro fl st1 ⟨s1, a, b, k, es, o8, rfl, ha, hb, hk, hkl, hkf, hkv⟩
  have hr1 := s1 _ _ hr
  simp (disch := omega) only [WZ, WR, wp_expr, wp_optD, wipeD, List.reduceReplicate, Nat.reduceSub, Int.reduceToNat, Int.reducePow, WY]
  refine Wp.mono (Q := StJ st n (.tup [.int ((m : Int) - 1), .ref kg]) (.ref kr) (.tup [.int t1, .int t2]) (.ref ke)) ?_ ?_
  · (try simp (disch := omega) only [WZ, WR, wp_if, wp_expr, wp_optD, wipeD, List.reduceReplicate, Nat.reduceSub, Int.reduceToNat, Int.reducePow, WY, wp_ixR hr1])
    split
    · have dn : ¬ (2 * n = 2) := by omega
      refine lcn_rgG DV.int (fun i => 2 + (i : Int) % (2 * n - 2)) (fun i st' hi sub => ⟨_, rfl, ?_⟩) (fun _ _ => okG_nil) fun st2 k2 sub2 l2 m2 g2 => ?_
      · rw [Int.zero_add]
        (try simp (disch := omega) only [WZ, WR, wp_if, wp_expr, wp_optD, wipeD, List.reduceReplicate, Nat.reduceSub, Int.reduceToNat, Int.reducePow, WY])
        rw [if_neg dn, Int.add_zero]
        exact ⟨rfl, .refl⟩
      (try simp (disch := omega) only [WZ, WR, wp_if, wp_expr, wp_optD, wipeD, List.reduceReplicate, Nat.reduceSub, Int.reduceToNat, Int.reducePow, WY])
      have hlen : ((List.range 65).map (fun (i : Nat) => 2 + (i : Int) % (2 * n - 2))).length = 65 := by
        rw [List.length_map, List.length_range]
      exact ⟨s1.trans sub2, a, b, k2, _, _, rfl, ha, hb, g2, by omega, .inr (.inl (by omega)), fun e he => by
        obtain ⟨x, _, rfl⟩ := List.mem_map.mp he
        have := emod_rg (x : Int) (show 0 < 2 * n - 2 by omega)
        omega⟩
    · exact ⟨s1, a, b, k, es, _, rfl, ha, hb, hk, hkl, hkf, hkv⟩
  clear s1 hr1 ha hb hk hkl hkf hkv
  rintro fl st1 ⟨s1, a, b, k, es, o8, rfl, ha, hb, hk, hkl, hkf, hkv⟩
  (try simp (disch := omega) only [WZ, WR, wp_if, wp_expr, wp_optD, wipeD, List.reduceReplicate, Nat.reduceSub, Int.reduceToNat, Int.reducePow, WY, wp_tupR hk])
  refine ⟨s1, a, b, es, rfl, hkl, hkf, fun e h => ?_⟩
  simp only [List.mem_cons] at h
  rcases h with rfl | rfl | h
  · exact ha
  · exact hb
  · exact hkv e h

theorem wp_ninL {l : Nat} {x : DV} {ys : List DV} {st : Sto} {Q : PQ DV} {E : XQ} (h : st[l]? = some (.lst ys)) (hx : flatD x = true) (hf : ys.all flatD = true) : Wp (ninX x (.ref l) st) Q E = Q (.bl (!inF x ys)) st := by
  unfold ninX
  simp only [h]
  unfold ninM inB
  simp only [h, hf, hx]
  rfl
theorem erase_mapD {A B : Type} (f : A → B) : ∀ (L : List A) (j : Nat), (L.map f).eraseIdx j = (L.eraseIdx j).map f
  | [], _ => rfl
  | _ :: _, 0 => rfl
  | x :: L, j + 1 => by
    show f x :: (L.map f).eraseIdx j = f x :: (L.eraseIdx j).map f
    rw [erase_mapD f L j]
theorem wp_popI {k : Nat} {i : Int} {L : List Int} {st : Sto} {Q : PQ DV} {E : XQ} (h : st[k]? = some (.lst (L.map DV.int))) (h0 : 0 ≤ i) (h1 : i < L.length) (hl : L.length ≤ 1000) : Wp (popM (.ref k) [.int i] st) Q E = Q (.int (L.getD i.toNat 0)) (st.set k (.lst ((L.eraseIdx i.toNat).map DV.int))) := by
  have e1 : popM (.ref k) [.int i] st = onL (.ref k) (fun xs => if -(2 ^ 63) ≤ i ∧ i < 2 ^ 63 then (ixN xs.length i).bind fun k => (xs[k]?).map fun y => (y, xs.eraseIdx k) else none) st := by
    unfold popM
    rfl
  have hj : i.toNat < L.length := by omega
  have hb : -(2 ^ 63) ≤ i ∧ i < 2 ^ 63 := ⟨Int.le_trans (show -(2 ^ 63 : Int) ≤ 0 by decide) h0, Int.lt_of_le_of_lt (show i ≤ 1000 by omega) (show (1000 : Int) < 2 ^ 63 by decide)⟩
  have e : ixN (L.map DV.int).length i = some i.toNat := by
    unfold ixN
    rw [if_pos h0, if_pos (by rw [List.length_map]; exact h1)]
  rw [e1]
  unfold onL
  simp only [h]
  rw [if_pos hb, e, Option.bind_some, List.getElem?_map, List.getElem?_eq_getElem hj]
  simp only [Option.map_some]
  rw [erase_mapD, List.getD_eq_getElem?_getD, List.getElem?_eq_getElem hj]
  rfl
theorem lcn_part {L : List Int} {g : List (Nat × DO)} {own : List Nat} {tg : Tg} {c : Sl → M Bool} {e : Ex} {ss : Sl} {st : Sto} {QD : PQ DV}
    (hs : ∀ x st', x ∈ L → Sub st st' → ∃ ss', tg (.int x) (wipeD ss own) st' = .ok ss' st' ∧ Wp (c ss' st') (fun _ st2 => st' = st2) NX ∧ Wp (e ss' st') (fun y st2 => y = .int x ∧ st' = st2) NX)
    (hg : ∀ st', Sub st st' → okG g st')
    (he : ∀ M : List Int, (∀ x ∈ M, x ∈ L) → M.length ≤ L.length → New st (M.map DV.int) QD) : Wp (lcL g own tg c e (L.map DV.int) ss st) (tLn QD) NX := by
  refine lc_rule (fun i ys st' => Sub st st' ∧ ∃ M : List Int, ys = M.map DV.int ∧ (∀ x ∈ M, x ∈ L) ∧ M.length ≤ i) ⟨.refl, [], rfl, fun x h => by simp at h, Nat.le_refl _⟩ (fun i ys st' hl hi => hg _ hi.1) (fun i x ys st' hx hi => ?_) fun ys st' hi => ?_
  · obtain ⟨sub, M, rfl, hM, hl⟩ := hi
    obtain ⟨y, hy, rfl⟩ := mapI_get hx
    have hm := List.mem_of_getElem? hy
    obtain ⟨ss', h1, h2, h3⟩ := hs y st' hm sub
    refine ⟨ss', st', h1, h2.mono ?_⟩
    rintro t st2 rfl
    cases t with
    | true =>
      rw [if_pos rfl]
      refine h3.mono ?_
      rintro z st3 ⟨rfl, rfl⟩
      refine ⟨sub, M ++ [y], by rw [List.map_append]; rfl, fun x h => ?_, by rw [List.length_append, List.length_singleton]; omega⟩
      rcases List.mem_append.mp h with z | z
      · exact hM x z
      · rw [List.mem_singleton.mp z]; exact hm
    | false =>
      rw [if_neg (by simp)]
      exact ⟨sub, M, rfl, hM, by omega⟩
  · obtain ⟨sub, M, rfl, hM, hl⟩ := hi
    rw [List.length_map] at hl
    exact (he M hM hl).at sub
theorem usrt_len {ns : List Int} : (usrt ns).length ≤ ns.length := by
  have h : (metI ns).length ≤ ns.length := by
    unfold metI
    have : ∀ (xs acc : List Int), (xs.foldl addI acc).length ≤ acc.length + xs.length := fun xs => by
      induction xs with
      | nil => intro acc; exact Nat.le_refl _
      | cons x r ih =>
        intro acc
        rw [List.foldl_cons, List.length_cons]
        have h1 := ih (addI acc x)
        have h2 : (addI acc x).length ≤ acc.length + 1 := by
          unfold addI
          split
          · omega
          · rw [List.length_append]; exact Nat.le_refl _
        omega
    have := this ns []
    simpa using this
  have e := (isrt_perm (metI ns)).length_eq
  unfold usrt
  omega
theorem CO.cc {n : Nat} {st : Sto} {k : Nat} {own : List Nat} {R : List Int} (h : CO n st k own R) : ∃ L, CC st k n R L := by
  obtain ⟨kr, kl, km, ks, L, Ms, c, v, rfl⟩ := h
  exact ⟨L, ⟨kr, kl, km, ks, Ms, c, v⟩⟩
theorem main : ∀ ns : List Int, ns.length ≤ 63 → ∃ st, s_law [.fzl (ns.map DV.int)] [] = .ok (.bl true) st := by
  intro ns hns
  suffices h : Wp (s_law [.fzl (ns.map DV.int)] []) (fun v _ => v = .bl true) NX by
    obtain ⟨v, st, e, rfl⟩ := h.ex
    exact ⟨st, e⟩
  unfold s_law
  simp (disch := omega) only [WZ, WR, wp_expr, wp_optD, wipeD, List.reduceReplicate, Nat.reduceSub, Int.reduceToNat, Int.reducePow, WY]
  refine (row_new (by decide) (by decide) (by decide)).mono ?_
  rintro _ st0 ⟨sub0, S, ks, rfl, l0, m0, hs, hSl, hS0⟩
  have hSl : S.length = 8 := hSl
  simp (disch := omega) only [WZ, WR, wp_expr, wp_optD, wipeD, List.reduceReplicate, Nat.reduceSub, Int.reduceToNat, Int.reducePow, WY]
  refine (row_new (by decide) (by decide) (by decide)).mono ?_
  rintro _ st1 ⟨sub1, L1, k1, rfl, l1, m1, hr1, hL1, hp1⟩
  have hL1 : L1.length = 20 := hL1
  simp (disch := omega) only [WZ, WR, wp_expr, wp_optD, wipeD, List.reduceReplicate, Nat.reduceSub, Int.reduceToNat, Int.reducePow, WY]
  refine (net_spec hr1 (sub1 _ _ hs) hL1 (by omega) hp1).mono ?_
  rintro _ st2 ⟨sub2, m, kg0, G0, rfl, m1', m5, hn0, hG0⟩
  have hs2 := (sub1.trans sub2) _ _ hs
  simp (disch := omega) only [WZ, WR, wp_expr, wp_optD, wipeD, List.reduceReplicate, Nat.reduceSub, Int.reduceToNat, Int.reducePow, WY]
  refine (row_new (by decide) (by decide) (by decide)).mono ?_
  rintro _ st3 ⟨sub3, L6, k6, rfl, l6, m6, hr6, hL6, hp6⟩
  have hL6 : L6.length = 60 := hL6
  have hs3 := sub3 _ _ hs2
  have hn3 := hn0.mono sub3
  clear hs2 hn0 hs hr1
  simp (disch := omega) only [WZ, WR, wp_expr, wp_optD, wipeD, List.reduceReplicate, Nat.reduceSub, Int.reduceToNat, Int.reducePow, WY, wp_ixR hs3]
  generalize hW : 2 + S.getD 2 0 % 7 + 24 * (if S.getD 2 0 / 7 % 8 = 5 then (1 : Int) else 0) = W
  have hWr : 2 ≤ W ∧ W ≤ 32 := by
    rw [← hW]
    split <;> omega
  clear hW
  have np0 : (0 : Int) < 2 * (1 + ((m : Int) - 1) + (G0.length : Int)) := by omega
  refine lcn_rgG DV.int (fun i => L6.getD i 0 % (2 * (1 + ((m : Int) - 1) + (G0.length : Int)))) (fun i st' hi sub => ⟨_, rfl, ?_⟩) (fun _ _ => okG_nil) fun st4 ke sub4 l4 m4 he4 => ?_
  · have hr' := sub _ _ hr6
    have hg' := sub _ _ hn3.g
    rw [Int.zero_add]
    (try simp (disch := omega) only [WZ, WR, wp_if, wp_expr, wp_optD, wipeD, List.reduceReplicate, Nat.reduceSub, Int.reduceToNat, Int.reducePow, WY, wp_ixR hr', wp_ixTh, wp_lenR hg'])
    exact .refl
  obtain ⟨Es, hEs, hEl, hEr⟩ : ∃ Es : List Int, Es = (List.range W.toNat).map (fun i => L6.getD i 0 % (2 * (1 + ((m : Int) - 1) + (G0.length : Int)))) ∧ 2 ≤ Es.length ∧ ∀ e ∈ Es, 0 ≤ e ∧ e < 2 * ((m + G0.length : Nat) : Int) := ⟨_, rfl, by rw [List.length_map, List.length_range]; omega, fun e h => by
    obtain ⟨x, _, rfl⟩ := List.mem_map.mp h
    have := emod_rg (L6.getD x 0) np0
    omega⟩
  have hEl2 : Es.length ≤ 32 := by rw [hEs, List.length_map, List.length_range]; omega
  rw [← hEs] at he4
  clear hEs
  have hn4 := hn3.mono sub4
  have hs4 := sub4 _ _ hs3
  have hr64 := sub4 _ _ hr6
  clear hn3 hs3 hr6 sub4
  simp (disch := omega) only [WZ, WR, wp_expr, wp_optD, wipeD, List.reduceReplicate, Nat.reduceSub, Int.reduceToNat, Int.reducePow, WY]
  have hm1 : (m : Int) = 1 + ((m : Int) - 1) := by omega
  refine (tree_spec hn4 he4 (by omega) hm1 (by omega) hEr).mono ?_
  rintro _ st5 ⟨sub5, kg1, G1, t1, rfl, hn5, hG1, ht0, ht1⟩
  have hs5 := sub5 _ _ hs4
  have hr5 := sub5 _ _ hr64
  have he5 := sub5 _ _ he4
  clear hn4 hs4 hr64 he4
  simp (disch := omega) only [WZ, WR, wp_expr, wp_optD, wipeD, List.reduceReplicate, Nat.reduceSub, Int.reduceToNat, Int.reducePow, WY, tG2_T2', setAll]
  refine wp_listN he5 fun st6 k7 sub6 l6' m6' g7 => ?_
  have hs6 := sub6 _ _ hs5
  simp (disch := omega) only [WZ, WR, wp_expr, wp_optD, wipeD, List.reduceReplicate, Nat.reduceSub, Int.reduceToNat, Int.reducePow, WY]
  refine Wp.mono (Q := fun fl st' => Sub st5 st' ∧ ∃ L7 : List Int, fl = .nx [some (.fzl (ns.map DV.int)), some (.ref ks), some (.tup [.int ((m : Int) - 1), .ref kg1]), some (.ref k6), some (.int W), some (.ref ke), some (.int t1), some (.ref k7), none, none, none, none, none, none, none, none, none, none] ∧ st'[k7]? = some (.lst (L7.map DV.int)) ∧ 2 ≤ L7.length ∧ L7.length ≤ 32 ∧ ∀ e ∈ L7, 0 ≤ e ∧ e < 2 * ((m + G0.length : Nat) : Int)) ?_ ?_
  · (try simp (disch := omega) only [WZ, WR, wp_if, wp_expr, wp_optD, wipeD, List.reduceReplicate, Nat.reduceSub, Int.reduceToNat, Int.reducePow, WY, wp_ixR hs6, wp_lenR g7])
    split
    rotate_left
    · exact ⟨sub6, Es, g7, hEl, hEl2, hEr⟩
    split
    · rename_i q
      have p0 : (0 : Int) < Es.length := by omega
      have rt := emod_rg (S.getD 4 0) p0
      (try simp (disch := omega) only [WZ, WR, wp_if, wp_expr, wp_optD, wipeD, List.reduceReplicate, Nat.reduceSub, Int.reduceToNat, Int.reducePow, WY, tMt_R g7, wp_ixR hs6, wp_lenR g7])
      rw [wp_popI g7 rt.1 rt.2 (by omega)]
      (try simp (disch := omega) only [WZ, WR, wp_if, wp_expr, wp_optD, wipeD, List.reduceReplicate, Nat.reduceSub, Int.reduceToNat, Int.reducePow, WY])
      have hle : (Es.eraseIdx (S.getD 4 0 % (Es.length : Int)).toNat).length = Es.length - 1 := by rw [List.length_eraseIdx, if_pos (by omega)]
      exact ⟨sub6.set l6', _, get_set g7, by omega, by omega, fun e h => hEr e (List.mem_of_mem_eraseIdx h)⟩
    · exact ⟨sub6, Es, g7, hEl, hEl2, hEr⟩
  clear hs6 g7 sub6
  rintro fl st6 ⟨sub6, L7, rfl, g7, l7a, l7b, h7⟩
  have hs6 := sub6 _ _ hs5
  simp (disch := omega) only [WZ, WR, wp_expr, wp_optD, wipeD, List.reduceReplicate, Nat.reduceSub, Int.reduceToNat, Int.reducePow, WY]
  refine Wp.mono (Q := fun fl st' => Sub st5 st' ∧ ∃ L7 : List Int, fl = .nx [some (.fzl (ns.map DV.int)), some (.ref ks), some (.tup [.int ((m : Int) - 1), .ref kg1]), some (.ref k6), some (.int W), some (.ref ke), some (.int t1), some (.ref k7), none, none, none, none, none, none, none, none, none, none] ∧ st'[k7]? = some (.lst (L7.map DV.int)) ∧ 2 ≤ L7.length ∧ L7.length ≤ 32 ∧ ∀ e ∈ L7, 0 ≤ e ∧ e < 2 * ((m + G0.length : Nat) : Int)) ?_ ?_
  · have p0 : (0 : Int) < L7.length := by omega
    have rt := emod_rg (S.getD 4 0) p0
    (try simp (disch := omega) only [WZ, WR, wp_if, wp_expr, wp_optD, wipeD, List.reduceReplicate, Nat.reduceSub, Int.reduceToNat, Int.reducePow, WY, wp_ixR hs6, wp_lenR g7])
    split
    · (try simp (disch := omega) only [WZ, WR, wp_if, wp_expr, wp_optD, wipeD, List.reduceReplicate, Nat.reduceSub, Int.reduceToNat, Int.reducePow, WY, wp_ixR hs6, wp_ixR g7, wp_lenR g7, ixor1])
      have hm7 : L7.getD (S.getD 4 0 % (L7.length : Int)).toNat 0 ∈ L7 := by
        rw [List.getD_eq_getElem?_getD, List.getElem?_eq_getElem (by omega)]
        exact List.getElem_mem _
      have r7 := h7 _ hm7
      have f7 := fxb r7.1 r7.2
      refine tG2_sub ?_
      unfold ML.tSub
      have hset := fun v => setM_R (v := v) g7 rt.1 (by rw [List.length_map]; exact rt.2)
      (try simp (disch := omega) only [WZ, WR, wp_if, wp_expr, wp_optD, wipeD, List.reduceReplicate, Nat.reduceSub, Int.reduceToNat, Int.reducePow, WY, wp_ixR hs6, wp_lenR g7, hset])
      refine ⟨sub6.set l6', L7.set (S.getD 4 0 % (L7.length : Int)).toNat (fx (L7.getD (S.getD 4 0 % (L7.length : Int)).toNat 0) 1), ?_, by rw [List.length_set]; exact l7a, by rw [List.length_set]; exact l7b, fun e h => ?_⟩
      · rw [get_set g7, List.map_set]
      · rcases List.mem_or_eq_of_mem_set h with z | z
        · exact h7 e z
        · rw [z]; exact f7
    · exact ⟨sub6, L7, g7, l7a, l7b, h7⟩
  clear hs6 g7 sub6 l7a l7b h7
  clear L7
  rintro fl st6 ⟨sub6, L7, rfl, g7, l7a, l7b, h7⟩
  have hs6 := sub6 _ _ hs5
  have hr6 := sub6 _ _ hr5
  have he6 := sub6 _ _ he5
  have hn6 := hn5.mono sub6
  simp (disch := omega) only [WZ, WR, wp_expr, wp_optD, wipeD, List.reduceReplicate, Nat.reduceSub, Int.reduceToNat, Int.reducePow, WY]
  refine (tree_spec hn6 g7 (by omega) hm1 (by omega) (fun e h => ⟨(h7 e h).1, by have := (h7 e h).2; omega⟩)).mono ?_
  rintro _ st7 ⟨sub7, kg, G, t2, rfl, hn, hG2, hu0, hu1⟩
  have hs7 := sub7 _ _ hs6
  have hr7 := sub7 _ _ hr6
  have he7 := sub7 _ _ he6
  obtain ⟨n, hN⟩ : ∃ n : Nat, n = m + G.length := ⟨_, rfl⟩
  have hN' : (n : Int) = (m + G.length : Nat) := by omega
  have n2 : (2 : Int) ≤ n := by omega
  have n5 : n ≤ 2000 := by omega
  have en : 2 * (1 + ((m : Int) - 1) + (G.length : Int)) = 2 * (n : Int) := by omega
  have en2 : 2 * (n : Int) / 2 = (n : Int) := by omega
  have tb1 : t1 < 2 * (n : Int) := by omega
  have tb2 : t2 < 2 * (n : Int) := by omega
  have hE30 : ∀ e ∈ Es, 0 ≤ e ∧ e < 30 := fun e h => by have := hEr e h; omega
  have hEn : ∀ e ∈ Es, 0 ≤ e ∧ e < 2 * (n : Int) := fun e h => by have := hEr e h; omega
  clear hr5 hs5 he5 hn5 hs6 hr6 he6 hn6 g7 h7 l7a l7b sub6 sub7 hG1 hG2
  simp (disch := omega) only [WZ, WR, wp_expr, wp_optD, wipeD, List.reduceReplicate, Nat.reduceSub, Int.reduceToNat, Int.reducePow, WY, tG2_T2', setAll, wp_ixTh, wp_lenR hn.g, en, en2]
  refine (CO.make n5).mono ?_
  rintro _ st8 ⟨kc, own, rfl, sub8, lo, co⟩
  have to := co.lt
  simp (disch := omega) only [WZ, WR, wp_expr, wp_optD, wipeD, List.reduceReplicate, Nat.reduceSub, Int.reduceToNat, Int.reducePow, WY]
  rw [wp_lrgI (by omega) (by omega)]
  refine wp_allocN fun st9 kl sub9 l9 m9 h9 => ?_
  have f9 := sub8.trans sub9
  have L9' := sub9.len
  have tks := lt_of_get hs7
  have tkg := lt_of_get hn.g
  have tkr := lt_of_get hr7
  have tke := lt_of_get he7
  simp (disch := omega) only [WZ, WR, wp_expr, wp_optD, wipeD, List.reduceReplicate, Nat.reduceSub, Int.reduceToNat, Int.reducePow, WY, wp_ixR (f9 _ _ hs7)]
  refine for_rule (fun i ss st' => ∃ own R kl Lb o12, ss = [some (.fzl (ns.map DV.int)), some (.ref ks), some (.tup [.int ((m : Int) - 1), .ref kg]), some (.ref k6), some (.int W), some (.ref ke), some (.int t1), some (.ref k7), some (.int t2), some (.int (2 * (n : Int))), some (.ref kc), some (.ref kl), o12, none, none, none, none, none] ∧ CO n st' kc own R ∧ st'[ks]? = some (.lst (S.map DV.int)) ∧ NetAt st' kg m G ∧ st'[k6]? = some (.lst (L6.map DV.int)) ∧ st'[ke]? = some (.lst (Es.map DV.int)) ∧ st'[kl]? = some (.lst (Lb.map DV.int)) ∧ Lab n R Lb ∧ Lb.length = 2 * n ∧ ks ∉ own ∧ kg ∉ own ∧ k6 ∉ own ∧ ke ∉ own ∧ kl ∉ own)
    ⟨own, iota2 n, kl, nums n, none, rfl, co.mono sub9, f9 _ _ hs7, hn.mono f9, f9 _ _ hr7, f9 _ _ he7, by rw [h9, nums_dv], nums_lab, by simp [nums], fun h => by have := lo _ h; omega, fun h => by have := lo _ h; omega, fun h => by have := lo _ h; omega, fun h => by have := lo _ h; omega, fun h => by have := to _ h; omega⟩ (fun _ _ _ _ _ => okG_nil) ?_ ?_
  · clear co f9 sub8 sub9 h9 hr7 hs7 he7 hn lo to
    rintro i x ss st' hx ⟨own, R, kl, Lb, o12, rfl, co, hs, hn, hr, he, hl, lab, ll, d1, d2, d3, d5, d4⟩
    obtain ⟨hi, rfl⟩ := irange_get hx
    refine ⟨_, _, rfl, ?_⟩
    rw [Int.zero_add]
    unfold s_law_L1
    have np : (0 : Int) < 2 * n := by omega
    have hi5 : i < 5 := by
      have : S.getD 5 0 % 5 < 5 := by omega
      omega
    have ra := emod_rg (L6.getD (40 + 2 * (i : Int)).toNat 0) np
    have rb := emod_rg (L6.getD (41 + 2 * (i : Int)).toNat 0) np
    obtain ⟨vs, hob⟩ := co.obj
    (try simp (disch := omega) only [WZ, WR, wp_if, wp_expr, wp_optD, wipeD, List.reduceReplicate, Nat.reduceSub, Int.reduceToNat, Int.reducePow, WY, wp_ixR hr, tMeth_R hob])
    generalize ea : L6.getD (40 + 2 * (i : Int)).toNat 0 % (2 * (n : Int)) = a at ra ⊢
    generalize eb : L6.getD (41 + 2 * (i : Int)).toNat 0 % (2 * (n : Int)) = b at rb ⊢
    refine (co.join ra.1 ra.2 rb.1 rb.2).mono ?_
    rintro v st2 ⟨own', R', co', fr, nk, hv⟩
    obtain ⟨c, rfl, hc1, hc0⟩ : ∃ c, v = .bl c ∧ (c = true → RT R a ≠ fx (RT R b) 1 ∧ ((RT R a / 2 = RT R b / 2 ∧ R' = R) ∨ (RT R a / 2 ≠ RT R b / 2 ∧ ∃ m y, ((m = RT R a ∧ y = RT R b) ∨ (m = RT R b ∧ y = RT R a)) ∧ ∀ e, 0 ≤ e → e < 2 * (n : Int) → RT R' e = mp m y (RT R e)))) ∧ (c = false → R' = R) := by
      rcases hv with ⟨h1, h2, h3⟩ | ⟨h1, h2, h3⟩
      · refine ⟨_, h2, fun q => ⟨?_, .inl ⟨h1, h3⟩⟩, fun _ => h3⟩
        have := of_decide_eq_true q
        unfold fx
        omega
      · refine ⟨_, h2, fun _ => ⟨?_, .inr ⟨h1, h3⟩⟩, fun q => by cases q⟩
        unfold fx
        omega
    clear hv
    have hs2 := fr.2 _ _ d1 hs
    have hg2 := fr.2 _ _ d2 hn.g
    have hr2 := fr.2 _ _ d3 hr
    have he2 := fr.2 _ _ d5 he
    have hl2 := fr.2 _ _ d4 hl
    have hn2 : NetAt st2 kg m G := ⟨hg2, hn.v, hn.z⟩
    have nw : ∀ x, x < st'.length → x ∉ own → x ∉ own' := fun x hx ho h => by
      rcases nk x h with q | q
      · exact ho q
      · omega
    have e1 := nw _ (lt_of_get hs) d1
    have e2 := nw _ (lt_of_get hn.g) d2
    have e3 := nw _ (lt_of_get hr) d3
    have e4 := nw _ (lt_of_get hl) d4
    have e5 := nw _ (lt_of_get he) d5
    cases c with
    | false =>
      (try simp (disch := omega) only [WZ, WR, wp_if, wp_expr, wp_optD, wipeD, List.reduceReplicate, Nat.reduceSub, Int.reduceToNat, Int.reducePow, WY])
      have := hc0 rfl
      subst this
      exact ⟨own', _, kl, Lb, _, rfl, co', hs2, hn2, hr2, he2, hl2, lab, ll, e1, e2, e3, e5, e4⟩
    | true =>
      (try simp (disch := omega) only [WZ, WR, wp_if, wp_expr, wp_optD, wipeD, List.reduceReplicate, Nat.reduceSub, Int.reduceToNat, Int.reducePow, WY, wp_ixR hr2, ea, eb])
      obtain ⟨hne, hR⟩ := hc1 rfl
      refine (joined_spec hl2 lab ll (by omega) ra.1 ra.2 rb.1 rb.2).mono ?_
      rintro v st3 ⟨sub3, hv⟩
      rcases hv with ⟨q, _⟩ | ⟨_, kn, rfl, lkn, hkn⟩
      · exact absurd q hne
      (try simp (disch := omega) only [WZ, WR, wp_if, wp_expr, wp_optD, wipeD, List.reduceReplicate, Nat.reduceSub, Int.reduceToNat, Int.reducePow, WY])
      have tl := co'.lt
      exact ⟨own', R', kn, joinLb Lb a b, _, rfl, co'.mono sub3, sub3 _ _ hs2, hn2.mono sub3, sub3 _ _ hr2, sub3 _ _ he2, hkn, lab.join ll ra.1 ra.2 rb.1 rb.2 hne hR, by rw [joinLb_len]; exact ll, e1, e2, e3, e5, fun h => by have := tl _ h; omega⟩
  · rintro ss st10 ⟨own, R, kl, Lb, o12, rfl, co, hs, hn, hr, he, hl, lab, ll, d1, d2, d3, d5, d4⟩
    obtain ⟨L, cc⟩ := co.cc
    have labL := cc.lab lab
    have hL := cc.ls
    have ll' : (Lb.length : Int) = 2 * (n : Int) := by omega
    clear co lab d1 d2 d3 d4 d5 hr hs7 hr7 he7 h9 f9 sub9 sub8
    simp (disch := omega) only [WZ, WR, wp_expr, wp_optD, wipeD, List.reduceReplicate, Nat.reduceSub, Int.reduceToNat, Int.reducePow, WY]
    refine wp_sortSet he (by omega) fun st11 k11 sub11 l11 m11 h11 => ?_
    have ul := usrt_len (ns := Es)
    (try simp (disch := omega) only [WZ, WR, wp_if, wp_expr, wp_optD, wipeD, List.reduceReplicate, Nat.reduceSub, Int.reduceToNat, Int.reducePow, WY, tIy_R h11])
    have he11 := sub11 _ _ he
    refine lcn_part (fun x st' hx sub => ⟨_, rfl, ?_, ?_⟩) (fun st' sub => okG_one (sub _ _ h11)) fun Lv hLv hLl st12 kv sub12 l12 m12 hv12 => ?_
    · have he' := sub _ _ he11
      (try simp (disch := omega) only [WZ, WR, wp_if, wp_expr, wp_optD, wipeD, List.reduceReplicate, Nat.reduceSub, Int.reduceToNat, Int.reducePow, WY])
      split
      · (try simp (disch := omega) only [WZ, WR, wp_if, wp_expr, wp_optD, wipeD, List.reduceReplicate, Nat.reduceSub, Int.reduceToNat, Int.reducePow, WY, ixor1])
        rw [wp_ninL he' rfl flat_nums]
        (try simp (disch := omega) only [WZ, WR, wp_if, wp_expr, wp_optD, wipeD, List.reduceReplicate, Nat.reduceSub, Int.reduceToNat, Int.reducePow, WY])
        split
        · trivial
        · (try simp (disch := omega) only [WZ, WR, wp_if, wp_expr, wp_optD, wipeD, List.reduceReplicate, Nat.reduceSub, Int.reduceToNat, Int.reducePow, WY])
      · trivial
    · (try simp (disch := omega) only [WZ, WR, wp_if, wp_expr, wp_optD, wipeD, List.reduceReplicate, Nat.reduceSub, Int.reduceToNat, Int.reducePow, WY])
    have hLE : ∀ x ∈ Lv, x ∈ Es := fun x h => mem_usrt.mp (hLv x h)
    have hLlen : Lv.length ≤ 32 := by
      have := usrt_len (ns := Es)
      omega
    have s12 := sub11.trans sub12
    have cc8 := cc.mono s12
    have hn8 := hn.mono s12
    have hl8 := s12 _ _ hl
    clear cc hn hs hl he l11 m11 h11 he11 l12 m12 sub11 sub12 s12 hLv hLl
    (try simp (disch := omega) only [WZ, WR, wp_if, wp_expr, wp_optD, wipeD, List.reduceReplicate, Nat.reduceSub, Int.reduceToNat, Int.reducePow, WY])
    refine for_rule (fun i ss st' => ∃ o12 o14 o15, ss = [some (.fzl (ns.map DV.int)), some (.ref ks), some (.tup [.int ((m : Int) - 1), .ref kg]), some (.ref k6), some (.int W), some (.ref ke), some (.int t1), some (.ref k7), some (.int t2), some (.int (2 * (n : Int))), some (.ref kc), some (.ref kl), o12, some (.ref kv), o14, o15, none, none] ∧ Sub st12 st') ⟨_, _, _, rfl, .refl⟩ (fun _ _ _ _ _ => okG_nil) ?_ ?_
    · rintro i x ss st' hx ⟨o12, o14, o15, rfl, sub⟩
      obtain ⟨hi, rfl⟩ := irange_get hx
      refine ⟨_, _, rfl, ?_⟩
      unfold s_law_L2
      simp (disch := omega) only [WZ, WR, wp_expr, wp_optD, wipeD, List.reduceReplicate, Nat.reduceSub, Int.reduceToNat, Int.reducePow, WY]
      refine (row_new (by omega) (by decide) (by decide)).mono ?_
      rintro _ st13 ⟨sub13, L9, k9, rfl, l9, m9, hr9, hL9, hp9⟩
      have hL9 : L9.length = 10 := hL9
      have s13 := sub.trans sub13
      simp (disch := omega) only [WZ, WR, wp_expr, wp_optD, wipeD, List.reduceReplicate, Nat.reduceSub, Int.reduceToNat, Int.reducePow, WY]
      refine (step37 (hn8.mono s13) hN' n2 (by omega) hr9 hL9 hp9 (s13 _ _ hv12) (by omega) (.inr (.inr fun e h => (hE30 e (hLE e h)).2)) (fun e h => hEn e (hLE e h)) ⟨ht0, tb1⟩ ⟨hu0, tb2⟩).mono ?_
      rintro _ st14 ⟨sub14, a, b, es, rfl, hes, hfw, hrr⟩
      have s14 := s13.trans sub14
      simp (disch := omega) only [WZ, WR, wp_expr, wp_optD, wipeD, List.reduceReplicate, Nat.reduceSub, Int.reduceToNat, Int.reducePow, WY]
      refine (isgoodR_spec (cc8.mono s14) (hn8.mono s14) hm1 hN' (by omega) hrr).mono ?_
      rintro _ st15 ⟨sub15, rfl⟩
      have s15 := s14.trans sub15
      (try simp (disch := omega) only [WZ, WR, wp_if, wp_expr, wp_optD, wipeD, List.reduceReplicate, Nat.reduceSub, Int.reduceToNat, Int.reducePow, WY])
      refine (due37 (hn8.mono s15) hm1 hN' (by omega) hL labL ll' (s15 _ _ hl8) (fun x hx => hrr x (List.mem_cons_of_mem _ (List.mem_cons_of_mem _ hx))) hfw (by omega) (hrr a (by simp)).1 (hrr a (by simp)).2 (hrr b (by simp)).1 (hrr b (by simp)).2).mono ?_
      rintro _ st16 ⟨sub16, rfl⟩
      (try simp (disch := omega) only [WZ, WR, wp_if, wp_expr, wp_optD, wipeD, List.reduceReplicate, Nat.reduceSub, Int.reduceToNat, Int.reducePow, WY])
      rw [if_neg (by simp)]
      exact ⟨_, _, _, rfl, s15.trans sub16⟩
    · rintro ss st13 ⟨o12, o14, o15, rfl, sub⟩
      (try simp (disch := omega) only [WZ, WR, wp_if, wp_expr, wp_optD, wipeD, List.reduceReplicate, Nat.reduceSub, Int.reduceToNat, Int.reducePow, WY])
      refine lcn_rgG DV.int (fun i => lsf R L (i : Int)) (fun i st' hi sub2 => ⟨_, rfl, ?_⟩) (fun _ _ => okG_nil) fun st14 k14 sub14 l14 m14 h14 => ?_
      · have cc' := cc8.mono (sub.trans sub2)
        obtain ⟨vs, hob⟩ := cc'.meth
        rw [Int.zero_add]
        (try simp (disch := omega) only [WZ, WR, wp_if, wp_expr, wp_optD, wipeD, List.reduceReplicate, Nat.reduceSub, Int.reduceToNat, Int.reducePow, WY, tMeth_R hob])
        refine (cc'.least (by omega) (by omega)).mono ?_
        rintro _ _ ⟨rfl, rfl⟩
        exact ⟨rfl, .refl⟩
      have hl14 := (sub.trans sub14) _ _ hl8
      (try simp (disch := omega) only [WZ, WR, wp_if, wp_expr, wp_optD, wipeD, List.reduceReplicate, Nat.reduceSub, Int.reduceToNat, Int.reducePow, WY, tIy_R hl14])
      refine lcn_mapG DV.int (fun x => (((Lb.findIdx? (fun z => decide (z = x))).getD 0 : Nat) : Int)) (fun x st' hx sub2 => ⟨_, rfl, ?_⟩) (fun st' sub2 => okG_one (sub2 _ _ hl14)) fun st15 k15 sub15 l15 m15 h15 => ?_
      · have hl' := sub2 _ _ hl14
        obtain ⟨e, he⟩ := List.getElem?_of_mem hx
        have hel := lt_of_get he
        have hge : g Lb (e : Int) = x := by
          unfold g
          rw [Int.toNat_natCast, List.getD_eq_getElem?_getD, he]
          rfl
        have hix := index_ls hL labL ll' (e := (e : Int)) (by omega) (by omega)
        rw [hge] at hix
        (try simp (disch := omega) only [WZ, WR, wp_if, wp_expr, wp_optD, wipeD, List.reduceReplicate, Nat.reduceSub, Int.reduceToNat, Int.reducePow, WY, tMt_R hl'])
        rw [wp_indexI hl' hix]
        refine ⟨?_, .refl⟩
        rw [hix]
        rfl
      have h14' := sub15 _ _ h14
      have el := lsf_map (ls := lsf R L) (Lb := Lb) labL ll' (fun x => (((Lb.findIdx? (fun z => decide (z = x))).getD 0 : Nat) : Int)) (fun e e0 e1 => by
        have hb := hL.b e e0 e1
        rw [index_ls hL labL ll' e0 e1]
        show (((lsf R L e).toNat : Nat) : Int) = lsf R L e
        omega)
      rw [← el] at h15
      (try simp (disch := omega) only [WZ, WR, wp_if, wp_expr, wp_optD, wipeD, List.reduceReplicate, Nat.reduceSub, Int.reduceToNat, Int.reducePow, WY])
      rw [wp_eqT (rd_LI h14') (rd_LI h15) sh_LI (by decide)]

end LK
namespace LK
open PySem PySem.Spec PyProof.Rows L2 ML
def topS (i : Nat) : Stmt := PySem.Challenge.pw_lampforge_k37_rows_good_or_not.main.body.getD i (.Pass ⟨0, 0, 0, 0⟩)
structure Txt (w : World) (K : PySem.W.Frag) (mg : Str → Option Value) : Prop where
  b_abs : mg "abs" = none
  b_all : mg "all" = none
  b_bool : mg "bool" = none
  b_enumerate : mg "enumerate" = none
  b_int : mg "int" = none
  b_isinstance : mg "isinstance" = none
  b_len : mg "len" = none
  b_list : mg "list" = none
  b_max : mg "max" = none
  b_min : mg "min" = none
  b_range : mg "range" = none
  b_set : mg "set" = none
  b_sorted : mg "sorted" = none
  b_tuple : mg "tuple" = none
  c_FEW : GC K mg "FEW" c_FEW
  c_LOW : GC K mg "LOW" c_LOW
  c_MANY : GC K mg "MANY" c_MANY
  k_Classes_lows : KF K mg "Classes" "lows"
  k_Classes_members : KF K mg "Classes" "members"
  k_Classes_roots : KF K mg "Classes" "roots"
  ok : True
section
variable {P : Program} {w : World} {K : PySem.W.Frag} {mg : Str → Option Value} {base : Heap}
abbrev t_Classes_init : Stmt := inClass (topS 19) 0
theorem sc_Classes_init : FnScope ["self", "knots", "knot"] ["self", "knots"] (defScope t_Classes_init) := ⟨rfl, rfl, rfl, by decide +kernel, rfl, by decide +kernel, by decide +kernel⟩
theorem ok_Classes_init {f : Addr} {fd : FuncData} (F : Fun K "__init__" "Classes.__init__" t_Classes_init f fd) (T : Txt w K mg)  : FnOk P w K mg base (L2N.CX P w) 1 f fd ["self", "knots"] (spM K mg s_Classes_init) := by
  unfold s_Classes_init
  exact fn_ok F sc_Classes_init fun cdv A outer s H E hr =>
  (rss_cons (rs_fld (re_var (i := 0) rfl (.inl rfl)) (re_lc rfl sc_Classes_init.nd (ri_range1 (by rfl) T.b_range (ra_cons (re_var (i := 1) rfl (.inl rfl)) ra_nil)) (blk_of (own := [("knot", 2)]) (by kernel_rfl)) rfl (fun _ _ _ _ _ => pg_name (i := 2) sc_Classes_init.nd rfl (.inl rfl)) cr_name gNm_st (fun _ _ _ _ _ => rts_nil) (fun _ _ _ _ _ => (re_op opm_mul re_int (re_var (i := 2) rfl (.inl rfl))))) T.k_Classes_roots (by decide) rfl (by decide))
  (rss_cons (rs_fld (re_var (i := 0) rfl (.inl rfl)) (re_lc rfl sc_Classes_init.nd (ri_range1 (by rfl) T.b_range (ra_cons (re_var (i := 1) rfl (.inl rfl)) ra_nil)) (blk_of (own := [("knot", 2)]) (by kernel_rfl)) rfl (fun _ _ _ _ _ => pg_name (i := 2) sc_Classes_init.nd rfl (.inl rfl)) cr_name gNm_st (fun _ _ _ _ _ => rts_nil) (fun _ _ _ _ _ => (re_op opm_mul re_int (re_var (i := 2) rfl (.inl rfl))))) T.k_Classes_lows (by decide) rfl (by decide))
  (rss_one (rs_fld (re_var (i := 0) rfl (.inl rfl)) (re_lc rfl sc_Classes_init.nd (ri_range1 (by rfl) T.b_range (ra_cons (re_var (i := 1) rfl (.inl rfl)) ra_nil)) (blk_of (own := [("knot", 2)]) (by kernel_rfl)) rfl (fun _ _ _ _ _ => pg_name (i := 2) sc_Classes_init.nd rfl (.inl rfl)) cr_name gNm_st (fun _ _ _ _ _ => rts_nil) (fun _ _ _ _ _ => (re_lst (ra_cons (re_var (i := 2) rfl (.inl rfl)) ra_nil)))) T.k_Classes_members (by decide) rfl (by decide)))))
abbrev t_Classes_low : Stmt := inClass (topS 19) 2
theorem sc_Classes_low : FnScope ["self", "root"] ["self", "root"] (defScope t_Classes_low) := ⟨rfl, rfl, rfl, by decide +kernel, rfl, by decide +kernel, by decide +kernel⟩
theorem ok_Classes_low {f : Addr} {fd : FuncData} (F : Fun K "low" "Classes.low" t_Classes_low f fd) (T : Txt w K mg)  : FnOk P w K mg base (L2N.CX P w) 1 f fd ["self", "root"] (spM K mg s_Classes_low) := by
  unfold s_Classes_low
  exact fn_ok F sc_Classes_low fun cdv A outer s H E hr =>
  (rss_one (rs_ret (re_op opm_xor (re_ix (ixm (hu1 hr)) (re_fld (re_var (i := 0) rfl (.inl rfl)) T.k_Classes_lows (by decide) rfl) (re_op opm_fdiv (re_var (i := 1) rfl (.inl rfl)) re_int)) (re_op opm_and (re_var (i := 1) rfl (.inl rfl)) re_int))))
abbrev t_Classes_root : Stmt := inClass (topS 19) 1
theorem sc_Classes_root : FnScope ["self", "end"] ["self", "end"] (defScope t_Classes_root) := ⟨rfl, rfl, rfl, by decide +kernel, rfl, by decide +kernel, by decide +kernel⟩
theorem ok_Classes_root {f : Addr} {fd : FuncData} (F : Fun K "root" "Classes.root" t_Classes_root f fd) (T : Txt w K mg)  : FnOk P w K mg base (L2N.CX P w) 1 f fd ["self", "end"] (spM K mg s_Classes_root) := by
  unfold s_Classes_root
  exact fn_ok F sc_Classes_root fun cdv A outer s H E hr =>
  (rss_one (rs_ret (re_op opm_xor (re_ix (ixm (hu1 hr)) (re_fld (re_var (i := 0) rfl (.inl rfl)) T.k_Classes_roots (by decide) rfl) (re_op opm_fdiv (re_var (i := 1) rfl (.inl rfl)) re_int)) (re_op opm_and (re_var (i := 1) rfl (.inl rfl)) re_int))))
abbrev t_Classes_join : Stmt := inClass (topS 19) 5
theorem sc_Classes_join : FnScope ["self", "one", "other", "mine", "yours", "moved", "knot"] ["self", "one", "other"] (defScope t_Classes_join) := ⟨rfl, rfl, rfl, by decide +kernel, rfl, by decide +kernel, by decide +kernel⟩
theorem ok_Classes_join {f : Addr} {fd : FuncData} (F : Fun K "join" "Classes.join" t_Classes_join f fd) (T : Txt w K mg) (h_Classes_low : MeC P w K mg base "Classes" "low" 1 ["self", "root"] s_Classes_low) (h_Classes_root : MeC P w K mg base "Classes" "root" 1 ["self", "end"] s_Classes_root) : FnOk P w K mg base (L2N.CX P w) 2 f fd ["self", "one", "other"] (spM K mg s_Classes_join) := by
  unfold s_Classes_join
  exact fn_ok F sc_Classes_join fun cdv A outer s H E hr =>
  (rss_cons (rs_set (i := 3) sc_Classes_join.nd rfl (.inl rfl) (re_methF (re_var (i := 0) rfl (.inl rfl)) h_Classes_root (by decide) (hr.mono (by decide)) (L2N.takes_of rfl rfl rfl rfl) (ra_cons (re_var (i := 1) rfl (.inl rfl)) ra_nil)))
  (rss_cons (rs_set (i := 4) sc_Classes_join.nd rfl (.inl rfl) (re_methF (re_var (i := 0) rfl (.inl rfl)) h_Classes_root (by decide) (hr.mono (by decide)) (L2N.takes_of rfl rfl rfl rfl) (ra_cons (re_var (i := 2) rfl (.inl rfl)) ra_nil)))
  (rss_cons (rs_if (rt_cmp (opm_eq (hu64 hr)) (re_op opm_fdiv (re_var (i := 3) rfl (.inl rfl)) re_int) (re_op opm_fdiv (re_var (i := 4) rfl (.inl rfl)) re_int)) (rss_one (rs_ret (re_cmp (opm_eq (hu64 hr)) (re_var (i := 3) rfl (.inl rfl)) (re_var (i := 4) rfl (.inl rfl))))) rss_nil)
  (rss_cons (rs_if (rt_cmp opm_lt (re_callB cm_len (by rfl) T.b_len bb_len (ra_cons (re_ix (ixm (hu1 hr)) (re_fld (re_var (i := 0) rfl (.inl rfl)) T.k_Classes_members (by decide) rfl) (re_op opm_fdiv (re_var (i := 3) rfl (.inl rfl)) re_int)) ra_nil)) (re_callB cm_len (by rfl) T.b_len bb_len (ra_cons (re_ix (ixm (hu1 hr)) (re_fld (re_var (i := 0) rfl (.inl rfl)) T.k_Classes_members (by decide) rfl) (re_op opm_fdiv (re_var (i := 4) rfl (.inl rfl)) re_int)) ra_nil))) (rss_one (rs_par (i := 3) (j := 4) rfl sc_Classes_join.nd rfl rfl (by decide) rfl rfl (ra_cons (re_var (i := 4) rfl (.inl rfl)) (ra_cons (re_var (i := 3) rfl (.inl rfl)) ra_nil)))) rss_nil)
  (rss_cons (rs_asg (re_op opm_xor (re_callB (cm_min2 rfl) (by rfl) T.b_min bb_min (ra_cons (re_methF (re_var (i := 0) rfl (.inl rfl)) h_Classes_low (by decide) (hr.mono (by decide)) (L2N.takes_of rfl rfl rfl rfl) (ra_cons (re_var (i := 3) rfl (.inl rfl)) ra_nil)) (ra_cons (re_methF (re_var (i := 0) rfl (.inl rfl)) h_Classes_low (by decide) (hr.mono (by decide)) (L2N.takes_of rfl rfl rfl rfl) (ra_cons (re_var (i := 4) rfl (.inl rfl)) ra_nil)) ra_nil))) (re_op opm_and (re_var (i := 3) rfl (.inl rfl)) re_int)) (rg_sub (W := fun cls d _ H => E cls d H) (hu1 hr) (re_fld (re_var (i := 0) rfl (.inl rfl)) T.k_Classes_lows (by decide) rfl) (re_op opm_fdiv (re_var (i := 3) rfl (.inl rfl)) re_int)))
  (rss_cons (rs_set (i := 5) sc_Classes_join.nd rfl (.inl rfl) (re_ix (ixm (hu1 hr)) (re_fld (re_var (i := 0) rfl (.inl rfl)) T.k_Classes_members (by decide) rfl) (re_op opm_fdiv (re_var (i := 4) rfl (.inl rfl)) re_int)))
  (rss_cons (rs_for (passes_of rfl) rfl (ri_any (re_var (i := 5) rfl (.inl rfl))) (rg_name (i := 6) sc_Classes_join.nd rfl (.inl rfl)) (rss_one (rs_asg (re_op opm_xor (re_op opm_xor (re_var (i := 3) rfl (.inl rfl)) (re_op opm_and (re_var (i := 4) rfl (.inl rfl)) re_int)) (re_op opm_and (re_ix (ixm (hu1 hr)) (re_fld (re_var (i := 0) rfl (.inl rfl)) T.k_Classes_roots (by decide) rfl) (re_var (i := 6) rfl (.inl rfl))) re_int)) (rg_sub (W := fun cls d _ H => E cls d H) (hu1 hr) (re_fld (re_var (i := 0) rfl (.inl rfl)) T.k_Classes_roots (by decide) rfl) (re_var (i := 6) rfl (.inl rfl))))))
  (rss_cons (rs_expr (re_mt PySem.F.plainAttrs_list PySem.F.slot_list_extend PySem.F.type_list_extend mm_extend (ho := (re_ix (ixm (hu1 hr)) (re_fld (re_var (i := 0) rfl (.inl rfl)) T.k_Classes_members (by decide) rfl) (re_op opm_fdiv (re_var (i := 3) rfl (.inl rfl)) re_int))) (ha := (ra_cons (re_var (i := 5) rfl (.inl rfl)) ra_nil))))
  (rss_cons (rs_asg (re_lst ra_nil) (rg_sub (W := fun cls d _ H => E cls d H) (hu1 hr) (re_fld (re_var (i := 0) rfl (.inl rfl)) T.k_Classes_members (by decide) rfl) (re_op opm_fdiv (re_var (i := 4) rfl (.inl rfl)) re_int)))
  (rss_one (rs_ret re_bl)))))))))))
abbrev t_Classes_least : Stmt := inClass (topS 19) 3
theorem sc_Classes_least : FnScope ["self", "end"] ["self", "end"] (defScope t_Classes_least) := ⟨rfl, rfl, rfl, by decide +kernel, rfl, by decide +kernel, by decide +kernel⟩
theorem ok_Classes_least {f : Addr} {fd : FuncData} (F : Fun K "least" "Classes.least" t_Classes_least f fd) (T : Txt w K mg) (h_Classes_low : MeC P w K mg base "Classes" "low" 1 ["self", "root"] s_Classes_low) (h_Classes_root : MeC P w K mg base "Classes" "root" 1 ["self", "end"] s_Classes_root) : FnOk P w K mg base (L2N.CX P w) 2 f fd ["self", "end"] (spM K mg s_Classes_least) := by
  unfold s_Classes_least
  exact fn_ok F sc_Classes_least fun cdv A outer s H E hr =>
  (rss_one (rs_ret (re_methF (re_var (i := 0) rfl (.inl rfl)) h_Classes_low (by decide) (hr.mono (by decide)) (L2N.takes_of rfl rfl rfl rfl) (ra_cons (re_methF (re_var (i := 0) rfl (.inl rfl)) h_Classes_root (by decide) (hr.mono (by decide)) (L2N.takes_of rfl rfl rfl rfl) (ra_cons (re_var (i := 1) rfl (.inl rfl)) ra_nil)) ra_nil))))
abbrev t__law_both : Stmt := topS 26
theorem sc__law_both : FnScope ["_law_mine", "_law_yours", "_law_both_here", "_law_place"] ["_law_mine", "_law_yours"] (defScope t__law_both) := ⟨rfl, rfl, rfl, by decide +kernel, rfl, by decide +kernel, by decide +kernel⟩
theorem ok__law_both {f : Addr} {fd : FuncData} (F : Fun K "_law_both" "_law_both" t__law_both f fd) (T : Txt w K mg)  : FnOk P w K mg base (L2N.CX P w) 1 f fd ["_law_mine", "_law_yours"] (spM K mg s__law_both) := by
  unfold s__law_both
  exact fn_ok F sc__law_both fun cdv A outer s H E hr =>
  (rss_cons (rs_if (rt_bop (rw_or (rt_cmp (opm_eq (hu64 hr)) (re_var (i := 0) rfl (.inl rfl)) (re_lst (ra_cons re_int ra_nil))) (rw_or1 (rt_cmp (opm_eq (hu64 hr)) (re_var (i := 1) rfl (.inl rfl)) (re_lst (ra_cons re_int ra_nil)))))) (rss_one (rs_ret (re_lst (ra_cons re_int ra_nil)))) rss_nil)
  (rss_cons (rs_if (rt_bop (rw_or (rt_cmp opm_is (re_var (i := 0) rfl (.inl rfl)) re_non) (rw_or1 (rt_cmp opm_is (re_var (i := 1) rfl (.inl rfl)) re_non)))) (rss_one (rs_ret re_non)) rss_nil)
  (rss_cons (rs_set (i := 2) sc__law_both.nd rfl (.inl rfl) (re_sortSet rfl (by rfl) T.b_sorted (by rfl) T.b_set (re_op opm_add (re_var (i := 0) rfl (.inl rfl)) (re_var (i := 1) rfl (.inl rfl)))))
  (rss_cons (rs_for (passes_of rfl) rfl (ri_any (re_var (i := 2) rfl (.inl rfl))) (rg_name (i := 3) sc__law_both.nd rfl (.inl rfl)) (rss_one (rs_if (rt_cmp (opm_inX (hu65 hr)) (re_un unm_neg (re_var (i := 3) rfl (.inl rfl))) (re_var (i := 2) rfl (.inl rfl))) (rss_one (rs_ret (re_lst (ra_cons re_int ra_nil)))) rss_nil)))
  (rss_one (rs_ret (re_var (i := 2) rfl (.inl rfl))))))))
abbrev t__law_come : Stmt := topS 25
theorem sc__law_come : FnScope ["_law_labels", "_law_leaves", "_law_sets", "_law_end", "_law_k"] ["_law_labels", "_law_leaves", "_law_sets", "_law_end"] (defScope t__law_come) := ⟨rfl, rfl, rfl, by decide +kernel, rfl, by decide +kernel, by decide +kernel⟩
theorem ok__law_come {f : Addr} {fd : FuncData} (F : Fun K "_law_come" "_law_come" t__law_come f fd) (T : Txt w K mg)  : FnOk P w K mg base (L2N.CX P w) 1 f fd ["_law_labels", "_law_leaves", "_law_sets", "_law_end"] (spM K mg s__law_come) := by
  unfold s__law_come
  exact fn_ok F sc__law_come fun cdv A outer s H E hr =>
  (rss_cons (rs_if (rt_cmp (opm_eq (hu64 hr)) (re_ix (ixm (hu1 hr)) (re_var (i := 0) rfl (.inl rfl)) (re_var (i := 3) rfl (.inl rfl))) (re_ix (ixm (hu1 hr)) (re_var (i := 0) rfl (.inl rfl)) re_int)) (rss_one (rs_ret (re_lst (ra_cons re_int ra_nil)))) rss_nil)
  (rss_cons (rs_if (rt_cmp (opm_eq (hu64 hr)) (re_ix (ixm (hu1 hr)) (re_var (i := 0) rfl (.inl rfl)) (re_var (i := 3) rfl (.inl rfl))) (re_ix (ixm (hu1 hr)) (re_var (i := 0) rfl (.inl rfl)) re_int)) (rss_one (rs_ret (re_lst ra_nil))) rss_nil)
  (rss_cons (rs_for (passes_of rfl) rfl (ri_range1 (by rfl) T.b_range (ra_cons (re_callB cm_len (by rfl) T.b_len bb_len (ra_cons (re_var (i := 1) rfl (.inl rfl)) ra_nil)) ra_nil)) (rg_name (i := 4) sc__law_come.nd rfl (.inl rfl)) (rss_cons (rs_if (rt_cmp (opm_eq (hu64 hr)) (re_ix (ixm (hu1 hr)) (re_var (i := 0) rfl (.inl rfl)) (re_var (i := 3) rfl (.inl rfl))) (re_ix (ixm (hu1 hr)) (re_var (i := 0) rfl (.inl rfl)) (re_ix (ixm (hu1 hr)) (re_var (i := 1) rfl (.inl rfl)) (re_var (i := 4) rfl (.inl rfl))))) (rss_one (rs_ret (re_lst (ra_cons (re_op opm_add (re_var (i := 4) rfl (.inl rfl)) re_int) ra_nil)))) rss_nil)
  (rss_one (rs_if (rt_cmp (opm_eq (hu64 hr)) (re_ix (ixm (hu1 hr)) (re_var (i := 0) rfl (.inl rfl)) (re_var (i := 3) rfl (.inl rfl))) (re_ix (ixm (hu1 hr)) (re_var (i := 0) rfl (.inl rfl)) (re_op opm_xor (re_ix (ixm (hu1 hr)) (re_var (i := 1) rfl (.inl rfl)) (re_var (i := 4) rfl (.inl rfl))) re_int))) (rss_one (rs_ret (re_lst (ra_cons (re_op opm_sub (re_un unm_neg re_int) (re_var (i := 4) rfl (.inl rfl))) ra_nil)))) rss_nil))))
  (rss_cons (rs_if (rt_cmp (opm_eq (hu64 hr)) (re_op opm_mod (re_var (i := 3) rfl (.inl rfl)) re_int) re_int) (rss_one (rs_ret re_non)) rss_nil)
  (rss_one (rs_ret (re_ix (ixm (hu1 hr)) (re_var (i := 2) rfl (.inl rfl)) (re_op opm_fdiv (re_var (i := 3) rfl (.inl rfl)) re_int))))))))
abbrev t__law_due : Stmt := topS 27
theorem sc__law_due : FnScope ["_law_net_here", "_law_labels", "_law_step_here", "_law_leaves", "_law_seen", "_law_leaf", "_law_sets", "_law_a", "_law_b", "_law_mine", "_law_k"] ["_law_net_here", "_law_labels", "_law_step_here"] (defScope t__law_due) := ⟨rfl, rfl, rfl, by decide +kernel, rfl, by decide +kernel, by decide +kernel⟩
theorem ok__law_due {f : Addr} {fd : FuncData} (F : Fun K "_law_due" "_law_due" t__law_due f fd) (T : Txt w K mg) (h__law_both : Fn P w K mg base "_law_both" 1 ["_law_mine", "_law_yours"] s__law_both) (h__law_come : Fn P w K mg base "_law_come" 1 ["_law_labels", "_law_leaves", "_law_sets", "_law_end"] s__law_come) : FnOk P w K mg base (L2N.CX P w) 2 f fd ["_law_net_here", "_law_labels", "_law_step_here"] (spM K mg s__law_due) := by
  unfold s__law_due
  exact fn_ok F sc__law_due fun cdv A outer s H E hr =>
  (rss_cons (rs_set (i := 3) sc__law_due.nd rfl (.inl rfl) (re_ix (ixm (hu1 hr)) (re_var (i := 2) rfl (.inl rfl)) re_int))
  (rss_cons (rs_if (rt_cmp opm_gt (re_callB cm_len (by rfl) T.b_len bb_len (ra_cons (re_var (i := 3) rfl (.inl rfl)) ra_nil)) re_int) (rss_one (rs_ret re_bl)) rss_nil)
  (rss_cons (rs_set (i := 4) sc__law_due.nd rfl (.inl rfl) (re_lst (ra_cons (re_ix (ixm (hu1 hr)) (re_var (i := 1) rfl (.inl rfl)) re_int) (ra_cons (re_ix (ixm (hu1 hr)) (re_var (i := 1) rfl (.inl rfl)) re_int) ra_nil))))
  (rss_cons (rs_for (passes_of rfl) rfl (ri_any (re_var (i := 3) rfl (.inl rfl))) (rg_name (i := 5) sc__law_due.nd rfl (.inl rfl)) (rss_cons (rs_if (rt_cmp (opm_inX (hu65 hr)) (re_ix (ixm (hu1 hr)) (re_var (i := 1) rfl (.inl rfl)) (re_var (i := 5) rfl (.inl rfl))) (re_var (i := 4) rfl (.inl rfl))) (rss_one (rs_ret re_bl)) rss_nil)
  (rss_one (rs_set (i := 4) sc__law_due.nd rfl (.inl rfl) (re_op opm_add (re_var (i := 4) rfl (.inl rfl)) (re_lst (ra_cons (re_ix (ixm (hu1 hr)) (re_var (i := 1) rfl (.inl rfl)) (re_var (i := 5) rfl (.inl rfl))) (ra_cons (re_ix (ixm (hu1 hr)) (re_var (i := 1) rfl (.inl rfl)) (re_op opm_xor (re_var (i := 5) rfl (.inl rfl)) re_int)) ra_nil))))))))
  (rss_cons (rs_setLc (i := 6) rfl sc__law_due.nd rfl rfl rfl (ri_range1 (by rfl) T.b_range (ra_cons (re_op opm_add re_int (re_ix (ixm (hu1 hr)) (re_var (i := 0) rfl (.inl rfl)) re_int)) ra_nil)) (blk_of (own := [("_law_k", 10)]) (by kernel_rfl)) rfl (fun _ _ _ _ _ => pg_name (i := 10) sc__law_due.nd rfl (.inl rfl)) cr_name gNm_st (fun _ _ _ _ _ => rts_nil) (fun _ _ _ _ _ => re_non))
  (rss_cons (rs_for (passes_of rfl) rfl (ri_any (re_ix (ixm (hu1 hr)) (re_var (i := 0) rfl (.inl rfl)) re_int)) (rg_tupL rfl sc__law_due.nd (.cons (i := 7) rfl (.inl rfl) (.inr rfl) (.cons (i := 8) rfl (.inl rfl) (.inr rfl) .nil))) (rss_one (rs_expr (re_mt PySem.F.plainAttrs_list PySem.F.slot_list_append PySem.F.type_list_append mm_append (ho := (re_var (i := 6) rfl (.inl rfl))) (ha := (ra_cons (re_callF h__law_both (hr.mono (by decide)) (by rfl) (L2N.takes_of rfl rfl rfl rfl) (ra_cons (re_callF h__law_come (hr.mono (by decide)) (by rfl) (L2N.takes_of rfl rfl rfl rfl) (ra_cons (re_var (i := 1) rfl (.inl rfl)) (ra_cons (re_var (i := 3) rfl (.inl rfl)) (ra_cons (re_var (i := 6) rfl (.inl rfl)) (ra_cons (re_var (i := 7) rfl (.inl rfl)) ra_nil))))) (ra_cons (re_callF h__law_come (hr.mono (by decide)) (by rfl) (L2N.takes_of rfl rfl rfl rfl) (ra_cons (re_var (i := 1) rfl (.inl rfl)) (ra_cons (re_var (i := 3) rfl (.inl rfl)) (ra_cons (re_var (i := 6) rfl (.inl rfl)) (ra_cons (re_var (i := 8) rfl (.inl rfl)) ra_nil))))) ra_nil))) ra_nil))))))
  (rss_cons (rs_set (i := 9) sc__law_due.nd rfl (.inl rfl) (re_callF h__law_come (hr.mono (by decide)) (by rfl) (L2N.takes_of rfl rfl rfl rfl) (ra_cons (re_var (i := 1) rfl (.inl rfl)) (ra_cons (re_var (i := 3) rfl (.inl rfl)) (ra_cons (re_var (i := 6) rfl (.inl rfl)) (ra_cons (re_ix (ixm (hu1 hr)) (re_var (i := 2) rfl (.inl rfl)) re_int) ra_nil))))))
  (rss_one (rs_ret (re_and (re_cmp opm_isn (re_var (i := 9) rfl (.inl rfl)) re_non) (re_one (re_cmp (opm_eq (hu64 hr)) (re_var (i := 9) rfl (.inl rfl)) (re_callF h__law_come (hr.mono (by decide)) (by rfl) (L2N.takes_of rfl rfl rfl rfl) (ra_cons (re_var (i := 1) rfl (.inl rfl)) (ra_cons (re_var (i := 3) rfl (.inl rfl)) (ra_cons (re_var (i := 6) rfl (.inl rfl)) (ra_cons (re_ix (ixm (hu1 hr)) (re_var (i := 2) rfl (.inl rfl)) re_int) ra_nil)))))))))))))))))
abbrev t__law_joined : Stmt := topS 23
theorem sc__law_joined : FnScope ["_law_labels", "_law_one", "_law_other", "_law_pairs", "_law_label"] ["_law_labels", "_law_one", "_law_other"] (defScope t__law_joined) := ⟨rfl, rfl, rfl, by decide +kernel, rfl, by decide +kernel, by decide +kernel⟩
theorem ok__law_joined {f : Addr} {fd : FuncData} (F : Fun K "_law_joined" "_law_joined" t__law_joined f fd) (T : Txt w K mg)  : FnOk P w K mg base (L2N.CX P w) 1 f fd ["_law_labels", "_law_one", "_law_other"] (spM K mg s__law_joined) := by
  unfold s__law_joined
  exact fn_ok F sc__law_joined fun cdv A outer s H E hr =>
  (rss_cons (rs_if (rt_cmp (opm_eq (hu64 hr)) (re_ix (ixm (hu1 hr)) (re_var (i := 0) rfl (.inl rfl)) (re_var (i := 1) rfl (.inl rfl))) (re_ix (ixm (hu1 hr)) (re_var (i := 0) rfl (.inl rfl)) (re_op opm_xor (re_var (i := 2) rfl (.inl rfl)) re_int))) (rss_one (rs_ret re_non)) rss_nil)
  (rss_cons (rs_set (i := 3) sc__law_joined.nd rfl (.inr rfl) (re_disp (rpp_cons (re_ix (ixm (hu1 hr)) (re_var (i := 0) rfl (.inl rfl)) (re_var (i := 2) rfl (.inl rfl))) (re_ix (ixm (hu1 hr)) (re_var (i := 0) rfl (.inl rfl)) (re_var (i := 1) rfl (.inl rfl))) (rpp_cons (re_ix (ixm (hu1 hr)) (re_var (i := 0) rfl (.inl rfl)) (re_op opm_xor (re_var (i := 2) rfl (.inl rfl)) re_int)) (re_ix (ixm (hu1 hr)) (re_var (i := 0) rfl (.inl rfl)) (re_op opm_xor (re_var (i := 1) rfl (.inl rfl)) re_int)) rpp_nil))))
  (rss_one (rs_ret (re_lc rfl sc__law_joined.nd (ri_any (re_var (i := 0) rfl (.inl rfl))) (blk_of (own := [("_law_label", 4)]) (by kernel_rfl)) rfl (fun _ _ _ _ _ => pg_name (i := 4) sc__law_joined.nd rfl (.inl rfl)) cr_name gNm_st (fun _ _ _ _ _ => rts_nil) (fun _ _ _ _ _ => (re_mt PySem.F.plainAttrs_dict PySem.F.slot_dict_get PySem.F.type_dict_get (mm_dget (hu1 hr)) (ho := (re_var (i := 3) rfl (.inr (.inl rfl)))) (ha := (ra_cons (re_var (i := 4) rfl (.inl rfl)) (ra_cons (re_var (i := 4) rfl (.inl rfl)) ra_nil))))))))))
abbrev t__law_net : Stmt := topS 22
theorem sc__law_net : FnScope ["_law_row_here", "_law_sizes", "_law_leaves", "_law_gates", "_law_k"] ["_law_row_here", "_law_sizes"] (defScope t__law_net) := ⟨rfl, rfl, rfl, by decide +kernel, rfl, by decide +kernel, by decide +kernel⟩
theorem ok__law_net {f : Addr} {fd : FuncData} (F : Fun K "_law_net" "_law_net" t__law_net f fd) (T : Txt w K mg)  : FnOk P w K mg base (L2N.CX P w) 1 f fd ["_law_row_here", "_law_sizes"] (spM K mg s__law_net) := by
  unfold s__law_net
  exact fn_ok F sc__law_net fun cdv A outer s H E hr =>
  (rss_cons (rs_set (i := 2) sc__law_net.nd rfl (.inl rfl) (re_op opm_mod (re_ix (ixm (hu1 hr)) (re_var (i := 1) rfl (.inl rfl)) re_int) re_int))
  (rss_cons (rs_set (i := 3) sc__law_net.nd rfl (.inl rfl) (re_lst ra_nil))
  (rss_cons (rs_for (passes_of rfl) rfl (ri_range1 (by rfl) T.b_range (ra_cons (re_op opm_mod (re_ix (ixm (hu1 hr)) (re_var (i := 1) rfl (.inl rfl)) re_int) re_int) ra_nil)) (rg_name (i := 4) sc__law_net.nd rfl (.inl rfl)) (rss_one (rs_expr (re_mt PySem.F.plainAttrs_list PySem.F.slot_list_append PySem.F.type_list_append mm_append (ho := (re_var (i := 3) rfl (.inl rfl))) (ha := (ra_cons (re_tup (ra_cons (re_op opm_mod (re_ix (ixm (hu1 hr)) (re_var (i := 0) rfl (.inl rfl)) (re_op opm_mul re_int (re_var (i := 4) rfl (.inl rfl)))) (re_op opm_mul re_int (re_op opm_add (re_op opm_add re_int (re_var (i := 2) rfl (.inl rfl))) (re_var (i := 4) rfl (.inl rfl))))) (ra_cons (re_op opm_mod (re_ix (ixm (hu1 hr)) (re_var (i := 0) rfl (.inl rfl)) (re_op opm_add (re_op opm_mul re_int (re_var (i := 4) rfl (.inl rfl))) re_int)) (re_op opm_mul re_int (re_op opm_add (re_op opm_add re_int (re_var (i := 2) rfl (.inl rfl))) (re_var (i := 4) rfl (.inl rfl))))) ra_nil))) ra_nil))))))
  (rss_one (rs_ret (re_tup (ra_cons (re_var (i := 2) rfl (.inl rfl)) (ra_cons (re_var (i := 3) rfl (.inl rfl)) ra_nil))))))))
abbrev t__law_row : Stmt := topS 21
theorem sc__law_row : FnScope ["_law_script", "_law_at", "_law_many", "_law_cell", "_law_rest", "_law_great", "_law_row_here", "_law_k", "_law_one"] ["_law_script", "_law_at", "_law_many"] (defScope t__law_row) := ⟨rfl, rfl, rfl, by decide +kernel, rfl, by decide +kernel, by decide +kernel⟩
theorem ok__law_row {f : Addr} {fd : FuncData} (F : Fun K "_law_row" "_law_row" t__law_row f fd) (T : Txt w K mg)  : FnOk P w K mg base (L2N.CX P w) 1 f fd ["_law_script", "_law_at", "_law_many"] (spM K mg s__law_row) := by
  unfold s__law_row
  exact fn_ok F sc__law_row fun cdv A outer s H E hr =>
  (rss_cons (rs_set (i := 3) sc__law_row.nd rfl (.inl rfl) re_int)
  (rss_cons (rs_if (rt_cmp opm_lt (re_var (i := 1) rfl (.inl rfl)) (re_callB cm_len (by rfl) T.b_len bb_len (ra_cons (re_var (i := 0) rfl (.inl rfl)) ra_nil))) (rss_one (rs_set (i := 3) sc__law_row.nd rfl (.inl rfl) (re_ix (ixm (hu1 hr)) (re_var (i := 0) rfl (.inl rfl)) (re_var (i := 1) rfl (.inl rfl))))) rss_nil)
  (rss_cons (rs_set (i := 4) sc__law_row.nd rfl (.inl rfl) (re_callB cm_abs (by rfl) T.b_abs bb_abs (ra_cons (re_var (i := 3) rfl (.inl rfl)) ra_nil)))
  (rss_cons (rs_set (i := 5) sc__law_row.nd rfl (.inl rfl) (re_cmp opm_ge (re_var (i := 4) rfl (.inl rfl)) (re_op opm_pow re_int re_int)))
  (rss_cons (rs_set (i := 6) sc__law_row.nd rfl (.inl rfl) (re_lst ra_nil))
  (rss_cons (rs_for (passes_of rfl) rfl (ri_range1 (by rfl) T.b_range (ra_cons (re_var (i := 2) rfl (.inl rfl)) ra_nil)) (rg_name (i := 7) sc__law_row.nd rfl (.inl rfl)) (rss_one (rs_if (rt_bop (rw_and (rt_tru (re_var (i := 5) rfl (.inl rfl))) (rw_and1 (rt_cmp opm_gt (re_var (i := 4) rfl (.inl rfl)) re_int)))) (rss_cons (rs_expr (re_mt PySem.F.plainAttrs_list PySem.F.slot_list_append PySem.F.type_list_append mm_append (ho := (re_var (i := 6) rfl (.inl rfl))) (ha := (ra_cons (re_op opm_mod (re_var (i := 4) rfl (.inl rfl)) (re_op opm_pow re_int re_int)) ra_nil))))
  (rss_one (rs_set (i := 4) sc__law_row.nd rfl (.inl rfl) (re_op opm_fdiv (re_var (i := 4) rfl (.inl rfl)) (re_op opm_pow re_int re_int))))) (rss_cons (rs_set (i := 8) sc__law_row.nd rfl (.inl rfl) (re_op opm_add (re_op opm_add (re_op opm_add (re_op opm_add (re_op opm_mod (re_callB cm_abs (by rfl) T.b_abs bb_abs (ra_cons (re_var (i := 3) rfl (.inl rfl)) ra_nil)) re_int) (re_op opm_mul (re_op opm_mul re_int (re_var (i := 7) rfl (.inl rfl))) (re_var (i := 7) rfl (.inl rfl)))) (re_op opm_mul re_int (re_var (i := 1) rfl (.inl rfl)))) (re_op opm_mul re_int (re_var (i := 7) rfl (.inl rfl)))) re_int))
  (rss_cons (rs_set (i := 8) sc__law_row.nd rfl (.inl rfl) (re_op opm_mod (re_op opm_mul (re_var (i := 8) rfl (.inl rfl)) re_int) re_int))
  (rss_one (rs_expr (re_mt PySem.F.plainAttrs_list PySem.F.slot_list_append PySem.F.type_list_append mm_append (ho := (re_var (i := 6) rfl (.inl rfl))) (ha := (ra_cons (re_op opm_mod (re_op opm_add (re_op opm_mod (re_op opm_mul (re_var (i := 8) rfl (.inl rfl)) (re_var (i := 8) rfl (.inl rfl))) re_int) (re_op opm_fdiv (re_var (i := 8) rfl (.inl rfl)) re_int)) (re_op opm_pow re_int re_int)) ra_nil))))))))))
  (rss_one (rs_ret (re_var (i := 6) rfl (.inl rfl))))))))))
abbrev t__law_step : Stmt := topS 28
theorem sc__law_step : FnScope ["_law_net_here", "_law_row_here", "_law_tops", "_law_ends", "_law_many", "_law_one", "_law_other", "_law_leaves", "_law_k"] ["_law_net_here", "_law_row_here", "_law_tops", "_law_ends"] (defScope t__law_step) := ⟨rfl, rfl, rfl, by decide +kernel, rfl, by decide +kernel, by decide +kernel⟩
theorem ok__law_step {f : Addr} {fd : FuncData} (F : Fun K "_law_step" "_law_step" t__law_step f fd) (T : Txt w K mg)  : FnOk P w K mg base (L2N.CX P w) 1 f fd ["_law_net_here", "_law_row_here", "_law_tops", "_law_ends"] (spM K mg s__law_step) := by
  unfold s__law_step
  exact fn_ok F sc__law_step fun cdv A outer s H E hr =>
  (rss_cons (rs_set (i := 4) sc__law_step.nd rfl (.inr rfl) (re_op opm_mul re_int (re_op opm_add (re_op opm_add re_int (re_ix (ixm (hu1 hr)) (re_var (i := 0) rfl (.inl rfl)) re_int)) (re_callB cm_len (by rfl) T.b_len bb_len (ra_cons (re_ix (ixm (hu1 hr)) (re_var (i := 0) rfl (.inl rfl)) re_int) ra_nil)))))
  (rss_cons (rs_asg (re_var (i := 2) rfl (.inl rfl)) (rg_tupL rfl sc__law_step.nd (.cons (i := 5) rfl (.inl rfl) (.inr rfl) (.cons (i := 6) rfl (.inl rfl) (.inr rfl) .nil))))
  (rss_cons (rs_set (i := 7) sc__law_step.nd rfl (.inl rfl) (re_var (i := 3) rfl (.inl rfl)))
  (rss_cons (rs_if (rt_cmp (opm_eq (hu64 hr)) (re_op opm_mod (re_ix (ixm (hu1 hr)) (re_var (i := 1) rfl (.inr (.inl rfl))) re_int) re_int) re_int) (rss_cons (rs_set (i := 5) sc__law_step.nd rfl (.inl rfl) (re_op opm_mod (re_ix (ixm (hu1 hr)) (re_var (i := 1) rfl (.inr (.inl rfl))) re_int) (re_var (i := 4) rfl (.inr (.inl rfl)))))
  (rss_one (rs_set (i := 6) sc__law_step.nd rfl (.inl rfl) (re_op opm_mod (re_ix (ixm (hu1 hr)) (re_var (i := 1) rfl (.inr (.inl rfl))) re_int) (re_var (i := 4) rfl (.inr (.inl rfl))))))) rss_nil)
  (rss_cons (rs_if (rt_cmp (opm_eq (hu64 hr)) (re_op opm_mod (re_ix (ixm (hu1 hr)) (re_var (i := 1) rfl (.inr (.inl rfl))) re_int) re_int) re_int) (rss_one (rs_setLc (i := 7) rfl sc__law_step.nd rfl rfl rfl (ri_range1 (by rfl) T.b_range (ra_cons (re_op opm_mod (re_ix (ixm (hu1 hr)) (re_var (i := 1) rfl (.inr (.inl rfl))) re_int) re_int) ra_nil)) (blk_of (own := [("_law_k", 8)]) (by kernel_rfl)) rfl (fun _ _ _ _ _ => pg_name (i := 8) sc__law_step.nd rfl (.inl rfl)) cr_name gNm_st (fun _ _ _ _ _ => rts_nil) (fun _ _ _ _ _ => (re_op opm_mod (re_ix (ixm (hu1 hr)) (re_var (i := 1) rfl (.inr (.inl rfl))) (re_op opm_add re_int (re_var (i := 8) rfl (.inl rfl)))) (re_var (i := 4) rfl (.inr (.inl rfl))))))) rss_nil)
  (rss_cons (rs_if (rt_cmp (opm_eq (hu64 hr)) (re_op opm_mod (re_ix (ixm (hu1 hr)) (re_var (i := 1) rfl (.inr (.inl rfl))) re_int) re_int) re_int) (rss_one (rs_setLc (i := 7) rfl sc__law_step.nd rfl rfl rfl (ri_range1 (by rfl) T.b_range (ra_cons re_int ra_nil)) (blk_of (own := [("_law_k", 8)]) (by kernel_rfl)) rfl (fun _ _ _ _ _ => pg_name (i := 8) sc__law_step.nd rfl (.inl rfl)) cr_name gNm_st (fun _ _ _ _ _ => rts_nil) (fun _ _ _ _ _ => (re_op opm_add re_int (re_op opm_mod (re_var (i := 8) rfl (.inl rfl)) (re_op opm_add (re_op opm_sub (re_var (i := 4) rfl (.inr (.inl rfl))) re_int) (re_callTy cm_int (by rfl) T.b_int bb_int (ra_cons (re_cmp (opm_eq (hu64 hr)) (re_var (i := 4) rfl (.inr (.inl rfl))) re_int) ra_nil)))))))) rss_nil)
  (rss_one (rs_ret (re_tup (ra_cons re_str (ra_cons (re_var (i := 5) rfl (.inl rfl)) (ra_cons (re_var (i := 6) rfl (.inl rfl)) (ra_cons (re_callTy cm_tuple (by rfl) T.b_tuple bb_tuple (ra_cons (re_var (i := 7) rfl (.inl rfl)) ra_nil)) ra_nil)))))))))))))
abbrev t__law_tree : Stmt := topS 24
theorem sc__law_tree : FnScope ["_law_net_here", "_law_ends", "_law_left", "_law_gates", "_law_row_here"] ["_law_net_here", "_law_ends", "_law_left"] (defScope t__law_tree) := ⟨rfl, rfl, rfl, by decide +kernel, rfl, by decide +kernel, by decide +kernel⟩
theorem ok__law_tree {f : Addr} {fd : FuncData} (F : Fun K "_law_tree" "_law_tree" t__law_tree f fd) (T : Txt w K mg)  : FnOk P w K mg base (L2N.CX P w) 1 f fd ["_law_net_here", "_law_ends", "_law_left"] (spM K mg s__law_tree) := by
  unfold s__law_tree
  exact fn_ok F sc__law_tree fun cdv A outer s H E hr =>
  (rss_cons (rs_set (i := 3) sc__law_tree.nd rfl (.inl rfl) (re_callTy cm_list (by rfl) T.b_list bb_list (ra_cons (re_ix (ixm (hu1 hr)) (re_var (i := 0) rfl (.inl rfl)) re_int) ra_nil)))
  (rss_cons (rs_set (i := 4) sc__law_tree.nd rfl (.inl rfl) (re_callTy cm_list (by rfl) T.b_list bb_list (ra_cons (re_var (i := 1) rfl (.inl rfl)) ra_nil)))
  (rss_cons (rs_while (passes_of rfl) (rt_cmp opm_gt (re_callB cm_len (by rfl) T.b_len bb_len (ra_cons (re_var (i := 4) rfl (.inl rfl)) ra_nil)) re_int) (rss_one (rs_if (rt_tru (re_var (i := 2) rfl (.inl rfl))) (rss_cons (rs_expr (re_mt PySem.F.plainAttrs_list PySem.F.slot_list_append PySem.F.type_list_append mm_append (ho := (re_var (i := 3) rfl (.inl rfl))) (ha := (ra_cons (re_tup (ra_cons (re_ix (ixm (hu1 hr)) (re_var (i := 4) rfl (.inl rfl)) re_int) (ra_cons (re_ix (ixm (hu1 hr)) (re_var (i := 4) rfl (.inl rfl)) re_int) ra_nil))) ra_nil))))
  (rss_one (rs_set (i := 4) sc__law_tree.nd rfl (.inl rfl) (re_op opm_add (re_lst (ra_cons (re_op opm_mul re_int (re_op opm_add (re_ix (ixm (hu1 hr)) (re_var (i := 0) rfl (.inl rfl)) re_int) (re_callB cm_len (by rfl) T.b_len bb_len (ra_cons (re_var (i := 3) rfl (.inl rfl)) ra_nil)))) ra_nil)) (re_slice (re_var (i := 4) rfl (.inl rfl)) (ro_sm re_int) ro_no))))) (rss_cons (rs_expr (re_mt PySem.F.plainAttrs_list PySem.F.slot_list_append PySem.F.type_list_append mm_append (ho := (re_var (i := 3) rfl (.inl rfl))) (ha := (ra_cons (re_tup (ra_cons (re_ix (ixm (hu1 hr)) (re_var (i := 4) rfl (.inl rfl)) (re_un unm_neg re_int)) (ra_cons (re_ix (ixm (hu1 hr)) (re_var (i := 4) rfl (.inl rfl)) (re_un unm_neg re_int)) ra_nil))) ra_nil))))
  (rss_one (rs_set (i := 4) sc__law_tree.nd rfl (.inl rfl) (re_op opm_add (re_slice (re_var (i := 4) rfl (.inl rfl)) ro_no (ro_sm (re_un unm_neg re_int))) (re_lst (ra_cons (re_op opm_mul re_int (re_op opm_add (re_ix (ixm (hu1 hr)) (re_var (i := 0) rfl (.inl rfl)) re_int) (re_callB cm_len (by rfl) T.b_len bb_len (ra_cons (re_var (i := 3) rfl (.inl rfl)) ra_nil)))) ra_nil)))))))))
  (rss_one (rs_ret (re_tup (ra_cons (re_tup (ra_cons (re_ix (ixm (hu1 hr)) (re_var (i := 0) rfl (.inl rfl)) re_int) (ra_cons (re_var (i := 3) rfl (.inl rfl)) ra_nil))) (ra_cons (re_ix (ixm (hu1 hr)) (re_var (i := 4) rfl (.inl rfl)) re_int) ra_nil))))))))
abbrev t_is_whole : Stmt := topS 1
theorem sc_is_whole : FnScope ["thing"] ["thing"] (defScope t_is_whole) := ⟨rfl, rfl, rfl, by decide +kernel, rfl, by decide +kernel, by decide +kernel⟩
theorem ok_is_whole {f : Addr} {fd : FuncData} (F : Fun K "is_whole" "is_whole" t_is_whole f fd) (T : Txt w K mg)  : FnOk P w K mg base (L2N.CX P w) 1 f fd ["thing"] (spM K mg s_is_whole) := by
  unfold s_is_whole
  exact fn_ok F sc_is_whole fun cdv A outer s H E hr =>
  (rss_one (rs_ret (re_and (re_callB cm_isi (by rfl) T.b_isinstance bb_isinstance (ra_cons (re_var (i := 0) rfl (.inl rfl)) (ra_cons (re_ty (by rfl) T.b_int bb_int) ra_nil))) (re_one (re_not (re_callB cm_isi (by rfl) T.b_isinstance bb_isinstance (ra_cons (re_var (i := 0) rfl (.inl rfl)) (ra_cons (re_ty (by rfl) T.b_bool bb_bool) ra_nil))))))))
abbrev t_is_end : Stmt := topS 3
theorem sc_is_end : FnScope ["thing", "knots"] ["thing", "knots"] (defScope t_is_end) := ⟨rfl, rfl, rfl, by decide +kernel, rfl, by decide +kernel, by decide +kernel⟩
theorem ok_is_end {f : Addr} {fd : FuncData} (F : Fun K "is_end" "is_end" t_is_end f fd) (T : Txt w K mg) (h_is_whole : Fn P w K mg base "is_whole" 1 ["thing"] s_is_whole) : FnOk P w K mg base (L2N.CX P w) 2 f fd ["thing", "knots"] (spM K mg s_is_end) := by
  unfold s_is_end
  exact fn_ok F sc_is_end fun cdv A outer s H E hr =>
  (rss_one (rs_ret (re_and (re_callF h_is_whole (hr.mono (by decide)) (by rfl) (L2N.takes_of rfl rfl rfl rfl) (ra_cons (re_var (i := 0) rfl (.inl rfl)) ra_nil)) (re_one (re_chain opm_le opm_lt re_int (re_var (i := 0) rfl (.inl rfl)) (re_op opm_mul re_int (re_var (i := 1) rfl (.inl rfl))))))))
abbrev t_is_step : Stmt := topS 8
theorem sc_is_step : FnScope ["net", "thing", "most", "knots", "end"] ["net", "thing"] (defScope t_is_step) := ⟨rfl, rfl, rfl, by decide +kernel, rfl, by decide +kernel, by decide +kernel⟩
theorem ok_is_step {f : Addr} {fd : FuncData} (F : Fun K "is_step" "is_step" t_is_step f fd) (T : Txt w K mg) (h_is_end : Fn P w K mg base "is_end" 2 ["thing", "knots"] s_is_end) : FnOk P w K mg base (L2N.CX P w) 3 f fd ["net", "thing"] (spM K mg s_is_step) := by
  unfold s_is_step
  exact fn_ok F sc_is_step fun cdv A outer s H E hr =>
  (rss_cons (rs_if (rt_bop (rw_or (rt_not (rt_tru (re_callB cm_isi (by rfl) T.b_isinstance bb_isinstance (ra_cons (re_var (i := 1) rfl (.inl rfl)) (ra_cons (re_ty (by rfl) T.b_tuple bb_tuple) ra_nil))))) (rw_or (rt_cmp (opm_ne (hu64 hr)) (re_callB cm_len (by rfl) T.b_len bb_len (ra_cons (re_var (i := 1) rfl (.inl rfl)) ra_nil)) re_int) (rw_or1 (rt_not (rt_tru (re_callB cm_isi (by rfl) T.b_isinstance bb_isinstance (ra_cons (re_ix (ixm (hu1 hr)) (re_var (i := 1) rfl (.inl rfl)) re_int) (ra_cons (re_ty (by rfl) T.b_tuple bb_tuple) ra_nil))))))))) (rss_one (rs_ret re_bl)) rss_nil)
  (rss_cons (rs_set (i := 2) sc_is_step.nd rfl (.inl rfl) re_int)
  (rss_cons (rs_if (rt_cmp (opm_eq (hu64 hr)) (re_ix (ixm (hu1 hr)) (re_var (i := 1) rfl (.inl rfl)) re_int) re_str) (rss_one (rs_set (i := 2) sc_is_step.nd rfl (.inl rfl) (re_glob (by rfl) T.c_FEW))) (rss_one (rs_if (rt_cmp (opm_eq (hu64 hr)) (re_ix (ixm (hu1 hr)) (re_var (i := 1) rfl (.inl rfl)) re_int) re_str) (rss_one (rs_set (i := 2) sc_is_step.nd rfl (.inl rfl) (re_glob (by rfl) T.c_MANY))) (rss_one (rs_ret re_bl)))))
  (rss_cons (rs_set (i := 3) sc_is_step.nd rfl (.inr rfl) (re_op opm_add (re_op opm_add re_int (re_ix (ixm (hu1 hr)) (re_var (i := 0) rfl (.inl rfl)) re_int)) (re_callB cm_len (by rfl) T.b_len bb_len (ra_cons (re_ix (ixm (hu1 hr)) (re_var (i := 0) rfl (.inl rfl)) re_int) ra_nil))))
  (rss_one (rs_ret (re_and (re_cmp opm_le (re_callB cm_len (by rfl) T.b_len bb_len (ra_cons (re_ix (ixm (hu1 hr)) (re_var (i := 1) rfl (.inl rfl)) re_int) ra_nil)) (re_var (i := 2) rfl (.inl rfl))) (re_one (re_callB (cm_all rfl) (by rfl) T.b_all bb_all (ra_cons (re_lc rfl sc_is_step.nd (ri_any (re_op opm_add (re_slice (re_var (i := 1) rfl (.inl rfl)) (ro_sm re_int) (ro_sm re_int)) (re_ix (ixm (hu1 hr)) (re_var (i := 1) rfl (.inl rfl)) re_int))) (blk_of (own := [("end", 4)]) (by kernel_rfl)) rfl (fun _ _ _ _ _ => pg_name (i := 4) sc_is_step.nd rfl (.inl rfl)) cr_name gNm_st (fun _ _ _ _ _ => rts_nil) (fun _ _ _ _ _ => (re_callF h_is_end (hr.mono (by decide)) (by rfl) takesN (ra_cons (re_var (i := 4) rfl (.inl rfl)) (ra_cons (re_var (i := 3) rfl (.inr (.inl rfl))) ra_nil))))) ra_nil))))))))))
abbrev t_leaf_ends : Stmt := topS 9
theorem sc_leaf_ends : FnScope ["classes", "leaves", "found", "k", "leaf", "end"] ["classes", "leaves"] (defScope t_leaf_ends) := ⟨rfl, rfl, rfl, by decide +kernel, rfl, by decide +kernel, by decide +kernel⟩
theorem ok_leaf_ends {f : Addr} {fd : FuncData} (F : Fun K "leaf_ends" "leaf_ends" t_leaf_ends f fd) (T : Txt w K mg) (h_Classes_least : MeC P w K mg base "Classes" "least" 2 ["self", "end"] s_Classes_least) : FnOk P w K mg base (L2N.CX P w) 3 f fd ["classes", "leaves"] (spM K mg s_leaf_ends) := by
  unfold s_leaf_ends
  exact fn_ok F sc_leaf_ends fun cdv A outer s H E hr =>
  (rss_cons (rs_set (i := 2) sc_leaf_ends.nd rfl (.inl rfl) re_dic0)
  (rss_cons (rs_for (passes_of rfl) rfl (ri_enumX (by rfl) T.b_enumerate (ra_cons (re_var (i := 1) rfl (.inl rfl)) ra_nil)) (rg_tupL rfl sc_leaf_ends.nd (.cons (i := 3) rfl (.inl rfl) (.inr rfl) (.cons (i := 4) rfl (.inl rfl) (.inr rfl) .nil))) (rss_cons (rs_set (i := 5) sc_leaf_ends.nd rfl (.inl rfl) (re_methF (re_var (i := 0) rfl (.inl rfl)) h_Classes_least (by decide) (hr.mono (by decide)) (L2N.takes_of rfl rfl rfl rfl) (ra_cons (re_var (i := 4) rfl (.inl rfl)) ra_nil)))
  (rss_cons (rs_if (rt_bop (rw_or (rt_cmp opm_lt (re_var (i := 5) rfl (.inl rfl)) re_int) (rw_or1 (rt_cmp (opm_inX (hu65 hr)) (re_op opm_fdiv (re_var (i := 5) rfl (.inl rfl)) re_int) (re_var (i := 2) rfl (.inl rfl)))))) (rss_one (rs_ret re_non)) rss_nil)
  (rss_one (rs_asg (re_tup (ra_cons (re_var (i := 3) rfl (.inl rfl)) (ra_cons (re_var (i := 5) rfl (.inl rfl)) ra_nil))) (rg_sub (W := fun cls d _ H => E cls d H) (hu1 hr) (re_var (i := 2) rfl (.inl rfl)) (re_op opm_fdiv (re_var (i := 5) rfl (.inl rfl)) re_int)))))))
  (rss_one (rs_ret (re_var (i := 2) rfl (.inl rfl))))))
abbrev t_cone : Stmt := topS 10
theorem sc_cone : FnScope ["net", "classes", "places", "ends", "first", "todo", "seen", "knot", "least", "one", "other", "end"] ["net", "classes", "places", "ends"] (defScope t_cone) := ⟨rfl, rfl, rfl, by decide +kernel, rfl, by decide +kernel, by decide +kernel⟩
theorem ok_cone {f : Addr} {fd : FuncData} (F : Fun K "cone" "cone" t_cone f fd) (T : Txt w K mg) (h_Classes_least : MeC P w K mg base "Classes" "least" 2 ["self", "end"] s_Classes_least) : FnOk P w K mg base (L2N.CX P w) 3 f fd ["net", "classes", "places", "ends"] (spM K mg s_cone) := by
  unfold s_cone
  exact fn_ok F sc_cone fun cdv A outer s H E hr =>
  (rss_cons (rs_set (i := 4) sc_cone.nd rfl (.inl rfl) (re_op opm_add re_int (re_ix (ixm (hu1 hr)) (re_var (i := 0) rfl (.inl rfl)) re_int)))
  (rss_cons (rs_setLc (i := 5) rfl sc_cone.nd rfl rfl rfl (ri_any (re_var (i := 3) rfl (.inl rfl))) (blk_of (own := [("end", 11)]) (by kernel_rfl)) rfl (fun _ _ _ _ _ => pg_name (i := 11) sc_cone.nd rfl (.inl rfl)) cr_name gNm_st (fun _ _ _ _ _ => rts_nil) (fun _ _ _ _ _ => (re_op opm_fdiv (re_var (i := 11) rfl (.inl rfl)) re_int)))
  (rss_cons (rs_set (i := 6) sc_cone.nd rfl (.inl rfl) re_dic0)
  (rss_cons (rs_while (passes_of rfl) (rt_cmp (opm_ne (hu64 hr)) (re_var (i := 5) rfl (.inl rfl)) (re_lst ra_nil)) (rss_cons (rs_set (i := 7) sc_cone.nd rfl (.inl rfl) (re_mt0 PySem.F.plainAttrs_list PySem.F.slot_list_pop PySem.F.type_list_pop mm_pop (ho := (re_var (i := 5) rfl (.inl rfl)))))
  (rss_cons (rs_set (i := 8) sc_cone.nd rfl (.inl rfl) (re_methF (re_var (i := 1) rfl (.inl rfl)) h_Classes_least (by decide) (hr.mono (by decide)) (L2N.takes_of rfl rfl rfl rfl) (ra_cons (re_op opm_mul re_int (re_var (i := 7) rfl (.inl rfl))) ra_nil)))
  (rss_one (rs_if (rt_bop (rw_and (rt_cmp opm_ge (re_var (i := 7) rfl (.inl rfl)) (re_var (i := 4) rfl (.inl rfl))) (rw_and (rt_cmp (opm_ninX (hu65 hr)) (re_var (i := 7) rfl (.inl rfl)) (re_var (i := 6) rfl (.inl rfl))) (rw_and (rt_cmp opm_gt (re_var (i := 8) rfl (.inl rfl)) re_int) (rw_and1 (rt_cmp (opm_ninX (hu65 hr)) (re_op opm_fdiv (re_var (i := 8) rfl (.inl rfl)) re_int) (re_var (i := 2) rfl (.inl rfl)))))))) (rss_cons (rs_asg re_bl (rg_sub (W := fun cls d _ H => E cls d H) (hu1 hr) (re_var (i := 6) rfl (.inl rfl)) (re_var (i := 7) rfl (.inl rfl))))
  (rss_cons (rs_asg (re_ix (ixm (hu1 hr)) (re_ix (ixm (hu1 hr)) (re_var (i := 0) rfl (.inl rfl)) re_int) (re_op opm_sub (re_var (i := 7) rfl (.inl rfl)) (re_var (i := 4) rfl (.inl rfl)))) (rg_tupL rfl sc_cone.nd (.cons (i := 9) rfl (.inl rfl) (.inr rfl) (.cons (i := 10) rfl (.inl rfl) (.inr rfl) .nil))))
  (rss_one (rs_expr (re_mt PySem.F.plainAttrs_list PySem.F.slot_list_extend PySem.F.type_list_extend mm_extend (ho := (re_var (i := 5) rfl (.inl rfl))) (ha := (ra_cons (re_lst (ra_cons (re_op opm_fdiv (re_var (i := 9) rfl (.inl rfl)) re_int) (ra_cons (re_op opm_fdiv (re_var (i := 10) rfl (.inl rfl)) re_int) ra_nil))) ra_nil))))))) rss_nil)))))
  (rss_one (rs_ret (re_callB cm_sorted (by rfl) T.b_sorted bb_sorted (ra_cons (re_callTy (cm_listX rfl) (by rfl) T.b_list bb_list (ra_cons (re_var (i := 6) rfl (.inl rfl)) ra_nil)) ra_nil))))))))
abbrev t_row_set : Stmt := topS 15
theorem sc_row_set : FnScope ["classes", "places", "sets", "end", "least", "place", "leaf"] ["classes", "places", "sets", "end"] (defScope t_row_set) := ⟨rfl, rfl, rfl, by decide +kernel, rfl, by decide +kernel, by decide +kernel⟩
theorem ok_row_set {f : Addr} {fd : FuncData} (F : Fun K "row_set" "row_set" t_row_set f fd) (T : Txt w K mg) (h_Classes_least : MeC P w K mg base "Classes" "least" 2 ["self", "end"] s_Classes_least) : FnOk P w K mg base (L2N.CX P w) 3 f fd ["classes", "places", "sets", "end"] (spM K mg s_row_set) := by
  unfold s_row_set
  exact fn_ok F sc_row_set fun cdv A outer s H E hr =>
  (rss_cons (rs_set (i := 4) sc_row_set.nd rfl (.inl rfl) (re_methF (re_var (i := 0) rfl (.inl rfl)) h_Classes_least (by decide) (hr.mono (by decide)) (L2N.takes_of rfl rfl rfl rfl) (ra_cons (re_var (i := 3) rfl (.inl rfl)) ra_nil)))
  (rss_cons (rs_if (rt_cmp (opm_eq (hu64 hr)) (re_var (i := 4) rfl (.inl rfl)) re_int) (rss_one (rs_ret (re_glob (by rfl) T.c_LOW))) rss_nil)
  (rss_cons (rs_if (rt_cmp (opm_eq (hu64 hr)) (re_var (i := 4) rfl (.inl rfl)) re_int) (rss_one (rs_ret re_int)) rss_nil)
  (rss_cons (rs_if (rt_cmp (opm_inX (hu65 hr)) (re_op opm_fdiv (re_var (i := 4) rfl (.inl rfl)) re_int) (re_var (i := 1) rfl (.inl rfl))) (rss_cons (rs_asg (re_ix (ixm (hu1 hr)) (re_var (i := 1) rfl (.inl rfl)) (re_op opm_fdiv (re_var (i := 4) rfl (.inl rfl)) re_int)) (rg_tupL rfl sc_row_set.nd (.cons (i := 5) rfl (.inl rfl) (.inr rfl) (.cons (i := 6) rfl (.inl rfl) (.inr rfl) .nil))))
  (rss_one (rs_ret (re_op opm_shl re_int (re_op opm_add (re_op opm_mul re_int (re_var (i := 5) rfl (.inl rfl))) (re_op opm_and (re_op opm_xor (re_var (i := 4) rfl (.inl rfl)) (re_var (i := 6) rfl (.inl rfl))) re_int)))))) rss_nil)
  (rss_cons (rs_if (rt_cmp (opm_eq (hu64 hr)) (re_op opm_mod (re_var (i := 3) rfl (.inl rfl)) re_int) re_int) (rss_one (rs_ret re_non)) rss_nil)
  (rss_one (rs_ret (re_mt PySem.F.plainAttrs_dict PySem.F.slot_dict_get PySem.F.type_dict_get (mm_dget (hu1 hr)) (ho := (re_var (i := 2) rfl (.inl rfl))) (ha := (ra_cons (re_op opm_fdiv (re_var (i := 3) rfl (.inl rfl)) re_int) ra_nil))))))))))
abbrev t_together : Stmt := topS 14
theorem sc_together : FnScope ["mine", "yours", "pairs", "both"] ["mine", "yours", "pairs"] (defScope t_together) := ⟨rfl, rfl, rfl, by decide +kernel, rfl, by decide +kernel, by decide +kernel⟩
theorem ok_together {f : Addr} {fd : FuncData} (F : Fun K "together" "together" t_together f fd) (T : Txt w K mg)  : FnOk P w K mg base (L2N.CX P w) 1 f fd ["mine", "yours", "pairs"] (spM K mg s_together) := by
  unfold s_together
  exact fn_ok F sc_together fun cdv A outer s H E hr =>
  (rss_cons (rs_if (rt_bop (rw_or (rt_cmp (opm_eq (hu64 hr)) (re_var (i := 0) rfl (.inl rfl)) (re_glob (by rfl) T.c_LOW)) (rw_or1 (rt_cmp (opm_eq (hu64 hr)) (re_var (i := 1) rfl (.inl rfl)) (re_glob (by rfl) T.c_LOW))))) (rss_one (rs_ret (re_glob (by rfl) T.c_LOW))) rss_nil)
  (rss_cons (rs_if (rt_bop (rw_or (rt_cmp opm_is (re_var (i := 0) rfl (.inl rfl)) re_non) (rw_or1 (rt_cmp opm_is (re_var (i := 1) rfl (.inl rfl)) re_non)))) (rss_one (rs_ret re_non)) rss_nil)
  (rss_cons (rs_set (i := 3) sc_together.nd rfl (.inl rfl) (re_op opm_or (re_var (i := 0) rfl (.inl rfl)) (re_var (i := 1) rfl (.inl rfl))))
  (rss_cons (rs_if (rt_tru (re_op opm_and (re_op opm_and (re_var (i := 3) rfl (.inl rfl)) (re_op opm_shr (re_var (i := 3) rfl (.inl rfl)) re_int)) (re_var (i := 2) rfl (.inl rfl)))) (rss_one (rs_ret (re_glob (by rfl) T.c_LOW))) rss_nil)
  (rss_one (rs_ret (re_var (i := 3) rfl (.inl rfl))))))))
abbrev t_row_good : Stmt := topS 16
theorem sc_row_good : FnScope ["net", "classes", "step", "places", "pairs", "place", "sets", "knot", "one", "other", "mine"] ["net", "classes", "step", "places"] (defScope t_row_good) := ⟨rfl, rfl, rfl, by decide +kernel, rfl, by decide +kernel, by decide +kernel⟩
theorem ok_row_good {f : Addr} {fd : FuncData} (F : Fun K "row_good" "row_good" t_row_good f fd) (T : Txt w K mg) (h_cone : Fn P w K mg base "cone" 3 ["net", "classes", "places", "ends"] s_cone) (h_row_set : Fn P w K mg base "row_set" 3 ["classes", "places", "sets", "end"] s_row_set) (h_together : Fn P w K mg base "together" 1 ["mine", "yours", "pairs"] s_together) : FnOk P w K mg base (L2N.CX P w) 4 f fd ["net", "classes", "step", "places"] (spM K mg s_row_good) := by
  unfold s_row_good
  exact fn_ok F sc_row_good fun cdv A outer s H E hr =>
  (rss_cons (rs_set (i := 4) sc_row_good.nd rfl (.inl rfl) re_int)
  (rss_cons (rs_for (passes_of rfl) rfl (ri_range1 (by rfl) T.b_range (ra_cons (re_callB cm_len (by rfl) T.b_len bb_len (ra_cons (re_ix (ixm (hu1 hr)) (re_var (i := 2) rfl (.inl rfl)) re_int) ra_nil)) ra_nil)) (rg_name (i := 5) sc_row_good.nd rfl (.inl rfl)) (rss_one (rs_set (i := 4) sc_row_good.nd rfl (.inl rfl) (re_op opm_or (re_var (i := 4) rfl (.inl rfl)) (re_op opm_shl re_int (re_op opm_mul re_int (re_var (i := 5) rfl (.inl rfl))))))))
  (rss_cons (rs_set (i := 6) sc_row_good.nd rfl (.inl rfl) re_dic0)
  (rss_cons (rs_for (passes_of rfl) rfl (ri_any (re_callF h_cone (hr.mono (by decide)) (by rfl) (L2N.takes_of rfl rfl rfl rfl) (ra_cons (re_var (i := 0) rfl (.inl rfl)) (ra_cons (re_var (i := 1) rfl (.inl rfl)) (ra_cons (re_var (i := 3) rfl (.inl rfl)) (ra_cons (re_slice (re_var (i := 2) rfl (.inl rfl)) (ro_sm re_int) (ro_sm re_int)) ra_nil)))))) (rg_name (i := 7) sc_row_good.nd rfl (.inl rfl)) (rss_cons (rs_asg (re_ix (ixm (hu1 hr)) (re_ix (ixm (hu1 hr)) (re_var (i := 0) rfl (.inl rfl)) re_int) (re_op opm_sub (re_op opm_sub (re_var (i := 7) rfl (.inl rfl)) re_int) (re_ix (ixm (hu1 hr)) (re_var (i := 0) rfl (.inl rfl)) re_int))) (rg_tupL rfl sc_row_good.nd (.cons (i := 8) rfl (.inl rfl) (.inr rfl) (.cons (i := 9) rfl (.inl rfl) (.inr rfl) .nil))))
  (rss_cons (rs_set (i := 10) sc_row_good.nd rfl (.inl rfl) (re_callF h_row_set (hr.mono (by decide)) (by rfl) (L2N.takes_of rfl rfl rfl rfl) (ra_cons (re_var (i := 1) rfl (.inl rfl)) (ra_cons (re_var (i := 3) rfl (.inl rfl)) (ra_cons (re_var (i := 6) rfl (.inl rfl)) (ra_cons (re_var (i := 8) rfl (.inl rfl)) ra_nil))))))
  (rss_one (rs_asg (re_callF h_together (hr.mono (by decide)) (by rfl) (L2N.takes_of rfl rfl rfl rfl) (ra_cons (re_var (i := 10) rfl (.inl rfl)) (ra_cons (re_callF h_row_set (hr.mono (by decide)) (by rfl) (L2N.takes_of rfl rfl rfl rfl) (ra_cons (re_var (i := 1) rfl (.inl rfl)) (ra_cons (re_var (i := 3) rfl (.inl rfl)) (ra_cons (re_var (i := 6) rfl (.inl rfl)) (ra_cons (re_var (i := 9) rfl (.inl rfl)) ra_nil))))) (ra_cons (re_var (i := 4) rfl (.inl rfl)) ra_nil)))) (rg_sub (W := fun cls d _ H => E cls d H) (hu1 hr) (re_var (i := 6) rfl (.inl rfl)) (re_var (i := 7) rfl (.inl rfl))))))))
  (rss_cons (rs_set (i := 10) sc_row_good.nd rfl (.inl rfl) (re_callF h_row_set (hr.mono (by decide)) (by rfl) (L2N.takes_of rfl rfl rfl rfl) (ra_cons (re_var (i := 1) rfl (.inl rfl)) (ra_cons (re_var (i := 3) rfl (.inl rfl)) (ra_cons (re_var (i := 6) rfl (.inl rfl)) (ra_cons (re_ix (ixm (hu1 hr)) (re_var (i := 2) rfl (.inl rfl)) re_int) ra_nil))))))
  (rss_one (rs_ret (re_and (re_cmp opm_isn (re_var (i := 10) rfl (.inl rfl)) re_non) (re_one (re_cmp (opm_eq (hu64 hr)) (re_var (i := 10) rfl (.inl rfl)) (re_callF h_row_set (hr.mono (by decide)) (by rfl) (L2N.takes_of rfl rfl rfl rfl) (ra_cons (re_var (i := 1) rfl (.inl rfl)) (ra_cons (re_var (i := 3) rfl (.inl rfl)) (ra_cons (re_var (i := 6) rfl (.inl rfl)) (ra_cons (re_ix (ixm (hu1 hr)) (re_var (i := 2) rfl (.inl rfl)) re_int) ra_nil)))))))))))))))
abbrev t_pattern : Stmt := topS 11
theorem sc_pattern : FnScope ["place", "many", "found", "stand"] ["place", "many"] (defScope t_pattern) := ⟨rfl, rfl, rfl, by decide +kernel, rfl, by decide +kernel, by decide +kernel⟩
theorem ok_pattern {f : Addr} {fd : FuncData} (F : Fun K "pattern" "pattern" t_pattern f fd) (T : Txt w K mg)  : FnOk P w K mg base (L2N.CX P w) 1 f fd ["place", "many"] (spM K mg s_pattern) := by
  unfold s_pattern
  exact fn_ok F sc_pattern fun cdv A outer s H E hr =>
  (rss_cons (rs_set (i := 2) sc_pattern.nd rfl (.inl rfl) re_int)
  (rss_cons (rs_for (passes_of rfl) rfl (ri_range1 (by rfl) T.b_range (ra_cons (re_op opm_shl re_int (re_var (i := 1) rfl (.inl rfl))) ra_nil)) (rg_name (i := 3) sc_pattern.nd rfl (.inl rfl)) (rss_one (rs_set (i := 2) sc_pattern.nd rfl (.inl rfl) (re_op opm_or (re_var (i := 2) rfl (.inl rfl)) (re_op opm_shl (re_op opm_and (re_op opm_shr (re_var (i := 3) rfl (.inl rfl)) (re_var (i := 0) rfl (.inl rfl))) re_int) (re_var (i := 3) rfl (.inl rfl)))))))
  (rss_one (rs_ret (re_var (i := 2) rfl (.inl rfl))))))
abbrev t_stand_bits : Stmt := topS 12
theorem sc_stand_bits : FnScope ["classes", "places", "words", "ones", "end", "least", "place", "leaf", "word"] ["classes", "places", "words", "ones", "end"] (defScope t_stand_bits) := ⟨rfl, rfl, rfl, by decide +kernel, rfl, by decide +kernel, by decide +kernel⟩
theorem ok_stand_bits {f : Addr} {fd : FuncData} (F : Fun K "stand_bits" "stand_bits" t_stand_bits f fd) (T : Txt w K mg) (h_Classes_least : MeC P w K mg base "Classes" "least" 2 ["self", "end"] s_Classes_least) : FnOk P w K mg base (L2N.CX P w) 3 f fd ["classes", "places", "words", "ones", "end"] (spM K mg s_stand_bits) := by
  unfold s_stand_bits
  exact fn_ok F sc_stand_bits fun cdv A outer s H E hr =>
  (rss_cons (rs_set (i := 5) sc_stand_bits.nd rfl (.inl rfl) (re_methF (re_var (i := 0) rfl (.inl rfl)) h_Classes_least (by decide) (hr.mono (by decide)) (L2N.takes_of rfl rfl rfl rfl) (ra_cons (re_var (i := 4) rfl (.inl rfl)) ra_nil)))
  (rss_cons (rs_if (rt_cmp opm_lt (re_var (i := 5) rfl (.inl rfl)) re_int) (rss_one (rs_ret (re_op opm_mul (re_var (i := 3) rfl (.inl rfl)) (re_var (i := 5) rfl (.inl rfl))))) rss_nil)
  (rss_cons (rs_if (rt_cmp (opm_inX (hu65 hr)) (re_op opm_fdiv (re_var (i := 5) rfl (.inl rfl)) re_int) (re_var (i := 1) rfl (.inl rfl))) (rss_cons (rs_asg (re_ix (ixm (hu1 hr)) (re_var (i := 1) rfl (.inl rfl)) (re_op opm_fdiv (re_var (i := 5) rfl (.inl rfl)) re_int)) (rg_tupL rfl sc_stand_bits.nd (.cons (i := 6) rfl (.inl rfl) (.inr rfl) (.cons (i := 7) rfl (.inl rfl) (.inr rfl) .nil))))
  (rss_one (rs_ret (re_op opm_xor (re_ix (ixm (hu1 hr)) (re_var (i := 2) rfl (.inl rfl)) (re_op opm_sub (re_un unm_neg re_int) (re_var (i := 6) rfl (.inl rfl)))) (re_op opm_mul (re_var (i := 3) rfl (.inl rfl)) (re_op opm_and (re_op opm_xor (re_var (i := 5) rfl (.inl rfl)) (re_var (i := 7) rfl (.inl rfl))) re_int)))))) rss_nil)
  (rss_cons (rs_set (i := 8) sc_stand_bits.nd rfl (.inl rfl) (re_mt PySem.F.plainAttrs_dict PySem.F.slot_dict_get PySem.F.type_dict_get (mm_dget (hu1 hr)) (ho := (re_var (i := 2) rfl (.inl rfl))) (ha := (ra_cons (re_op opm_fdiv (re_var (i := 4) rfl (.inl rfl)) re_int) ra_nil))))
  (rss_cons (rs_if (rt_bop (rw_or (rt_cmp opm_is (re_var (i := 8) rfl (.inl rfl)) re_non) (rw_or1 (rt_cmp (opm_eq (hu64 hr)) (re_op opm_mod (re_var (i := 4) rfl (.inl rfl)) re_int) re_int)))) (rss_one (rs_ret (re_var (i := 8) rfl (.inl rfl)))) rss_nil)
  (rss_one (rs_ret (re_op opm_xor (re_var (i := 8) rfl (.inl rfl)) (re_var (i := 3) rfl (.inl rfl))))))))))
abbrev t_stands_good : Stmt := topS 13
theorem sc_stands_good : FnScope ["net", "classes", "step", "places", "many", "ones", "words", "place", "knot", "one", "other", "mine", "yours"] ["net", "classes", "step", "places"] (defScope t_stands_good) := ⟨rfl, rfl, rfl, by decide +kernel, rfl, by decide +kernel, by decide +kernel⟩
theorem ok_stands_good {f : Addr} {fd : FuncData} (F : Fun K "stands_good" "stands_good" t_stands_good f fd) (T : Txt w K mg) (h_cone : Fn P w K mg base "cone" 3 ["net", "classes", "places", "ends"] s_cone) (h_pattern : Fn P w K mg base "pattern" 1 ["place", "many"] s_pattern) (h_stand_bits : Fn P w K mg base "stand_bits" 3 ["classes", "places", "words", "ones", "end"] s_stand_bits) : FnOk P w K mg base (L2N.CX P w) 4 f fd ["net", "classes", "step", "places"] (spM K mg s_stands_good) := by
  unfold s_stands_good
  exact fn_ok F sc_stands_good fun cdv A outer s H E hr =>
  (rss_cons (rs_set (i := 4) sc_stands_good.nd rfl (.inl rfl) (re_callB cm_len (by rfl) T.b_len bb_len (ra_cons (re_ix (ixm (hu1 hr)) (re_var (i := 2) rfl (.inl rfl)) re_int) ra_nil)))
  (rss_cons (rs_set (i := 5) sc_stands_good.nd rfl (.inl rfl) (re_op opm_sub (re_op opm_shl re_int (re_op opm_shl re_int (re_var (i := 4) rfl (.inl rfl)))) re_int))
  (rss_cons (rs_set (i := 6) sc_stands_good.nd rfl (.inl rfl) re_dic0)
  (rss_cons (rs_for (passes_of rfl) rfl (ri_range1 (by rfl) T.b_range (ra_cons (re_var (i := 4) rfl (.inl rfl)) ra_nil)) (rg_name (i := 7) sc_stands_good.nd rfl (.inl rfl)) (rss_one (rs_asg (re_callF h_pattern (hr.mono (by decide)) (by rfl) (L2N.takes_of rfl rfl rfl rfl) (ra_cons (re_var (i := 7) rfl (.inl rfl)) (ra_cons (re_var (i := 4) rfl (.inl rfl)) ra_nil))) (rg_sub (W := fun cls d _ H => E cls d H) (hu1 hr) (re_var (i := 6) rfl (.inl rfl)) (re_op opm_sub (re_un unm_neg re_int) (re_var (i := 7) rfl (.inl rfl)))))))
  (rss_cons (rs_for (passes_of rfl) rfl (ri_any (re_callF h_cone (hr.mono (by decide)) (by rfl) (L2N.takes_of rfl rfl rfl rfl) (ra_cons (re_var (i := 0) rfl (.inl rfl)) (ra_cons (re_var (i := 1) rfl (.inl rfl)) (ra_cons (re_var (i := 3) rfl (.inl rfl)) (ra_cons (re_slice (re_var (i := 2) rfl (.inl rfl)) (ro_sm re_int) (ro_sm re_int)) ra_nil)))))) (rg_name (i := 8) sc_stands_good.nd rfl (.inl rfl)) (rss_cons (rs_asg (re_ix (ixm (hu1 hr)) (re_ix (ixm (hu1 hr)) (re_var (i := 0) rfl (.inl rfl)) re_int) (re_op opm_sub (re_op opm_sub (re_var (i := 8) rfl (.inl rfl)) re_int) (re_ix (ixm (hu1 hr)) (re_var (i := 0) rfl (.inl rfl)) re_int))) (rg_tupL rfl sc_stands_good.nd (.cons (i := 9) rfl (.inl rfl) (.inr rfl) (.cons (i := 10) rfl (.inl rfl) (.inr rfl) .nil))))
  (rss_cons (rs_set (i := 11) sc_stands_good.nd rfl (.inl rfl) (re_callF h_stand_bits (hr.mono (by decide)) (by rfl) (L2N.takes_of rfl rfl rfl rfl) (ra_cons (re_var (i := 1) rfl (.inl rfl)) (ra_cons (re_var (i := 3) rfl (.inl rfl)) (ra_cons (re_var (i := 6) rfl (.inl rfl)) (ra_cons (re_var (i := 5) rfl (.inl rfl)) (ra_cons (re_var (i := 9) rfl (.inl rfl)) ra_nil)))))))
  (rss_cons (rs_set (i := 12) sc_stands_good.nd rfl (.inl rfl) (re_callF h_stand_bits (hr.mono (by decide)) (by rfl) (L2N.takes_of rfl rfl rfl rfl) (ra_cons (re_var (i := 1) rfl (.inl rfl)) (ra_cons (re_var (i := 3) rfl (.inl rfl)) (ra_cons (re_var (i := 6) rfl (.inl rfl)) (ra_cons (re_var (i := 5) rfl (.inl rfl)) (ra_cons (re_var (i := 10) rfl (.inl rfl)) ra_nil)))))))
  (rss_one (rs_if (rt_bop (rw_and (rt_cmp opm_isn (re_var (i := 11) rfl (.inl rfl)) re_non) (rw_and1 (rt_cmp opm_isn (re_var (i := 12) rfl (.inl rfl)) re_non)))) (rss_one (rs_asg (re_op opm_and (re_var (i := 11) rfl (.inl rfl)) (re_var (i := 12) rfl (.inl rfl))) (rg_sub (W := fun cls d _ H => E cls d H) (hu1 hr) (re_var (i := 6) rfl (.inl rfl)) (re_var (i := 8) rfl (.inl rfl))))) rss_nil))))))
  (rss_cons (rs_set (i := 11) sc_stands_good.nd rfl (.inl rfl) (re_callF h_stand_bits (hr.mono (by decide)) (by rfl) (L2N.takes_of rfl rfl rfl rfl) (ra_cons (re_var (i := 1) rfl (.inl rfl)) (ra_cons (re_var (i := 3) rfl (.inl rfl)) (ra_cons (re_var (i := 6) rfl (.inl rfl)) (ra_cons (re_var (i := 5) rfl (.inl rfl)) (ra_cons (re_ix (ixm (hu1 hr)) (re_var (i := 2) rfl (.inl rfl)) re_int) ra_nil)))))))
  (rss_one (rs_ret (re_and (re_cmp opm_isn (re_var (i := 11) rfl (.inl rfl)) re_non) (re_one (re_cmp (opm_eq (hu64 hr)) (re_var (i := 11) rfl (.inl rfl)) (re_callF h_stand_bits (hr.mono (by decide)) (by rfl) (L2N.takes_of rfl rfl rfl rfl) (ra_cons (re_var (i := 1) rfl (.inl rfl)) (ra_cons (re_var (i := 3) rfl (.inl rfl)) (ra_cons (re_var (i := 6) rfl (.inl rfl)) (ra_cons (re_var (i := 5) rfl (.inl rfl)) (ra_cons (re_ix (ixm (hu1 hr)) (re_var (i := 2) rfl (.inl rfl)) re_int) ra_nil)))))))))))))))))
abbrev t_is_good : Stmt := topS 17
theorem sc_is_good : FnScope ["net", "classes", "step", "places"] ["net", "classes", "step"] (defScope t_is_good) := ⟨rfl, rfl, rfl, by decide +kernel, rfl, by decide +kernel, by decide +kernel⟩
theorem ok_is_good {f : Addr} {fd : FuncData} (F : Fun K "is_good" "is_good" t_is_good f fd) (T : Txt w K mg) (h_is_step : Fn P w K mg base "is_step" 3 ["net", "thing"] s_is_step) (h_leaf_ends : Fn P w K mg base "leaf_ends" 3 ["classes", "leaves"] s_leaf_ends) (h_row_good : Fn P w K mg base "row_good" 4 ["net", "classes", "step", "places"] s_row_good) (h_stands_good : Fn P w K mg base "stands_good" 4 ["net", "classes", "step", "places"] s_stands_good) : FnOk P w K mg base (L2N.CX P w) 5 f fd ["net", "classes", "step"] (spM K mg s_is_good) := by
  unfold s_is_good
  exact fn_ok F sc_is_good fun cdv A outer s H E hr =>
  (rss_cons (rs_if (rt_not (rt_tru (re_callF h_is_step (hr.mono (by decide)) (by rfl) (L2N.takes_of rfl rfl rfl rfl) (ra_cons (re_var (i := 0) rfl (.inl rfl)) (ra_cons (re_var (i := 2) rfl (.inl rfl)) ra_nil))))) (rss_one (rs_ret re_bl)) rss_nil)
  (rss_cons (rs_set (i := 3) sc_is_good.nd rfl (.inl rfl) (re_callF h_leaf_ends (hr.mono (by decide)) (by rfl) (L2N.takes_of rfl rfl rfl rfl) (ra_cons (re_var (i := 1) rfl (.inl rfl)) (ra_cons (re_ix (ixm (hu1 hr)) (re_var (i := 2) rfl (.inl rfl)) re_int) ra_nil))))
  (rss_cons (rs_if (rt_cmp opm_is (re_var (i := 3) rfl (.inl rfl)) re_non) (rss_one (rs_ret re_bl)) rss_nil)
  (rss_cons (rs_if (rt_cmp (opm_eq (hu64 hr)) (re_ix (ixm (hu1 hr)) (re_var (i := 2) rfl (.inl rfl)) re_int) re_str) (rss_one (rs_ret (re_callF h_stands_good (hr.mono (by decide)) (by rfl) (L2N.takes_of rfl rfl rfl rfl) (ra_cons (re_var (i := 0) rfl (.inl rfl)) (ra_cons (re_var (i := 1) rfl (.inl rfl)) (ra_cons (re_var (i := 2) rfl (.inl rfl)) (ra_cons (re_var (i := 3) rfl (.inl rfl)) ra_nil))))))) rss_nil)
  (rss_one (rs_ret (re_callF h_row_good (hr.mono (by decide)) (by rfl) (L2N.takes_of rfl rfl rfl rfl) (ra_cons (re_var (i := 0) rfl (.inl rfl)) (ra_cons (re_var (i := 1) rfl (.inl rfl)) (ra_cons (re_var (i := 2) rfl (.inl rfl)) (ra_cons (re_var (i := 3) rfl (.inl rfl)) ra_nil)))))))))))
abbrev t_law : Stmt := topS 29
theorem sc_law : FnScope ["_law_script", "_law_sizes", "_law_net_here", "_law_row_here", "_law_wide", "_law_ends", "_law_first", "_law_again", "_law_second", "_law_many", "_law_some", "_law_labels", "_law_k", "_law_leaves", "_law_step_here", "_law_said", "_law_end", "_law_label"] ["_law_script"] (defScope t_law) := ⟨rfl, rfl, rfl, by decide +kernel, rfl, by decide +kernel, by decide +kernel⟩
theorem ok_law {f : Addr} {fd : FuncData} (F : Fun K "law" "law" t_law f fd) (T : Txt w K mg) (h_Classes_init : MkC P w K mg base "Classes" 1 ["self", "knots"] s_Classes_init) (h_Classes_join : MeC P w K mg base "Classes" "join" 2 ["self", "one", "other"] s_Classes_join) (h_Classes_least : MeC P w K mg base "Classes" "least" 2 ["self", "end"] s_Classes_least) (h__law_due : Fn P w K mg base "_law_due" 2 ["_law_net_here", "_law_labels", "_law_step_here"] s__law_due) (h__law_joined : Fn P w K mg base "_law_joined" 1 ["_law_labels", "_law_one", "_law_other"] s__law_joined) (h__law_net : Fn P w K mg base "_law_net" 1 ["_law_row_here", "_law_sizes"] s__law_net) (h__law_row : Fn P w K mg base "_law_row" 1 ["_law_script", "_law_at", "_law_many"] s__law_row) (h__law_step : Fn P w K mg base "_law_step" 1 ["_law_net_here", "_law_row_here", "_law_tops", "_law_ends"] s__law_step) (h__law_tree : Fn P w K mg base "_law_tree" 1 ["_law_net_here", "_law_ends", "_law_left"] s__law_tree) (h_is_good : Fn P w K mg base "is_good" 5 ["net", "classes", "step"] s_is_good) : FnOk P w K mg base (L2N.CX P w) 6 f fd ["_law_script"] (spM K mg s_law) := by
  unfold s_law
  exact fn_ok F sc_law fun cdv A outer s H E hr =>
  (rss_cons (rs_set (i := 1) sc_law.nd rfl (.inl rfl) (re_callF h__law_row (hr.mono (by decide)) (by rfl) (L2N.takes_of rfl rfl rfl rfl) (ra_cons (re_var (i := 0) rfl (.inl rfl)) (ra_cons re_int (ra_cons re_int ra_nil)))))
  (rss_cons (rs_set (i := 2) sc_law.nd rfl (.inr rfl) (re_callF h__law_net (hr.mono (by decide)) (by rfl) (L2N.takes_of rfl rfl rfl rfl) (ra_cons (re_callF h__law_row (hr.mono (by decide)) (by rfl) (L2N.takes_of rfl rfl rfl rfl) (ra_cons (re_var (i := 0) rfl (.inl rfl)) (ra_cons re_int (ra_cons re_int ra_nil)))) (ra_cons (re_var (i := 1) rfl (.inl rfl)) ra_nil))))
  (rss_cons (rs_set (i := 3) sc_law.nd rfl (.inr rfl) (re_callF h__law_row (hr.mono (by decide)) (by rfl) (L2N.takes_of rfl rfl rfl rfl) (ra_cons (re_var (i := 0) rfl (.inl rfl)) (ra_cons re_int (ra_cons re_int ra_nil)))))
  (rss_cons (rs_set (i := 4) sc_law.nd rfl (.inl rfl) (re_op opm_add (re_op opm_add re_int (re_op opm_mod (re_ix (ixm (hu1 hr)) (re_var (i := 1) rfl (.inl rfl)) re_int) re_int)) (re_op opm_mul re_int (re_callTy cm_int (by rfl) T.b_int bb_int (ra_cons (re_cmp (opm_eq (hu64 hr)) (re_op opm_mod (re_op opm_fdiv (re_ix (ixm (hu1 hr)) (re_var (i := 1) rfl (.inl rfl)) re_int) re_int) re_int) re_int) ra_nil)))))
  (rss_cons (rs_set (i := 5) sc_law.nd rfl (.inr rfl) (re_lc rfl sc_law.nd (ri_range1 (by rfl) T.b_range (ra_cons (re_var (i := 4) rfl (.inl rfl)) ra_nil)) (blk_of (own := [("_law_k", 12)]) (by kernel_rfl)) rfl (fun _ _ _ _ _ => pg_name (i := 12) sc_law.nd rfl (.inl rfl)) cr_name gNm_st (fun _ _ _ _ _ => rts_nil) (fun _ _ _ _ _ => (re_op opm_mod (re_ix (ixm (hu1 hr)) (re_var (i := 3) rfl (.inr (.inl rfl))) (re_var (i := 12) rfl (.inl rfl))) (re_op opm_mul re_int (re_op opm_add (re_op opm_add re_int (re_ix (ixm (hu1 hr)) (re_var (i := 2) rfl (.inr (.inl rfl))) re_int)) (re_callB cm_len (by rfl) T.b_len bb_len (ra_cons (re_ix (ixm (hu1 hr)) (re_var (i := 2) rfl (.inr (.inl rfl))) re_int) ra_nil))))))))
  (rss_cons (rs_asg (re_callF h__law_tree (hr.mono (by decide)) (by rfl) (L2N.takes_of rfl rfl rfl rfl) (ra_cons (re_var (i := 2) rfl (.inr (.inl rfl))) (ra_cons (re_var (i := 5) rfl (.inr (.inl rfl))) (ra_cons re_bl ra_nil)))) (rg_tupL rfl sc_law.nd (.cons (i := 2) rfl (.inr rfl) (.inl rfl) (.cons (i := 6) rfl (.inl rfl) (.inr rfl) .nil))))
  (rss_cons (rs_set (i := 7) sc_law.nd rfl (.inl rfl) (re_callTy cm_list (by rfl) T.b_list bb_list (ra_cons (re_var (i := 5) rfl (.inr (.inl rfl))) ra_nil)))
  (rss_cons (rs_if (rt_bop (rw_and (rt_cmp (opm_eq (hu64 hr)) (re_op opm_mod (re_ix (ixm (hu1 hr)) (re_var (i := 1) rfl (.inl rfl)) re_int) re_int) re_int) (rw_and1 (rt_cmp opm_gt (re_callB cm_len (by rfl) T.b_len bb_len (ra_cons (re_var (i := 7) rfl (.inl rfl)) ra_nil)) re_int)))) (rss_one (rs_expr (re_mt PySem.F.plainAttrs_list PySem.F.slot_list_pop PySem.F.type_list_pop mm_pop (ho := (re_var (i := 7) rfl (.inl rfl))) (ha := (ra_cons (re_op opm_mod (re_ix (ixm (hu1 hr)) (re_var (i := 1) rfl (.inl rfl)) re_int) (re_callB cm_len (by rfl) T.b_len bb_len (ra_cons (re_var (i := 7) rfl (.inl rfl)) ra_nil))) ra_nil))))) rss_nil)
  (rss_cons (rs_if (rt_cmp (opm_eq (hu64 hr)) (re_op opm_mod (re_ix (ixm (hu1 hr)) (re_var (i := 1) rfl (.inl rfl)) re_int) re_int) re_int) (rss_one (rs_asg (re_op opm_xor (re_ix (ixm (hu1 hr)) (re_var (i := 7) rfl (.inl rfl)) (re_op opm_mod (re_ix (ixm (hu1 hr)) (re_var (i := 1) rfl (.inl rfl)) re_int) (re_callB cm_len (by rfl) T.b_len bb_len (ra_cons (re_var (i := 7) rfl (.inl rfl)) ra_nil)))) re_int) (rg_sub (W := fun cls d _ H => E cls d H) (hu1 hr) (re_var (i := 7) rfl (.inl rfl)) (re_op opm_mod (re_ix (ixm (hu1 hr)) (re_var (i := 1) rfl (.inl rfl)) re_int) (re_callB cm_len (by rfl) T.b_len bb_len (ra_cons (re_var (i := 7) rfl (.inl rfl)) ra_nil)))))) rss_nil)
  (rss_cons (rs_asg (re_callF h__law_tree (hr.mono (by decide)) (by rfl) (L2N.takes_of rfl rfl rfl rfl) (ra_cons (re_var (i := 2) rfl (.inr (.inl rfl))) (ra_cons (re_var (i := 7) rfl (.inl rfl)) (ra_cons re_bl ra_nil)))) (rg_tupL rfl sc_law.nd (.cons (i := 2) rfl (.inr rfl) (.inl rfl) (.cons (i := 8) rfl (.inl rfl) (.inr rfl) .nil))))
  (rss_cons (rs_set (i := 9) sc_law.nd rfl (.inl rfl) (re_op opm_mul re_int (re_op opm_add (re_op opm_add re_int (re_ix (ixm (hu1 hr)) (re_var (i := 2) rfl (.inr (.inl rfl))) re_int)) (re_callB cm_len (by rfl) T.b_len bb_len (ra_cons (re_ix (ixm (hu1 hr)) (re_var (i := 2) rfl (.inr (.inl rfl))) re_int) ra_nil)))))
  (rss_cons (rs_set (i := 10) sc_law.nd rfl (.inr rfl) (re_makeC h_Classes_init (hr.mono (by decide)) (by rfl) (L2N.takes_of rfl rfl rfl rfl) (ra_cons (re_op opm_fdiv (re_var (i := 9) rfl (.inl rfl)) re_int) ra_nil)))
  (rss_cons (rs_set (i := 11) sc_law.nd rfl (.inr rfl) (re_lrg rfl (by rfl) (by rfl) T.b_list T.b_range (re_var (i := 9) rfl (.inl rfl))))
  (rss_cons (rs_for (passes_of rfl) rfl (ri_range1 (by rfl) T.b_range (ra_cons (re_op opm_mod (re_ix (ixm (hu1 hr)) (re_var (i := 1) rfl (.inl rfl)) re_int) re_int) ra_nil)) (rg_name (i := 12) sc_law.nd rfl (.inl rfl)) (rss_one (rs_if (rt_tru (re_methF (re_var (i := 10) rfl (.inr (.inl rfl))) h_Classes_join (by decide) (hr.mono (by decide)) (L2N.takes_of rfl rfl rfl rfl) (ra_cons (re_op opm_mod (re_ix (ixm (hu1 hr)) (re_var (i := 3) rfl (.inr (.inl rfl))) (re_op opm_add re_int (re_op opm_mul re_int (re_var (i := 12) rfl (.inl rfl))))) (re_var (i := 9) rfl (.inl rfl))) (ra_cons (re_op opm_mod (re_ix (ixm (hu1 hr)) (re_var (i := 3) rfl (.inr (.inl rfl))) (re_op opm_add re_int (re_op opm_mul re_int (re_var (i := 12) rfl (.inl rfl))))) (re_var (i := 9) rfl (.inl rfl))) ra_nil)))) (rss_one (rs_set (i := 11) sc_law.nd rfl (.inr rfl) (re_callF h__law_joined (hr.mono (by decide)) (by rfl) (L2N.takes_of rfl rfl rfl rfl) (ra_cons (re_var (i := 11) rfl (.inr (.inl rfl))) (ra_cons (re_op opm_mod (re_ix (ixm (hu1 hr)) (re_var (i := 3) rfl (.inr (.inl rfl))) (re_op opm_add re_int (re_op opm_mul re_int (re_var (i := 12) rfl (.inl rfl))))) (re_var (i := 9) rfl (.inl rfl))) (ra_cons (re_op opm_mod (re_ix (ixm (hu1 hr)) (re_var (i := 3) rfl (.inr (.inl rfl))) (re_op opm_add re_int (re_op opm_mul re_int (re_var (i := 12) rfl (.inl rfl))))) (re_var (i := 9) rfl (.inl rfl))) ra_nil)))))) rss_nil)))
  (rss_cons (rs_setLc (i := 13) rfl sc_law.nd rfl rfl rfl (ri_any (re_sortSet rfl (by rfl) T.b_sorted (by rfl) T.b_set (re_var (i := 5) rfl (.inr (.inl rfl))))) (blk_of (own := [("_law_end", 16)]) (by kernel_rfl)) rfl (fun _ _ _ _ _ => pg_name (i := 16) sc_law.nd rfl (.inl rfl)) cr_name gNm_st (fun _ _ _ _ _ => (rts_one (rt_bop (rw_and (rt_cmp opm_gt (re_var (i := 16) rfl (.inl rfl)) re_int) (rw_and1 (rt_bop (rw_or (rt_cmp (opm_ninX (hu65 hr)) (re_op opm_xor (re_var (i := 16) rfl (.inl rfl)) re_int) (re_var (i := 5) rfl (.inr (.inl rfl)))) (rw_or1 (rt_cmp (opm_eq (hu64 hr)) (re_op opm_mod (re_var (i := 16) rfl (.inl rfl)) re_int) re_int))))))))) (fun _ _ _ _ _ => (re_var (i := 16) rfl (.inl rfl))))
  (rss_cons (rs_for (passes_of rfl) rfl (ri_range2 (by rfl) T.b_range (ra_cons re_int (ra_cons (re_callB (cm_max2 rfl) (by rfl) T.b_max bb_max (ra_cons re_int (ra_cons (re_callB (cm_min2 rfl) (by rfl) T.b_min bb_min (ra_cons (re_callB cm_len (by rfl) T.b_len bb_len (ra_cons (re_var (i := 0) rfl (.inl rfl)) ra_nil)) (ra_cons re_int ra_nil))) ra_nil))) ra_nil))) (rg_name (i := 12) sc_law.nd rfl (.inl rfl)) (rss_cons (rs_set (i := 14) sc_law.nd rfl (.inl rfl) (re_callF h__law_step (hr.mono (by decide)) (by rfl) (L2N.takes_of rfl rfl rfl rfl) (ra_cons (re_var (i := 2) rfl (.inr (.inl rfl))) (ra_cons (re_callF h__law_row (hr.mono (by decide)) (by rfl) (L2N.takes_of rfl rfl rfl rfl) (ra_cons (re_var (i := 0) rfl (.inl rfl)) (ra_cons (re_var (i := 12) rfl (.inl rfl)) (ra_cons re_int ra_nil)))) (ra_cons (re_tup (ra_cons (re_var (i := 6) rfl (.inl rfl)) (ra_cons (re_var (i := 8) rfl (.inl rfl)) ra_nil))) (ra_cons (re_var (i := 13) rfl (.inl rfl)) ra_nil))))))
  (rss_cons (rs_set (i := 15) sc_law.nd rfl (.inl rfl) (re_callF h_is_good (hr.mono (by decide)) (by rfl) (L2N.takes_of rfl rfl rfl rfl) (ra_cons (re_var (i := 2) rfl (.inr (.inl rfl))) (ra_cons (re_var (i := 10) rfl (.inr (.inl rfl))) (ra_cons (re_var (i := 14) rfl (.inl rfl)) ra_nil)))))
  (rss_one (rs_if (rt_bop (rw_or (rt_not (rt_tru (re_callB cm_isi (by rfl) T.b_isinstance bb_isinstance (ra_cons (re_var (i := 15) rfl (.inl rfl)) (ra_cons (re_ty (by rfl) T.b_bool bb_bool) ra_nil))))) (rw_or1 (rt_cmp (opm_ne (hu64 hr)) (re_var (i := 15) rfl (.inl rfl)) (re_callF h__law_due (hr.mono (by decide)) (by rfl) (L2N.takes_of rfl rfl rfl rfl) (ra_cons (re_var (i := 2) rfl (.inr (.inl rfl))) (ra_cons (re_var (i := 11) rfl (.inr (.inl rfl))) (ra_cons (re_var (i := 14) rfl (.inl rfl)) ra_nil)))))))) (rss_one (rs_ret re_bl)) rss_nil)))))
  (rss_one (rs_ret (re_cmp (opm_eq (hu64 hr)) (re_lc rfl sc_law.nd (ri_range1 (by rfl) T.b_range (ra_cons (re_var (i := 9) rfl (.inl rfl)) ra_nil)) (blk_of (own := [("_law_end", 16)]) (by kernel_rfl)) rfl (fun _ _ _ _ _ => pg_name (i := 16) sc_law.nd rfl (.inl rfl)) cr_name gNm_st (fun _ _ _ _ _ => rts_nil) (fun _ _ _ _ _ => (re_methF (re_var (i := 10) rfl (.inr (.inl rfl))) h_Classes_least (by decide) (hr.mono (by decide)) takesN (ra_cons (re_var (i := 16) rfl (.inl rfl)) ra_nil)))) (re_lc rfl sc_law.nd (ri_any (re_var (i := 11) rfl (.inr (.inl rfl)))) (blk_of (own := [("_law_label", 17)]) (by kernel_rfl)) rfl (fun _ _ _ _ _ => pg_name (i := 17) sc_law.nd rfl (.inl rfl)) cr_name gNm_st (fun _ _ _ _ _ => rts_nil) (fun _ _ _ _ _ => (re_mt PySem.F.plainAttrs_list PySem.F.slot_list_index PySem.F.type_list_index mm_index (ho := (re_var (i := 11) rfl (.inr (.inl rfl)))) (ha := (ra_cons (re_var (i := 17) rfl (.inl rfl)) ra_nil))))))))))))))))))))))))
end
theorem all_mk {l : PySem.W.OpenLaw} {w : World} {K : PySem.W.Frag} {h : Heap} {mg : Str → Option Value} {fa : Addr} (X : K.In h) (G : h.Ns mainGlobals mg) (hfa : mg "law" = some (.ref fa))
    (hmain : ∀ ns : List Int, ns.length ≤ 63 → ∃ st, s_law [.fzl (ns.map DV.int)] [] = .ok (.bl true) st)
    {C_Classes : Addr}
    {f0 : Addr} {od0 an0 : Option Addr} {sl0 : Array (Option Value)} {oc0 kV0 dc0 pm0 cd0 ct0 : Value}
    {f1 : Addr} {od1 an1 : Option Addr} {sl1 : Array (Option Value)} {oc1 kV1 dc1 pm1 cd1 ct1 : Value}
    {f2 : Addr} {od2 an2 : Option Addr} {sl2 : Array (Option Value)} {oc2 kV2 dc2 pm2 cd2 ct2 : Value}
    {f3 : Addr} {od3 an3 : Option Addr} {sl3 : Array (Option Value)} {oc3 kV3 dc3 pm3 cd3 ct3 : Value}
    {f4 : Addr} {od4 an4 : Option Addr} {sl4 : Array (Option Value)} {oc4 kV4 dc4 pm4 cd4 ct4 : Value}
    {f5 : Addr} {od5 an5 : Option Addr} {sl5 : Array (Option Value)} {oc5 kV5 dc5 pm5 cd5 ct5 : Value}
    {f6 : Addr} {od6 an6 : Option Addr} {sl6 : Array (Option Value)} {oc6 kV6 dc6 pm6 cd6 ct6 : Value}
    {f7 : Addr} {od7 an7 : Option Addr} {sl7 : Array (Option Value)} {oc7 kV7 dc7 pm7 cd7 ct7 : Value}
    {f8 : Addr} {od8 an8 : Option Addr} {sl8 : Array (Option Value)} {oc8 kV8 dc8 pm8 cd8 ct8 : Value}
    {f9 : Addr} {od9 an9 : Option Addr} {sl9 : Array (Option Value)} {oc9 kV9 dc9 pm9 cd9 ct9 : Value}
    {f10 : Addr} {od10 an10 : Option Addr} {sl10 : Array (Option Value)} {oc10 kV10 dc10 pm10 cd10 ct10 : Value}
    {f11 : Addr} {od11 an11 : Option Addr} {sl11 : Array (Option Value)} {oc11 kV11 dc11 pm11 cd11 ct11 : Value}
    {f12 : Addr} {od12 an12 : Option Addr} {sl12 : Array (Option Value)} {oc12 kV12 dc12 pm12 cd12 ct12 : Value}
    {f13 : Addr} {od13 an13 : Option Addr} {sl13 : Array (Option Value)} {oc13 kV13 dc13 pm13 cd13 ct13 : Value}
    {f14 : Addr} {od14 an14 : Option Addr} {sl14 : Array (Option Value)} {oc14 kV14 dc14 pm14 cd14 ct14 : Value}
    {f15 : Addr} {od15 an15 : Option Addr} {sl15 : Array (Option Value)} {oc15 kV15 dc15 pm15 cd15 ct15 : Value}
    {f16 : Addr} {od16 an16 : Option Addr} {sl16 : Array (Option Value)} {oc16 kV16 dc16 pm16 cd16 ct16 : Value}
    {f17 : Addr} {od17 an17 : Option Addr} {sl17 : Array (Option Value)} {oc17 kV17 dc17 pm17 cd17 ct17 : Value}
    {f18 : Addr} {od18 an18 : Option Addr} {sl18 : Array (Option Value)} {oc18 kV18 dc18 pm18 cd18 ct18 : Value}
    {f19 : Addr} {od19 an19 : Option Addr} {sl19 : Array (Option Value)} {oc19 kV19 dc19 pm19 cd19 ct19 : Value}
    {f20 : Addr} {od20 an20 : Option Addr} {sl20 : Array (Option Value)} {oc20 kV20 dc20 pm20 cd20 ct20 : Value}
    {f21 : Addr} {od21 an21 : Option Addr} {sl21 : Array (Option Value)} {oc21 kV21 dc21 pm21 cd21 ct21 : Value}
    {f22 : Addr} {od22 an22 : Option Addr} {sl22 : Array (Option Value)} {oc22 kV22 dc22 pm22 cd22 ct22 : Value}
    {f23 : Addr} {od23 an23 : Option Addr} {sl23 : Array (Option Value)} {oc23 kV23 dc23 pm23 cd23 ct23 : Value}
    {f24 : Addr} {od24 an24 : Option Addr} {sl24 : Array (Option Value)} {oc24 kV24 dc24 pm24 cd24 ct24 : Value}
    {f25 : Addr} {od25 an25 : Option Addr} {sl25 : Array (Option Value)} {oc25 kV25 dc25 pm25 cd25 ct25 : Value}
    {ct_FEW : Tok}
    {ct_LOW : Tok}
    {ct_MANY : Tok}
    (ac_Classes : PySem.W.nsIn K mainGlobals "Classes" = some (some (.ref C_Classes))) (pg_Classes : PySem.W.plainGet K C_Classes Str.empty = true) (hd_Classes : PySem.W.hasDictIn K C_Classes = true) (po_Classes : PySem.W.plainOver K C_Classes = true) (sa_Classes : PySem.W.findIn K (.ref C_Classes) "__setattr__" = some (some (.builtin "object.__setattr__"))) (mk_Classes : PySem.W.makesIn K C_Classes = true) (kc_Classes : PySem.W.keepIn K (.ref C_Classes) = true)
    (nf_Classes_lows : PySem.W.findIn K (.ref C_Classes) "lows" = some none)
    (nf_Classes_members : PySem.W.findIn K (.ref C_Classes) "members" = some none)
    (nf_Classes_roots : PySem.W.findIn K (.ref C_Classes) "roots" = some none)
    (a0 : PySem.W.findIn K (.ref C_Classes) "__init__" = some (some (.ref f0))) (i0 : PySem.W.isFn K (.ref f0) = true)
    (l0 : K.lookup f0 = some ⟨oc0, od0, .func (PySem.W.fnOf "__init__" "Classes.__init__" (defArgs t_Classes_init) (defBody t_Classes_init) (defScope t_Classes_init) .none kV0 dc0 pm0 an0 cd0 ct0), sl0⟩) (c0 : PySem.W.codeIn K cd0 "Classes.__init__" = true) (k0 : PySem.W.keepIn K (.ref f0) = true)
    (a1 : PySem.W.findIn K (.ref C_Classes) "low" = some (some (.ref f1))) (i1 : PySem.W.isFn K (.ref f1) = true)
    (l1 : K.lookup f1 = some ⟨oc1, od1, .func (PySem.W.fnOf "low" "Classes.low" (defArgs t_Classes_low) (defBody t_Classes_low) (defScope t_Classes_low) .none kV1 dc1 pm1 an1 cd1 ct1), sl1⟩) (c1 : PySem.W.codeIn K cd1 "Classes.low" = true) (k1 : PySem.W.keepIn K (.ref f1) = true)
    (a2 : PySem.W.findIn K (.ref C_Classes) "root" = some (some (.ref f2))) (i2 : PySem.W.isFn K (.ref f2) = true)
    (l2 : K.lookup f2 = some ⟨oc2, od2, .func (PySem.W.fnOf "root" "Classes.root" (defArgs t_Classes_root) (defBody t_Classes_root) (defScope t_Classes_root) .none kV2 dc2 pm2 an2 cd2 ct2), sl2⟩) (c2 : PySem.W.codeIn K cd2 "Classes.root" = true) (k2 : PySem.W.keepIn K (.ref f2) = true)
    (a3 : PySem.W.findIn K (.ref C_Classes) "join" = some (some (.ref f3))) (i3 : PySem.W.isFn K (.ref f3) = true)
    (l3 : K.lookup f3 = some ⟨oc3, od3, .func (PySem.W.fnOf "join" "Classes.join" (defArgs t_Classes_join) (defBody t_Classes_join) (defScope t_Classes_join) .none kV3 dc3 pm3 an3 cd3 ct3), sl3⟩) (c3 : PySem.W.codeIn K cd3 "Classes.join" = true) (k3 : PySem.W.keepIn K (.ref f3) = true)
    (a4 : PySem.W.findIn K (.ref C_Classes) "least" = some (some (.ref f4))) (i4 : PySem.W.isFn K (.ref f4) = true)
    (l4 : K.lookup f4 = some ⟨oc4, od4, .func (PySem.W.fnOf "least" "Classes.least" (defArgs t_Classes_least) (defBody t_Classes_least) (defScope t_Classes_least) .none kV4 dc4 pm4 an4 cd4 ct4), sl4⟩) (c4 : PySem.W.codeIn K cd4 "Classes.least" = true) (k4 : PySem.W.keepIn K (.ref f4) = true)
    (a5 : PySem.W.nsIn K mainGlobals "_law_both" = some (some (.ref f5)))
    (l5 : K.lookup f5 = some ⟨oc5, od5, .func (PySem.W.fnOf "_law_both" "_law_both" (defArgs t__law_both) (defBody t__law_both) (defScope t__law_both) .none kV5 dc5 pm5 an5 cd5 ct5), sl5⟩) (c5 : PySem.W.codeIn K cd5 "_law_both" = true) (k5 : PySem.W.keepIn K (.ref f5) = true)
    (a6 : PySem.W.nsIn K mainGlobals "_law_come" = some (some (.ref f6)))
    (l6 : K.lookup f6 = some ⟨oc6, od6, .func (PySem.W.fnOf "_law_come" "_law_come" (defArgs t__law_come) (defBody t__law_come) (defScope t__law_come) .none kV6 dc6 pm6 an6 cd6 ct6), sl6⟩) (c6 : PySem.W.codeIn K cd6 "_law_come" = true) (k6 : PySem.W.keepIn K (.ref f6) = true)
    (a7 : PySem.W.nsIn K mainGlobals "_law_due" = some (some (.ref f7)))
    (l7 : K.lookup f7 = some ⟨oc7, od7, .func (PySem.W.fnOf "_law_due" "_law_due" (defArgs t__law_due) (defBody t__law_due) (defScope t__law_due) .none kV7 dc7 pm7 an7 cd7 ct7), sl7⟩) (c7 : PySem.W.codeIn K cd7 "_law_due" = true) (k7 : PySem.W.keepIn K (.ref f7) = true)
    (a8 : PySem.W.nsIn K mainGlobals "_law_joined" = some (some (.ref f8)))
    (l8 : K.lookup f8 = some ⟨oc8, od8, .func (PySem.W.fnOf "_law_joined" "_law_joined" (defArgs t__law_joined) (defBody t__law_joined) (defScope t__law_joined) .none kV8 dc8 pm8 an8 cd8 ct8), sl8⟩) (c8 : PySem.W.codeIn K cd8 "_law_joined" = true) (k8 : PySem.W.keepIn K (.ref f8) = true)
    (a9 : PySem.W.nsIn K mainGlobals "_law_net" = some (some (.ref f9)))
    (l9 : K.lookup f9 = some ⟨oc9, od9, .func (PySem.W.fnOf "_law_net" "_law_net" (defArgs t__law_net) (defBody t__law_net) (defScope t__law_net) .none kV9 dc9 pm9 an9 cd9 ct9), sl9⟩) (c9 : PySem.W.codeIn K cd9 "_law_net" = true) (k9 : PySem.W.keepIn K (.ref f9) = true)
    (a10 : PySem.W.nsIn K mainGlobals "_law_row" = some (some (.ref f10)))
    (l10 : K.lookup f10 = some ⟨oc10, od10, .func (PySem.W.fnOf "_law_row" "_law_row" (defArgs t__law_row) (defBody t__law_row) (defScope t__law_row) .none kV10 dc10 pm10 an10 cd10 ct10), sl10⟩) (c10 : PySem.W.codeIn K cd10 "_law_row" = true) (k10 : PySem.W.keepIn K (.ref f10) = true)
    (a11 : PySem.W.nsIn K mainGlobals "_law_step" = some (some (.ref f11)))
    (l11 : K.lookup f11 = some ⟨oc11, od11, .func (PySem.W.fnOf "_law_step" "_law_step" (defArgs t__law_step) (defBody t__law_step) (defScope t__law_step) .none kV11 dc11 pm11 an11 cd11 ct11), sl11⟩) (c11 : PySem.W.codeIn K cd11 "_law_step" = true) (k11 : PySem.W.keepIn K (.ref f11) = true)
    (a12 : PySem.W.nsIn K mainGlobals "_law_tree" = some (some (.ref f12)))
    (l12 : K.lookup f12 = some ⟨oc12, od12, .func (PySem.W.fnOf "_law_tree" "_law_tree" (defArgs t__law_tree) (defBody t__law_tree) (defScope t__law_tree) .none kV12 dc12 pm12 an12 cd12 ct12), sl12⟩) (c12 : PySem.W.codeIn K cd12 "_law_tree" = true) (k12 : PySem.W.keepIn K (.ref f12) = true)
    (a13 : PySem.W.nsIn K mainGlobals "is_whole" = some (some (.ref f13)))
    (l13 : K.lookup f13 = some ⟨oc13, od13, .func (PySem.W.fnOf "is_whole" "is_whole" (defArgs t_is_whole) (defBody t_is_whole) (defScope t_is_whole) .none kV13 dc13 pm13 an13 cd13 ct13), sl13⟩) (c13 : PySem.W.codeIn K cd13 "is_whole" = true) (k13 : PySem.W.keepIn K (.ref f13) = true)
    (a14 : PySem.W.nsIn K mainGlobals "is_end" = some (some (.ref f14)))
    (l14 : K.lookup f14 = some ⟨oc14, od14, .func (PySem.W.fnOf "is_end" "is_end" (defArgs t_is_end) (defBody t_is_end) (defScope t_is_end) .none kV14 dc14 pm14 an14 cd14 ct14), sl14⟩) (c14 : PySem.W.codeIn K cd14 "is_end" = true) (k14 : PySem.W.keepIn K (.ref f14) = true)
    (a15 : PySem.W.nsIn K mainGlobals "is_step" = some (some (.ref f15)))
    (l15 : K.lookup f15 = some ⟨oc15, od15, .func (PySem.W.fnOf "is_step" "is_step" (defArgs t_is_step) (defBody t_is_step) (defScope t_is_step) .none kV15 dc15 pm15 an15 cd15 ct15), sl15⟩) (c15 : PySem.W.codeIn K cd15 "is_step" = true) (k15 : PySem.W.keepIn K (.ref f15) = true)
    (a16 : PySem.W.nsIn K mainGlobals "leaf_ends" = some (some (.ref f16)))
    (l16 : K.lookup f16 = some ⟨oc16, od16, .func (PySem.W.fnOf "leaf_ends" "leaf_ends" (defArgs t_leaf_ends) (defBody t_leaf_ends) (defScope t_leaf_ends) .none kV16 dc16 pm16 an16 cd16 ct16), sl16⟩) (c16 : PySem.W.codeIn K cd16 "leaf_ends" = true) (k16 : PySem.W.keepIn K (.ref f16) = true)
    (a17 : PySem.W.nsIn K mainGlobals "cone" = some (some (.ref f17)))
    (l17 : K.lookup f17 = some ⟨oc17, od17, .func (PySem.W.fnOf "cone" "cone" (defArgs t_cone) (defBody t_cone) (defScope t_cone) .none kV17 dc17 pm17 an17 cd17 ct17), sl17⟩) (c17 : PySem.W.codeIn K cd17 "cone" = true) (k17 : PySem.W.keepIn K (.ref f17) = true)
    (a18 : PySem.W.nsIn K mainGlobals "row_set" = some (some (.ref f18)))
    (l18 : K.lookup f18 = some ⟨oc18, od18, .func (PySem.W.fnOf "row_set" "row_set" (defArgs t_row_set) (defBody t_row_set) (defScope t_row_set) .none kV18 dc18 pm18 an18 cd18 ct18), sl18⟩) (c18 : PySem.W.codeIn K cd18 "row_set" = true) (k18 : PySem.W.keepIn K (.ref f18) = true)
    (a19 : PySem.W.nsIn K mainGlobals "together" = some (some (.ref f19)))
    (l19 : K.lookup f19 = some ⟨oc19, od19, .func (PySem.W.fnOf "together" "together" (defArgs t_together) (defBody t_together) (defScope t_together) .none kV19 dc19 pm19 an19 cd19 ct19), sl19⟩) (c19 : PySem.W.codeIn K cd19 "together" = true) (k19 : PySem.W.keepIn K (.ref f19) = true)
    (a20 : PySem.W.nsIn K mainGlobals "row_good" = some (some (.ref f20)))
    (l20 : K.lookup f20 = some ⟨oc20, od20, .func (PySem.W.fnOf "row_good" "row_good" (defArgs t_row_good) (defBody t_row_good) (defScope t_row_good) .none kV20 dc20 pm20 an20 cd20 ct20), sl20⟩) (c20 : PySem.W.codeIn K cd20 "row_good" = true) (k20 : PySem.W.keepIn K (.ref f20) = true)
    (a21 : PySem.W.nsIn K mainGlobals "pattern" = some (some (.ref f21)))
    (l21 : K.lookup f21 = some ⟨oc21, od21, .func (PySem.W.fnOf "pattern" "pattern" (defArgs t_pattern) (defBody t_pattern) (defScope t_pattern) .none kV21 dc21 pm21 an21 cd21 ct21), sl21⟩) (c21 : PySem.W.codeIn K cd21 "pattern" = true) (k21 : PySem.W.keepIn K (.ref f21) = true)
    (a22 : PySem.W.nsIn K mainGlobals "stand_bits" = some (some (.ref f22)))
    (l22 : K.lookup f22 = some ⟨oc22, od22, .func (PySem.W.fnOf "stand_bits" "stand_bits" (defArgs t_stand_bits) (defBody t_stand_bits) (defScope t_stand_bits) .none kV22 dc22 pm22 an22 cd22 ct22), sl22⟩) (c22 : PySem.W.codeIn K cd22 "stand_bits" = true) (k22 : PySem.W.keepIn K (.ref f22) = true)
    (a23 : PySem.W.nsIn K mainGlobals "stands_good" = some (some (.ref f23)))
    (l23 : K.lookup f23 = some ⟨oc23, od23, .func (PySem.W.fnOf "stands_good" "stands_good" (defArgs t_stands_good) (defBody t_stands_good) (defScope t_stands_good) .none kV23 dc23 pm23 an23 cd23 ct23), sl23⟩) (c23 : PySem.W.codeIn K cd23 "stands_good" = true) (k23 : PySem.W.keepIn K (.ref f23) = true)
    (a24 : PySem.W.nsIn K mainGlobals "is_good" = some (some (.ref f24)))
    (l24 : K.lookup f24 = some ⟨oc24, od24, .func (PySem.W.fnOf "is_good" "is_good" (defArgs t_is_good) (defBody t_is_good) (defScope t_is_good) .none kV24 dc24 pm24 an24 cd24 ct24), sl24⟩) (c24 : PySem.W.codeIn K cd24 "is_good" = true) (k24 : PySem.W.keepIn K (.ref f24) = true)
    (a25 : PySem.W.nsIn K mainGlobals "law" = some (some (.ref f25)))
    (l25 : K.lookup f25 = some ⟨oc25, od25, .func (PySem.W.fnOf "law" "law" (defArgs t_law) (defBody t_law) (defScope t_law) .none kV25 dc25 pm25 an25 cd25 ct25), sl25⟩) (c25 : PySem.W.codeIn K cd25 "law" = true) (k25 : PySem.W.keepIn K (.ref f25) = true)
    (z_abs : PySem.W.nsIn K mainGlobals "abs" = some none)
    (z_all : PySem.W.nsIn K mainGlobals "all" = some none)
    (z_bool : PySem.W.nsIn K mainGlobals "bool" = some none)
    (z_enumerate : PySem.W.nsIn K mainGlobals "enumerate" = some none)
    (z_int : PySem.W.nsIn K mainGlobals "int" = some none)
    (z_isinstance : PySem.W.nsIn K mainGlobals "isinstance" = some none)
    (z_len : PySem.W.nsIn K mainGlobals "len" = some none)
    (z_list : PySem.W.nsIn K mainGlobals "list" = some none)
    (z_max : PySem.W.nsIn K mainGlobals "max" = some none)
    (z_min : PySem.W.nsIn K mainGlobals "min" = some none)
    (z_range : PySem.W.nsIn K mainGlobals "range" = some none)
    (z_set : PySem.W.nsIn K mainGlobals "set" = some none)
    (z_sorted : PySem.W.nsIn K mainGlobals "sorted" = some none)
    (z_tuple : PySem.W.nsIn K mainGlobals "tuple" = some none)
    (cz_FEW : PySem.W.nsIn K mainGlobals "FEW" = some (some (.int (6) ct_FEW)))
    (cz_LOW : PySem.W.nsIn K mainGlobals "LOW" = some (some (.int (-1) ct_LOW)))
    (cz_MANY : PySem.W.nsIn K mainGlobals "MANY" = some (some (.int (64) ct_MANY))) :
    ∃ fd : FuncData, (∀ (s : Shared) (v : Value), BindsTo s fd ⟨[v], []⟩ [("_law_script", v)]) ∧ ∀ base : Heap, K.In base → base.Ns mainGlobals mg → FnOk l.prog w K mg base (L2N.CX l.prog w) 6 fa fd ["_law_script"] (spL K 63) := by
  have e := hfa.symm.trans (PySem.W.mg_of X G a25)
  cases e
  have cl_Classes : Cls K C_Classes := ⟨pg_Classes, hd_Classes, po_Classes, sa_Classes⟩
  have gc_Classes := PySem.W.mg_of X G ac_Classes
  have T : Txt w K mg := ⟨PySem.W.mg_none_of X G z_abs, PySem.W.mg_none_of X G z_all, PySem.W.mg_none_of X G z_bool, PySem.W.mg_none_of X G z_enumerate, PySem.W.mg_none_of X G z_int, PySem.W.mg_none_of X G z_isinstance, PySem.W.mg_none_of X G z_len, PySem.W.mg_none_of X G z_list, PySem.W.mg_none_of X G z_max, PySem.W.mg_none_of X G z_min, PySem.W.mg_none_of X G z_range, PySem.W.mg_none_of X G z_set, PySem.W.mg_none_of X G z_sorted, PySem.W.mg_none_of X G z_tuple, gc_int X G cz_FEW, gc_int X G cz_LOW, gc_int X G cz_MANY, kf_of gc_Classes cl_Classes nf_Classes_lows, kf_of gc_Classes cl_Classes nf_Classes_members, kf_of gc_Classes cl_Classes nf_Classes_roots, trivial⟩
  have F0 := fun_mk (st := t_Classes_init) l0 c0 k0
  have b0 := F0.binds (ps := ["self", "knots"]) fun _ _ _ _ _ _ us hl => match us, hl with | [_, _], _ => rfl
  have F1 := fun_mk (st := t_Classes_low) l1 c1 k1
  have b1 := F1.binds (ps := ["self", "root"]) fun _ _ _ _ _ _ us hl => match us, hl with | [_, _], _ => rfl
  have F2 := fun_mk (st := t_Classes_root) l2 c2 k2
  have b2 := F2.binds (ps := ["self", "end"]) fun _ _ _ _ _ _ us hl => match us, hl with | [_, _], _ => rfl
  have F3 := fun_mk (st := t_Classes_join) l3 c3 k3
  have b3 := F3.binds (ps := ["self", "one", "other"]) fun _ _ _ _ _ _ us hl => match us, hl with | [_, _, _], _ => rfl
  have F4 := fun_mk (st := t_Classes_least) l4 c4 k4
  have b4 := F4.binds (ps := ["self", "end"]) fun _ _ _ _ _ _ us hl => match us, hl with | [_, _], _ => rfl
  have F5 := fun_mk (st := t__law_both) l5 c5 k5
  have b5 := F5.binds (ps := ["_law_mine", "_law_yours"]) fun _ _ _ _ _ _ us hl => match us, hl with | [_, _], _ => rfl
  have F6 := fun_mk (st := t__law_come) l6 c6 k6
  have b6 := F6.binds (ps := ["_law_labels", "_law_leaves", "_law_sets", "_law_end"]) fun _ _ _ _ _ _ us hl => match us, hl with | [_, _, _, _], _ => rfl
  have F7 := fun_mk (st := t__law_due) l7 c7 k7
  have b7 := F7.binds (ps := ["_law_net_here", "_law_labels", "_law_step_here"]) fun _ _ _ _ _ _ us hl => match us, hl with | [_, _, _], _ => rfl
  have F8 := fun_mk (st := t__law_joined) l8 c8 k8
  have b8 := F8.binds (ps := ["_law_labels", "_law_one", "_law_other"]) fun _ _ _ _ _ _ us hl => match us, hl with | [_, _, _], _ => rfl
  have F9 := fun_mk (st := t__law_net) l9 c9 k9
  have b9 := F9.binds (ps := ["_law_row_here", "_law_sizes"]) fun _ _ _ _ _ _ us hl => match us, hl with | [_, _], _ => rfl
  have F10 := fun_mk (st := t__law_row) l10 c10 k10
  have b10 := F10.binds (ps := ["_law_script", "_law_at", "_law_many"]) fun _ _ _ _ _ _ us hl => match us, hl with | [_, _, _], _ => rfl
  have F11 := fun_mk (st := t__law_step) l11 c11 k11
  have b11 := F11.binds (ps := ["_law_net_here", "_law_row_here", "_law_tops", "_law_ends"]) fun _ _ _ _ _ _ us hl => match us, hl with | [_, _, _, _], _ => rfl
  have F12 := fun_mk (st := t__law_tree) l12 c12 k12
  have b12 := F12.binds (ps := ["_law_net_here", "_law_ends", "_law_left"]) fun _ _ _ _ _ _ us hl => match us, hl with | [_, _, _], _ => rfl
  have F13 := fun_mk (st := t_is_whole) l13 c13 k13
  have b13 := F13.binds (ps := ["thing"]) fun _ _ _ _ _ _ us hl => match us, hl with | [_], _ => rfl
  have F14 := fun_mk (st := t_is_end) l14 c14 k14
  have b14 := F14.binds (ps := ["thing", "knots"]) fun _ _ _ _ _ _ us hl => match us, hl with | [_, _], _ => rfl
  have F15 := fun_mk (st := t_is_step) l15 c15 k15
  have b15 := F15.binds (ps := ["net", "thing"]) fun _ _ _ _ _ _ us hl => match us, hl with | [_, _], _ => rfl
  have F16 := fun_mk (st := t_leaf_ends) l16 c16 k16
  have b16 := F16.binds (ps := ["classes", "leaves"]) fun _ _ _ _ _ _ us hl => match us, hl with | [_, _], _ => rfl
  have F17 := fun_mk (st := t_cone) l17 c17 k17
  have b17 := F17.binds (ps := ["net", "classes", "places", "ends"]) fun _ _ _ _ _ _ us hl => match us, hl with | [_, _, _, _], _ => rfl
  have F18 := fun_mk (st := t_row_set) l18 c18 k18
  have b18 := F18.binds (ps := ["classes", "places", "sets", "end"]) fun _ _ _ _ _ _ us hl => match us, hl with | [_, _, _, _], _ => rfl
  have F19 := fun_mk (st := t_together) l19 c19 k19
  have b19 := F19.binds (ps := ["mine", "yours", "pairs"]) fun _ _ _ _ _ _ us hl => match us, hl with | [_, _, _], _ => rfl
  have F20 := fun_mk (st := t_row_good) l20 c20 k20
  have b20 := F20.binds (ps := ["net", "classes", "step", "places"]) fun _ _ _ _ _ _ us hl => match us, hl with | [_, _, _, _], _ => rfl
  have F21 := fun_mk (st := t_pattern) l21 c21 k21
  have b21 := F21.binds (ps := ["place", "many"]) fun _ _ _ _ _ _ us hl => match us, hl with | [_, _], _ => rfl
  have F22 := fun_mk (st := t_stand_bits) l22 c22 k22
  have b22 := F22.binds (ps := ["classes", "places", "words", "ones", "end"]) fun _ _ _ _ _ _ us hl => match us, hl with | [_, _, _, _, _], _ => rfl
  have F23 := fun_mk (st := t_stands_good) l23 c23 k23
  have b23 := F23.binds (ps := ["net", "classes", "step", "places"]) fun _ _ _ _ _ _ us hl => match us, hl with | [_, _, _, _], _ => rfl
  have F24 := fun_mk (st := t_is_good) l24 c24 k24
  have b24 := F24.binds (ps := ["net", "classes", "step"]) fun _ _ _ _ _ _ us hl => match us, hl with | [_, _, _], _ => rfl
  have F25 := fun_mk (st := t_law) l25 c25 k25
  have b25 := F25.binds (ps := ["_law_script"]) fun _ _ _ _ _ _ us hl => match us, hl with | [_], _ => rfl
  refine ⟨PySem.W.fnOf "law" "law" (defArgs t_law) (defBody t_law) (defScope t_law) .none kV25 dc25 pm25 an25 cd25 ct25, fun s v => .of_eq rfl, fun base _ _ => ?_⟩
  have h_Classes_init : MkC l.prog w K mg base "Classes" 1 ["self", "knots"] s_Classes_init := ⟨_, _, _, ⟨mk_Classes, a0, i0, kc_Classes⟩, ok_Classes_init F0 T , gc_Classes, b0⟩
  have h_Classes_low : MeC l.prog w K mg base "Classes" "low" 1 ["self", "root"] s_Classes_low := ⟨_, _, km_of gc_Classes cl_Classes ⟨a1, i1, k1⟩, ok_Classes_low F1 T , b1⟩
  have h_Classes_root : MeC l.prog w K mg base "Classes" "root" 1 ["self", "end"] s_Classes_root := ⟨_, _, km_of gc_Classes cl_Classes ⟨a2, i2, k2⟩, ok_Classes_root F2 T , b2⟩
  have h_Classes_join : MeC l.prog w K mg base "Classes" "join" 2 ["self", "one", "other"] s_Classes_join := ⟨_, _, km_of gc_Classes cl_Classes ⟨a3, i3, k3⟩, ok_Classes_join F3 T h_Classes_low h_Classes_root, b3⟩
  have h_Classes_least : MeC l.prog w K mg base "Classes" "least" 2 ["self", "end"] s_Classes_least := ⟨_, _, km_of gc_Classes cl_Classes ⟨a4, i4, k4⟩, ok_Classes_least F4 T h_Classes_low h_Classes_root, b4⟩
  have h__law_both : Fn l.prog w K mg base "_law_both" 1 ["_law_mine", "_law_yours"] s__law_both := ⟨_, _, ok__law_both F5 T , PySem.W.mg_of X G a5, F5.kp, b5⟩
  have h__law_come : Fn l.prog w K mg base "_law_come" 1 ["_law_labels", "_law_leaves", "_law_sets", "_law_end"] s__law_come := ⟨_, _, ok__law_come F6 T , PySem.W.mg_of X G a6, F6.kp, b6⟩
  have h__law_due : Fn l.prog w K mg base "_law_due" 2 ["_law_net_here", "_law_labels", "_law_step_here"] s__law_due := ⟨_, _, ok__law_due F7 T h__law_both h__law_come, PySem.W.mg_of X G a7, F7.kp, b7⟩
  have h__law_joined : Fn l.prog w K mg base "_law_joined" 1 ["_law_labels", "_law_one", "_law_other"] s__law_joined := ⟨_, _, ok__law_joined F8 T , PySem.W.mg_of X G a8, F8.kp, b8⟩
  have h__law_net : Fn l.prog w K mg base "_law_net" 1 ["_law_row_here", "_law_sizes"] s__law_net := ⟨_, _, ok__law_net F9 T , PySem.W.mg_of X G a9, F9.kp, b9⟩
  have h__law_row : Fn l.prog w K mg base "_law_row" 1 ["_law_script", "_law_at", "_law_many"] s__law_row := ⟨_, _, ok__law_row F10 T , PySem.W.mg_of X G a10, F10.kp, b10⟩
  have h__law_step : Fn l.prog w K mg base "_law_step" 1 ["_law_net_here", "_law_row_here", "_law_tops", "_law_ends"] s__law_step := ⟨_, _, ok__law_step F11 T , PySem.W.mg_of X G a11, F11.kp, b11⟩
  have h__law_tree : Fn l.prog w K mg base "_law_tree" 1 ["_law_net_here", "_law_ends", "_law_left"] s__law_tree := ⟨_, _, ok__law_tree F12 T , PySem.W.mg_of X G a12, F12.kp, b12⟩
  have h_is_whole : Fn l.prog w K mg base "is_whole" 1 ["thing"] s_is_whole := ⟨_, _, ok_is_whole F13 T , PySem.W.mg_of X G a13, F13.kp, b13⟩
  have h_is_end : Fn l.prog w K mg base "is_end" 2 ["thing", "knots"] s_is_end := ⟨_, _, ok_is_end F14 T h_is_whole, PySem.W.mg_of X G a14, F14.kp, b14⟩
  have h_is_step : Fn l.prog w K mg base "is_step" 3 ["net", "thing"] s_is_step := ⟨_, _, ok_is_step F15 T h_is_end, PySem.W.mg_of X G a15, F15.kp, b15⟩
  have h_leaf_ends : Fn l.prog w K mg base "leaf_ends" 3 ["classes", "leaves"] s_leaf_ends := ⟨_, _, ok_leaf_ends F16 T h_Classes_least, PySem.W.mg_of X G a16, F16.kp, b16⟩
  have h_cone : Fn l.prog w K mg base "cone" 3 ["net", "classes", "places", "ends"] s_cone := ⟨_, _, ok_cone F17 T h_Classes_least, PySem.W.mg_of X G a17, F17.kp, b17⟩
  have h_row_set : Fn l.prog w K mg base "row_set" 3 ["classes", "places", "sets", "end"] s_row_set := ⟨_, _, ok_row_set F18 T h_Classes_least, PySem.W.mg_of X G a18, F18.kp, b18⟩
  have h_together : Fn l.prog w K mg base "together" 1 ["mine", "yours", "pairs"] s_together := ⟨_, _, ok_together F19 T , PySem.W.mg_of X G a19, F19.kp, b19⟩
  have h_row_good : Fn l.prog w K mg base "row_good" 4 ["net", "classes", "step", "places"] s_row_good := ⟨_, _, ok_row_good F20 T h_cone h_row_set h_together, PySem.W.mg_of X G a20, F20.kp, b20⟩
  have h_pattern : Fn l.prog w K mg base "pattern" 1 ["place", "many"] s_pattern := ⟨_, _, ok_pattern F21 T , PySem.W.mg_of X G a21, F21.kp, b21⟩
  have h_stand_bits : Fn l.prog w K mg base "stand_bits" 3 ["classes", "places", "words", "ones", "end"] s_stand_bits := ⟨_, _, ok_stand_bits F22 T h_Classes_least, PySem.W.mg_of X G a22, F22.kp, b22⟩
  have h_stands_good : Fn l.prog w K mg base "stands_good" 4 ["net", "classes", "step", "places"] s_stands_good := ⟨_, _, ok_stands_good F23 T h_cone h_pattern h_stand_bits, PySem.W.mg_of X G a23, F23.kp, b23⟩
  have h_is_good : Fn l.prog w K mg base "is_good" 5 ["net", "classes", "step"] s_is_good := ⟨_, _, ok_is_good F24 T h_is_step h_leaf_ends h_row_good h_stands_good, PySem.W.mg_of X G a24, F24.kp, b24⟩
  exact law_ok (ok_law F25 T h_Classes_init h_Classes_join h_Classes_least h__law_due h__law_joined h__law_net h__law_row h__law_step h__law_tree h_is_good) hmain
end LK
open PySem PySem.W PyProof.Rows
set_option maxHeartbeats 0 in
theorem PySem.Challenge.cw_lampforge_k37_rows_good_or_not_holds : PySem.Challenge.rw_lampforge_k37_rows_good_or_not.Holds := by
  w_on; o_law; k_head; (case hw => w_witness2)
  k_fill
  refine L2.walk_of (l := PySem.Challenge.rw_lampforge_k37_rows_good_or_not) (n := 63) (k := 6) (x := "_law_script") (CX := fun w => L2N.CX _ w) (sp := fun w => ML.spL _ 63) rfl (by decide) rfl ⟨rfl, by decide, by decide⟩ (fun w h Y => PySem.W.kIn_of Y) ?F (fun _ _ a ns hl ho hS => ⟨a, ns, rfl, hl, ho, hS, fun _ => rfl⟩) (fun _ _ _ _ _ h => ML.cx_none (P := PySem.Challenge.rw_lampforge_k37_rows_good_or_not.prog) h)
  case F =>
    intro w mg fa h KX G hmg
    refine' LK.all_mk KX G hmg LK.main ?ac_Classes ?pg_Classes ?hd_Classes ?po_Classes ?sa_Classes ?mk_Classes ?kc_Classes ?nf_Classes_lows ?nf_Classes_members ?nf_Classes_roots ?a0 ?i0 ?l0 ?c0 ?k0 ?a1 ?i1 ?l1 ?c1 ?k1 ?a2 ?i2 ?l2 ?c2 ?k2 ?a3 ?i3 ?l3 ?c3 ?k3 ?a4 ?i4 ?l4 ?c4 ?k4 ?a5 ?l5 ?c5 ?k5 ?a6 ?l6 ?c6 ?k6 ?a7 ?l7 ?c7 ?k7 ?a8 ?l8 ?c8 ?k8 ?a9 ?l9 ?c9 ?k9 ?a10 ?l10 ?c10 ?k10 ?a11 ?l11 ?c11 ?k11 ?a12 ?l12 ?c12 ?k12 ?a13 ?l13 ?c13 ?k13 ?a14 ?l14 ?c14 ?k14 ?a15 ?l15 ?c15 ?k15 ?a16 ?l16 ?c16 ?k16 ?a17 ?l17 ?c17 ?k17 ?a18 ?l18 ?c18 ?k18 ?a19 ?l19 ?c19 ?k19 ?a20 ?l20 ?c20 ?k20 ?a21 ?l21 ?c21 ?k21 ?a22 ?l22 ?c22 ?k22 ?a23 ?l23 ?c23 ?k23 ?a24 ?l24 ?c24 ?k24 ?a25 ?l25 ?c25 ?k25 ?z_abs ?z_all ?z_bool ?z_enumerate ?z_int ?z_isinstance ?z_len ?z_list ?z_max ?z_min ?z_range ?z_set ?z_sorted ?z_tuple ?cz_FEW ?cz_LOW ?cz_MANY
    (case ac_Classes => k_is)
    (case pg_Classes => k_is)
    (case hd_Classes => k_is)
    (case po_Classes => k_is)
    (case sa_Classes => k_is)
    (case mk_Classes => k_is)
    (case kc_Classes => k_is)
    (case nf_Classes_lows => k_is)
    (case nf_Classes_members => k_is)
    (case nf_Classes_roots => k_is)
    (case a0 => k_is)
    (case i0 => k_is)
    (case l0 => k_is)
    (case c0 => k_is)
    (case k0 => k_is)
    (case a1 => k_is)
    (case i1 => k_is)
    (case l1 => k_is)
    (case c1 => k_is)
    (case k1 => k_is)
    (case a2 => k_is)
    (case i2 => k_is)
    (case l2 => k_is)
    (case c2 => k_is)
    (case k2 => k_is)
    (case a3 => k_is)
    (case i3 => k_is)
    (case l3 => k_is)
    (case c3 => k_is)
    (case k3 => k_is)
    (case a4 => k_is)
    (case i4 => k_is)
    (case l4 => k_is)
    (case c4 => k_is)
    (case k4 => k_is)
    (case a5 => k_is)
    (case l5 => k_is)
    (case c5 => k_is)
    (case k5 => k_is)
    (case a6 => k_is)
    (case l6 => k_is)
    (case c6 => k_is)
    (case k6 => k_is)
    (case a7 => k_is)
    (case l7 => k_is)
    (case c7 => k_is)
    (case k7 => k_is)
    (case a8 => k_is)
    (case l8 => k_is)
    (case c8 => k_is)
    (case k8 => k_is)
    (case a9 => k_is)
    (case l9 => k_is)
    (case c9 => k_is)
    (case k9 => k_is)
    (case a10 => k_is)
    (case l10 => k_is)
    (case c10 => k_is)
    (case k10 => k_is)
    (case a11 => k_is)
    (case l11 => k_is)
    (case c11 => k_is)
    (case k11 => k_is)
    (case a12 => k_is)
    (case l12 => k_is)
    (case c12 => k_is)
    (case k12 => k_is)
    (case a13 => k_is)
    (case l13 => k_is)
    (case c13 => k_is)
    (case k13 => k_is)
    (case a14 => k_is)
    (case l14 => k_is)
    (case c14 => k_is)
    (case k14 => k_is)
    (case a15 => k_is)
    (case l15 => k_is)
    (case c15 => k_is)
    (case k15 => k_is)
    (case a16 => k_is)
    (case l16 => k_is)
    (case c16 => k_is)
    (case k16 => k_is)
    (case a17 => k_is)
    (case l17 => k_is)
    (case c17 => k_is)
    (case k17 => k_is)
    (case a18 => k_is)
    (case l18 => k_is)
    (case c18 => k_is)
    (case k18 => k_is)
    (case a19 => k_is)
    (case l19 => k_is)
    (case c19 => k_is)
    (case k19 => k_is)
    (case a20 => k_is)
    (case l20 => k_is)
    (case c20 => k_is)
    (case k20 => k_is)
    (case a21 => k_is)
    (case l21 => k_is)
    (case c21 => k_is)
    (case k21 => k_is)
    (case a22 => k_is)
    (case l22 => k_is)
    (case c22 => k_is)
    (case k22 => k_is)
    (case a23 => k_is)
    (case l23 => k_is)
    (case c23 => k_is)
    (case k23 => k_is)
    (case a24 => k_is)
    (case l24 => k_is)
    (case c24 => k_is)
    (case k24 => k_is)
    (case a25 => k_is)
    (case l25 => k_is)
    (case c25 => k_is)
    (case k25 => k_is)
    (case z_abs => k_is)
    (case z_all => k_is)
    (case z_bool => k_is)
    (case z_enumerate => k_is)
    (case z_int => k_is)
    (case z_isinstance => k_is)
    (case z_len => k_is)
    (case z_list => k_is)
    (case z_max => k_is)
    (case z_min => k_is)
    (case z_range => k_is)
    (case z_set => k_is)
    (case z_sorted => k_is)
    (case z_tuple => k_is)
    (case cz_FEW => k_is)
    (case cz_LOW => k_is)
    (case cz_MANY => k_is)
