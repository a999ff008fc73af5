import PyProof.Rows.All
import Wide.All
import OpenK.AllK
import Wide.FinOn
import HandS.ForMost
import HandS.Exc
import HandS.ExcOwn
import HandS.TryOnly
import HandS.TryMany
import HandS.WordsExc
import HandS.CallSlots
import HandS.Defaults
import HandS.IsInst
import HandS.Flow
import HandS.Lambda
import HandS.TupAny
import HandS.TupMul
import HandS.RaiseMore
import HandS.EndTab
import HandS.HeadWalk
import KE.KStateDown
import KE.SortData
import KE.SortKeyHeap
import HandS.Head0
import HandS.Head1
import HandS.Head2
import HandS.HeadEnd
import HandS.HeadHook1
import HandS.HeadHook2
import HandS.HeadHook3
import HandS.HeadHook4
import PySem.Challenge.RW_hearlines_k01_hearers
set_option Elab.async false
set_option linter.all false
set_option maxRecDepth 100000
set_option maxHeartbeats 1000000
/-! Sx: a store semantics over the hand layer. Values with deep tuples, objects by number, results as plain functions. -/
namespace Sx
open PySem L2
abbrev Frg := PySem.W.Frag
abbrev Tbs := List (Addr × Str)

/-- a value: tuples deep, objects by their number in the store -/
inductive A where
  | non | bl (b : Bool) | int (i : Int) | str (x : Str) | tup (xs : List A) | ob (n : Nat)
  deriving Inhabited
/-- an object of the store: a list, a list that is only read, dicts, an instance -/
inductive O where
  | lst (xs : List A) | rol (xs : List A) | dic (kvs : List (Key × A)) | dit (kvs : List (List Key × A)) | ins (C : Addr) (fs : List (Str × A))
  deriving Inhabited
def O.mut : O → Bool
  | .rol _ => false
  | _ => true
abbrev Sto := List O
abbrev Ro := List (Option A)

mutual
inductive RelA (K : Frg) (H : Hp) (as : List Addr) : A → V → Prop
  | non : RelA K H as .non .non
  | bl (b : Bool) : RelA K H as (.bl b) (.bl b)
  | int (i : Int) : RelA K H as (.int i) (.int i)
  | str (x : Str) : RelA K H as (.str x) (.str x)
  | tup {xs : List A} {a : Addr} {vs : List V} : SqT K H a vs → RelL K H as xs vs → RelA K H as (.tup xs) (.ref a)
  | ob {n : Nat} {a : Addr} : as[n]? = some a → RelA K H as (.ob n) (.ref a)
inductive RelL (K : Frg) (H : Hp) (as : List Addr) : List A → List V → Prop
  | nil : RelL K H as [] []
  | cons {a : A} {v : V} {xs : List A} {vs : List V} : RelA K H as a v → RelL K H as xs vs → RelL K H as (a :: xs) (v :: vs)
end
inductive RelKV {κ : Type} (K : Frg) (H : Hp) (as : List Addr) : List (κ × A) → List (κ × V) → Prop
  | nil : RelKV K H as [] []
  | cons {k : κ} {a : A} {v : V} {l : List (κ × A)} {m : List (κ × V)} : RelA K H as a v → RelKV K H as l m → RelKV K H as ((k, a) :: l) ((k, v) :: m)
def RelO (K : Frg) (H : Hp) (as : List Addr) : O → Addr → Prop
  | .lst xs, a => ∃ vs, H a = some (.lst vs) ∧ RelL K H as xs vs
  | .rol xs, a => ∃ vs, ((∃ o, H a = some (.frz o (.lst vs))) ∨ (SqL K (fun _ => none) a vs)) ∧ RelL K H as xs vs
  | .dic kvs, a => ∃ kv, H a = some (.dK kv) ∧ RelKV K H as kvs kv
  | .dit kvs, a => ∃ kv, H a = some (.dT kv) ∧ RelKV K H as kvs kv
  | .ins C fs, a => ∃ dx gs, H a = some (.ins C dx gs) ∧ RelKV K H as fs gs
/-- what comes later: numbers keep their addresses, tuples stay -/
structure Le (K : Frg) (H : Hp) (as : List Addr) (H' : Hp) (as' : List Addr) : Prop where
  pre : ∀ (n : Nat) (a : Addr), as[n]? = some a → as'[n]? = some a
  tup : ∀ (a : Addr) (xs : List V), SqT K H a xs → SqT K H' a xs
structure Rel (K : Frg) (T : Tbs) (S : Sto) (as : List Addr) (H : Hp) : Prop where
  len : as.length = S.length
  inj : ∀ (n m : Nat) (a : Addr) (o u : O), as[n]? = some a → as[m]? = some a → S[n]? = some o → S[m]? = some u → o.mut = true → u.mut = true → n = m
  obj : ∀ (n : Nat) (o : O) (a : Addr), S[n]? = some o → as[n]? = some a → RelO K H as o a
  tab : LamX.Tabs T H
structure RelSt (K : Frg) (T : Tbs) (ρ : Ro) (S : Sto) (as : List Addr) (σ : St) (H : Hp) : Prop where
  rel : Rel K T S as H
  len : ρ.length = σ.length
  slot : ∀ (i : Nat) (a : A), ρ[i]? = some (some a) → ∃ v, σ[i]? = some (some v) ∧ RelA K H as a v

section
variable {K : Frg} {T : Tbs} {H H' H'' : Hp} {as as' as'' : List Addr} {S S' : Sto} {ρ ρ' : Ro} {σ : St}
theorem Le.refl : Le K H as H as := ⟨fun _ _ h => h, fun _ _ h => h⟩
theorem Le.trans (a : Le K H as H' as') (b : Le K H' as' H'' as'') : Le K H as H'' as'' := ⟨fun n x h => b.pre n x (a.pre n x h), fun x l h => b.tup x l (a.tup x l h)⟩
mutual
theorem RelA.mono {a : A} {v : V} (h : RelA K H as a v) (l : Le K H as H' as') : RelA K H' as' a v := by
  cases h with
  | non => exact .non
  | bl b => exact .bl b
  | int i => exact .int i
  | str x => exact .str x
  | tup hs hr => exact .tup (l.tup _ _ hs) (RelL.mono hr l)
  | ob e => exact .ob (l.pre _ _ e)
theorem RelL.mono {xs : List A} {vs : List V} (h : RelL K H as xs vs) (l : Le K H as H' as') : RelL K H' as' xs vs := by
  cases h with
  | nil => exact .nil
  | cons h1 h2 => exact .cons (RelA.mono h1 l) (RelL.mono h2 l)
end
theorem RelKV.mono {κ : Type} {x : List (κ × A)} {y : List (κ × V)} (h : RelKV K H as x y) (l : Le K H as H' as') : RelKV K H' as' x y := by
  induction h with
  | nil => exact .nil
  | cons h1 _ ih => exact .cons (h1.mono l) ih
theorem RelO.mono {o : O} {a : Addr} (h : RelO K H as o a) (l : Le K H as H' as') (k : ∀ u, H a = some u → H' a = some u) : RelO K H' as' o a := by
  cases o with
  | lst xs => obtain ⟨vs, h1, h2⟩ := h; exact ⟨vs, k _ h1, h2.mono l⟩
  | rol xs =>
    obtain ⟨vs, h1, h2⟩ := h
    refine ⟨vs, ?_, h2.mono l⟩
    rcases h1 with ⟨o, e⟩ | e
    · exact .inl ⟨o, k _ e⟩
    · exact .inr e
  | dic kvs => obtain ⟨kv, h1, h2⟩ := h; exact ⟨kv, k _ h1, h2.mono l⟩
  | dit kvs => obtain ⟨kv, h1, h2⟩ := h; exact ⟨kv, k _ h1, h2.mono l⟩
  | ins C fs => obtain ⟨dx, gs, h1, h2⟩ := h; exact ⟨dx, gs, k _ h1, h2.mono l⟩
theorem RelSt.mono (h : RelSt K T ρ S as σ H) (l : Le K H as H' as') (r : Rel K T S' as' H') : RelSt K T ρ S' as' σ H' :=
  ⟨r, h.len, fun i a e => let ⟨v, h1, h2⟩ := h.slot i a e; ⟨v, h1, h2.mono l⟩⟩
theorem RelL.length {xs : List A} {vs : List V} (h : RelL K H as xs vs) : xs.length = vs.length := by
  induction xs generalizing vs with
  | nil => cases h; rfl
  | cons a xs ih => cases h with
    | cons h1 h2 => rw [List.length_cons, List.length_cons, ih h2]
theorem RelL.get {xs : List A} {vs : List V} (h : RelL K H as xs vs) {i : Nat} {a : A} (e : xs[i]? = some a) : ∃ v, vs[i]? = some v ∧ RelA K H as a v := by
  induction xs generalizing vs i with
  | nil => simp at e
  | cons b xs ih =>
    cases h with
    | cons h1 h2 =>
      cases i with
      | zero => simp at e; subst e; exact ⟨_, rfl, h1⟩
      | succ i => simpa using ih h2 (i := i) (by simpa using e)
theorem RelL.append {xs ys : List A} {vs ws : List V} (h : RelL K H as xs vs) (g : RelL K H as ys ws) : RelL K H as (xs ++ ys) (vs ++ ws) := by
  induction xs generalizing vs with
  | nil => cases h; exact g
  | cons b xs ih => cases h with
    | cons h1 h2 => exact .cons h1 (ih h2)
theorem RelL.one {a : A} {v : V} (h : RelA K H as a v) : RelL K H as [a] [v] := .cons h .nil
theorem RelL.take {xs : List A} {vs : List V} (h : RelL K H as xs vs) (n : Nat) : RelL K H as (xs.take n) (vs.take n) := by
  induction xs generalizing vs n with
  | nil => cases h; simp; exact .nil
  | cons b xs ih => cases h with
    | cons h1 h2 => cases n with
      | zero => exact .nil
      | succ n => exact .cons h1 (ih h2 n)
theorem RelL.drop {xs : List A} {vs : List V} (h : RelL K H as xs vs) (n : Nat) : RelL K H as (xs.drop n) (vs.drop n) := by
  induction xs generalizing vs n with
  | nil => cases h; simp; exact .nil
  | cons b xs ih => cases h with
    | cons h1 h2 => cases n with
      | zero => exact .cons h1 h2
      | succ n => exact ih h2 n
theorem RelL.set {xs : List A} {vs : List V} {a : A} {v : V} (h : RelL K H as xs vs) (g : RelA K H as a v) (n : Nat) : RelL K H as (xs.set n a) (vs.set n v) := by
  induction xs generalizing vs n with
  | nil => cases h; exact .nil
  | cons b xs ih => cases h with
    | cons h1 h2 => cases n with
      | zero => exact .cons g h2
      | succ n => exact .cons h1 (ih h2 n)

/-! ### the heap grows, or an object of the store is written -/
def isMut : HO → Bool
  | .lst _ => true
  | .dK _ => true
  | .dT _ => true
  | .ins _ _ _ => true
  | _ => false
/-- all that is no list, dict, instance stays -/
def Kp (H H' : Hp) : Prop := ∀ b o, H b = some o → isMut o = false → H' b = some o
theorem Kp.refl (H : Hp) : Kp H H := fun _ _ h _ => h
theorem Kp.trans (a : Kp H H') (b : Kp H' H'') : Kp H H'' := fun x o h n => b x o (a x o h n) n
theorem Kp.new {p : Addr} {o : HO} (h : H p = none) : Kp H (upd H p o) := fun b u e _ => by rw [upd_ne (ne_of_none e h)]; exact e
theorem Kp.wr {p : Addr} {o u : HO} (h : H p = some u) (m : isMut u = true) : Kp H (upd H p o) := fun b w e n => by
  rw [upd_ne (ne_of e h (fun z => by rw [z, m] at n; cases n))]; exact e
theorem Kp.sqt (k : Kp H H') (a : Addr) (xs : List V) (h : SqT K H a xs) : SqT K H' a xs := by
  rcases h with (h | ⟨o, h⟩) | h
  · exact .inl (.inl (k _ _ h rfl))
  · exact .inl (.inr ⟨o, k _ _ h rfl⟩)
  · exact .inr h
theorem Kp.tabs (k : Kp H H') (h : LamX.Tabs T H) : LamX.Tabs T H' := fun p hp => by
  obtain ⟨ps, h1, h2, h3⟩ := h p hp
  refine ⟨ps, k _ _ h1 rfl, h2, fun pos cv hc => ?_⟩
  obtain ⟨c, e, hco⟩ := h3 pos cv hc
  exact ⟨c, e, k _ _ hco rfl⟩
theorem Kp.le (k : Kp H H') : Le K H as H' as := ⟨fun _ _ h => h, k.sqt⟩
theorem Kp.leA (k : Kp H H') (p : Addr) : Le K H as H' (as ++ [p]) := ⟨fun n a h => by
  rw [List.getElem?_append_left (List.getElem?_eq_some_iff.mp h).1]; exact h, k.sqt⟩
theorem RelO.at {o : O} {a : Addr} (h : RelO K H as o a) : (∃ u, H a = some u ∧ isMut u = o.mut) ∨ (o.mut = false ∧ ∃ vs xs, o = .rol xs ∧ SqL K (fun _ => none) a vs ∧ RelL K H as xs vs) := by
  cases o with
  | lst xs => obtain ⟨vs, h1, h2⟩ := h; exact .inl ⟨_, h1, rfl⟩
  | rol xs =>
    obtain ⟨vs, h1, h2⟩ := h
    rcases h1 with ⟨o, e⟩ | e
    · exact .inl ⟨_, e, rfl⟩
    · exact .inr ⟨rfl, vs, xs, rfl, e, h2⟩
  | dic kvs => obtain ⟨kv, h1, h2⟩ := h; exact .inl ⟨_, h1, rfl⟩
  | dit kvs => obtain ⟨kv, h1, h2⟩ := h; exact .inl ⟨_, h1, rfl⟩
  | ins C fs => obtain ⟨dx, gs, h1, h2⟩ := h; exact .inl ⟨_, h1, rfl⟩
/-- an object stays where the heap keeps its address -/
theorem RelO.stay {o : O} {a : Addr} (h : RelO K H as o a) (l : Le K H as H' as') (k : ∀ u, H a = some u → isMut u = o.mut → H' a = some u) : RelO K H' as' o a := by
  rcases h.at with ⟨u, hu, m⟩ | ⟨m, vs, xs, rfl, e, r⟩
  · refine h.mono l fun w hw => ?_
    rw [hu] at hw; cases hw
    exact k u hu m
  · exact ⟨vs, .inr e, r.mono l⟩
/-- a new thing that the store does not hold (a tuple, a code object) -/
theorem Rel.grow (r : Rel K T S as H) (k : ∀ b o, H b = some o → H' b = some o) (ht : LamX.Tabs T H') : Rel K T S as H' :=
  ⟨r.len, r.inj, fun n o a h1 h2 => (r.obj n o a h1 h2).mono ⟨fun _ _ h => h, Kp.sqt fun b u e _ => k b u e⟩ fun u e => k _ _ e, ht⟩
theorem Rel.tup {p : Addr} {vs : List V} (r : Rel K T S as H) (h : H p = none) : Rel K T S as (upd H p (.tup vs)) :=
  r.grow (fun b o e => by rw [upd_ne (ne_of_none e h)]; exact e) ((Kp.new h).tabs r.tab)
/-- a new object -/
theorem Rel.alloc {p : Addr} {ho : HO} {o : O} (r : Rel K T S as H) (h : H p = none) (ro : RelO K (upd H p ho) (as ++ [p]) o p) : Rel K T (S ++ [o]) (as ++ [p]) (upd H p ho) := by
  have keep : ∀ b u, H b = some u → upd H p ho b = some u := fun b u e => by rw [upd_ne (ne_of_none e h)]; exact e
  have l : Le K H as (upd H p ho) (as ++ [p]) := (Kp.new h).leA p
  have ltA : ∀ {n : Nat}, n < S.length → (as ++ [p])[n]? = as[n]? := fun {n} hn => List.getElem?_append_left (by rw [r.len]; exact hn)
  have ltS : ∀ {n : Nat}, n < S.length → (S ++ [o])[n]? = S[n]? := fun {n} hn => List.getElem?_append_left hn
  have geA : (as ++ [p])[S.length]? = some p := by rw [← r.len]; simp
  have geS : (S ++ [o])[S.length]? = some o := by simp
  have cs : ∀ {n : Nat} {u : O}, (S ++ [o])[n]? = some u → n < S.length ∨ n = S.length := fun {n u} e => by
    have := (List.getElem?_eq_some_iff.mp e).1
    simp at this; omega
  have old : ∀ {n : Nat} {u : O}, S[n]? = some u → u.mut = true → as[n]? ≠ some p := fun {n u} e m z => by
    rcases (r.obj n u p e z).at with ⟨w, hw, _⟩ | ⟨m', _⟩
    · rw [h] at hw; cases hw
    · rw [m] at m'; cases m'
  refine ⟨by simp [r.len], fun n m a u w h1 h2 h3 h4 m1 m2 => ?_, fun n u a h1 h2 => ?_, (Kp.new h).tabs r.tab⟩
  · rcases cs h3 with hn | hn <;> rcases cs h4 with hm | hm
    · rw [ltA hn] at h1; rw [ltA hm] at h2; rw [ltS hn] at h3; rw [ltS hm] at h4
      exact r.inj n m a u w h1 h2 h3 h4 m1 m2
    · rw [ltA hn] at h1; rw [ltS hn] at h3
      rw [hm, geA] at h2; cases h2
      exact absurd h1 (old h3 m1)
    · rw [ltA hm] at h2; rw [ltS hm] at h4
      rw [hn, geA] at h1; cases h1
      exact absurd h2 (old h4 m2)
    · rw [hn, hm]
  · rcases cs h1 with hn | hn
    · rw [ltA hn] at h2; rw [ltS hn] at h1
      exact (r.obj n u a h1 h2).mono l fun w e => keep _ _ e
    · rw [hn, geS] at h1; rw [hn, geA] at h2
      cases h1; cases h2
      exact ro
/-- an object written -/
theorem Rel.write {n : Nat} {a : Addr} {ho u : HO} {o o' : O} (r : Rel K T S as H) (hn : S[n]? = some o) (ha : as[n]? = some a) (hu : H a = some u) (mu : isMut u = true) (mo : o.mut = true) (ro : RelO K (upd H a ho) as o' a) :
    Rel K T (S.set n o') as (upd H a ho) := by
  have k : Kp H (upd H a ho) := Kp.wr hu mu
  have l : Le K H as (upd H a ho) as := k.le
  have hlt : n < S.length := (List.getElem?_eq_some_iff.mp hn).1
  refine ⟨by simp [r.len], fun i j b w z h1 h2 h3 h4 m1 m2 => ?_, fun i w b h1 h2 => ?_, k.tabs r.tab⟩
  · by_cases hi : i = n <;> by_cases hj : j = n
    · rw [hi, hj]
    · subst hi
      rw [ha] at h1; cases h1
      rw [List.getElem?_set_ne (Ne.symm hj)] at h4
      exact r.inj i j _ o z ha h2 hn h4 mo m2
    · subst hj
      rw [ha] at h2; cases h2
      rw [List.getElem?_set_ne (Ne.symm hi)] at h3
      exact (r.inj j i _ o w ha h1 hn h3 mo m1).symm
    · rw [List.getElem?_set_ne (Ne.symm hi)] at h3
      rw [List.getElem?_set_ne (Ne.symm hj)] at h4
      exact r.inj i j b w z h1 h2 h3 h4 m1 m2
  · by_cases hi : i = n
    · subst hi
      rw [ha] at h2; cases h2
      rw [List.getElem?_set_self hlt] at h1; cases h1
      exact ro
    · rw [List.getElem?_set_ne (Ne.symm hi)] at h1
      refine (r.obj i w b h1 h2).stay l fun x hx m => ?_
      by_cases hb : b = a
      · subst hb
        rw [hu] at hx; cases hx
        rw [mu] at m
        exact absurd (r.inj i n b w o h2 ha h1 hn m.symm mo) hi
      · rw [upd_ne hb]; exact hx
end
end Sx

set_option Elab.async false
set_option linter.all false
set_option maxRecDepth 100000
set_option maxHeartbeats 1000000
namespace Sx
open PySem L2
inductive RE where | ok (a : A) (S : Sto) | exc (c : Value) (S : Sto) | stuck
inductive RA where | ok (l : List A) (S : Sto) | exc (c : Value) (S : Sto) | stuck
inductive RS where | nx (ρ : Ro) (S : Sto) | ret (a : A) (S : Sto) | brk (ρ : Ro) (S : Sto) | ct (ρ : Ro) (S : Sto) | exc (c : Value) (ρ : Ro) (S : Sto) | stuck
abbrev GE := Ro → Sto → RE
abbrev GA := Ro → Sto → RA
abbrev GS := Ro → Sto → RS
def RE.bind (r : RE) (k : A → Sto → RE) : RE := match r with
  | .ok a S => k a S
  | .exc c S => .exc c S
  | .stuck => .stuck
def RE.bindA (r : RE) (k : A → Sto → RA) : RA := match r with
  | .ok a S => k a S
  | .exc c S => .exc c S
  | .stuck => .stuck
def RE.bindS (r : RE) (ρ : Ro) (k : A → Sto → RS) : RS := match r with
  | .ok a S => k a S
  | .exc c S => .exc c ρ S
  | .stuck => .stuck
def RA.bind (r : RA) (k : List A → Sto → RE) : RE := match r with
  | .ok a S => k a S
  | .exc c S => .exc c S
  | .stuck => .stuck
def RA.bindA (r : RA) (k : List A → Sto → RA) : RA := match r with
  | .ok a S => k a S
  | .exc c S => .exc c S
  | .stuck => .stuck
@[simp] theorem RE.bind_ok (a : A) (S : Sto) (k : A → Sto → RE) : (RE.ok a S).bind k = k a S := rfl
@[simp] theorem RE.bind_exc (c : Value) (S : Sto) (k : A → Sto → RE) : (RE.exc c S).bind k = .exc c S := rfl
@[simp] theorem RE.bind_stuck (k : A → Sto → RE) : RE.stuck.bind k = .stuck := rfl
@[simp] theorem RE.bindA_ok (a : A) (S : Sto) (k : A → Sto → RA) : (RE.ok a S).bindA k = k a S := rfl
@[simp] theorem RE.bindA_exc (c : Value) (S : Sto) (k : A → Sto → RA) : (RE.exc c S).bindA k = .exc c S := rfl
@[simp] theorem RE.bindA_stuck (k : A → Sto → RA) : RE.stuck.bindA k = .stuck := rfl
@[simp] theorem RE.bindS_ok (a : A) (S : Sto) (ρ : Ro) (k : A → Sto → RS) : (RE.ok a S).bindS ρ k = k a S := rfl
@[simp] theorem RE.bindS_exc (c : Value) (S : Sto) (ρ : Ro) (k : A → Sto → RS) : (RE.exc c S).bindS ρ k = .exc c ρ S := rfl
@[simp] theorem RE.bindS_stuck (ρ : Ro) (k : A → Sto → RS) : RE.stuck.bindS ρ k = .stuck := rfl
@[simp] theorem RA.bind_ok (a : List A) (S : Sto) (k : List A → Sto → RE) : (RA.ok a S).bind k = k a S := rfl
@[simp] theorem RA.bind_exc (c : Value) (S : Sto) (k : List A → Sto → RE) : (RA.exc c S).bind k = .exc c S := rfl
@[simp] theorem RA.bind_stuck (k : List A → Sto → RE) : RA.stuck.bind k = .stuck := rfl
@[simp] theorem RA.bindA_ok (a : List A) (S : Sto) (k : List A → Sto → RA) : (RA.ok a S).bindA k = k a S := rfl
@[simp] theorem RA.bindA_exc (c : Value) (S : Sto) (k : List A → Sto → RA) : (RA.exc c S).bindA k = .exc c S := rfl
@[simp] theorem RA.bindA_stuck (k : List A → Sto → RA) : RA.stuck.bindA k = .stuck := rfl

/-! ### what a result asks -/
section
variable (K : Frg) (T : Tbs)
/-- a value without exceptions -/
def FinV (H : Hp) (as : List Addr) (Q : VK) : RE → Prop
  | .ok a S' => ∀ v as' H', Le K H as H' as' → Rel K T S' as' H' → RelA K H' as' a v → Q v H'
  | _ => False
def FinE (W : WX) (σ : St) (H : Hp) (as : List Addr) (Q : VK) : RE → Prop
  | .ok a S' => ∀ v as' H', Le K H as H' as' → Rel K T S' as' H' → RelA K H' as' a v → Q v H'
  | .exc c S' => ∀ as' H', Le K H as H' as' → Rel K T S' as' H' → W c none σ H'
  | .stuck => False
/-- a test -/
def FinT (W : WX) (σ : St) (H : Hp) (as : List Addr) (Q : Bool → Hp → Prop) : RE → Prop
  | .ok (.bl b) S' => ∀ as' H', Le K H as H' as' → Rel K T S' as' H' → Q b H'
  | .exc c S' => ∀ as' H', Le K H as H' as' → Rel K T S' as' H' → W c none σ H'
  | _ => False
def FinA (W : WX) (σ : St) (H : Hp) (as : List Addr) (Q : List V → Hp → Prop) : RA → Prop
  | .ok l S' => ∀ vs as' H', Le K H as H' as' → Rel K T S' as' H' → RelL K H' as' l vs → Q vs H'
  | .exc c S' => ∀ as' H', Le K H as H' as' → Rel K T S' as' H' → W c none σ H'
  | .stuck => False
def FinS (W : WX) (D : Ends) (H : Hp) (as : List Addr) : RS → Prop
  | .nx ρ' S' => ∀ σ' as' H', Le K H as H' as' → RelSt K T ρ' S' as' σ' H' → D.nx σ' H'
  | .ret a S' => ∀ v as' H', Le K H as H' as' → Rel K T S' as' H' → RelA K H' as' a v → D.rt v H'
  | .brk ρ' S' => ∀ σ' as' H', Le K H as H' as' → RelSt K T ρ' S' as' σ' H' → D.bk σ' H'
  | .ct ρ' S' => ∀ σ' as' H', Le K H as H' as' → RelSt K T ρ' S' as' σ' H' → D.ct σ' H'
  | .exc c ρ' S' => ∀ σ' as' H', Le K H as H' as' → RelSt K T ρ' S' as' σ' H' → W c none σ' H'
  | .stuck => False
def tE (W : WX) (g : GE) : TE := fun σ H Q => ∃ ρ S as, RelSt K T ρ S as σ H ∧ FinE K T W σ H as Q (g ρ S)
def tT (W : WX) (g : GE) : TT := fun σ H Q => ∃ ρ S as, RelSt K T ρ S as σ H ∧ FinT K T W σ H as Q (g ρ S)
def tA (W : WX) (g : GA) : TA := fun σ H Q => ∃ ρ S as, RelSt K T ρ S as σ H ∧ FinA K T W σ H as Q (g ρ S)
def tS (W : WX) (g : GS) : TS := fun D σ H => ∃ ρ S as, RelSt K T ρ S as σ H ∧ FinS K T W D H as (g ρ S)
/-- operations by values -/
def tR2 (r : A → A → Sto → RE) : R2 := fun x y H Q => ∃ a b S as, Rel K T S as H ∧ RelA K H as a x ∧ RelA K H as b y ∧ FinV K T H as Q (r a b S)
def tR1 (r : A → Sto → RE) : V → Hp → VK → Prop := fun x H Q => ∃ a S as, Rel K T S as H ∧ RelA K H as a x ∧ FinV K T H as Q (r a S)
def tRC (r : List A → Sto → RE) : List V → Hp → VK → Prop := fun xs H Q => ∃ l S as, Rel K T S as H ∧ RelL K H as l xs ∧ FinV K T H as Q (r l S)
def tRM (r : A → List A → Sto → RE) : V → List V → Hp → VK → Prop := fun x xs H Q => ∃ a l S as, Rel K T S as H ∧ RelA K H as a x ∧ RelL K H as l xs ∧ FinV K T H as Q (r a l S)
end
abbrev SE (X : Cx) (T : Tbs) (W : WX) (e : Expr) (g : GE) : Prop := PE X e (tE X.K T W g)
abbrev ST (X : Cx) (T : Tbs) (W : WX) (e : Expr) (g : GE) : Prop := PT X e (tT X.K T W g)
abbrev SW (X : Cx) (T : Tbs) (W : WX) (e : Expr) (g : GE) : Prop := PW X e (tT X.K T W g)
abbrev SA (X : Cx) (T : Tbs) (W : WX) (es : List Expr) (g : GA) : Prop := PA X es (tA X.K T W g)
abbrev SS (X : Cx) (T : Tbs) (W : WX) (st : Stmt) (g : GS) : Prop := PS X st (tS X.K T W g)
abbrev SB (X : Cx) (T : Tbs) (W : WX) (st : List Stmt) (g : GS) : Prop := PSs X st (tS X.K T W g)

section
variable {K : Frg} {T : Tbs} {W : WX} {H H' : Hp} {as as' : List Addr} {S S' : Sto} {ρ ρ' : Ro} {σ : St}
theorem FinV.later {Q : VK} {r : RE} (h : FinV K T H as Q r) (l : Le K H as H' as') : FinV K T H' as' Q r := by
  cases r with
  | ok a S => exact fun v as2 H2 l2 => h v as2 H2 (l.trans l2)
  | exc c S => exact h
  | stuck => exact h
theorem FinE.later {Q : VK} {r : RE} (h : FinE K T W σ H as Q r) (l : Le K H as H' as') : FinE K T W σ H' as' Q r := by
  cases r with
  | ok a S => exact fun v as2 H2 l2 => h v as2 H2 (l.trans l2)
  | exc c S => exact fun as2 H2 l2 => h as2 H2 (l.trans l2)
  | stuck => exact h
theorem FinT.later {Q : Bool → Hp → Prop} {r : RE} (h : FinT K T W σ H as Q r) (l : Le K H as H' as') : FinT K T W σ H' as' Q r := by
  cases r with
  | ok a S => cases a with
    | bl b => exact fun as2 H2 l2 => h as2 H2 (l.trans l2)
    | _ => exact h
  | exc c S => exact fun as2 H2 l2 => h as2 H2 (l.trans l2)
  | stuck => exact h
theorem FinA.later {Q : List V → Hp → Prop} {r : RA} (h : FinA K T W σ H as Q r) (l : Le K H as H' as') : FinA K T W σ H' as' Q r := by
  cases r with
  | ok a S => exact fun v as2 H2 l2 => h v as2 H2 (l.trans l2)
  | exc c S => exact fun as2 H2 l2 => h as2 H2 (l.trans l2)
  | stuck => exact h
theorem FinS.later {D : Ends} {r : RS} (h : FinS K T W D H as r) (l : Le K H as H' as') : FinS K T W D H' as' r := by
  cases r with
  | nx ρ S => exact fun v as2 H2 l2 => h v as2 H2 (l.trans l2)
  | ret a S => exact fun v as2 H2 l2 => h v as2 H2 (l.trans l2)
  | brk ρ S => exact fun v as2 H2 l2 => h v as2 H2 (l.trans l2)
  | ct ρ S => exact fun v as2 H2 l2 => h v as2 H2 (l.trans l2)
  | exc c ρ S => exact fun v as2 H2 l2 => h v as2 H2 (l.trans l2)
  | stuck => exact h
/-- what stands behind a part -/
def Aft (K : Frg) (T : Tbs) (H : Hp) (as : List Addr) (a : A) (S1 : Sto) (x : V) (H1 : Hp) (P : List Addr → Prop) : Prop := ∃ as1, Le K H as H1 as1 ∧ Rel K T S1 as1 H1 ∧ RelA K H1 as1 a x ∧ P as1
/-- an expression first: e by bind -/
theorem seqE {g : GE} {k : A → Sto → RE} {Q : VK} {R : V → Hp → Prop} (rs : RelSt K T ρ S as σ H) (f : FinE K T W σ H as Q ((g ρ S).bind k))
    (n : ∀ a S1 v as1 H1, RelSt K T ρ S1 as1 σ H1 → RelA K H1 as1 a v → FinE K T W σ H1 as1 Q (k a S1) → Le K H as H1 as1 → R v H1) : tE K T W g σ H R := by
  refine ⟨ρ, S, as, rs, ?_⟩
  cases e : g ρ S with
  | ok a S1 =>
    rw [e] at f
    exact fun v as1 H1 l r ra => n a S1 v as1 H1 (rs.mono l r) ra (FinE.later f l) l
  | exc c S1 => rw [e] at f; exact f
  | stuck => rw [e] at f; exact f
theorem seqT {g : GE} {k : A → Sto → RE} {Q : Bool → Hp → Prop} {R : V → Hp → Prop} (rs : RelSt K T ρ S as σ H) (f : FinT K T W σ H as Q ((g ρ S).bind k))
    (n : ∀ a S1 v as1 H1, RelSt K T ρ S1 as1 σ H1 → RelA K H1 as1 a v → FinT K T W σ H1 as1 Q (k a S1) → Le K H as H1 as1 → R v H1) : tE K T W g σ H R := by
  refine ⟨ρ, S, as, rs, ?_⟩
  cases e : g ρ S with
  | ok a S1 =>
    rw [e] at f
    exact fun v as1 H1 l r ra => n a S1 v as1 H1 (rs.mono l r) ra (FinT.later f l) l
  | exc c S1 => rw [e] at f; exact f
  | stuck => rw [e] at f; exact f
theorem seqA {g : GE} {k : A → Sto → RA} {Q : List V → Hp → Prop} {R : V → Hp → Prop} (rs : RelSt K T ρ S as σ H) (f : FinA K T W σ H as Q ((g ρ S).bindA k))
    (n : ∀ a S1 v as1 H1, RelSt K T ρ S1 as1 σ H1 → RelA K H1 as1 a v → FinA K T W σ H1 as1 Q (k a S1) → Le K H as H1 as1 → R v H1) : tE K T W g σ H R := by
  refine ⟨ρ, S, as, rs, ?_⟩
  cases e : g ρ S with
  | ok a S1 =>
    rw [e] at f
    exact fun v as1 H1 l r ra => n a S1 v as1 H1 (rs.mono l r) ra (FinA.later f l) l
  | exc c S1 => rw [e] at f; exact f
  | stuck => rw [e] at f; exact f
theorem seqAE {g : GA} {k : List A → Sto → RE} {Q : VK} {R : List V → Hp → Prop} (rs : RelSt K T ρ S as σ H) (f : FinE K T W σ H as Q ((g ρ S).bind k))
    (n : ∀ a S1 v as1 H1, RelSt K T ρ S1 as1 σ H1 → RelL K H1 as1 a v → FinE K T W σ H1 as1 Q (k a S1) → Le K H as H1 as1 → R v H1) : tA K T W g σ H R := by
  refine ⟨ρ, S, as, rs, ?_⟩
  cases e : g ρ S with
  | ok a S1 =>
    rw [e] at f
    exact fun v as1 H1 l r ra => n a S1 v as1 H1 (rs.mono l r) ra (FinE.later f l) l
  | exc c S1 => rw [e] at f; exact f
  | stuck => rw [e] at f; exact f
theorem seqAA {g : GA} {k : List A → Sto → RA} {Q : List V → Hp → Prop} {R : List V → Hp → Prop} (rs : RelSt K T ρ S as σ H) (f : FinA K T W σ H as Q ((g ρ S).bindA k))
    (n : ∀ a S1 v as1 H1, RelSt K T ρ S1 as1 σ H1 → RelL K H1 as1 a v → FinA K T W σ H1 as1 Q (k a S1) → Le K H as H1 as1 → R v H1) : tA K T W g σ H R := by
  refine ⟨ρ, S, as, rs, ?_⟩
  cases e : g ρ S with
  | ok a S1 =>
    rw [e] at f
    exact fun v as1 H1 l r ra => n a S1 v as1 H1 (rs.mono l r) ra (FinA.later f l) l
  | exc c S1 => rw [e] at f; exact f
  | stuck => rw [e] at f; exact f
theorem seqES {g : GE} {k : A → Sto → RS} {D : Ends} {R : V → Hp → Prop} (rs : RelSt K T ρ S as σ H) (f : FinS K T W D H as ((g ρ S).bindS ρ k))
    (n : ∀ a S1 v as1 H1, RelSt K T ρ S1 as1 σ H1 → RelA K H1 as1 a v → FinS K T W D H1 as1 (k a S1) → Le K H as H1 as1 → R v H1) : tE K T W g σ H R := by
  refine ⟨ρ, S, as, rs, ?_⟩
  cases e : g ρ S with
  | ok a S1 =>
    rw [e] at f
    exact fun v as1 H1 l r ra => n a S1 v as1 H1 (rs.mono l r) ra (FinS.later f l) l
  | exc c S1 => rw [e] at f; exact fun as1 H1 l r => f σ as1 H1 l (rs.mono l r)
  | stuck => rw [e] at f; exact f
/-- a test first -/
def RE.bindT (r : RE) (k : Bool → Sto → RE) : RE := match r with
  | .ok (.bl b) S => k b S
  | .ok _ _ => .stuck
  | .exc c S => .exc c S
  | .stuck => .stuck
def RE.bindTS (r : RE) (ρ : Ro) (k : Bool → Sto → RS) : RS := match r with
  | .ok (.bl b) S => k b S
  | .ok _ _ => .stuck
  | .exc c S => .exc c ρ S
  | .stuck => .stuck
@[simp] theorem RE.bindT_ok (b : Bool) (S : Sto) (k : Bool → Sto → RE) : (RE.ok (.bl b) S).bindT k = k b S := rfl
@[simp] theorem RE.bindT_exc (c : Value) (S : Sto) (k : Bool → Sto → RE) : (RE.exc c S).bindT k = .exc c S := rfl
@[simp] theorem RE.bindT_stuck (k : Bool → Sto → RE) : RE.stuck.bindT k = .stuck := rfl
@[simp] theorem RE.bindTS_ok (b : Bool) (S : Sto) (ρ : Ro) (k : Bool → Sto → RS) : (RE.ok (.bl b) S).bindTS ρ k = k b S := rfl
@[simp] theorem RE.bindTS_exc (c : Value) (S : Sto) (ρ : Ro) (k : Bool → Sto → RS) : (RE.exc c S).bindTS ρ k = .exc c ρ S := rfl
@[simp] theorem RE.bindTS_stuck (ρ : Ro) (k : Bool → Sto → RS) : RE.stuck.bindTS ρ k = .stuck := rfl
theorem seqTE {g : GE} {k : Bool → Sto → RE} {Q : VK} {R : Bool → Hp → Prop} (rs : RelSt K T ρ S as σ H) (f : FinE K T W σ H as Q ((g ρ S).bindT k))
    (n : ∀ b S1 as1 H1, RelSt K T ρ S1 as1 σ H1 → FinE K T W σ H1 as1 Q (k b S1) → Le K H as H1 as1 → R b H1) : tT K T W g σ H R := by
  refine ⟨ρ, S, as, rs, ?_⟩
  cases e : g ρ S with
  | ok a S1 =>
    rw [e] at f
    cases a with
    | bl b => exact fun as1 H1 l r => n b S1 as1 H1 (rs.mono l r) (FinE.later f l) l
    | _ => exact False.elim f
  | exc c S1 => rw [e] at f; exact f
  | stuck => rw [e] at f; exact f
theorem seqTT {g : GE} {k : Bool → Sto → RE} {Q : Bool → Hp → Prop} {R : Bool → Hp → Prop} (rs : RelSt K T ρ S as σ H) (f : FinT K T W σ H as Q ((g ρ S).bindT k))
    (n : ∀ b S1 as1 H1, RelSt K T ρ S1 as1 σ H1 → FinT K T W σ H1 as1 Q (k b S1) → Le K H as H1 as1 → R b H1) : tT K T W g σ H R := by
  refine ⟨ρ, S, as, rs, ?_⟩
  cases e : g ρ S with
  | ok a S1 =>
    rw [e] at f
    cases a with
    | bl b => exact fun as1 H1 l r => n b S1 as1 H1 (rs.mono l r) (FinT.later f l) l
    | _ => exact False.elim f
  | exc c S1 => rw [e] at f; exact f
  | stuck => rw [e] at f; exact f
theorem seqTS {g : GE} {k : Bool → Sto → RS} {D : Ends} {R : Bool → Hp → Prop} (rs : RelSt K T ρ S as σ H) (f : FinS K T W D H as ((g ρ S).bindTS ρ k))
    (n : ∀ b S1 as1 H1, RelSt K T ρ S1 as1 σ H1 → FinS K T W D H1 as1 (k b S1) → Le K H as H1 as1 → R b H1) : tT K T W g σ H R := by
  refine ⟨ρ, S, as, rs, ?_⟩
  cases e : g ρ S with
  | ok a S1 =>
    rw [e] at f
    cases a with
    | bl b => exact fun as1 H1 l r => n b S1 as1 H1 (rs.mono l r) (FinS.later f l) l
    | _ => exact False.elim f
  | exc c S1 => rw [e] at f; exact fun as1 H1 l r => f σ as1 H1 l (rs.mono l r)
  | stuck => rw [e] at f; exact f
/-- by values: no exception -/
theorem FinE.v {Q : VK} {r : RE} (h : FinE K T W σ H as Q r) (n : ∀ c S, r ≠ .exc c S) : FinV K T H as Q r := by
  cases r with
  | ok a S => exact h
  | exc c S => exact absurd rfl (n c S)
  | stuck => exact h
end

/-! ### the rules: names, constants, operations, tests -/
/-- an operation by values that raises nothing -/
def RE.nox : RE → RE
  | .exc _ _ => .stuck
  | r => r
@[simp] theorem RE.nox_ok (a : A) (S : Sto) : (RE.ok a S).nox = .ok a S := rfl
@[simp] theorem RE.nox_stuck : RE.stuck.nox = .stuck := rfl
theorem FinE.nox {K : Frg} {T : Tbs} {W : WX} {H : Hp} {as : List Addr} {σ : St} {Q : VK} {r : RE} (h : FinE K T W σ H as Q r.nox) : FinV K T H as Q r := by
  cases r with
  | ok a S => exact h
  | exc c S => exact h
  | stuck => exact h
def gVar (i : Nat) : GE := fun ρ S => match ρ[i]? with
  | some (some a) => .ok a S
  | _ => .stuck
def gC (a : A) : GE := fun _ S => .ok a S
def gOp (r : A → A → Sto → RE) (g1 g2 : GE) : GE := fun ρ S => (g1 ρ S).bind fun a S1 => (g2 ρ S1).bind fun b S2 => (r a b S2).nox
def gUn (r : A → Sto → RE) (g : GE) : GE := fun ρ S => (g ρ S).bind fun a S1 => (r a S1).nox
def gAnd (g1 g2 : GE) : GE := fun ρ S => (g1 ρ S).bindT fun b S1 => if b = true then g2 ρ S1 else .ok (.bl false) S1
def gOr (g1 g2 : GE) : GE := fun ρ S => (g1 ρ S).bindT fun b S1 => if b = true then .ok (.bl true) S1 else g2 ρ S1
def gNot (g : GE) : GE := fun ρ S => (g ρ S).bindT fun b S1 => .ok (.bl (!b)) S1
def gIf (c g1 g2 : GE) : GE := fun ρ S => (c ρ S).bindT fun b S1 => if b = true then g1 ρ S1 else g2 ρ S1
def gNil : GA := fun _ S => .ok [] S
def gCons (g : GE) (gs : GA) : GA := fun ρ S => (g ρ S).bindA fun a S1 => (gs ρ S1).bindA fun l S2 => .ok (a :: l) S2
def gTup (gs : GA) : GE := fun ρ S => (gs ρ S).bind fun l S1 => if l.length ≤ 100000 then .ok (.tup l) S1 else .stuck
def gLst (gs : GA) : GE := fun ρ S => (gs ρ S).bind fun l S1 => if l.length ≤ 100000 then .ok (.ob S1.length) (S1 ++ [.lst l]) else .stuck
def gCB (r : List A → Sto → RE) (gs : GA) : GE := fun ρ S => (gs ρ S).bind fun l S1 => (r l S1).nox
def gBM (r : A → List A → Sto → RE) (g : GE) (gs : GA) : GE := fun ρ S => (g ρ S).bind fun a S1 => (gs ρ S1).bind fun l S2 => (r a l S2).nox
def gChain (r r' : A → A → Sto → RE) (ga gb gc : GE) : GE := fun ρ S => (ga ρ S).bind fun a S1 => (gb ρ S1).bind fun b S2 => ((r a b S2).nox).bindT fun k S3 => if k = true then (gc ρ S3).bind fun c S4 => (r' b c S4).nox else .ok (.bl false) S3
abbrev OpS (X : Cx) (T : Tbs) (f : Value → Value → Sem Value) (r : A → A → Sto → RE) : Prop := OpR X f (tR2 X.K T r)
abbrev UnS (X : Cx) (T : Tbs) (f : Value → Sem Value) (r : A → Sto → RE) : Prop := UnR X f (tR1 X.K T r)
abbrev CallS (X : Cx) (T : Tbs) (f : Value) (r : List A → Sto → RE) : Prop := CallR X f (tRC X.K T r)
abbrev MtS (X : Cx) (T : Tbs) (id : String) (r : A → List A → Sto → RE) : Prop := MtR X id (tRM X.K T r)
abbrev IxS (X : Cx) (T : Tbs) (r : A → A → Sto → RE) : Prop := IxR X (tR2 X.K T r)
section
variable {X : Cx} {T : Tbs} {W : WX} {e a b c : Expr} {es : List Expr} {pos : Pos}
theorem pe_imp {t t' : TE} (h : PE X e t) (i : ∀ σ H Q, t' σ H Q → t σ H Q) : PE X e t' := ⟨fun pins s σ H Q I q => h.run pins s σ H Q I (i _ _ _ q)⟩
theorem pt_imp {t t' : TT} (h : PT X e t) (i : ∀ σ H Q, t' σ H Q → t σ H Q) : PT X e t' := ⟨fun pins s σ H Q I q => h.run pins s σ H Q I (i _ _ _ q)⟩
theorem pw_imp {t t' : TT} (h : PW X e t) (i : ∀ σ H Q, t' σ H Q → t σ H Q) : PW X e t' := ⟨fun wh pins s σ H Q I q => h.run wh pins s σ H Q I (i _ _ _ q)⟩
theorem pa_imp {t t' : TA} (h : PA X es t) (i : ∀ σ H Q, t' σ H Q → t σ H Q) : PA X es t' := ⟨fun pos pins s σ H Q I q => h.run pos pins s σ H Q I (i _ _ _ q)⟩
theorem ps_imp {st : Stmt} {t t' : TS} (h : PS X st t) (i : ∀ D σ H, t' D σ H → t D σ H) : PS X st t' := ⟨fun pins s σ H D I q => h.run pins s σ H D I (i _ _ _ q)⟩
theorem pss_imp {st : List Stmt} {t t' : TS} (h : PSs X st t) (i : ∀ D σ H, t' D σ H → t D σ H) : PSs X st t' := ⟨fun pins s σ H D I q => h.run pins s σ H D I (i _ _ _ q)⟩
theorem se_var' {i : Nat} (h : PE X e (tVar i)) : SE X T W e (gVar i) := pe_imp h fun σ H Q ⟨ρ, S, as, rs, f⟩ => by
  unfold gVar at f
  split at f
  · rename_i a ea
    obtain ⟨v, h1, h2⟩ := rs.slot i a ea
    exact ⟨v, h1, f v as H .refl rs.rel h2⟩
  · exact False.elim f
theorem se_c' {v : V} {x : A} (h : PE X e (tC v)) (r : ∀ H as, RelA X.K H as x v) : SE X T W e (gC x) := pe_imp h fun σ H Q ⟨ρ, S, as, rs, f⟩ => f v as H .refl rs.rel (r H as)
theorem se_int {i j pos} : SE X T W (.Constant (.int i) j pos) (gC (.int i)) := se_c' pe_int fun _ _ => .int i
theorem se_bl {i j pos} : SE X T W (.Constant (.bool i) j pos) (gC (.bl i)) := se_c' pe_bl fun _ _ => .bl i
theorem se_non {j pos} : SE X T W (.Constant .none j pos) (gC .non) := se_c' pe_non fun _ _ => .non
theorem se_str {x j pos} : SE X T W (.Constant (.str x) j pos) (gC (.str x)) := se_c' pe_str fun _ _ => .str x
theorem op_imp {f : Value → Value → Sem Value} {r : R2} {q : A → A → Sto → RE} (h : OpR X f r) (i : ∀ x y H Q a b S as, Rel X.K T S as H → RelA X.K H as a x → RelA X.K H as b y → FinV X.K T H as Q (q a b S) → r x y H Q) : OpS X T f q :=
  fun pins s σ H x y v u Q I rx ry ⟨a, b, S, as, r0, ra, rb, fv⟩ => h pins s σ H x y v u Q I rx ry (i x y H Q a b S as r0 ra rb fv)
theorem ix_imp {r : R2} {q : A → A → Sto → RE} (h : IxR X r) (i : ∀ x y H Q a b S as, Rel X.K T S as H → RelA X.K H as a x → RelA X.K H as b y → FinV X.K T H as Q (q a b S) → r x y H Q) : IxS X T q :=
  fun value slice pins s σ H x y v u Q I rx ry ⟨a, b, S, as, r0, ra, rb, fv⟩ hs => h value slice pins s σ H x y v u Q I rx ry (i x y H Q a b S as r0 ra rb fv) hs
theorem call_imp {f : Value} {r : List V → Hp → VK → Prop} {q : List A → Sto → RE} (h : CallR X f r) (i : ∀ xs H Q l S as, Rel X.K T S as H → RelL X.K H as l xs → FinV X.K T H as Q (q l S) → r xs H Q) : CallS X T f q :=
  fun pins s σ H xs us Q I rx ⟨l, S, as, r0, rl, fv⟩ => h pins s σ H xs us Q I rx (i xs H Q l S as r0 rl fv)
theorem mt_imp {id : String} {r : V → List V → Hp → VK → Prop} {q : A → List A → Sto → RE} (h : MtR X id r) (i : ∀ x xs H Q a l S as, Rel X.K T S as H → RelA X.K H as a x → RelL X.K H as l xs → FinV X.K T H as Q (q a l S) → r x xs H Q) : MtS X T id q :=
  fun pins s σ H x xs v us Q I rx rs ⟨a, l, S, as, r0, ra, rl, fv⟩ => h pins s σ H x xs v us Q I rx rs (i x xs H Q a l S as r0 ra rl fv)
variable {ga gb gc g : GE} {gs : GA}
theorem op2 {r : A → A → Sto → RE} {σ : St} {H : Hp} {Q : VK} (h : tE X.K T W (gOp r ga gb) σ H Q) : tOp (tR2 X.K T r) (tE X.K T W ga) (tE X.K T W gb) σ H Q := by
  obtain ⟨ρ, S, as, rs, f⟩ := h
  refine seqE rs f fun x S1 v as1 H1 rs1 rx f1 l1 => ?_
  refine seqE rs1 f1 fun y S2 w as2 H2 rs2 ry f2 l2 => ?_
  exact ⟨x, y, S2, as2, rs2.rel, rx.mono l2, ry, FinE.nox f2⟩
theorem op2T {r : A → A → Sto → RE} {σ : St} {H : Hp} {Q : Bool → Hp → Prop} (h : tT X.K T W (gOp r ga gb) σ H Q) : tTest (tOp (tR2 X.K T r) (tE X.K T W ga) (tE X.K T W gb)) σ H Q := by
  obtain ⟨ρ, S, as, rs, f⟩ := h
  refine seqT rs f fun x S1 v as1 H1 rs1 rx f1 l1 => ?_
  refine seqT rs1 f1 fun y S2 w as2 H2 rs2 ry f2 l2 => ?_
  refine ⟨x, y, S2, as2, rs2.rel, rx.mono l2, ry, ?_⟩
  cases e : r x y S2 with
  | ok z S3 =>
    rw [e] at f2
    cases z with
    | bl b => exact fun v as3 H3 l r ra => by cases ra; exact ⟨b, rfl, f2 as3 H3 l r⟩
    | _ => exact False.elim f2
  | exc c S3 => rw [e] at f2; exact f2
  | stuck => rw [e] at f2; exact f2
theorem se_op {op : Operator} {r : A → A → Sto → RE} (ho : OpS X T (binaryOp op) r) (ha : SE X T W a ga) (hb : SE X T W b gb) : SE X T W (.BinOp a op b pos) (gOp r ga gb) := pe_imp (pe_op ho ha hb) fun _ _ _ => op2
theorem se_cmp {op : CmpOp} {r : A → A → Sto → RE} (ho : OpS X T (compareOp op) r) (ha : SE X T W a ga) (hb : SE X T W b gb) (hm : behindInMarks op b = false) : SE X T W (.Compare a [op] [b] pos) (gOp r ga gb) := pe_imp (pe_cmpR ho ha hb hm) fun _ _ _ => op2
theorem st_cmp {op : CmpOp} {r : A → A → Sto → RE} (ho : OpS X T (compareOp op) r) (ha : SE X T W a ga) (hb : SE X T W b gb) (hm : behindInMarks op b = false) : ST X T W (.Compare a [op] [b] pos) (gOp r ga gb) := pt_imp (pt_cmpR ho ha hb hm) fun _ _ _ => op2T
theorem se_ix {r : A → A → Sto → RE} (hr : IxS X T r) (ha : SE X T W a ga) (hb : SE X T W b gb) (hs : PlainIx b) : SE X T W (.Subscript a b pos) (gOp r ga gb) := pe_imp (pe_ix hr ha hb hs) fun _ _ _ => op2
theorem se_un {op : UnaryOp} {r : A → Sto → RE} (ho : UnS X T (unaryOp op) r) (ha : SE X T W a ga) : SE X T W (.UnaryOp op a pos) (gUn r ga) := pe_imp (pe_un ho ha) fun σ H Q ⟨ρ, S, as, rs, f⟩ => by
  refine seqE rs f fun x S1 v as1 H1 rs1 rx f1 l1 => ?_
  exact ⟨x, S1, as1, rs1.rel, rx, FinE.nox f1⟩
theorem chainI {r r' : A → A → Sto → RE} {σ : St} {H : Hp} {Q : VK} (h : tE X.K T W (gChain r r' ga gb gc) σ H Q) : tChain (tR2 X.K T r) (tR2 X.K T r') (tE X.K T W ga) (tE X.K T W gb) (tE X.K T W gc) σ H Q := by
  obtain ⟨ρ, S, as, rs, f⟩ := h
  refine seqE rs f fun x S1 v as1 H1 rs1 rx f1 l1 => ?_
  refine seqE rs1 f1 fun y S2 w as2 H2 rs2 ry f2 l2 => ?_
  refine ⟨x, y, S2, as2, rs2.rel, rx.mono l2, ry, ?_⟩
  cases e : r x y S2 with
  | exc c S3 => rw [e] at f2; exact f2
  | stuck => rw [e] at f2; exact f2
  | ok z S3 =>
    rw [e] at f2
    cases z with
    | bl k =>
      intro u as3 H3 l3 r3 ra3
      cases ra3
      refine ⟨k, rfl, ?_⟩
      have f3 : FinE X.K T W σ H3 as3 Q (if k = true then (gc ρ S3).bind fun c S4 => (r' y c S4).nox else .ok (.bl false) S3) := FinE.later f2 l3
      have rs3 := rs2.mono l3 r3
      cases k with
      | true =>
        refine seqE rs3 f3 fun z S4 w4 as4 H4 rs4 rz f4 l4 => ?_
        exact ⟨y, z, S4, as4, rs4.rel, (ry.mono l3).mono l4, rz, FinE.nox f4⟩
      | false => exact f3 _ as3 H3 .refl r3 (.bl false)
    | _ => exact False.elim f2
theorem se_chain {op op' : CmpOp} {r r' : A → A → Sto → RE} (ho : OpS X T (compareOp op) r) (ho' : OpS X T (compareOp op') r') (ha : SE X T W a ga) (hb : SE X T W b gb) (hc : SE X T W c gc) (hm : lastMarks [op, op'] [b, c] = false := by with_unfolding_all rfl) :
    SE X T W (.Compare a [op, op'] [b, c] pos) (gChain r r' ga gb gc) := pe_imp (pe_chain ho ho' ha hb hc hm) fun _ _ _ => chainI
/-- a test as an expression -/
theorem FinT.toE {K : Frg} {σ : St} {H : Hp} {as : List Addr} {Q : Bool → Hp → Prop} {r : RE} (h : FinT K T W σ H as Q r) : FinE K T W σ H as (fun x H' => ∃ k, x = .bl k ∧ Q k H') r := by
  cases r with
  | ok z S => cases z with
    | bl b => exact fun v as' H' l r ra => by cases ra; exact ⟨b, rfl, h as' H' l r⟩
    | _ => exact False.elim h
  | exc c S => exact h
  | stuck => exact h
theorem tT.toE {K : Frg} {σ : St} {H : Hp} {Q : Bool → Hp → Prop} (h : tT K T W g σ H Q) : tE K T W g σ H (fun x H' => ∃ k, x = .bl k ∧ Q k H') :=
  let ⟨ρ, S, as, rs, f⟩ := h; ⟨ρ, S, as, rs, FinT.toE f⟩
theorem st_chain {op op' : CmpOp} {r r' : A → A → Sto → RE} (ho : OpS X T (compareOp op) r) (ho' : OpS X T (compareOp op') r') (ha : SE X T W a ga) (hb : SE X T W b gb) (hc : SE X T W c gc) (hm : lastMarks [op, op'] [b, c] = false := by with_unfolding_all rfl) :
    ST X T W (.Compare a [op, op'] [b, c] pos) (gChain r r' ga gb gc) := pt_imp (pt_chain ho ho' ha hb hc hm) fun _ _ _ h => chainI (tT.toE h)
/-- a bool's expression as a test -/
theorem st_val (h : SE X T W e g) (he : ∀ whole, isTrue e X.env whole = (do let v ← whole; standAt e.pos; holding [v] (truthy v)) := by intro _; rfl) : ST X T W e g := pt_imp (pt_val h he) fun _ _ _ h => tT.toE h
theorem st_not (h : ST X T W a g) : ST X T W (.UnaryOp .Not a pos) (gNot g) := pt_imp (pt_not h) fun σ H Q ⟨ρ, S, as, rs, f⟩ =>
  seqTT rs f fun b S1 as1 H1 rs1 f1 l1 => f1 as1 H1 .refl rs1.rel
variable {rest : List Expr}
theorem sw_and1 (h : ST X T W a g) : SW X T W (.BoolOp .And [a] pos) g := pw_and1 h
theorem sw_or1 (h : ST X T W a g) : SW X T W (.BoolOp .Or [a] pos) g := pw_or1 h
theorem sw_and (ha : ST X T W a ga) (hb : SW X T W (.BoolOp .And (b :: rest) pos) gb) : SW X T W (.BoolOp .And (a :: b :: rest) pos) (gAnd ga gb) := pw_imp (pw_and ha hb) fun σ H Q ⟨ρ, S, as, rs, f⟩ =>
  seqTT rs f fun k S1 as1 H1 rs1 f1 l1 => by
    cases k with
    | true => exact ⟨ρ, S1, as1, rs1, f1⟩
    | false => exact f1 as1 H1 .refl rs1.rel
theorem sw_or (ha : ST X T W a ga) (hb : SW X T W (.BoolOp .Or (b :: rest) pos) gb) : SW X T W (.BoolOp .Or (a :: b :: rest) pos) (gOr ga gb) := pw_imp (pw_or ha hb) fun σ H Q ⟨ρ, S, as, rs, f⟩ =>
  seqTT rs f fun k S1 as1 H1 rs1 f1 l1 => by
    cases k with
    | false => exact ⟨ρ, S1, as1, rs1, f1⟩
    | true => exact f1 as1 H1 .refl rs1.rel
theorem st_w (h : SW X T W e g) : ST X T W e g := PW.pt h
/-- an expression first, a bool -/
theorem seqB {K : Frg} {σ : St} {H : Hp} {as : List Addr} {S : Sto} {ρ : Ro} {k : Bool → Sto → RE} {Q : VK} {R : V → Hp → Prop} (rs : RelSt K T ρ S as σ H) (f : FinE K T W σ H as Q ((g ρ S).bindT k))
    (n : ∀ b S1 as1 H1, RelSt K T ρ S1 as1 σ H1 → FinE K T W σ H1 as1 Q (k b S1) → Le K H as H1 as1 → R (.bl b) H1) : tE K T W g σ H R := by
  refine ⟨ρ, S, as, rs, ?_⟩
  cases e : g ρ S with
  | ok a S1 =>
    rw [e] at f
    cases a with
    | bl b => exact fun v as1 H1 l r ra => by cases ra; exact n b S1 as1 H1 (rs.mono l r) (FinE.later f l) l
    | _ => exact False.elim f
  | exc c S1 => rw [e] at f; exact f
  | stuck => rw [e] at f; exact f
theorem se_one {op} (h : SE X T W a g) : SE X T W (.BoolOp op [a] pos) g := pe_one h
theorem se_and (ha : SE X T W a ga) (hb : SE X T W (.BoolOp .And (b :: rest) pos) gb) : SE X T W (.BoolOp .And (a :: b :: rest) pos) (gAnd ga gb) := pe_imp (pe_and ha hb) fun σ H Q ⟨ρ, S, as, rs, f⟩ =>
  seqB rs f fun k S1 as1 H1 rs1 f1 l1 => ⟨k, rfl, by
    cases k with
    | true => exact ⟨ρ, S1, as1, rs1, f1⟩
    | false => exact f1 _ as1 H1 .refl rs1.rel (.bl false)⟩
theorem se_or (ha : SE X T W a ga) (hb : SE X T W (.BoolOp .Or (b :: rest) pos) gb) : SE X T W (.BoolOp .Or (a :: b :: rest) pos) (gOr ga gb) := pe_imp (pe_or ha hb) fun σ H Q ⟨ρ, S, as, rs, f⟩ =>
  seqB rs f fun k S1 as1 H1 rs1 f1 l1 => ⟨k, rfl, by
    cases k with
    | false => exact ⟨ρ, S1, as1, rs1, f1⟩
    | true => exact f1 _ as1 H1 .refl rs1.rel (.bl true)⟩
theorem se_not (h : SE X T W a g) : SE X T W (.UnaryOp .Not a pos) (gNot g) := pe_imp (pe_not h) fun σ H Q ⟨ρ, S, as, rs, f⟩ =>
  seqB rs f fun k S1 as1 H1 rs1 f1 l1 => ⟨k, rfl, f1 _ as1 H1 .refl rs1.rel (.bl _)⟩
theorem se_if (hc : ST X T W c gc) (ha : SE X T W a ga) (hb : SE X T W b gb) : SE X T W (.IfExp c a b pos) (gIf gc ga gb) := pe_imp (pe_ifExp hc ha hb) fun σ H Q ⟨ρ, S, as, rs, f⟩ =>
  seqTE rs f fun k S1 as1 H1 rs1 f1 l1 => by
    cases k with
    | true => exact ⟨ρ, S1, as1, rs1, f1⟩
    | false => exact ⟨ρ, S1, as1, rs1, f1⟩
theorem sa_nil : SA X T W [] gNil := pa_imp pa_nil fun σ H Q ⟨ρ, S, as, rs, f⟩ => f _ as H .refl rs.rel .nil
theorem sa_cons (ha : SE X T W e g) (hr : SA X T W es gs) (hs : starEach (e :: es) X.env = (false, eval e X.env) :: starEach es X.env := by rfl) : SA X T W (e :: es) (gCons g gs) := pa_imp (pa_cons ha hr hs) fun σ H Q ⟨ρ, S, as, rs, f⟩ =>
  seqA rs f fun x S1 v as1 H1 rs1 rx f1 l1 => seqAA rs1 f1 fun l S2 vs as2 H2 rs2 rl f2 l2 => f2 _ as2 H2 .refl rs2.rel (.cons (rx.mono l2) rl)
theorem sz5 {n : Nat} (h : n ≤ 100000) : n ≤ sizeLine := Nat.le_trans h (by decide)
theorem se_tup {x1} (h : SA X T W es gs) : SE X T W (.Tuple es x1 pos) (gTup gs) := pe_imp (pe_tup h) fun σ H Q ⟨ρ, S, as, rs, f⟩ =>
  seqAE rs f fun l S1 vs as1 H1 rs1 rl f1 l1 => by
    split at f1
    · rename_i hl
      refine ⟨sz5 (by rw [← rl.length]; exact hl), fun p hp => ?_⟩
      have k := Kp.new (o := HO.tup vs) hp
      exact f1 _ as1 _ k.le (rs1.rel.tup hp) (.tup (SqT.of upd_same) (rl.mono k.le))
    · exact False.elim f1
theorem se_lst (h : SA X T W es gs) : SE X T W (.List es pos) (gLst gs) := pe_imp (pe_lst h) fun σ H Q ⟨ρ, S, as, rs, f⟩ =>
  seqAE rs f fun l S1 vs as1 H1 rs1 rl f1 l1 => by
    split at f1
    · rename_i hl
      refine ⟨sz5 (by rw [← rl.length]; exact hl), fun p hp => ?_⟩
      have k := Kp.new (o := HO.lst vs) hp
      have lA : Le X.K H1 as1 (upd H1 p (.lst vs)) (as1 ++ [p]) := k.leA p
      exact f1 _ _ _ lA (rs1.rel.alloc hp ⟨vs, upd_same, rl.mono lA⟩) (.ob (by rw [← rs1.rel.len]; simp))
    · exact False.elim f1
theorem se_callB {id : String} {x : Str} {p : Pos} {r : List A → Sto → RE} (hc : CallS X T (.builtin id) r) (hg : Gl X x) (hm : X.mg x = none) (hv : bootBuiltins x = some (.builtin id)) (ha : SA X T W (e :: es) gs) (hn : x ≠ "__name__" := by decide) (hdb : (x == ("__debug__" : Str)) = false := by decide)
    (he : starEach (e :: es) X.env = (false, eval e X.env) :: starEach es X.env := by rfl) (hpl : (backTo pos (starEach es X.env)).any (·.1) = false := by rfl) : SE X T W (.Call (.Name x p) (e :: es) [] pos) (gCB r gs) := pe_imp (pe_callB hc hg hm hv ha hn hdb he hpl) fun σ H Q ⟨ρ, S, as, rs, f⟩ =>
  seqAE rs f fun l S1 vs as1 H1 rs1 rl f1 l1 => ⟨l, S1, as1, rs1.rel, rl, FinE.nox f1⟩
theorem se_callTy {Ty : String} {x : Str} {p : Pos} {r : List A → Sto → RE} (hc : CallS X T (.type Ty) r) (hg : Gl X x) (hm : X.mg x = none) (hv : bootBuiltins x = some (.type Ty)) (ha : SA X T W (e :: es) gs) (hn : x ≠ "__name__" := by decide) (hdb : (x == ("__debug__" : Str)) = false := by decide)
    (he : starEach (e :: es) X.env = (false, eval e X.env) :: starEach es X.env := by rfl) (hpl : (backTo pos (starEach es X.env)).any (·.1) = false := by rfl) : SE X T W (.Call (.Name x p) (e :: es) [] pos) (gCB r gs) := pe_imp (pe_callTy hc hg hm hv ha hn hdb he hpl) fun σ H Q ⟨ρ, S, as, rs, f⟩ =>
  seqAE rs f fun l S1 vs as1 H1 rs1 rl f1 l1 => ⟨l, S1, as1, rs1.rel, rl, FinE.nox f1⟩
end
end Sx

set_option Elab.async false
set_option linter.all false
set_option maxRecDepth 100000
set_option maxHeartbeats 1000000
namespace Sx
open PySem L2
/-! ### statements -/
def gSet (i : Nat) (g : GE) : GS := fun ρ S => (g ρ S).bindS ρ fun a S1 => .nx (ρ.set i (some a)) S1
def gExpr (g : GE) : GS := fun ρ S => (g ρ S).bindS ρ fun _ S1 => .nx ρ S1
def gRet (g : GE) : GS := fun ρ S => (g ρ S).bindS ρ fun a S1 => .ret a S1
def gRetN : GS := fun _ S => .ret .non S
def gPass : GS := fun ρ S => .nx ρ S
def gBrk : GS := fun ρ S => .brk ρ S
def gCt : GS := fun ρ S => .ct ρ S
def gRaise (c : Value) : GS := fun ρ S => .exc c ρ S
def gIfS (c : GE) (g1 g2 : GS) : GS := fun ρ S => (c ρ S).bindTS ρ fun b S1 => if b = true then g1 ρ S1 else g2 ρ S1
def RS.seq (r : RS) (k : GS) : RS := match r with
  | .nx ρ S => k ρ S
  | r => r
@[simp] theorem RS.seq_nx (ρ : Ro) (S : Sto) (k : GS) : (RS.nx ρ S).seq k = k ρ S := rfl
@[simp] theorem RS.seq_ret (a : A) (S : Sto) (k : GS) : (RS.ret a S).seq k = .ret a S := rfl
@[simp] theorem RS.seq_brk (ρ : Ro) (S : Sto) (k : GS) : (RS.brk ρ S).seq k = .brk ρ S := rfl
@[simp] theorem RS.seq_ct (ρ : Ro) (S : Sto) (k : GS) : (RS.ct ρ S).seq k = .ct ρ S := rfl
@[simp] theorem RS.seq_exc (c : Value) (ρ : Ro) (S : Sto) (k : GS) : (RS.exc c ρ S).seq k = .exc c ρ S := rfl
@[simp] theorem RS.seq_stuck (k : GS) : RS.stuck.seq k = .stuck := rfl
def gSeq (g1 g2 : GS) : GS := fun ρ S => (g1 ρ S).seq g2
/-- targets -/
abbrev GG := A → Ro → Sto → Option (Ro × Sto)
def nName (i : Nat) : GG := fun a ρ S => some (ρ.set i (some a), S)
def setAll : List Nat → List A → Ro → Ro
  | i :: is, a :: l, ρ => setAll is l (ρ.set i (some a))
  | _, _, ρ => ρ
def nTup (is : List Nat) : GG := fun a ρ S => match a with
  | .tup xs => if xs.length = is.length then some (setAll is xs ρ, S) else none
  | _ => none
def tG (K : Frg) (T : Tbs) (gg : GG) : TG := fun v σ H Q => ∃ a ρ S as, RelSt K T ρ S as σ H ∧ RelA K H as a v ∧ match gg a ρ S with
  | some (ρ', S') => ∀ σ' as' H', Le K H as H' as' → RelSt K T ρ' S' as' σ' H' → Q σ' H'
  | none => False
def tGs (K : Frg) (T : Tbs) (is : List Nat) : TGs := fun vs σ H Q => ∃ l ρ S as, RelSt K T ρ S as σ H ∧ RelL K H as l vs ∧ l.length = is.length ∧
  ∀ σ' as' H', Le K H as H' as' → RelSt K T (setAll is l ρ) S as' σ' H' → Q σ' H'
abbrev SG (X : Cx) (T : Tbs) (tg : Expr) (gg : GG) : Prop := PG X tg (tG X.K T gg)
abbrev SGs (X : Cx) (T : Tbs) (tgs : List Expr) (is : List Nat) : Prop := PGs X tgs (tGs X.K T is)
def gAsg (g : GE) (gg : GG) : GS := fun ρ S => (g ρ S).bindS ρ fun a S1 => match gg a ρ S1 with
  | some (ρ2, S2) => .nx ρ2 S2
  | none => .stuck
section
variable {K : Frg} {T : Tbs} {W : WX} {H H' : Hp} {as as' : List Addr} {S S' : Sto} {ρ ρ' : Ro} {σ : St}
theorem RelSt.set (h : RelSt K T ρ S as σ H) {a : A} {v : V} (i : Nat) (r : RelA K H as a v) : RelSt K T (ρ.set i (some a)) S as (σ.set i (some v)) H := by
  refine ⟨h.rel, by simp [h.len], fun j b e => ?_⟩
  by_cases hj : i = j
  · subst hj
    have hi : i < ρ.length := by
      have := (List.getElem?_eq_some_iff.mp e).1
      simpa using this
    rw [List.getElem?_set_self hi] at e
    cases e
    exact ⟨v, List.getElem?_set_self (by rw [← h.len]; exact hi), r⟩
  · rw [List.getElem?_set_ne hj] at e
    rw [List.getElem?_set_ne hj]
    exact h.slot j b e
theorem RelSt.mv (h : RelSt K T ρ S as σ H) (l : Le K H as H' as') (r : Rel K T S' as' H') : RelSt K T ρ S' as' σ H' := h.mono l r
end
section
variable {X : Cx} {T : Tbs} {W : WX} {e a b c : Expr} {es : List Expr} {pos : Pos} {st : Stmt} {rest : List Stmt} {g ga gb gc : GE} {gs : GA} {q q1 q2 : GS} {gg : GG}
theorem sg_name {i : Nat} {x : Str} (hN : X.N.Nodup) (hi : X.N[i]? = some x) (hx : Loc X.env.scope x) (hf : X.fn x = true ∨ X.env.scope.names.lookup x = some .local := by first | exact .inl rfl | exact .inr rfl | assumption) : SG X T (.Name x pos) (nName i) :=
  ⟨fun pins s σ H v u Q I r ⟨a, ρ, S, as, rs, ra, k⟩ => (pg_name hN hi hx hf).run pins s σ H v u Q I r (k _ as H .refl (rs.set i ra))⟩
theorem sgs_nil : SGs X T [] [] := ⟨fun pins s σ H vs us Q I r ⟨l, ρ, S, as, rs, rl, el, k⟩ => by
  have e : l = [] := List.length_eq_zero_iff.mp el
  subst e
  have e2 : vs = [] := List.length_eq_zero_iff.mp (by rw [← rl.length]; rfl)
  exact pgs_nil.run pins s σ H vs us Q I r ⟨e2, k _ as H .refl rs⟩⟩
theorem sgs_cons {i : Nat} {is : List Nat} {x : Str} {p : Pos} {es : List Expr} (hN : X.N.Nodup) (hi : X.N[i]? = some x) (hx : Loc X.env.scope x) (h2 : SGs X T es is) (hf : X.fn x = true ∨ X.env.scope.names.lookup x = some .local := by first | exact .inl rfl | exact .inr rfl | assumption)
    (hs : (assignEach (.Name x p :: es) X.env).map (·.2) = assign (.Name x p) X.env :: (assignEach es X.env).map (·.2) := by rfl) : SGs X T (.Name x p :: es) (i :: is) :=
  ⟨fun pins s σ H vs us Q I r ⟨l, ρ, S, as, rs, rl, el, k⟩ => by
    refine (pgs_cons (pg_name hN hi hx hf) h2 hs).run pins s σ H vs us Q I r ?_
    cases rl with
    | nil => cases el
    | cons ra rl2 => exact ⟨_, _, rfl, _, _, S, as, rs.set i ra, rl2, by simpa using el, k⟩⟩
theorem sg_tup {es : List Expr} {is : List Nat} {k : Nat} (hc : X.calm = true) (h : SGs X T es is) (hn : (assignEach es X.env).length = is.length := by rfl) (hst : (assignEach es X.env).findIdx? (·.1) = none := by rfl) : SG X T (.Tuple es k pos) (nTup is) :=
  ⟨fun pins s σ H v u Q I r ⟨a, ρ, S, as, rs, ra, kk⟩ => by
    refine (pg_tup hc h hn hst).run pins s σ H v u Q I r ?_
    cases ra with
    | tup hs rl =>
      unfold nTup at kk
      dsimp only at kk
      split at kk
      · rename_i ρ2 S2 he
        split at he
        · rename_i hlen
          cases he
          exact ⟨_, _, rfl, hs, by rw [← rl.length]; exact hlen, _, ρ, S, as, rs, rl, hlen, kk⟩
        · cases he
      · exact False.elim kk
    | _ => exact False.elim kk⟩
theorem ss_set {i : Nat} {x : Str} {pos' : Pos} (hN : X.N.Nodup) (hi : X.N[i]? = some x) (hx : Loc X.env.scope x) (he : SE X T W e g) (hs : swapsWith e (some (.Name x pos')) pos.line X.env = pure false := by rfl) (hf : X.fn x = true ∨ X.env.scope.names.lookup x = some .local := by first | exact .inl rfl | exact .inr rfl | assumption) :
    SS X T W (.Assign [.Name x pos'] e pos) (gSet i g) := ps_imp (ps_set hN hi hx he hs hf) fun D σ H ⟨ρ, S, as, rs, f⟩ =>
  seqES rs f fun x S1 v as1 H1 rs1 rx f1 l1 => f1 _ as1 H1 .refl (rs1.set i rx)
theorem ss_asg {tg : Expr} (he : SE X T W e g) (hg : SG X T tg gg) (hs : swapsWithSole [tg] e pos.line X.env = pure false := by rfl) (hw : swappedStores [tg] e X.env = pure none := by rfl)
    (h1 : (assignEach [tg] X.env).map (·.2) = [assign tg X.env] := by rfl) : SS X T W (.Assign [tg] e pos) (gAsg g gg) := ps_imp (ps_asg he hg hs hw h1) fun D σ H ⟨ρ, S, as, rs, f⟩ =>
  seqES rs f fun x S1 v as1 H1 rs1 rx f1 l1 => ⟨x, ρ, S1, as1, rs1, rx, by
    split at f1
    · exact f1
    · exact False.elim f1⟩
theorem ss_expr (he : SE X T W e g) (hs : swapsWith e none pos.line X.env = pure false := by rfl) : SS X T W (.Expr e pos) (gExpr g) := ps_imp (ps_expr he hs) fun D σ H ⟨ρ, S, as, rs, f⟩ =>
  seqES rs f fun x S1 v as1 H1 rs1 rx f1 l1 => f1 _ as1 H1 .refl rs1
theorem ss_ret (he : SE X T W e g) : SS X T W (.Return (some e) pos) (gRet g) := ps_imp (ps_ret he) fun D σ H ⟨ρ, S, as, rs, f⟩ =>
  seqES rs f fun x S1 v as1 H1 rs1 rx f1 l1 => f1 _ as1 H1 .refl rs1.rel rx
theorem ss_retN : SS X T W (.Return none pos) gRetN := ps_imp ps_retN fun D σ H ⟨ρ, S, as, rs, f⟩ => f _ as H .refl rs.rel .non
theorem ss_pass : SS X T W (.Pass pos) gPass := ps_imp ps_pass fun D σ H ⟨ρ, S, as, rs, f⟩ => f _ as H .refl rs
theorem ss_brk : SS X T W (.Break pos) gBrk := ps_imp ps_break fun D σ H ⟨ρ, S, as, rs, f⟩ => f _ as H .refl rs
theorem ss_ct : SS X T W (.Continue pos) gCt := ps_imp ps_continue fun D σ H ⟨ρ, S, as, rs, f⟩ => f _ as H .refl rs
theorem ss_if {x y : List Stmt} (hc : ST X T W c gc) (ha : SB X T W x q1) (hb : SB X T W y q2) : SS X T W (.If c x y pos) (gIfS gc q1 q2) := ps_imp (ps_if hc ha hb) fun D σ H ⟨ρ, S, as, rs, f⟩ =>
  seqTS rs f fun k S1 as1 H1 rs1 f1 l1 => by
    cases k with
    | true => exact ⟨ρ, S1, as1, rs1, f1⟩
    | false => exact ⟨ρ, S1, as1, rs1, f1⟩
theorem sb_nil : SB X T W [] gPass := pss_imp pss_nil fun D σ H ⟨ρ, S, as, rs, f⟩ => f _ as H .refl rs
theorem sb_one (h : SS X T W st q) : SB X T W [st] q := pss_one h
theorem sb_cons (h1 : SS X T W st q1) (h2 : SB X T W rest q2) : SB X T W (st :: rest) (gSeq q1 q2) := pss_imp (pss_cons h1 h2) fun D σ H ⟨ρ, S, as, rs, f⟩ => by
  refine ⟨ρ, S, as, rs, ?_⟩
  unfold gSeq at f
  cases e : q1 ρ S with
  | nx ρ1 S1 =>
    rw [e] at f
    exact fun σ1 as1 H1 l1 rs1 => ⟨ρ1, S1, as1, rs1, FinS.later f l1⟩
  | ret a S1 => rw [e] at f; exact f
  | brk ρ1 S1 => rw [e] at f; exact f
  | ct ρ1 S1 => rw [e] at f; exact f
  | exc c ρ1 S1 => rw [e] at f; exact f
  | stuck => rw [e] at f; exact f
theorem ss_raise {C : Addr} (hc : X.calm = true) (tk : Takes X W) (he : PMk X e (fun _ H Q => Q (.ref C) none H)) : SS X T W (.Raise (some e) none pos) (gRaise (.ref C)) := ps_imp (ps_raise hc tk he) fun D σ H ⟨ρ, S, as, rs, f⟩ => f _ as H .refl rs

/-! ### what is walked -/
inductive RI where | ok (items : List A) (chk : Sto → Bool) (S : Sto) | exc (c : Value) (S : Sto) | stuck
abbrev GI := Ro → Sto → RI
def Walk (K : Frg) (T : Tbs) (J : It) (H0 : Hp) (as0 : List Addr) (items : List A) (chk : Sto → Bool) : Prop := ∀ S as H, Le K H0 as0 H as → Rel K T S as H → chk S = true →
  (∀ (i : Nat) x, items[i]? = some x → J.go i H ∧ ∀ y H', J.yld i H y H' → ∃ as', Le K H as H' as' ∧ Rel K T S as' H' ∧ RelA K H' as' x y) ∧ ∀ i, items.length ≤ i → J.stop i H
def FinI (K : Frg) (T : Tbs) (W : WX) (σ : St) (H : Hp) (as : List Addr) (R : It → Hp → Prop) : RI → Prop
  | .ok items chk S' => ∀ J as' H', Le K H as H' as' → Rel K T S' as' H' → Walk K T J H' as' items chk → R J H'
  | .exc c S' => ∀ as' H', Le K H as H' as' → Rel K T S' as' H' → W c none σ H'
  | .stuck => False
def tI (K : Frg) (T : Tbs) (W : WX) (gi : GI) : TI := fun σ H R => ∃ ρ S as, RelSt K T ρ S as σ H ∧ FinI K T W σ H as R (gi ρ S)
abbrev SI (X : Cx) (T : Tbs) (W : WX) (tg iter : Expr) (gi : GI) : Prop := PI X tg iter (tI X.K T W gi)
/-- for -/
def forGo (chk : Sto → Bool) (gg : GG) (body : GS) : List A → Ro → Sto → RS
  | [], ρ, S => if chk S = true then .nx ρ S else .stuck
  | x :: r, ρ, S => if chk S = true then (match gg x ρ S with
    | some (ρ1, S1) => (match body ρ1 S1 with
      | .nx ρ2 S2 => forGo chk gg body r ρ2 S2
      | .ct ρ2 S2 => forGo chk gg body r ρ2 S2
      | .brk ρ2 S2 => .nx ρ2 S2
      | z => z)
    | none => .stuck) else .stuck
def gFor (gi : GI) (gg : GG) (body : GS) : GS := fun ρ S => match gi ρ S with
  | .ok items chk S1 => forGo chk gg body items ρ S1
  | .exc c S1 => .exc c ρ S1
  | .stuck => .stuck
theorem ss_for {tg iter : Expr} {body : List Stmt} {gi : GI} (hp : PassesOwn (model X.prog X.w) X.A X.env X.xe) (hc : X.calm = true) (hi : SI X T W tg iter gi) (hg : SG X T tg gg) (hb : SB X T W body q)
    (hs : ∀ x, foldedSetIterable iter X.env x = pure x := by intro _; rfl) : SS X T W (.For tg iter body [] pos) (gFor gi gg q) := ps_imp (ps_for hp hc hi hg hb hs) fun D σ H ⟨ρ, S, as, rs, f⟩ => by
  refine ⟨ρ, S, as, rs, ?_⟩
  unfold gFor at f
  cases e : gi ρ S with
  | stuck => rw [e] at f; exact f
  | exc c S1 => rw [e] at f; exact fun as1 H1 l1 r1 => f σ as1 H1 l1 (rs.mono l1 r1)
  | ok items chk S1 =>
    rw [e] at f
    intro J as1 H1 l1 r1 wk
    refine ⟨fun i m σ' H' => ∃ ρ' S' as', Le X.K H1 as1 H' as' ∧ RelSt X.K T ρ' S' as' σ' H' ∧ m = items.length - i ∧ FinS X.K T W D H' as' (forGo chk gg q (items.drop i) ρ' S'), ⟨items.length, ρ, S1, as1, .refl, rs.mono l1 r1, by simp, FinS.later f l1⟩, ?_⟩
    rintro i m σ2 H2 ⟨ρ2, S2, as2, l2, rs2, hm, f2⟩
    by_cases hi : i < items.length
    · have hd : items.drop i = items[i] :: items.drop (i + 1) := List.drop_eq_getElem_cons hi
      rw [hd] at f2
      unfold forGo at f2
      split at f2
      · rename_i hchk
        obtain ⟨w1, w2⟩ := wk S2 as2 H2 l2 rs2.rel hchk
        obtain ⟨go, yl⟩ := w1 i items[i] (by simp [hi])
        refine .inr ⟨go, fun σ' H' => ∃ ρ' S' as', Le X.K H1 as1 H' as' ∧ RelSt X.K T ρ' S' as' σ' H' ∧ FinS X.K T W D H' as' (forGo chk gg q (items.drop (i + 1)) ρ' S'), fun σ' H' ⟨ρ', S', as', a1, a2, a3⟩ => ⟨items.length - (i + 1), by omega, ρ', S', as', a1, a2, rfl, a3⟩, fun y H3 hy => ?_⟩
        obtain ⟨as3, l3, r3, ra3⟩ := yl y H3 hy
        refine ⟨items[i], ρ2, S2, as3, rs2.mono l3 r3, ra3, ?_⟩
        split at f2
        · rename_i ρ3 S3 hgg
          intro σ4 as4 H4 l4 rs4
          refine ⟨ρ3, S3, as4, rs4, ?_⟩
          have l24 := l3.trans l4
          have l14 := l2.trans l24
          cases eb : q ρ3 S3 with
          | nx ρ5 S5 => rw [eb] at f2; exact fun σ5 as5 H5 l5 rs5 => ⟨ρ5, S5, as5, l14.trans l5, rs5, FinS.later f2 (l24.trans l5)⟩
          | ct ρ5 S5 => rw [eb] at f2; exact fun σ5 as5 H5 l5 rs5 => ⟨ρ5, S5, as5, l14.trans l5, rs5, FinS.later f2 (l24.trans l5)⟩
          | brk ρ5 S5 => rw [eb] at f2; exact fun σ5 as5 H5 l5 rs5 => f2 σ5 as5 H5 (l24.trans l5) rs5
          | ret a5 S5 => rw [eb] at f2; exact fun v as5 H5 l5 r5 ra5 => f2 v as5 H5 (l24.trans l5) r5 ra5
          | exc c5 ρ5 S5 => rw [eb] at f2; exact fun σ5 as5 H5 l5 rs5 => f2 σ5 as5 H5 (l24.trans l5) rs5
          | stuck => rw [eb] at f2; exact f2
        · exact False.elim f2
      · exact False.elim f2
    · have hd : items.drop i = [] := List.drop_eq_nil_of_le (by omega)
      rw [hd] at f2
      unfold forGo at f2
      split at f2
      · rename_i hchk
        obtain ⟨w1, w2⟩ := wk S2 as2 H2 l2 rs2.rel hchk
        exact .inl ⟨w2 i (by omega), f2 σ2 as2 H2 .refl rs2⟩
      · exact False.elim f2
/-- while -/
def whileGo (c : GE) (body : GS) : Nat → Ro → Sto → RS
  | 0, _, _ => .stuck
  | n + 1, ρ, S => (c ρ S).bindTS ρ fun b S1 => if b = true then (match body ρ S1 with
    | .nx ρ2 S2 => whileGo c body n ρ2 S2
    | .ct ρ2 S2 => whileGo c body n ρ2 S2
    | .brk ρ2 S2 => .nx ρ2 S2
    | z => z) else .nx ρ S1
def gWhile (fuel : Ro → Sto → Nat) (c : GE) (body : GS) : GS := fun ρ S => whileGo c body (fuel ρ S) ρ S
theorem ss_while {body : List Stmt} (fuel : Ro → Sto → Nat) (hp : PassesOwn (model X.prog X.w) X.A X.env X.xe) (hc : ST X T W c gc) (hb : SB X T W body q) : SS X T W (.While c body [] pos) (gWhile fuel gc q) := ps_imp (ps_while hp hc hb) fun D σ H ⟨ρ, S, as, rs, f⟩ => by
  refine ⟨fun m σ' H' => ∃ ρ' S' as', Le X.K H as H' as' ∧ RelSt X.K T ρ' S' as' σ' H' ∧ FinS X.K T W D H' as' (whileGo gc q m ρ' S'), ⟨fuel ρ S, ρ, S, as, .refl, rs, f⟩, ?_⟩
  rintro m σ2 H2 ⟨ρ2, S2, as2, l2, rs2, f2⟩
  cases m with
  | zero => exact False.elim f2
  | succ m =>
    unfold whileGo at f2
    refine seqTS rs2 f2 fun b S3 as3 H3 rs3 f3 l3 => ?_
    cases b with
    | true =>
      rw [if_pos rfl] at f3 ⊢
      refine ⟨fun σ' H' => ∃ ρ' S' as', Le X.K H as H' as' ∧ RelSt X.K T ρ' S' as' σ' H' ∧ FinS X.K T W D H' as' (whileGo gc q m ρ' S'), fun σ' H' h => ⟨m, Nat.lt_succ_self m, h⟩, ρ2, S3, as3, rs3, ?_⟩
      have l13 := l2.trans l3
      cases eb : q ρ2 S3 with
      | nx ρ5 S5 => rw [eb] at f3; exact fun σ5 as5 H5 l5 rs5 => ⟨ρ5, S5, as5, l13.trans l5, rs5, FinS.later f3 l5⟩
      | ct ρ5 S5 => rw [eb] at f3; exact fun σ5 as5 H5 l5 rs5 => ⟨ρ5, S5, as5, l13.trans l5, rs5, FinS.later f3 l5⟩
      | brk ρ5 S5 => rw [eb] at f3; exact f3
      | ret a5 S5 => rw [eb] at f3; exact f3
      | exc c5 ρ5 S5 => rw [eb] at f3; exact f3
      | stuck => rw [eb] at f3; exact f3
    | false =>
      rw [if_neg (by decide)] at f3 ⊢
      exact f3 σ2 as3 H3 .refl rs3
end
end Sx

set_option Elab.async false
set_option linter.all false
set_option maxRecDepth 100000
set_option maxHeartbeats 1000000
namespace Sx
open PySem L2
/-! ### comprehensions -/
def wipeR (ρ : Ro) : List Nat → Ro
  | [] => ρ
  | v :: vs => (wipeR ρ vs).set v none
abbrev W0 : WX := fun _ _ _ _ => False
theorem wipe_keep {σ : St} {i : Nat} : ∀ {vs : List Nat}, i ∉ vs → (wipe σ vs)[i]? = σ[i]?
  | [], _ => rfl
  | v :: vs, h => by
    unfold wipe
    simp only [List.mem_cons, not_or] at h
    rw [List.getElem?_set_ne (fun e => h.1 e.symm), wipe_keep h.2]
theorem wipeR_some {ρ : Ro} {i : Nat} {x : A} : ∀ {vs : List Nat}, (wipeR ρ vs)[i]? = some (some x) → ρ[i]? = some (some x) ∧ i ∉ vs
  | [], h => ⟨h, by simp⟩
  | v :: vs, h => by
    unfold wipeR at h
    by_cases hi : v = i
    · subst hi
      by_cases hv : v < (wipeR ρ vs).length
      · rw [List.getElem?_set_self hv] at h; cases h
      · rw [List.getElem?_eq_none (by simpa using hv)] at h; cases h
    · rw [List.getElem?_set_ne hi] at h
      obtain ⟨h1, h2⟩ := wipeR_some h
      exact ⟨h1, by simp only [List.mem_cons, not_or]; exact ⟨fun e => hi e.symm, h2⟩⟩
theorem wipeR_length (ρ : Ro) : ∀ vs : List Nat, (wipeR ρ vs).length = ρ.length
  | [] => rfl
  | v :: vs => by unfold wipeR; rw [List.length_set, wipeR_length ρ vs]
theorem wipe_set {σ : St} {j : Nat} {x : Option V} : ∀ {vs : List Nat}, j ∈ vs → wipe (σ.set j x) vs = wipe σ vs
  | [], h => by simp at h
  | v :: vs, h => by
    unfold wipe
    by_cases hj : j ∈ vs
    · rw [wipe_set hj]
    · have e : j = v := by simpa [hj] using h
      subst e
      apply List.ext_getElem?
      intro i
      by_cases hi : j = i
      · subst hi
        by_cases hl : j < σ.length
        · rw [List.getElem?_set_self (by rw [wipe_length, List.length_set]; exact hl), List.getElem?_set_self (by rw [wipe_length]; exact hl)]
        · rw [List.getElem?_eq_none (by simp [wipe_length]; omega), List.getElem?_eq_none (by simp [wipe_length]; omega)]
      · rw [List.getElem?_set_ne hi, List.getElem?_set_ne hi]
        by_cases hv : i ∈ vs
        · have z : ∀ (τ : St) (us : List Nat), i ∈ us → τ.length = σ.length → (wipe τ us)[i]? = if i < σ.length then some none else none := by
            intro τ us
            induction us with
            | nil => intro h; simp at h
            | cons u us ih =>
              intro hm hlen
              unfold wipe
              by_cases hu : u = i
              · subst hu
                by_cases hl : u < σ.length
                · rw [if_pos hl, List.getElem?_set_self (by rw [wipe_length, hlen]; exact hl)]
                · rw [if_neg hl, List.getElem?_eq_none (by simp [wipe_length]; omega)]
              · rw [List.getElem?_set_ne hu]
                exact ih (by simpa [Ne.symm hu] using hm) hlen
          rw [z _ vs hv (by simp), z _ vs hv rfl]
        · rw [wipe_keep hv, wipe_keep hv, List.getElem?_set_ne hi]
theorem wipe_idem {σ : St} : ∀ vs : List Nat, ∀ us : List Nat, (∀ v ∈ vs, v ∈ us) → wipe (wipe σ vs) us = wipe σ us
  | [], us, _ => rfl
  | v :: vs, us, h => by
    show wipe ((wipe σ vs).set v none) us = _
    rw [wipe_set (h v (by simp)), wipe_idem vs us fun x hx => h x (by simp [hx])]
theorem RelSt.wiped {K : Frg} {T : Tbs} {ρ : Ro} {S : Sto} {as : List Addr} {σ : St} {H : Hp} (h : RelSt K T ρ S as σ H) (vs : List Nat) : RelSt K T (wipeR ρ vs) S as (wipe σ vs) H :=
  ⟨h.rel, by rw [wipeR_length, wipe_length, h.len], fun i a e => by
    obtain ⟨h1, h2⟩ := wipeR_some e
    rw [wipe_keep h2]
    exact h.slot i a h1⟩
/-- a comprehension's target: what it does to the slots, exactly -/
def TgOk (K : Frg) (T : Tbs) (tgt : TG) (gg : GG) (vs : List Nat) : Prop := ∀ v σ H Q a ρ S as ρ' S', RelSt K T ρ S as σ H → RelA K H as a v → gg a ρ S = some (ρ', S') → (∀ σ', RelSt K T ρ' S' as σ' H → wipe σ' vs = wipe σ vs → Q σ' H) → tgt v σ H Q
theorem tg_name {K : Frg} {T : Tbs} {j : Nat} {vs : List Nat} (h : j ∈ vs) : TgOk K T (gName j) (nName j) vs := fun v σ H Q a ρ S as ρ' S' rs ra e k => by
  cases e
  exact k _ (rs.set j ra) (wipe_set h)
def gNames : List Nat → TGs
  | [] => L2.gNil
  | i :: is => L2.gCons (gName i) (gNames is)
theorem tgs_names {K : Frg} {T : Tbs} {vs : List Nat} : ∀ (is : List Nat), (∀ i ∈ is, i ∈ vs) → ∀ xs σ H Q l ρ S as, RelSt K T ρ S as σ H → RelL K H as l xs → l.length = is.length → (∀ σ', RelSt K T (setAll is l ρ) S as σ' H → wipe σ' vs = wipe σ vs → Q σ' H) → gNames is xs σ H Q
  | [], _, xs, σ, H, Q, l, ρ, S, as, rs, rl, hl, k => by
    have e : l = [] := List.length_eq_zero_iff.mp hl
    subst e
    cases rl
    exact ⟨rfl, k σ rs rfl⟩
  | i :: is, h, xs, σ, H, Q, l, ρ, S, as, rs, rl, hl, k => by
    cases rl with
    | nil => cases hl
    | cons ra rl2 =>
      refine ⟨_, _, rfl, ?_⟩
      refine tgs_names is (fun j hj => h j (by simp [hj])) _ _ H Q _ _ S as (rs.set i ra) rl2 (by simpa using hl) fun σ' rs' e => k σ' rs' ?_
      rw [e, wipe_set (h i (by simp))]
theorem tg_tup {K : Frg} {T : Tbs} {is vs : List Nat} (h : ∀ i ∈ is, i ∈ vs) : TgOk K T (L2.gTup K is.length (gNames is)) (nTup is) vs := fun v σ H Q a ρ S as ρ' S' rs ra e k => by
  unfold nTup at e
  cases ra with
  | tup hs rl =>
    dsimp only at e
    split at e
    · rename_i hlen
      cases e
      exact ⟨_, _, rfl, hs, by rw [← rl.length]; exact hlen, tgs_names is h _ σ H Q _ ρ S as rs rl hlen k⟩
    · cases e
  | _ => cases e
def lcGo (chk : Sto → Bool) (gg : GG) (gt ge : GE) (ρ0 : Ro) (d : Nat) : List A → Sto → RE
  | [], S => if chk S = true then .ok (.ob d) S else .stuck
  | x :: r, S => if chk S = true then (match gg x ρ0 S with
    | some (ρ1, S1) => ((gt ρ1 S1).nox).bindT fun b S2 => if b = true then ((ge ρ1 S2).nox).bind fun y S3 => (match S3[d]? with
      | some (.lst acc) => if acc.length < 100000 then lcGo chk gg gt ge ρ0 d r (S3.set d (.lst (acc ++ [y]))) else .stuck
      | _ => .stuck) else lcGo chk gg gt ge ρ0 d r S2
    | none => .stuck) else .stuck
def gLc (gi : GI) (gg : GG) (gt ge : GE) (vs : List Nat) : GE := fun ρ S => match gi ρ S with
  | .ok items chk S1 => lcGo chk gg gt ge (wipeR ρ vs) S1.length items (S1 ++ [.lst []])
  | .exc c S1 => .exc c S1
  | .stuck => .stuck
theorem FinE.bindTn {K : Frg} {T : Tbs} {W : WX} {H : Hp} {as : List Addr} {σ σ2 : St} {Q : VK} {R : Bool → Hp → Prop} {r : RE} {k : Bool → Sto → RE} (f : FinE K T W σ H as Q (r.nox.bindT k)) (n : ∀ b S1 as1 H1, Le K H as H1 as1 → Rel K T S1 as1 H1 → FinE K T W σ H1 as1 Q (k b S1) → R b H1) : FinT K T W0 σ2 H as R r := by
  cases r with
  | ok a S1 => cases a with
    | bl b => exact fun as1 H1 l rr => n b S1 as1 H1 l rr (FinE.later f l)
    | _ => exact False.elim f
  | exc c S1 => exact False.elim f
  | stuck => exact False.elim f
theorem FinE.bindEn {K : Frg} {T : Tbs} {W : WX} {H : Hp} {as : List Addr} {σ σ2 : St} {Q R : VK} {r : RE} {k : A → Sto → RE} (f : FinE K T W σ H as Q (r.nox.bind k)) (n : ∀ a S1 v as1 H1, Le K H as H1 as1 → Rel K T S1 as1 H1 → RelA K H1 as1 a v → FinE K T W σ H1 as1 Q (k a S1) → R v H1) : FinE K T W0 σ2 H as R r := by
  cases r with
  | ok a S1 => exact fun v as1 H1 l rr ra => n a S1 v as1 H1 l rr ra (FinE.later f l)
  | exc c S1 => exact False.elim f
  | stuck => exact False.elim f
theorem sz6 {n : Nat} (h : n < 100000) : n < sizeLine := Nat.lt_of_lt_of_le h (by decide)
section
variable {X : Cx} {T : Tbs} {W : WX} {pos : Pos} {gi : GI} {gg : GG} {gt ge : GE} {vs : List Nat} {tgt : TG}
theorem lcI (ht : TgOk X.K T tgt gg vs) {σ : St} {H : Hp} {Q : VK} (h : tE X.K T W (gLc gi gg gt ge vs) σ H Q) : tLc (tI X.K T W gi) tgt (tT X.K T W0 gt) (tE X.K T W0 ge) vs σ H Q := by
  obtain ⟨ρ, S, as, rs, f⟩ := h
  refine ⟨ρ, S, as, rs, ?_⟩
  unfold gLc at f
  cases e : gi ρ S with
  | stuck => rw [e] at f; exact f
  | exc c S1 => rw [e] at f; exact f
  | ok items chk S1 =>
    rw [e] at f
    intro J as1 H1 l1 r1 wk D hD
    have lD : Le X.K H1 as1 (upd H1 D (.lst [])) (as1 ++ [D]) := (Kp.new hD).leA D
    have rD : Rel X.K T (S1 ++ [.lst []]) (as1 ++ [D]) (upd H1 D (.lst [])) := r1.alloc hD ⟨[], upd_same, .nil⟩
    have aD : (as1 ++ [D])[S1.length]? = some D := by rw [← r1.len]; simp
    have rs1 := rs.mono l1 r1
    refine ⟨fun i m H' => ∃ S' as', Le X.K H1 as1 H' as' ∧ Rel X.K T S' as' H' ∧ as'[S1.length]? = some D ∧ m = items.length - i ∧ FinE X.K T W σ H' as' Q (lcGo chk gg gt ge (wipeR ρ vs) S1.length (items.drop i) S'), ⟨items.length, _, _, lD, rD, aD, by simp, FinE.later f (l1.trans lD)⟩, ?_⟩
    rintro i m H2 ⟨S2, as2, l2, r2, a2, hm, f2⟩
    by_cases hi : i < items.length
    · have hd : items.drop i = items[i] :: items.drop (i + 1) := List.drop_eq_getElem_cons hi
      rw [hd] at f2
      unfold lcGo at f2
      split at f2
      · rename_i hchk
        obtain ⟨w1, w2⟩ := wk S2 as2 H2 l2 r2 hchk
        obtain ⟨go, yl⟩ := w1 i items[i] (by simp [hi])
        refine .inr ⟨go, fun H' => ∃ S' as', Le X.K H1 as1 H' as' ∧ Rel X.K T S' as' H' ∧ as'[S1.length]? = some D ∧ FinE X.K T W σ H' as' Q (lcGo chk gg gt ge (wipeR ρ vs) S1.length (items.drop (i + 1)) S'), fun H' ⟨S', as', b1, b2, b3, b4⟩ => ⟨items.length - (i + 1), by omega, S', as', b1, b2, b3, rfl, b4⟩, fun y H3 hy => ?_⟩
        obtain ⟨as3, l3, r3, ra3⟩ := yl y H3 hy
        split at f2
        · rename_i ρ3 S3 hgg
          have rs3 := ((rs1.mono (l2.trans l3) r3)).wiped vs
          refine ht y _ H3 _ _ _ S2 as3 ρ3 S3 rs3 ra3 hgg fun σ4 rs4 hw => ⟨by rw [hw, wipe_idem vs vs fun _ h => h], ?_⟩
          refine ⟨ρ3, S3, as3, rs4, FinE.bindTn (FinE.later f2 l3) fun b S5 as5 H5 l5 r5 f5 => ?_⟩
          have l15 := (l2.trans l3).trans l5
          have a5 := (l3.trans l5).pre _ _ a2
          cases b with
          | false => exact ⟨S5, as5, l15, r5, a5, f5⟩
          | true =>
            refine ⟨ρ3, S5, as5, rs4.mono l5 r5, FinE.bindEn f5 fun z S6 v as6 H6 l6 r6 ra6 f6 => ?_⟩
            have a6 := l6.pre _ _ a5
            split at f6
            · rename_i acc hacc
              split at f6
              · rename_i hlen
                obtain ⟨vs6, h6, rl6⟩ := r6.obj _ _ _ hacc a6
                have k6 : Kp H6 (upd H6 D (.lst (vs6 ++ [v]))) := Kp.wr h6 rfl
                exact ⟨vs6, h6, by rw [← rl6.length]; exact sz6 hlen, _, as6, (l15.trans l6).trans k6.le, r6.write (o' := .lst (acc ++ [z])) hacc a6 h6 rfl rfl ⟨_, upd_same, (rl6.append (RelL.one ra6)).mono k6.le⟩, a6, FinE.later f6 k6.le⟩
              · exact False.elim f6
            · exact False.elim f6
        · exact False.elim f2
      · exact False.elim f2
    · have hd : items.drop i = [] := List.drop_eq_nil_of_le (by omega)
      rw [hd] at f2
      unfold lcGo at f2
      split at f2
      · rename_i hchk
        obtain ⟨w1, w2⟩ := wk S2 as2 H2 l2 r2 hchk
        exact .inl ⟨w2 i (by omega), f2 _ as2 H2 .refl r2 (.ob a2)⟩
      · exact False.elim f2
theorem se_lc {elt tg iter : Expr} {ifs : List Expr} {scope : Scope} {own : List (Str × Nat)} (hc : X.calm = true) (hN : X.N.Nodup) (hi : SI X T W tg iter gi) (ok : BlkOk X.N X.env.scope scope own) (ho : TgOk X.K T tgt gg (own.map (·.2)))
    (hg : ∀ (s : Shared) (H : Hp) (C : Addr) (cl : List (Str × Addr)) (fp : List Addr), PG (X.blk s H scope (compEnvC scope cl C X.env) fp) tg tgt)
    (ht : ∀ (s : Shared) (H : Hp) (C : Addr) (cl : List (Str × Addr)) (fp : List Addr), PTs (X.blk s H scope (compEnvC scope cl C X.env) fp) ifs (tT X.K T W0 gt))
    (he : ∀ (s : Shared) (H : Hp) (C : Addr) (cl : List (Str × Addr)) (fp : List Addr), SE (X.blk s H scope (compEnvC scope cl C X.env) fp) T W0 elt ge) (hs : ∀ x, foldedSetIterable iter X.env x = pure x := by intro _; rfl) :
    SE X T W (.ListComp elt [⟨tg, iter, ifs, 0⟩] scope pos) (gLc gi gg gt ge (own.map (·.2))) := pe_imp (pe_lc hc hN hi ok hg ht he hs) fun _ _ _ h => lcI ho h
theorem ss_setLc {i : Nat} {y : Str} {py spos : Pos} {elt tg iter : Expr} {ifs : List Expr} {scope : Scope} {own : List (Str × Nat)} (hc : X.calm = true) (hN : X.N.Nodup) (hy : X.N[i]? = some y) (hyl : X.env.scope.names.lookup y = some .local)
    (hsw : swapsWith (.ListComp elt [⟨tg, iter, ifs, 0⟩] scope pos) (some (.Name y py)) spos.line X.env = pure true) (hi : SI X T W tg iter gi) (ok : BlkOk X.N X.env.scope scope own) (ho : TgOk X.K T tgt gg (own.map (·.2)))
    (hg : ∀ (s : Shared) (H : Hp) (C : Addr) (cl : List (Str × Addr)) (fp : List Addr), PG (X.blk s H scope (compEnvC scope cl C X.env) fp) tg tgt)
    (ht : ∀ (s : Shared) (H : Hp) (C : Addr) (cl : List (Str × Addr)) (fp : List Addr), PTs (X.blk s H scope (compEnvC scope cl C X.env) fp) ifs (tT X.K T W0 gt))
    (he : ∀ (s : Shared) (H : Hp) (C : Addr) (cl : List (Str × Addr)) (fp : List Addr), SE (X.blk s H scope (compEnvC scope cl C X.env) fp) T W0 elt ge) (hs : ∀ x, foldedSetIterable iter X.env x = pure x := by intro _; rfl) :
    SS X T W (.Assign [.Name y py] (.ListComp elt [⟨tg, iter, ifs, 0⟩] scope pos) spos) (gSet i (gLc gi gg gt ge (own.map (·.2)))) := ps_imp (ps_setLc hc hN hy hyl hsw hi ok hg ht he hs) fun D σ H ⟨ρ, S, as, rs, f⟩ =>
  lcI (W := W) ho (seqES rs f fun x S1 v as1 H1 rs1 rx f1 l1 => f1 _ as1 H1 .refl (rs1.set i rx))
/-- the tests of a clause -/
def gYes : GE := gC (.bl true)
theorem sts_nil {Y : Cx} : PTs Y [] (tT Y.K T W gYes) := ⟨fun pins s σ H Q I ⟨ρ, S, as, rs, f⟩ => pts_nil.run pins s σ H Q I (f as H .refl rs.rel)⟩
theorem sts_one {Y : Cx} {c : Expr} {g : GE} (h : ST Y T W c g) : PTs Y [c] (tT Y.K T W g) := pts_one h
end
end Sx

set_option Elab.async false
set_option linter.all false
set_option maxRecDepth 100000
set_option maxHeartbeats 1000000
namespace Sx
open PySem PySem.Spec PyProof.Rows L2
/-! ### room, finer than by levels; a def by its promise -/
structure Rm (d : Nat) (A : Around) : Prop where
  hd : A.handled = none
  dp : A.depth + d + 6 < recursionLimit
  un : A.units + 4 * d + 300 < cLine
theorem Rm.mono {d e : Nat} {A : Around} (r : Rm d A) (h : e ≤ d) : Rm e A := ⟨r.hd, by have := r.dp; omega, by have := r.un; omega⟩
theorem Rm.deeper {d : Nat} {A : Around} (r : Rm (d + 1) A) (env : Env) : Rm d (A.deeper env) :=
  ⟨r.hd, by have := r.dp; show A.depth + 1 + d + 6 < _; omega, by have := r.un; show A.units + 3 + 4 * d + 300 < _; omega⟩
theorem Rm.make {d : Nat} {A : Around} (r : Rm (d + 1) A) (C : Addr) (us : List Value) (kw : List (Str × Value)) : Rm d (A.under (.builtin "type.__call__" ⟨.ref C :: us, kw⟩)) :=
  ⟨r.hd, by have := r.dp; rw [make_depth]; omega, by have := r.un; rw [make_units]; omega⟩
theorem Rm.depth {d : Nat} {A : Around} (r : Rm d A) : A.depth < recursionLimit := by have := r.dp; omega
theorem Rm.units {d : Nat} {A : Around} (r : Rm d A) : A.units + 64 < cLine := by have := r.un; omega
theorem Rm.of {k d : Nat} {A : Around} (r : Room k A) (h1 : d + 1 ≤ 3 * k) (h2 : 4 * d + 100 ≤ 16 * k) : Rm d A := ⟨r.hd, by have := r.dp; omega, by have := r.un; omega⟩
structure FnR (P : Program) (w : World) (K : Frg) (mg : Str → Option Value) (base : Heap) (d : Nat) (f : Addr) (fd : FuncData) (ps : List Str) (sp : Sp) : Prop where
  len : ∀ vs H Q E, sp vs H Q E → vs.length = ps.length
  run : ∀ (A : Around) (outer : List Env) (s : Shared) (H : Hp) (args : Args) (us : List Value) (vs : List V) (Q : VK) (E : XK), Rm d A → Env0 P w K mg base A outer s H → BindsTo s fd args (ps.zip us) → Vals vs us → sp vs H Q E →
    codeAny (model P w) A (.call (.ref f) args) (CR (L2.CX P w) outer P w H s Q E) s
theorem FnR.ok {P : Program} {w : World} {K : Frg} {mg : Str → Option Value} {base : Heap} {d k : Nat} {f : Addr} {fd : FuncData} {ps : List Str} {sp : Sp} (F : FnR P w K mg base d f fd ps sp) (h1 : d + 1 ≤ 3 * k) (h2 : 4 * d + 100 ≤ 16 * k) : FnOk P w K mg base (L2.CX P w) k f fd ps sp :=
  ⟨F.len, fun A outer s H args us vs Q E hr => F.run A outer s H args us vs Q E (Rm.of hr h1 h2)⟩
theorem FnR.mono {P : Program} {w : World} {K : Frg} {mg : Str → Option Value} {base : Heap} {d e : Nat} {f : Addr} {fd : FuncData} {ps : List Str} {sp : Sp} (F : FnR P w K mg base d f fd ps sp) (h : d ≤ e) : FnR P w K mg base e f fd ps sp :=
  ⟨F.len, fun A outer s H args us vs Q E hr => F.run A outer s H args us vs Q E (hr.mono h)⟩
theorem FnR.imp {P : Program} {w : World} {K : Frg} {mg : Str → Option Value} {base : Heap} {d : Nat} {f : Addr} {fd : FuncData} {ps : List Str} {sp sp' : Sp} (F : FnR P w K mg base d f fd ps sp) (h : ∀ vs H Q E, sp' vs H Q E → sp vs H Q E) : FnR P w K mg base d f fd ps sp' :=
  ⟨fun vs H Q E q => F.len vs H Q E (h _ _ _ _ q), fun A outer s H args us vs Q E hr he hb hv hs => F.run A outer s H args us vs Q E hr he hb hv (h _ _ _ _ hs)⟩
/-- the promise that a plain function tells -/
def spF (K : Frg) (T : Tbs) (F : List A → Sto → RE) : Sp := fun vs H Q E => ∃ l S as, Rel K T S as H ∧ RelL K H as l vs ∧ FinE K T (fun c d _ H' => E c d H') [] H as Q (F l S)
/-- the body of a def -/
theorem fnr_of {P : Program} {w : World} {K : Frg} {mg : Str → Option Value} {base : Heap} {d : Nat} {f : Addr} {name qual : Str} {params : Arguments} {body : List Stmt} {scope : Scope} {dvs : List V} {kws : List (Str × V)} {fd : FuncData} {N ps : List Str} {sp : Sp}
    (D : FunD K name qual params body scope dvs kws f fd) (S : FnScope N ps scope) (len : ∀ vs H Q E, sp vs H Q E → vs.length = ps.length)
    (hbody : ∀ (cdv : Value) (A : Around) (outer : List Env) (s : Shared) (H : Hp) (vs : List V) (Q : VK) (E : XK), Rm d (A.deeper (envOfC qual scope s.heap.objs.size f cdv)) → sp vs H Q E →
      ∃ t, PSs (cxOf (L2.CX P w) P w K mg base N qual scope f cdv A outer s H E) body t ∧ t { nx := fun _ H' => Q .non H', rt := Q } (L2.start N vs) H) : FnR P w K mg base (d + 1) f fd ps sp := by
  obtain ⟨oc, od, dV, kV, doc, pm, an, cdv, ct, osl, rfl, lk, hcd, _, _⟩ := D.ex
  refine ⟨len, fun A outer s H args us vs Q E hr e0 hb r hsp => ?_⟩
  have hl := len _ _ _ _ hsp
  have KX : K.In s.heap := e0.mod.kin.keeps fun b o e => (e0.bs b o e).1
  have lim : s.heap.NoLimit := e0.mod.nolimit.keeps fun b o e => (e0.bs b o e).1
  have hkind : ∀ y ∈ ps.zip us, scope.names.lookup y.1 = some .local ∨ (scope.names.lookup y.1 = some .cell ∧ ((cellsFrom (s.heap.objs.size + 1) scope.names []).lookup y.1).isSome = true) := fun ⟨n, v⟩ hy => by
    rcases S.par n (List.of_mem_zip hy).1 with q | q
    · exact .inl q
    · exact .inr ⟨q, PySem.W.cellsFrom_some _ _ _ (.inl q)⟩
  refine codeAny_call_function hr.depth (KX _ _ lk) rfl S.co S.gen rfl (PySem.W.codeRec_of KX hcd) (hb _ _ _ _ ?_)
  refine wpAny_newFunctionEnv_cells S.kind hkind fun env he s1 x => ?_
  subst he
  refine ⟨lim.keeps x.toInCall.keep, codeAny_func ?_⟩
  obtain ⟨t, ht, hq⟩ := hbody cdv A outer s H vs Q E (hr.deeper _) hsp
  have I : Inv (cxOf (L2.CX P w) P w K mg base N qual scope f cdv A outer s H E) [] (L2.start N vs) H s1 := inv_start S hr.hd e0 hl r x
  refine wpAny_mono (ht.run [] s1 (L2.start N vs) H _ I hq) (fun fl s' hs => ?_) fun e s' hs => hs
  have fin : ∀ {σ' : L2.St} {H' : Hp} {v : V} {u : Value}, Inv (cxOf (L2.CX P w) P w K mg base N qual scope f cdv A outer s H E) [] σ' H' s' → RelV v u → Q v H' → CE outer P w H s Q u s' := fun {σ' H' v u} J rv q => ⟨v, H', J.os, J.bare, J.base, J.hok, rv, q⟩
  cases fl with
  | ret u =>
    obtain ⟨v, σ', H', J, rv, q⟩ := hs
    exact fin J rv q
  | next =>
    obtain ⟨σ', H', J, q⟩ := hs
    exact fin (v := V.non) (u := Value.none) J rfl q
  | brk =>
    obtain ⟨_, _, _, q⟩ := hs
    exact False.elim q
  | cont =>
    obtain ⟨_, _, _, q⟩ := hs
    exact False.elim q
/-! ### what a body's result is worth to the caller: less may be told -/
/-- numbers within a value lie below n -/
inductive Bel (n : Nat) : A → Prop
  | non : Bel n .non
  | bl (b : Bool) : Bel n (.bl b)
  | int (i : Int) : Bel n (.int i)
  | str (x : Str) : Bel n (.str x)
  | tup {xs : List A} : (∀ x, x ∈ xs → Bel n x) → Bel n (.tup xs)
  | ob {m : Nat} : m < n → Bel n (.ob m)
def BelO (n : Nat) : O → Prop
  | .lst xs => ∀ x ∈ xs, Bel n x
  | .rol xs => ∀ x ∈ xs, Bel n x
  | .dic kvs => ∀ p ∈ kvs, Bel n p.2
  | .dit kvs => ∀ p ∈ kvs, Bel n p.2
  | .ins _ fs => ∀ p ∈ fs, Bel n p.2
def BelS (S : Sto) : Prop := ∀ o ∈ S, BelO S.length o
section
variable {K : Frg} {T : Tbs} {W : WX} {H H' : Hp} {as as' : List Addr} {S S' : Sto} {ρ ρ' : Ro} {σ : L2.St}
mutual
theorem RelA.bel {a : A} {v : V} (h : RelA K H as a v) : Bel as.length a := by
  cases h with
  | non => exact .non
  | bl b => exact .bl b
  | int i => exact .int i
  | str x => exact .str x
  | tup hs hr => exact .tup (RelL.bel hr)
  | ob e => exact .ob (List.getElem?_eq_some_iff.mp e).1
theorem RelL.bel {xs : List A} {vs : List V} (h : RelL K H as xs vs) : ∀ x, x ∈ xs → Bel as.length x := by
  cases h with
  | nil => intro x hx; cases hx
  | cons h1 h2 =>
    intro x hx
    rcases List.mem_cons.mp hx with e | e
    · rw [e]; exact RelA.bel h1
    · exact RelL.bel h2 x e
end
theorem RelKV.bel {κ : Type} {x : List (κ × A)} {y : List (κ × V)} (h : RelKV K H as x y) : ∀ p ∈ x, Bel as.length p.2 := by
  induction h with
  | nil => intro p hp; cases hp
  | cons h1 _ ih =>
    intro p hp
    rcases List.mem_cons.mp hp with e | e
    · rw [e]; exact h1.bel
    · exact ih p e
theorem RelO.bel {o : O} {a : Addr} (h : RelO K H as o a) : BelO as.length o := by
  cases o with
  | lst xs => obtain ⟨vs, _, h2⟩ := h; exact h2.bel
  | rol xs => obtain ⟨vs, _, h2⟩ := h; exact h2.bel
  | dic kvs => obtain ⟨vs, _, h2⟩ := h; exact h2.bel
  | dit kvs => obtain ⟨vs, _, h2⟩ := h; exact h2.bel
  | ins C fs => obtain ⟨dx, vs, _, h2⟩ := h; exact h2.bel
theorem Rel.bel (r : Rel K T S as H) : BelS S := fun o ho => by
  obtain ⟨n, hn, e⟩ := List.mem_iff_getElem.mp ho
  have h1 : S[n]? = some o := by rw [List.getElem?_eq_getElem hn, e]
  have ha : n < as.length := by rw [r.len]; exact hn
  have h2 : as[n]? = some as[n] := List.getElem?_eq_getElem ha
  have := (r.obj n o _ h1 h2).bel
  rw [r.len] at this
  exact this
mutual
theorem RelA.cut {a : A} {v : V} {n : Nat} (h : RelA K H as a v) (b : Bel n a) : RelA K H (as.take n) a v := by
  cases h with
  | non => exact .non
  | bl c => exact .bl c
  | int i => exact .int i
  | str x => exact .str x
  | tup hs hr => cases b with
    | tup hb => exact .tup hs (RelL.cut hr hb)
  | ob e => cases b with
    | ob hm => exact .ob (by rw [List.getElem?_take, if_pos hm]; exact e)
theorem RelL.cut {xs : List A} {vs : List V} {n : Nat} (h : RelL K H as xs vs) (b : ∀ x, x ∈ xs → Bel n x) : RelL K H (as.take n) xs vs := by
  cases h with
  | nil => exact .nil
  | cons h1 h2 => exact .cons (RelA.cut h1 (b _ (by simp))) (RelL.cut h2 fun x hx => b x (by simp [hx]))
end
theorem RelKV.cut {κ : Type} {n : Nat} {x : List (κ × A)} {y : List (κ × V)} (h : RelKV K H as x y) (b : ∀ p ∈ x, Bel n p.2) : RelKV K H (as.take n) x y := by
  induction h with
  | nil => exact .nil
  | cons h1 _ ih => exact .cons (h1.cut (b _ List.mem_cons_self)) (ih fun p hp => b p (List.mem_cons_of_mem _ hp))
theorem RelO.cut {o : O} {a : Addr} {n : Nat} (h : RelO K H as o a) (b : BelO n o) : RelO K H (as.take n) o a := by
  cases o with
  | lst xs => obtain ⟨vs, h1, h2⟩ := h; exact ⟨vs, h1, h2.cut b⟩
  | rol xs => obtain ⟨vs, h1, h2⟩ := h; exact ⟨vs, h1, h2.cut b⟩
  | dic kvs => obtain ⟨vs, h1, h2⟩ := h; exact ⟨vs, h1, h2.cut b⟩
  | dit kvs => obtain ⟨vs, h1, h2⟩ := h; exact ⟨vs, h1, h2.cut b⟩
  | ins C fs => obtain ⟨dx, vs, h1, h2⟩ := h; exact ⟨dx, vs, h1, h2.cut b⟩
/-- the end of the store is forgotten -/
theorem Rel.cut {E : Sto} (r : Rel K T (S ++ E) as H) (b : BelS S) : Rel K T S (as.take S.length) H := by
  have hl : as.length = S.length + E.length := by rw [r.len, List.length_append]
  have e1 : ∀ {n : Nat} {o : O}, S[n]? = some o → (S ++ E)[n]? = some o := fun {n o} h => by rw [List.getElem?_append_left (List.getElem?_eq_some_iff.mp h).1]; exact h
  have e2 : ∀ {n : Nat} {a : Addr}, (as.take S.length)[n]? = some a → as[n]? = some a := fun {n a} h => by
    rw [List.getElem?_take] at h
    split at h
    · exact h
    · cases h
  exact ⟨by rw [List.length_take]; omega, fun n m a o u h1 h2 h3 h4 => r.inj n m a o u (e2 h1) (e2 h2) (e1 h3) (e1 h4), fun n o a h1 h2 => (r.obj n o a (e1 h1) (e2 h2)).cut (b o (List.mem_of_getElem? h1)), r.tab⟩
/-- .. but for one list of plain things at d -/
theorem Rel.cutL {E : Sto} {d : Nat} {xs : List A} (r : Rel K T (S ++ E) as H) (b : BelS S) (hd : S.length ≤ d) (he : (S ++ E)[d]? = some (.lst xs)) (hx : ∀ x ∈ xs, Bel S.length x) : ∃ a, as[d]? = some a ∧ Rel K T (S ++ [.lst xs]) (as.take S.length ++ [a]) H := by
  have hl : as.length = S.length + E.length := by rw [r.len, List.length_append]
  have hdl : d < as.length := by rw [r.len]; exact (List.getElem?_eq_some_iff.mp he).1
  have ha : as[d]? = some as[d] := List.getElem?_eq_getElem hdl
  have c := r.cut b
  have tl : (as.take S.length).length = S.length := c.len
  have e1 : ∀ {n : Nat} {o : O}, S[n]? = some o → (S ++ E)[n]? = some o := fun {n o} h => by rw [List.getElem?_append_left (List.getElem?_eq_some_iff.mp h).1]; exact h
  have e2 : ∀ {n : Nat} {a : Addr}, (as.take S.length)[n]? = some a → as[n]? = some a := fun {n a} h => by
    rw [List.getElem?_take] at h
    split at h
    · exact h
    · cases h
  have le : Le K H (as.take S.length) H (as.take S.length ++ [as[d]]) := (Kp.refl H).leA _
  have ltA : ∀ {n : Nat}, n < S.length → (as.take S.length ++ [as[d]])[n]? = (as.take S.length)[n]? := fun {n} hn => List.getElem?_append_left (by rw [tl]; exact hn)
  have ltS : ∀ {n : Nat}, n < S.length → (S ++ [O.lst xs])[n]? = S[n]? := fun {n} hn => List.getElem?_append_left hn
  have geA : (as.take S.length ++ [as[d]])[S.length]? = some as[d] := by
    rw [List.getElem?_append_right (by omega)]
    simp [tl]
  have geS : (S ++ [O.lst xs])[S.length]? = some (O.lst xs) := by simp
  have cs : ∀ {n : Nat} {u : O}, (S ++ [O.lst xs])[n]? = some u → n < S.length ∨ n = S.length := fun {n u} e => by
    have := (List.getElem?_eq_some_iff.mp e).1
    simp at this; omega
  have old : ∀ {n : Nat} {u : O}, S[n]? = some u → u.mut = true → (as.take S.length)[n]? ≠ some as[d] := fun {n u} e m z => by
    have q := r.inj n d _ u (.lst xs) (e2 z) ha (e1 e) he m rfl
    have := (List.getElem?_eq_some_iff.mp e).1
    omega
  refine ⟨as[d], ha, by simp [tl], fun n m a u w h1 h2 h3 h4 m1 m2 => ?_, fun n u a h1 h2 => ?_, r.tab⟩
  · rcases cs h3 with hn | hn <;> rcases cs h4 with hm | hm
    · rw [ltA hn] at h1; rw [ltA hm] at h2; rw [ltS hn] at h3; rw [ltS hm] at h4
      exact c.inj n m a u w h1 h2 h3 h4 m1 m2
    · rw [ltA hn] at h1; rw [ltS hn] at h3
      rw [hm, geA] at h2; cases h2
      exact absurd h1 (old h3 m1)
    · rw [ltA hm] at h2; rw [ltS hm] at h4
      rw [hn, geA] at h1; cases h1
      exact absurd h2 (old h4 m2)
    · rw [hn, hm]
  · rcases cs h1 with hn | hn
    · rw [ltA hn] at h2; rw [ltS hn] at h1
      exact (c.obj n u a h1 h2).mono le fun w e => e
    · rw [hn, geS] at h1; rw [hn, geA] at h2
      cases h1; cases h2
      obtain ⟨vs, h5, h6⟩ := r.obj d _ _ he ha
      exact ⟨vs, h5, (h6.cut hx).mono le⟩
theorem Le.cut {n : Nat} {as1 : List Addr} (l : Le K H as H' as1) (h : as.length ≤ n) : Le K H as H' (as1.take n) := ⟨fun m a e => by
  rw [List.getElem?_take, if_pos (Nat.lt_of_lt_of_le (List.getElem?_eq_some_iff.mp e).1 h)]
  exact l.pre m a e, l.tup⟩
theorem Le.app {p : Addr} {as1 : List Addr} (l : Le K H as H' as1) : Le K H as H' (as1 ++ [p]) := l.trans ((Kp.refl H').leA p)
end
/-- r' tells no more than the body's r, from a store of n objects: the rest of the store is forgotten; a new list keeps its place -/
inductive Fit (n : Nat) : RE → RS → Prop
  | ret {a : A} {S E : Sto} : Bel S.length a → BelS S → n ≤ S.length → Fit n (.ok a S) (.ret a (S ++ E))
  | nx {S E : Sto} {ρ : Ro} : BelS S → n ≤ S.length → Fit n (.ok .non S) (.nx ρ (S ++ E))
  | retL {xs : List A} {S E : Sto} {d : Nat} : S.length ≤ d → (S ++ E)[d]? = some (.lst xs) → (∀ x ∈ xs, Bel S.length x) → BelS S → n ≤ S.length → Fit n (.ok (.ob S.length) (S ++ [.lst xs])) (.ret (.ob d) (S ++ E))
  | exc {c : Value} {S E : Sto} {ρ : Ro} : BelS S → n ≤ S.length → Fit n (.exc c S) (.exc c ρ (S ++ E))
theorem Fit.fin {K : Frg} {T : Tbs} {H : Hp} {as : List Addr} {r : RE} {z : RS} {Q : VK} {E : XK} {n : Nat} (h : Fit n r z) (hn : as.length = n) (f : FinE K T (fun c d _ H' => E c d H') [] H as Q r) : FinS K T (fun c d _ H' => E c d H') { nx := fun _ H' => Q .non H', rt := Q } H as z := by
  cases h with
  | ret ba bs hl => exact fun v as' H' l r ra => f v _ H' (l.cut (by omega)) (r.cut bs) (ra.cut ba)
  | nx bs hl => exact fun σ' as' H' l rs => f _ _ H' (l.cut (by omega)) (rs.rel.cut bs) .non
  | retL hd he hx bs hl =>
    intro v as' H' l r ra
    obtain ⟨a, h1, h2⟩ := r.cutL bs hd he hx
    cases ra with
    | ob e =>
      rw [e] at h1
      cases h1
      have len2 : (as'.take _).length = _ := (r.cut bs).len
      exact f _ _ H' (l.cut (by omega)).app h2 (.ob (by rw [List.getElem?_append_right (by omega)]; simp [len2]))
  | exc bs hl => exact fun σ' as' H' l rs => f _ H' (l.cut (by omega)) (rs.rel.cut bs)
/-- the slots at a def's start -/
def startR (n : Nat) (l : List A) : Ro := l.map some ++ List.replicate (n - l.length) none
theorem relSt_start {K : Frg} {T : Tbs} {H : Hp} {as : List Addr} {S : Sto} {l : List A} {vs : List V} {N : List Str} (r : Rel K T S as H) (rl : RelL K H as l vs) : RelSt K T (startR N.length l) S as (L2.start N vs) H := by
  refine ⟨r, by unfold startR L2.start; simp [rl.length], fun i a e => ?_⟩
  unfold startR at e
  by_cases hi : i < l.length
  · rw [List.getElem?_append_left (by simpa using hi), List.getElem?_map] at e
    cases q : l[i]? with
    | none => rw [q] at e; cases e
    | some b =>
      rw [q] at e
      cases e
      obtain ⟨v, h1, h2⟩ := rl.get q
      refine ⟨v, ?_, h2⟩
      unfold L2.start
      rw [List.getElem?_append_left (by rw [List.length_map, ← rl.length]; exact hi), List.getElem?_map, h1]
      rfl
  · rw [List.getElem?_append_right (by simpa using hi)] at e
    have z := List.mem_of_getElem? e
    rw [List.mem_replicate] at z
    cases z.2
/-- THE RULE: a def by its body's meaning q and a plain function F -/
theorem fnF {P : Program} {w : World} {K : Frg} {T : Tbs} {mg : Str → Option Value} {base : Heap} {d : Nat} {f : Addr} {name qual : Str} {params : Arguments} {body : List Stmt} {scope : Scope} {dvs : List V} {kws : List (Str × V)} {fd : FuncData} {N ps : List Str} {F : List A → Sto → RE}
    (D : FunD K name qual params body scope dvs kws f fd) (S : FnScope N ps scope) (len : ∀ l S, F l S ≠ .stuck → l.length = ps.length) (q : GS)
    (hb : ∀ (cdv : Value) (A : Around) (outer : List Env) (s : Shared) (H : Hp) (E : XK), Rm d (A.deeper (envOfC qual scope s.heap.objs.size f cdv)) →
      SB (cxOf (L2.CX P w) P w K mg base N qual scope f cdv A outer s H E) T (fun c d _ H' => E c d H') body q)
    (hq : ∀ l S, BelS S → (∀ x, x ∈ l → Bel S.length x) → F l S ≠ .stuck → Fit S.length (F l S) (q (startR N.length l) S)) : FnR P w K mg base (d + 1) f fd ps (spF K T F) := by
  have ns : ∀ {l : List A} {S : Sto} {H : Hp} {as : List Addr} {Q : VK} {E : XK}, FinE K T (fun c d _ H' => E c d H') [] H as Q (F l S) → F l S ≠ .stuck := fun f e => by rw [e] at f; exact f
  refine fnr_of D S (fun vs H Q E h => ?_) fun cdv A outer s H vs Q E hr h => ⟨_, hb cdv A outer s H E hr, ?_⟩
  · obtain ⟨l, St, as, r, rl, f⟩ := h
    rw [← rl.length]
    exact len l St (ns f)
  · obtain ⟨l, St, as, r, rl, f⟩ := h
    refine ⟨_, St, as, relSt_start r rl, (hq l St r.bel (fun x hx => ?_) (ns f)).fin r.len f⟩
    have := rl.bel x hx
    rw [r.len] at this
    exact this
end Sx

set_option Elab.async false
set_option linter.all false
set_option maxRecDepth 100000
set_option maxHeartbeats 1000000
namespace Sx
open PySem PySem.Spec PyProof.Rows L2
/-! ### calls of the text's own defs -/
def gCall (F : List A → Sto → RE) (gs : GA) : GE := fun ρ S => (gs ρ S).bind fun l S1 => F l S1
def insAt (C : Addr) (o : A) (S : Sto) : Option (Nat × List (Str × A)) := match o with
  | .ob n => (match S[n]? with
    | some (.ins C' fs) => if C' = C then some (n, fs) else none
    | _ => none)
  | _ => none
theorem insAt_some {C : Addr} {o : A} {S : Sto} {n : Nat} {fs : List (Str × A)} (h : insAt C o S = some (n, fs)) : o = .ob n ∧ S[n]? = some (.ins C fs) := by
  unfold insAt at h
  cases o with
  | ob m =>
    dsimp only at h
    split at h
    · rename_i C' gs e
      split at h
      · rename_i hc
        cases h
        subst hc
        exact ⟨rfl, e⟩
      · cases h
    · cases h
  | _ => cases h
def gMeth (C : Addr) (m : Str) (F : List A → Sto → RE) (go : GE) (gs : GA) : GE := fun ρ S => (go ρ S).bind fun o S1 => match insAt C o S1 with
  | some (_, fs) => if (fs.lookup m).isNone = true then (gs ρ S1).bind fun l S2 => F (o :: l) S2 else .stuck
  | none => .stuck
def gMake (C : Addr) (F : List A → Sto → RE) (gs : GA) : GE := fun ρ S => (gs ρ S).bind fun l S1 => (F (.ob S1.length :: l) (S1 ++ [.ins C []])).bind fun v S2 => match v with
  | .non => .ok (.ob S1.length) S2
  | _ => .stuck
theorem RelKV.lookup {K : Frg} {H : Hp} {as : List Addr} {x : List (Str × A)} {y : List (Str × V)} (h : RelKV K H as x y) (f : Str) : (x.lookup f = none ∧ y.lookup f = none) ∨ ∃ a v, x.lookup f = some a ∧ y.lookup f = some v ∧ RelA K H as a v := by
  induction h with
  | nil => exact .inl ⟨rfl, rfl⟩
  | @cons k a v l m h1 h2 ih =>
    by_cases hk : f = k
    · subst hk
      exact .inr ⟨a, v, by simp [List.lookup], by simp [List.lookup], h1⟩
    · have e : (f == k) = false := by simpa using hk
      simp only [List.lookup, e]
      exact ih
section
variable {X : Cx} {T : Tbs} {W : WX} {e o value : Expr} {es : List Expr} {p pos apos pos' tpos : Pos} {g go gv : GE} {gs : GA} {d : Nat} {f C : Addr} {fd : FuncData} {ps : List Str} {x m : Str} {F : List A → Sto → RE}
theorem run_fr {pins : List (Addr × Obj)} {σ : L2.St} {H : Hp} {s : Shared} {Q : VK} {us : List Value} {vs : List V} {sp : Sp} {E : L2.St → XK} (G : FnR X.prog X.w X.K X.mg X.base d f fd ps sp) (hr : Rm d X.A) (hb : Binds X.K fd ps []) (hx : PassesAt (L2.CX X.prog X.w) X σ (E σ))
    (I : Inv X pins σ H s) (r : Vals vs us) (h : sp vs H Q (E σ)) : wpAny (model X.prog X.w) X.A (call (.ref f) us) (EP X pins σ Q) X.xe s := by
  have hl : us.length = ps.length := by rw [← r.length]; exact G.len _ _ _ _ h
  have b := hb s us I.kIn (by rw [List.append_nil]; exact hl)
  rw [List.append_nil] at b
  refine wpAny_call (codeAny_mono (G.run X.A X.stack s H ⟨us, []⟩ us vs Q (E σ) hr I.env0 b r h) fun r s' hq => ?_)
  cases r with
  | error e => exact hx pins H s e s' I hq
  | ok fl =>
    cases fl with
    | ret u => exact I.after hq
    | next => exact False.elim hq
    | brk => exact False.elim hq
    | cont => exact False.elim hq
/-- the exceptions' wish of a call -/
theorem FinE.wish {K : Frg} {H : Hp} {as : List Addr} {σ : L2.St} {Q : VK} {r : RE} (h : FinE K T W σ H as Q r) : FinE K T (fun c d _ H' => WE W σ c d H') [] H as Q r := by
  cases r with
  | ok a S => exact h
  | exc c S => exact h
  | stuck => exact h
theorem se_call (G : FnR X.prog X.w X.K X.mg X.base d f fd ps (spF X.K T F)) (hr : Rm d X.A) (hm : X.mg x = some (.ref f)) (hk : PySem.W.keepIn X.K (.ref f) = true) (hb : Binds X.K fd ps []) (tk : Takes X W) (ha : SA X T W (e :: es) gs) (hg : Gl X x := by rfl)
    (hdb : (x == ("__debug__" : Str)) = false := by decide) (he : starEach (e :: es) X.env = (false, eval e X.env) :: starEach es X.env := by rfl) (hpl : (backTo pos (starEach es X.env)).any (·.1) = false := by rfl) :
    SE X T W (.Call (.Name x p) (e :: es) [] pos) (gCall F gs) := by
  refine ⟨fun pins s σ H Q I h => ?_⟩
  refine wpAny_Call_Name_kw (ld_glob I hg hm ?_ hdb)
  obtain ⟨ρ, S, as, rs, fin⟩ := h
  refine PySem.W.callWith_K (h₀ := X.base) I.ok.mod.kin hk (thn (ha.run pos pins s σ H (fun vs H1 => spF X.K T F vs H1 Q (WE W σ)) I (seqAE rs fin fun l S1 vs as1 H1 rs1 rl f1 l1 => ⟨l, S1, as1, rs1.rel, rl, FinE.wish f1⟩)) fun us s1 ⟨vs, H1, I1, r, q⟩ => ⟨I1.kIn, ?_⟩) he hpl
  exact run_fr G hr hb (passAt tk σ) I1 r q
theorem se_call0 (G : FnR X.prog X.w X.K X.mg X.base d f fd ps (spF X.K T F)) (hr : Rm d X.A) (hm : X.mg x = some (.ref f)) (hk : PySem.W.keepIn X.K (.ref f) = true) (hb : Binds X.K fd ps []) (tk : Takes X W) (hg : Gl X x := by rfl)
    (hdb : (x == ("__debug__" : Str)) = false := by decide) : SE X T W (.Call (.Name x p) [] [] pos) (gCall F gNil) := by
  refine ⟨fun pins s σ H Q I h => ?_⟩
  refine wpAny_Call_Name_kw (ld_glob I hg hm ?_ hdb)
  obtain ⟨ρ, S, as, rs, fin⟩ := h
  exact PySem.W.callWith_K0 I.kIn hk (run_fr (us := []) (vs := []) G hr hb (passAt tk σ) I .nil ⟨[], S, as, rs.rel, .nil, FinE.wish fin⟩)
theorem methI {σ : L2.St} {H : Hp} {Q : VK} (h : tE X.K T W (gMeth C m F go gs) σ H Q) : tE X.K T W go σ H fun x H1 => ∃ a dx fs, x = .ref a ∧ H1 a = some (.ins C dx fs) ∧ fs.lookup m = none ∧ tA X.K T W gs σ H1 fun vs H2 => spF X.K T F (x :: vs) H2 Q (WE W σ) := by
  obtain ⟨ρ, S, as, rs, fin⟩ := h
  refine seqE rs fin fun o S1 v as1 H1 rs1 ro f1 l1 => ?_
  split at f1
  · rename_i n fs hi
    obtain ⟨eo, hs⟩ := insAt_some hi
    subst eo
    cases ro with
    | ob ea =>
      obtain ⟨dx, gf, h1, h2⟩ := rs1.rel.obj _ _ _ hs ea
      split at f1
      · rename_i hl
        rcases h2.lookup m with ⟨q1, q2⟩ | ⟨a, v, q1, q2, _⟩
        · refine ⟨_, dx, gf, rfl, h1, q2, seqAE rs1 f1 fun l S2 vs as2 H2 rs2 rl f2 l2 => ⟨_ :: l, S2, as2, rs2.rel, .cons ((RelA.ob ea).mono l2) rl, FinE.wish f2⟩⟩
        · rw [q1] at hl; cases hl
      · exact False.elim f1
  · exact False.elim f1
theorem se_meth {pl : Sem Bool} (ho : SE X T W o go) (c : Cls X.K C) (hm : Meth X.K C m f) (G : FnR X.prog X.w X.K X.mg X.base d f fd ps (spF X.K T F)) (hr : Rm d X.A) (hb : Binds X.K fd ps []) (tk : Takes X W) (ha : SA X T W (e :: es) gs)
    (hst : starEach (e :: es) X.env = (false, eval e X.env) :: starEach es X.env := by rfl) (hpl : (backTo pos (starEach es X.env)).any (·.1) = false := by rfl)
    (ht : eval (.Call (.Attribute o m apos) (e :: es) [] pos) X.env = (do
      let ov ← eval o X.env
      standAt apos.atName
      let (f, first) ← holding [ov] (getMethod ov m pl)
      callWith pos f first (backTo pos (starEach (e :: es) X.env)) (backToKw pos (keywordEach [] X.env))) := by rfl) :
    SE X T W (.Call (.Attribute o m apos) (e :: es) [] pos) (gMeth C m F go gs) := by
  refine ⟨fun pins s σ H Q I h => ?_⟩
  refine PySem.W.methodCall_KW (pl := pl) (thn (ho.run pins s σ H _ I (methI h)) fun u s1 ⟨x, H1, I1, rx, a, dx, fs, ex, ea, l, q⟩ => ?_) ht
  subst ex
  obtain rfl : u = Value.ref a := rx
  refine getmeth_ok I1 ea c hm l ?_
  refine PySem.W.callWith_K (first := [.ref a]) (h₀ := X.base) I.ok.mod.kin hm.kp (thn (ha.run pos pins s1 σ H1 _ I1 q) fun us s2 ⟨vs, H2, I2, r, q2⟩ => ⟨I2.kIn, ?_⟩) hst hpl
  exact run_fr (us := .ref a :: us) (vs := .ref a :: vs) G hr hb (passAt tk σ) I2 (.cons rfl r) q2
theorem se_meth0 {pl : Sem Bool} (ho : SE X T W o go) (c : Cls X.K C) (hm : Meth X.K C m f) (G : FnR X.prog X.w X.K X.mg X.base d f fd ps (spF X.K T F)) (hr : Rm d X.A) (hb : Binds X.K fd ps []) (tk : Takes X W)
    (ht : eval (.Call (.Attribute o m apos) [] [] pos) X.env = (do
      let ov ← eval o X.env
      standAt apos.atName
      let (f, first) ← holding [ov] (getMethod ov m pl)
      callWith pos f first (backTo pos (starEach [] X.env)) (backToKw pos (keywordEach [] X.env))) := by rfl) :
    SE X T W (.Call (.Attribute o m apos) [] [] pos) (gMeth C m F go gNil) := by
  refine ⟨fun pins s σ H Q I h => ?_⟩
  refine PySem.W.methodCall_KW (pl := pl) (thn (ho.run pins s σ H _ I (methI h)) fun u s1 ⟨x, H1, I1, rx, a, dx, fs, ex, ea, l, q⟩ => ?_) ht
  subst ex
  obtain rfl : u = Value.ref a := rx
  refine getmeth_ok I1 ea c hm l ?_
  obtain ⟨ρ, S, as, rs, fin⟩ := q
  exact PySem.W.callWith_K0 (first := [.ref a]) I1.kIn hm.kp (run_fr (us := [.ref a]) (vs := [.ref a]) G hr hb (passAt tk σ) I1 (.cons rfl .nil) (fin [] as H1 .refl rs.rel .nil))
theorem Rel.make {K : Frg} {S : Sto} {as : List Addr} {H : Hp} {x dx : Addr} (r : Rel K T S as H) (hx : H x = none) (hd : H dx = none) (ne : dx ≠ x) : Le K H as (upd (upd H dx (.own x)) x (.ins C dx [])) (as ++ [x]) ∧ Rel K T (S ++ [.ins C []]) (as ++ [x]) (upd (upd H dx (.own x)) x (.ins C dx [])) := by
  have k1 : Kp H (upd H dx (.own x)) := Kp.new hd
  have r1 : Rel K T S as (upd H dx (.own x)) := r.grow (fun b o e => by rw [upd_ne (ne_of_none e hd)]; exact e) (k1.tabs r.tab)
  have hx1 : upd H dx (.own x) x = none := by rw [upd_ne (Ne.symm ne)]; exact hx
  exact ⟨k1.le.trans ((Kp.new hx1).leA x), r1.alloc hx1 ⟨dx, [], upd_same, .nil⟩⟩
theorem run_mk {pins : List (Addr × Obj)} {σ : L2.St} {H : Hp} {s : Shared} {Q : VK} {us : List Value} {vs : List V} {sp : Sp} {E : L2.St → XK} (M : Mk X.K C f) (G : FnR X.prog X.w X.K X.mg X.base d f fd ps sp) (hr : Rm (d + 1) X.A) (hb : Binds X.K fd ps [])
    (hx : PassesAt (L2.CX X.prog X.w) X σ (E σ)) (I : Inv X pins σ H s) (r : Vals vs us)
    (h : ∀ x dx, H x = none → H dx = none → dx ≠ x → sp (.ref x :: vs) (upd (upd H dx (.own x)) x (.ins C dx [])) (fun v H2 => v = .non ∧ Q (.ref x) H2) (E σ)) :
    wpAny (model X.prog X.w) X.A (call (.ref C) us) (EP X pins σ Q) X.xe s := by
  have hq := h (s.heap.objs.size + 1) s.heap.objs.size (I.hok.fresh (Nat.le_succ _)) (I.hok.fresh (Nat.le_refl _)) (Nat.ne_of_lt (Nat.lt_succ_self _))
  have I2 := Inv.made (C := C) I
  have r2 : Vals (V.ref (s.heap.objs.size + 1) :: vs) (Value.ref (s.heap.objs.size + 1) :: us) := .cons rfl r
  have hl : (Value.ref (s.heap.objs.size + 1) :: us).length = ps.length := by
    have e := r2.length
    rw [G.len _ _ _ _ hq] at e
    exact e.symm
  have bb := hb _ (Value.ref (s.heap.objs.size + 1) :: us) I2.kIn (by rw [List.append_nil]; exact hl)
  rw [List.append_nil] at bb
  refine wpAny_call (make_map (f := f) I.kIn M.makes M.init (beq_iff_eq.mp M.fn) (codeAny_mono (G.run _ X.stack _ _ ⟨Value.ref (s.heap.objs.size + 1) :: us, []⟩ (Value.ref (s.heap.objs.size + 1) :: us) _ _ (E σ) (hr.make C us [])
    (I2.env0.make C us []) bb r2 hq) fun r s' hq' => ?_))
  cases r with
  | error e => exact hx pins _ _ e s' I2 hq'
  | ok fl =>
    cases fl with
    | ret u =>
      obtain ⟨v, H', I3, rv, ev, q3⟩ := I2.after hq'
      subst ev
      exact ⟨rv, ⟨V.ref (s.heap.objs.size + 1), H', I3, rfl, q3⟩⟩
    | next => exact False.elim hq'
    | brk => exact False.elim hq'
    | cont => exact False.elim hq'
theorem makeI {K : Frg} {H : Hp} {as : List Addr} {S : Sto} {σ : L2.St} {Q : VK} {l : List A} {vs : List V} (r : Rel K T S as H) (rl : RelL K H as l vs) (f : FinE K T W σ H as Q ((F (.ob S.length :: l) (S ++ [.ins C []])).bind fun v S2 => match v with
    | .non => .ok (.ob S.length) S2
    | _ => .stuck)) : ∀ x dx, H x = none → H dx = none → dx ≠ x → spF K T F (.ref x :: vs) (upd (upd H dx (.own x)) x (.ins C dx [])) (fun v H2 => v = .non ∧ Q (.ref x) H2) (WE W σ) := by
  intro x dx hx hd ne
  obtain ⟨l1, r1⟩ := r.make (C := C) hx hd ne
  have ax : (as ++ [x])[S.length]? = some x := by rw [← r.len]; simp
  refine ⟨_, _, _, r1, .cons (.ob ax) (rl.mono l1), ?_⟩
  cases e : F (.ob S.length :: l) (S ++ [.ins C []]) with
  | stuck => rw [e] at f; exact f
  | exc c S1 => rw [e] at f; exact fun as' H' l' r' => f as' H' (l1.trans l') r'
  | ok v S1 =>
    rw [e] at f
    cases v with
    | non => exact fun v as' H' l' r' ra => by cases ra; exact ⟨rfl, f _ as' H' (l1.trans l') r' (.ob (l'.pre _ _ ax))⟩
    | _ => exact False.elim f
theorem se_make (M : Mk X.K C f) (G : FnR X.prog X.w X.K X.mg X.base d f fd ps (spF X.K T F)) (hr : Rm (d + 1) X.A) (hm : X.mg x = some (.ref C)) (hb : Binds X.K fd ps []) (tk : Takes X W) (ha : SA X T W (e :: es) gs) (hg : Gl X x := by rfl)
    (hdb : (x == ("__debug__" : Str)) = false := by decide) (he : starEach (e :: es) X.env = (false, eval e X.env) :: starEach es X.env := by rfl) (hpl : (backTo pos (starEach es X.env)).any (·.1) = false := by rfl) :
    SE X T W (.Call (.Name x p) (e :: es) [] pos) (gMake C F gs) := by
  refine ⟨fun pins s σ H Q I h => ?_⟩
  refine wpAny_Call_Name_kw (ld_glob I hg hm ?_ hdb)
  obtain ⟨ρ, S, as, rs, fin⟩ := h
  refine PySem.W.callWith_K (h₀ := X.base) I.ok.mod.kin M.kp (thn (ha.run pos pins s σ H (fun vs H1 => ∀ x dx, H1 x = none → H1 dx = none → dx ≠ x → spF X.K T F (.ref x :: vs) (upd (upd H1 dx (.own x)) x (.ins C dx [])) (fun v H2 => v = .non ∧ Q (.ref x) H2) (WE W σ)) I
    (seqAE rs fin fun l S1 vs as1 H1 rs1 rl f1 l1 => makeI rs1.rel rl f1)) fun us s1 ⟨vs, H1, I1, r, q⟩ => ⟨I1.kIn, ?_⟩) he hpl
  exact run_mk M G hr hb (passAt tk σ) I1 r q
/-! ### attributes -/
def gFld (C : Addr) (f : Str) (g : GE) : GE := fun ρ S => (g ρ S).bind fun o S1 => match insAt C o S1 with
  | some (_, fs) => (match fs.lookup f with
    | some a => .ok a S1
    | none => .stuck)
  | none => .stuck
def putA (f : Str) (a : A) : List (Str × A) → List (Str × A)
  | [] => [(f, a)]
  | (g, x) :: r => if g = f then (g, a) :: r else (g, x) :: putA f a r
def gSetFld (C : Addr) (f : Str) (go gv : GE) : GS := fun ρ S => (gv ρ S).bindS ρ fun y S1 => (go ρ S1).bindS ρ fun o S2 => match insAt C o S2 with
  | some (n, fs) => if fs.length < 1000 then .nx ρ (S2.set n (.ins C (putA f y fs))) else .stuck
  | none => .stuck
theorem RelKV.put {K : Frg} {H : Hp} {as : List Addr} {x : List (Str × A)} {y : List (Str × V)} {f : Str} {a : A} {v : V} (h : RelKV K H as x y) (r : RelA K H as a v) : RelKV K H as (putA f a x) (putF f v y) := by
  induction h with
  | nil => exact .cons r .nil
  | @cons k b w l m h1 h2 ih =>
    unfold putA putF
    by_cases hk : k = f
    · rw [if_pos hk, if_pos hk]; exact .cons r h2
    · rw [if_neg hk, if_neg hk]; exact .cons h1 ih
theorem RelKV.length {κ : Type} {K : Frg} {H : Hp} {as : List Addr} {x : List (κ × A)} {y : List (κ × V)} (h : RelKV K H as x y) : x.length = y.length := by
  induction h with
  | nil => rfl
  | cons _ _ ih => rw [List.length_cons, List.length_cons, ih]
theorem se_fld {f : Str} (c : Cls X.K C) (n : NoAttr X.K C f) (he : SE X T W e g) (hb : attributeBase e f X.env (eval e X.env) = eval e X.env := by rfl) : SE X T W (.Attribute e f pos) (gFld C f g) := pe_imp (pe_fld he hb) fun σ H Q ⟨ρ, S, as, rs, fin⟩ => by
  refine seqE rs fin fun o S1 v as1 H1 rs1 ro f1 l1 => ?_
  split at f1
  · rename_i k fs hi
    obtain ⟨eo, hs⟩ := insAt_some hi
    subst eo
    cases ro with
    | ob ea =>
      obtain ⟨dx, gf, h1, h2⟩ := rs1.rel.obj _ _ _ hs ea
      rcases h2.lookup f with ⟨q1, q2⟩ | ⟨a, v, q1, q2, ra⟩
      · rw [q1] at f1; exact False.elim f1
      · rw [q1] at f1
        exact ⟨_, C, dx, gf, v, rfl, h1, c, n, q2, f1 v as1 H1 .refl rs1.rel ra⟩
  · exact False.elim f1
theorem ss_fld {f : Str} (c : Cls X.K C) (n : NoAttr X.K C f) (ho : SE X T W o go) (hv : SE X T W value gv) (hs : swapsWith value (some (.Attribute o f pos')) pos.line X.env = pure false := by rfl) : SS X T W (.Assign [.Attribute o f pos'] value pos) (gSetFld C f go gv) := ps_imp (ps_fld ho hv hs) fun D σ H ⟨ρ, S, as, rs, fin⟩ => by
  refine seqES rs fin fun y S1 v as1 H1 rs1 ry f1 l1 => seqES rs1 f1 fun o S2 u as2 H2 rs2 ro f2 l2 => ?_
  split at f2
  · rename_i k fs hi
    obtain ⟨eo, hs⟩ := insAt_some hi
    subst eo
    cases ro with
    | ob ea =>
      obtain ⟨dx, gf, h1, h2⟩ := rs2.rel.obj _ _ _ hs ea
      split at f2
      · rename_i hl
        have kk : Kp H2 (upd H2 _ (.ins C dx (putF f v gf))) := Kp.wr h1 rfl
        refine ⟨_, C, dx, gf, rfl, h1, c, n, by rw [← h2.length]; exact hl, f2 σ as2 _ kk.le (rs2.mono kk.le (rs2.rel.write (o' := .ins C (putA f y fs)) hs ea h1 rfl rfl ⟨dx, _, upd_same, (h2.put (ry.mono l2)).mono kk.le⟩))⟩
      · exact False.elim f2
  · exact False.elim f2
/-- o.f op= value -/
def gAugFld (C : Addr) (f : Str) (r : A → A → Sto → RE) (go gv : GE) : GS := fun ρ S => (go ρ S).bindS ρ fun o S1 => match insAt C o S1 with
  | some (n, fs) => (match fs.lookup f with
    | some a => (gv ρ S1).bindS ρ fun y S2 => ((r a y S2).nox).bindS ρ fun z S3 => (match insAt C o S3 with
      | some (_, fs') => if fs'.length < 1000 then .nx ρ (S3.set n (.ins C (putA f z fs'))) else .stuck
      | none => .stuck)
    | none => .stuck)
  | none => .stuck
abbrev InS (X : Cx) (T : Tbs) (op : Operator) (r : A → A → Sto → RE) : Prop := InOp X op (tR2 X.K T r)
theorem ss_fldaug {f : Str} {op : Operator} {r : A → A → Sto → RE} (c : Cls X.K C) (n : NoAttr X.K C f) (ho : SE X T W o go) (hv : SE X T W value gv) (hop : InS X T op r) : SS X T W (.AugAssign (.Attribute o f tpos) op value pos) (gAugFld C f r go gv) := ps_imp (ps_fldaug ho hv hop) fun D σ H ⟨ρ, S, as, rs, fin⟩ => by
  refine seqES rs fin fun o S1 u as1 H1 rs1 ro f1 l1 => ?_
  split at f1
  · rename_i k fs hi
    obtain ⟨eo, hs⟩ := insAt_some hi
    subst eo
    cases ro with
    | ob ea =>
      obtain ⟨dx, gf, h1, h2⟩ := rs1.rel.obj _ _ _ hs ea
      rcases h2.lookup f with ⟨q1, q2⟩ | ⟨a, v, q1, q2, ra⟩
      · rw [q1] at f1; exact False.elim f1
      · rw [q1] at f1
        refine ⟨_, C, dx, gf, v, rfl, h1, c, n, q2, seqES rs1 f1 fun y S2 w as2 H2 rs2 ry f2 l2 => ?_⟩
        refine ⟨a, y, S2, as2, rs2.rel, ra.mono l2, ry, ?_⟩
        cases e : r a y S2 with
        | stuck => rw [e] at f2; exact f2
        | exc c' S3 => rw [e] at f2; exact f2
        | ok z S3 =>
          rw [e] at f2
          intro zv as3 H3 l3 r3 rz
          have f3 := FinS.later f2 l3
          dsimp only [RE.nox, RE.bindS] at f3
          split at f3
          · rename_i k' fs' hi'
            obtain ⟨ek, hs'⟩ := insAt_some hi'
            cases ek
            have ea3 := (l2.trans l3).pre _ _ ea
            obtain ⟨dx', gf', h1', h2'⟩ := r3.obj _ _ _ hs' ea3
            split at f3
            · rename_i hl
              have kk : Kp H3 (upd H3 _ (.ins C dx' (putF f zv gf'))) := Kp.wr h1' rfl
              exact ⟨dx', gf', h1', by rw [← h2'.length]; exact hl, f3 σ as3 _ kk.le ((rs2.mono l3 r3).mono kk.le (r3.write (o' := .ins C (putA f z fs')) hs' ea3 h1' rfl rfl ⟨dx', _, upd_same, (h2'.put rz).mono kk.le⟩))⟩
            · exact False.elim f3
          · exact False.elim f3
  · exact False.elim f1
/-- name op= value -/
def gAug (i : Nat) (r : A → A → Sto → RE) (g : GE) : GS := fun ρ S => match ρ[i]? with
  | some (some a) => (g ρ S).bindS ρ fun y S1 => ((r a y S1).nox).bindS ρ fun z S2 => .nx (ρ.set i (some z)) S2
  | _ => .stuck
abbrev IpS (X : Cx) (T : Tbs) (op : Operator) (r : A → A → Sto → RE) : Prop := PIp X op (tR2 X.K T r)
theorem ss_aug {i : Nat} {op : Operator} {r : A → A → Sto → RE} (hN : X.N.Nodup) (hi : X.N[i]? = some x) (hx : Loc X.env.scope x) (he : SE X T W e g) (ho : IpS X T op r) (hf : X.fn x = true ∨ X.env.scope.names.lookup x = some .local := by first | exact .inl rfl | exact .inr rfl | assumption) :
    SS X T W (.AugAssign (.Name x pos') op e pos) (gAug i r g) := ps_imp (ps_aug hN hi hx he ho hf) fun D σ H ⟨ρ, S, as, rs, fin⟩ => by
  unfold gAug at fin
  split at fin
  · rename_i a ea
    obtain ⟨v, h1, h2⟩ := rs.slot i a ea
    refine ⟨v, h1, seqES rs fin fun y S1 w as1 H1 rs1 ry f1 l1 => ⟨a, y, S1, as1, rs1.rel, h2.mono l1, ry, ?_⟩⟩
    cases e : r a y S1 with
    | stuck => rw [e] at f1; exact f1
    | exc c' S3 => rw [e] at f1; exact f1
    | ok z S3 =>
      rw [e] at f1
      exact fun zv as3 H3 l3 r3 rz => f1 _ as3 H3 l3 ((rs1.mono l3 r3).set i rz)
  · exact False.elim fin
/-! ### try .. except X: .. -/
def hand (K : Frg) : List (Value × GS) → Value → Ro → Sto → RS
  | [], c, ρ, S => .exc c ρ S
  | (c', q) :: r, c, ρ, S => match PySem.W.exmOne K c c' with
    | some true => (match q ρ S with
      | .exc _ _ _ => .stuck
      | z => z)
    | some false => hand K r c ρ S
    | none => .stuck
def gTry (K : Frg) (q : GS) (hs : List (Value × GS)) : GS := fun ρ S => match q ρ S with
  | .exc c ρ1 S1 => hand K hs c ρ1 S1
  | z => z
inductive Hds (X : Cx) (T : Tbs) : List ExceptHandler → List (Value × GS) → Prop
  | nil : Hds X T [] []
  | cons {x : Str} {c : Value} {q : GS} {b₀ : Stmt} {suite : List Stmt} {np pos' : Pos} {hds : List ExceptHandler} {l : List (Value × GS)} (hc : Names X x c)
      (hsu : ∀ (a : Addr) (pn : List (Addr × Obj)), SB (X.suite a pn) T W0 (b₀ :: suite) q) (r : Hds X T hds l) : Hds X T (.ExceptHandler (some (.Name x np)) none (b₀ :: suite) pos' :: hds) ((c, q) :: l)
def tsOf (K : Frg) (T : Tbs) : List (Value × GS) → List (Value × (Addr → Value → Option Addr → TS))
  | [] => []
  | (c, q) :: r => (c, fun _ _ _ => tS K T W0 q) :: tsOf K T r
theorem Hds.ok {hds : List ExceptHandler} {l : List (Value × GS)} (h : Hds X T hds l) : HdsOk X hds (tsOf X.K T l) := by
  induction h with
  | nil => exact .nil
  | cons hc hsu r ih => exact .cons hc (fun a oe cls d pn _ _ => hsu a _) ih
theorem handI {K : Frg} {Wout : WX} {D : Ends} {H : Hp} {as : List Addr} {ρ : Ro} {S : Sto} {σ : L2.St} {c : Value} : ∀ {l : List (Value × GS)}, RelSt K T ρ S as σ H → FinS K T Wout D H as (hand K l c ρ S) → wMany K Wout D (tsOf K T l) c none σ H
  | [], rs, f => f σ as H .refl rs
  | (c', q) :: r, rs, f => by
    unfold hand at f
    cases e : PySem.W.exmOne K c c' with
    | none => rw [e] at f; exact False.elim f
    | some b =>
      rw [e] at f
      refine ⟨b, e, fun hb a ha => ?_, fun hb => ?_⟩
      · subst hb
        refine ⟨ρ, S, as, rs, ?_⟩
        dsimp only at f
        cases eq : q ρ S with
        | exc c2 ρ2 S2 => rw [eq] at f; exact False.elim f
        | nx ρ2 S2 => rw [eq] at f; exact f
        | ret a2 S2 => rw [eq] at f; exact f
        | brk ρ2 S2 => rw [eq] at f; exact f
        | ct ρ2 S2 => rw [eq] at f; exact f
        | stuck => rw [eq] at f; exact f
      · subst hb
        exact handI rs f
theorem ss_try {body : List Stmt} {h₀ : ExceptHandler} {hds : List ExceptHandler} {l : List (Value × GS)} {q : GS} (tk : Takes X W)
    (hb : ∀ (W' : WX) (pn : List (Addr × Obj)) (xe : Value → Shared → Prop), Takes (X.tr pn xe) W' → PassesOwn (model X.prog X.w) X.A X.env xe → SB (X.tr pn xe) T W' body q)
    (hh : Hds X T (h₀ :: hds) l) (hs : X.stack = X.env :: X.outer := by rfl) (hf : X.env.frame = some X.env.locals := by rfl) : SS X T W (.Try body (h₀ :: hds) [] [] pos) (gTry X.K q l) :=
  ps_imp (ps_try_many (tb := fun W' => tS X.K T W' q) hs hf tk hb hh.ok) fun D σ H ⟨ρ, S, as, rs, fin⟩ => by
    refine ⟨ρ, S, as, rs, ?_⟩
    unfold gTry at fin
    cases e : q ρ S with
    | exc c ρ1 S1 => rw [e] at fin; exact fun σ1 as1 H1 l1 rs1 => handI rs1 (FinS.later fin l1)
    | nx ρ1 S1 => rw [e] at fin; exact fin
    | ret a1 S1 => rw [e] at fin; exact fin
    | brk ρ1 S1 => rw [e] at fin; exact fin
    | ct ρ1 S1 => rw [e] at fin; exact fin
    | stuck => rw [e] at fin; exact fin
end
end Sx

set_option Elab.async false
set_option linter.all false
set_option maxRecDepth 100000
set_option maxHeartbeats 1000000
namespace Sx
open PySem PySem.Spec PyProof.Rows L2
/-! ### equality of values, decided -/
mutual
def A.beq : A → A → Bool
  | .non, .non => true
  | .bl a, .bl b => a == b
  | .int a, .int b => a == b
  | .str a, .str b => decide (a = b)
  | .tup a, .tup b => A.beqL a b
  | .ob a, .ob b => a == b
  | _, _ => false
def A.beqL : List A → List A → Bool
  | [], [] => true
  | a :: l, b :: m => A.beq a b && A.beqL l m
  | _, _ => false
end
mutual
theorem A.beq_refl : ∀ a : A, A.beq a a = true
  | .non => by simp [A.beq]
  | .bl _ => by simp [A.beq]
  | .int _ => by simp [A.beq]
  | .str _ => by simp [A.beq]
  | .ob _ => by simp [A.beq]
  | .tup l => by simp [A.beq, A.beqL_refl l]
theorem A.beqL_refl : ∀ l : List A, A.beqL l l = true
  | [] => by simp [A.beqL]
  | a :: l => by simp [A.beqL, A.beq_refl a, A.beqL_refl l]
end
mutual
theorem A.eq_of_beq : ∀ {a b : A}, A.beq a b = true → a = b
  | .non, .non, _ => rfl
  | .bl _, .bl _, h => by simp [A.beq] at h; rw [h]
  | .int _, .int _, h => by simp [A.beq] at h; rw [h]
  | .str _, .str _, h => by simp [A.beq] at h; rw [h]
  | .ob _, .ob _, h => by simp [A.beq] at h; rw [h]
  | .tup l, .tup m, h => by
    have h2 : A.beqL l m = true := by simpa [A.beq] using h
    rw [A.eq_of_beqL h2]
  | .non, .bl _, h => by simp [A.beq] at h
  | .non, .int _, h => by simp [A.beq] at h
  | .non, .str _, h => by simp [A.beq] at h
  | .non, .tup _, h => by simp [A.beq] at h
  | .non, .ob _, h => by simp [A.beq] at h
  | .bl _, .non, h => by simp [A.beq] at h
  | .bl _, .int _, h => by simp [A.beq] at h
  | .bl _, .str _, h => by simp [A.beq] at h
  | .bl _, .tup _, h => by simp [A.beq] at h
  | .bl _, .ob _, h => by simp [A.beq] at h
  | .int _, .non, h => by simp [A.beq] at h
  | .int _, .bl _, h => by simp [A.beq] at h
  | .int _, .str _, h => by simp [A.beq] at h
  | .int _, .tup _, h => by simp [A.beq] at h
  | .int _, .ob _, h => by simp [A.beq] at h
  | .str _, .non, h => by simp [A.beq] at h
  | .str _, .bl _, h => by simp [A.beq] at h
  | .str _, .int _, h => by simp [A.beq] at h
  | .str _, .tup _, h => by simp [A.beq] at h
  | .str _, .ob _, h => by simp [A.beq] at h
  | .tup _, .non, h => by simp [A.beq] at h
  | .tup _, .bl _, h => by simp [A.beq] at h
  | .tup _, .int _, h => by simp [A.beq] at h
  | .tup _, .str _, h => by simp [A.beq] at h
  | .tup _, .ob _, h => by simp [A.beq] at h
  | .ob _, .non, h => by simp [A.beq] at h
  | .ob _, .bl _, h => by simp [A.beq] at h
  | .ob _, .int _, h => by simp [A.beq] at h
  | .ob _, .str _, h => by simp [A.beq] at h
  | .ob _, .tup _, h => by simp [A.beq] at h
theorem A.eq_of_beqL : ∀ {l m : List A}, A.beqL l m = true → l = m
  | [], [], _ => rfl
  | [], _ :: _, h => by simp [A.beqL] at h
  | _ :: _, [], h => by simp [A.beqL] at h
  | a :: l, b :: m, h => by
    simp only [A.beqL, Bool.and_eq_true] at h
    rw [A.eq_of_beq h.1, A.eq_of_beqL h.2]
end
/-! ### lists of the store -/
def O.items : O → Option (List A)
  | .lst xs => some xs
  | .rol xs => some xs
  | _ => none
def itemsAt (S : Sto) (n : Nat) : Option (List A) := match S[n]? with
  | some o => o.items
  | none => none
def okAt (n : Nat) (xs : List A) (S : Sto) : Bool := match itemsAt S n with
  | some ys => A.beqL ys xs
  | none => false
theorem okAt_iff {n : Nat} {xs : List A} {S : Sto} : okAt n xs S = true ↔ itemsAt S n = some xs := by
  unfold okAt
  cases e : itemsAt S n with
  | none => simp
  | some ys =>
    constructor
    · intro h
      rw [A.eq_of_beqL h]
    · intro h
      cases h
      exact A.beqL_refl _
section
variable {K : Frg} {T : Tbs} {W : WX} {H H' : Hp} {as as' : List Addr} {S S' : Sto} {ρ ρ' : Ro} {σ : L2.St}
theorem sqlK {a : Addr} {vs : List V} (h : SqL K (fun _ => none) a vs) : SqL K H a vs := by
  rcases h with (h | ⟨o, h⟩) | h
  · cases h
  · cases h
  · exact .inr h
theorem Rel.sql (r : Rel K T S as H) {n : Nat} {xs : List A} {a : Addr} (h : itemsAt S n = some xs) (ha : as[n]? = some a) : ∃ vs, SqL K H a vs ∧ RelL K H as xs vs := by
  unfold itemsAt at h
  split at h
  · rename_i o e
    have q := r.obj n o a e ha
    cases o with
    | lst ys => cases h; obtain ⟨vs, h1, h2⟩ := q; exact ⟨vs, SqL.of h1, h2⟩
    | rol ys =>
      cases h
      obtain ⟨vs, h1, h2⟩ := q
      rcases h1 with ⟨o, e1⟩ | e1
      · exact ⟨vs, .inl (.inr ⟨o, e1⟩), h2⟩
      · exact ⟨vs, sqlK e1, h2⟩
    | dic _ => cases h
    | dit _ => cases h
    | ins _ _ => cases h
  · cases h
theorem RelA.list {v : V} {n : Nat} (h : RelA K H as (.ob n) v) : ∃ a, v = .ref a ∧ as[n]? = some a := by
  cases h with
  | ob e => exact ⟨_, rfl, e⟩
/-- what an expression's value walks -/
def gIL (g : GE) : GI := fun ρ S => match g ρ S with
  | .ok (.ob n) S1 => (match itemsAt S1 n with
    | some xs => .ok xs (okAt n xs) S1
    | none => .stuck)
  | .ok _ _ => .stuck
  | .exc c S1 => .exc c S1
  | .stuck => .stuck
def gIT (g : GE) : GI := fun ρ S => match g ρ S with
  | .ok (.tup xs) S1 => .ok xs (fun _ => true) S1
  | .ok _ _ => .stuck
  | .exc c S1 => .exc c S1
  | .stuck => .stuck
def signs (x : Str) : List A := x.cps.toList.map fun c => .str ⟨#[c]⟩
def gIS (g : GE) : GI := fun ρ S => match g ρ S with
  | .ok (.str x) S1 => .ok (signs x) (fun _ => true) S1
  | .ok _ _ => .stuck
  | .exc c S1 => .exc c S1
  | .stuck => .stuck
def rngA (lo : Int) (n : Nat) : List A := (List.range n).map fun i => .int (lo + (i : Nat))
def gIR1 (gs : GA) : GI := fun ρ S => match gs ρ S with
  | .ok [.int j] S1 => if j < 1000000 ∧ -1000000 < j then .ok (rngA 0 j.toNat) (fun _ => true) S1 else .stuck
  | .ok _ _ => .stuck
  | .exc c S1 => .exc c S1
  | .stuck => .stuck
def gIR2 (gs : GA) : GI := fun ρ S => match gs ρ S with
  | .ok [.int i, .int j] S1 => if (j < 1000000 ∧ -1000000 < j) ∧ i < 1000000 ∧ -1000000 < i then .ok (rngA i (j - i).toNat) (fun _ => true) S1 else .stuck
  | .ok _ _ => .stuck
  | .exc c S1 => .exc c S1
  | .stuck => .stuck
def enumA (xs : List A) : List A := xs.zipIdx.map fun p => .tup [.int (p.2 : Nat), p.1]
def gIE (gs : GA) : GI := fun ρ S => match gs ρ S with
  | .ok [.ob n] S1 => (match itemsAt S1 n with
    | some xs => .ok (enumA xs) (okAt n xs) S1
    | none => .stuck)
  | .ok _ _ => .stuck
  | .exc c S1 => .exc c S1
  | .stuck => .stuck
def zipA (xs ys : List A) : List A := (xs.zip ys).map fun p => .tup [p.1, p.2]
def gIZ (gs : GA) : GI := fun ρ S => match gs ρ S with
  | .ok [.ob n, .ob m] S1 => (match itemsAt S1 n, itemsAt S1 m with
    | some xs, some ys => .ok (zipA xs ys) (fun S => okAt n xs S && okAt m ys S) S1
    | _, _ => .stuck)
  | .ok _ _ => .stuck
  | .exc c S1 => .exc c S1
  | .stuck => .stuck
theorem finI_of {gi : GI} {R : It → Hp → Prop} (h : tI K T W gi σ H R) : ∃ ρ S as, RelSt K T ρ S as σ H ∧ FinI K T W σ H as R (gi ρ S) := h
/-- an expression, then what is walked -/
theorem seqI {g : GE} {gi : GI} {R : It → Hp → Prop} {P : V → Hp → Prop} (h : tI K T W gi σ H R)
    (n : ∀ ρ S as, RelSt K T ρ S as σ H → FinI K T W σ H as R (gi ρ S) → (∀ a S1, g ρ S = .ok a S1 → ∀ v as1 H1, Le K H as H1 as1 → Rel K T S1 as1 H1 → RelA K H1 as1 a v → P v H1) ∧ (∀ c S1, g ρ S = .exc c S1 → gi ρ S = .exc c S1) ∧ (g ρ S = .stuck → gi ρ S = .stuck)) : tE K T W g σ H P := by
  obtain ⟨ρ, S, as, rs, f⟩ := h
  obtain ⟨h1, h2, h3⟩ := n ρ S as rs f
  refine ⟨ρ, S, as, rs, ?_⟩
  cases e : g ρ S with
  | ok a S1 => exact fun v as1 H1 l r ra => h1 a S1 e v as1 H1 l r ra
  | exc c S1 => rw [h2 c S1 e] at f; exact f
  | stuck => rw [h3 e] at f; exact f
theorem seqIA {g : GA} {gi : GI} {R : It → Hp → Prop} {P : List V → Hp → Prop} (h : tI K T W gi σ H R)
    (n : ∀ ρ S as, RelSt K T ρ S as σ H → FinI K T W σ H as R (gi ρ S) → (∀ a S1, g ρ S = .ok a S1 → ∀ v as1 H1, Le K H as H1 as1 → Rel K T S1 as1 H1 → RelL K H1 as1 a v → P v H1) ∧ (∀ c S1, g ρ S = .exc c S1 → gi ρ S = .exc c S1) ∧ (g ρ S = .stuck → gi ρ S = .stuck)) : tA K T W g σ H P := by
  obtain ⟨ρ, S, as, rs, f⟩ := h
  obtain ⟨h1, h2, h3⟩ := n ρ S as rs f
  refine ⟨ρ, S, as, rs, ?_⟩
  cases e : g ρ S with
  | ok a S1 => exact fun v as1 H1 l r ra => h1 a S1 e v as1 H1 l r ra
  | exc c S1 => rw [h2 c S1 e] at f; exact f
  | stuck => rw [h3 e] at f; exact f
theorem walk_list {a : Addr} {n : Nat} {xs : List A} (ha : as[n]? = some a) : Walk K T (Itl K a) H as xs (okAt n xs) := fun S as1 H1 l r hc => by
  obtain ⟨vs, hq, rl⟩ := r.sql (okAt_iff.mp hc) (l.pre _ _ ha)
  refine ⟨fun i x e => ?_, fun i hi => ⟨vs, hq, by rw [← rl.length]; exact hi⟩⟩
  obtain ⟨v, hv, rv⟩ := rl.get e
  refine ⟨⟨vs, v, hq, hv⟩, fun y H' ⟨e1, e2⟩ => ?_⟩
  subst e1
  have := e2 vs hq
  rw [hv] at this
  cases this
  exact ⟨as1, .refl, r, rv⟩
theorem walk_tup {a : Addr} {xs : List A} {vs : List V} (h : SqT K H a vs) (rl : RelL K H as xs vs) : Walk K T (Itt K a) H as xs (fun _ => true) := fun S as1 H1 l r hc => by
  have hq := l.tup _ _ h
  have rl := rl.mono l
  refine ⟨fun i x e => ?_, fun i hi => ⟨vs, hq, by rw [← rl.length]; exact hi⟩⟩
  obtain ⟨v, hv, rv⟩ := rl.get e
  refine ⟨⟨vs, v, hq, hv⟩, fun y H' ⟨e1, e2⟩ => ?_⟩
  subst e1
  have := e2 vs hq
  rw [hv] at this
  cases this
  exact ⟨as1, .refl, r, rv⟩
theorem walk_str {x : Str} : Walk K T (Its x) H as (signs x) (fun _ => true) := fun S as1 H1 l r hc => by
  have hl : (signs x).length = x.cps.size := by simp [signs]
  refine ⟨fun i y e => ?_, fun i hi => by rw [hl] at hi; exact hi⟩
  have hi : i < x.cps.size := by rw [← hl]; exact (List.getElem?_eq_some_iff.mp e).1
  refine ⟨hi, fun v H' ⟨e1, c, e2, e3⟩ => ?_⟩
  subst e1 e3
  unfold signs at e
  rw [List.getElem?_map, Array.getElem?_toList, e2] at e
  cases e
  exact ⟨as1, .refl, r, .str _⟩
theorem walk_rng {lo : Int} {n : Nat} : Walk K T (Itr lo n) H as (rngA lo n) (fun _ => true) := fun S as1 H1 l r hc => by
  have hl : (rngA lo n).length = n := by simp [rngA]
  refine ⟨fun i y e => ?_, fun i hi => by rw [hl] at hi; exact hi⟩
  have hi : i < n := by rw [← hl]; exact (List.getElem?_eq_some_iff.mp e).1
  refine ⟨hi, fun v H' ⟨e1, e2⟩ => ?_⟩
  subst e1 e2
  unfold rngA at e
  rw [List.getElem?_map, List.getElem?_range hi] at e
  cases e
  exact ⟨as1, .refl, r, .int _⟩
theorem enumA_get {xs : List A} {i : Nat} {y : A} (e : (enumA xs)[i]? = some y) : ∃ x, xs[i]? = some x ∧ y = .tup [.int (i : Nat), x] := by
  unfold enumA at e
  rw [List.getElem?_map, List.getElem?_zipIdx] at e
  cases q : xs[i]? with
  | none => rw [q] at e; cases e
  | some x => rw [q] at e; cases e; exact ⟨x, rfl, by simp⟩
theorem walk_enum {a : Addr} {n : Nat} {xs : List A} (ha : as[n]? = some a) : Walk K T (Ite K a) H as (enumA xs) (okAt n xs) := fun S as1 H1 l r hc => by
  obtain ⟨vs, hq, rl⟩ := r.sql (okAt_iff.mp hc) (l.pre _ _ ha)
  have hlen : (enumA xs).length = xs.length := by simp [enumA]
  refine ⟨fun i y e => ?_, fun i hi => ⟨vs, hq, by rw [← rl.length, ← hlen]; exact hi⟩⟩
  obtain ⟨x, hx, rfl⟩ := enumA_get e
  obtain ⟨v, hv, rv⟩ := rl.get hx
  refine ⟨⟨vs, v, hq, hv⟩, fun y H' ⟨T', x', e1, hT, e3, e4⟩ => ?_⟩
  subst e1 e3
  have := e4 vs hq
  rw [hv] at this
  cases this
  have k := Kp.new (o := HO.tup [.int (i : Nat), v]) hT
  exact ⟨as1, k.le, r.tup hT, .tup (SqT.of upd_same) (.cons (.int _) (.cons (rv.mono k.le) .nil))⟩
theorem walk_zip {a b : Addr} {n m : Nat} {xs ys : List A} (ha : as[n]? = some a) (hb : as[m]? = some b) : Walk K T (Itz K a b) H as (zipA xs ys) (fun S => okAt n xs S && okAt m ys S) := fun S as1 H1 l r hc => by
  obtain ⟨c1, c2⟩ := Bool.and_eq_true_iff.mp hc
  obtain ⟨vs, hq, rl⟩ := r.sql (okAt_iff.mp c1) (l.pre _ _ ha)
  obtain ⟨ws, hq2, rl2⟩ := r.sql (okAt_iff.mp c2) (l.pre _ _ hb)
  have hlen : (zipA xs ys).length = min xs.length ys.length := by simp [zipA]
  refine ⟨fun i y e => ?_, fun i hi => ⟨vs, ws, hq, hq2, by rw [← rl.length, ← rl2.length]; omega⟩⟩
  unfold zipA at e
  rw [List.getElem?_map] at e
  cases q : (xs.zip ys)[i]? with
  | none => rw [q] at e; cases e
  | some p =>
    rw [q] at e
    cases e
    obtain ⟨q1, q2⟩ := List.getElem?_zip_eq_some.mp q
    obtain ⟨v, hv, rv⟩ := rl.get q1
    obtain ⟨w, hw, rw'⟩ := rl2.get q2
    refine ⟨⟨vs, ws, v, w, hq, hq2, hv, hw⟩, fun y H' ⟨T', x', y', e1, hT, e3, e4, e5⟩ => ?_⟩
    subst e1 e3
    have z1 := e4 vs hq
    have z2 := e5 ws hq2
    rw [hv] at z1
    rw [hw] at z2
    cases z1
    cases z2
    have k := Kp.new (o := HO.tup [v, w]) hT
    exact ⟨as1, k.le, r.tup hT, .tup (SqT.of upd_same) (.cons (rv.mono k.le) (.cons (rw'.mono k.le) .nil))⟩
end
section
variable {X : Cx} {T : Tbs} {W : WX} {tg e e2 : Expr} {p pos tpos : Pos} {g : GE} {gs : GA} {gi : GI}
theorem pi_imp {t t' : TI} (h : PI X tg e t) (i : ∀ σ H R, t' σ H R → t σ H R) : PI X tg e t' := ⟨fun pins s σ H R I q => h.run pins s σ H R I (i _ _ _ q)⟩
theorem si_list (h : SE X T W e g) : SI X T W tg e (gIL g) := pi_imp (pi_list h) fun σ H R q => seqI q fun ρ S as rs f => by
  unfold gIL at f ⊢
  refine ⟨fun a S1 eg v as1 H1 l r ra => ?_, fun c S1 eg => by rw [eg], fun eg => by rw [eg]⟩
  rw [eg] at f
  cases a with
  | ob n =>
    dsimp only at f
    split at f
    · rename_i xs hx
      obtain ⟨a, rfl, ha⟩ := ra.list
      obtain ⟨vs, hq, rl⟩ := r.sql hx ha
      exact ⟨a, rfl, ⟨vs, hq⟩, f _ as1 H1 l r (walk_list ha)⟩
    · exact False.elim f
  | _ => exact False.elim f
theorem si_tup (h : SE X T W e g) : SI X T W tg e (gIT g) := pi_imp (pi_tup h) fun σ H R q => seqI q fun ρ S as rs f => by
  unfold gIT at f ⊢
  refine ⟨fun a S1 eg v as1 H1 l r ra => ?_, fun c S1 eg => by rw [eg], fun eg => by rw [eg]⟩
  rw [eg] at f
  cases ra with
  | tup hs rl => exact ⟨_, rfl, ⟨_, hs⟩, f _ as1 H1 l r (walk_tup hs rl)⟩
  | _ => exact False.elim f
theorem si_str (h : SE X T W e g) : SI X T W tg e (gIS g) := pi_imp (pi_str h) fun σ H R q => seqI q fun ρ S as rs f => by
  unfold gIS at f ⊢
  refine ⟨fun a S1 eg v as1 H1 l r ra => ?_, fun c S1 eg => by rw [eg], fun eg => by rw [eg]⟩
  rw [eg] at f
  cases ra with
  | str x => exact ⟨_, rfl, f _ as1 H1 l r walk_str⟩
  | _ => exact False.elim f
theorem si_range1 (hm : X.mg "range" = none) (ha : SA X T W [e] gs) (hg : Gl X "range" := by rfl) (hs : starEach [e] X.env = [(false, eval e X.env)] := by rfl) : SI X T W tg (.Call (.Name "range" p) [e] [] pos) (gIR1 gs) := pi_imp (pi_range1 hg hm ha hs) fun σ H R q => seqIA q fun ρ S as rs f => by
  unfold gIR1 at f ⊢
  refine ⟨fun a S1 eg v as1 H1 l r ra => ?_, fun c S1 eg => by rw [eg], fun eg => by rw [eg]⟩
  rw [eg] at f
  split at f
  · rename_i j S2 e2
    cases e2
    split at f
    · rename_i hj
      cases ra with
      | cons r1 r2 =>
        cases r1
        cases r2
        exact ⟨j, rfl, by omega, by omega, f _ as1 H1 l r walk_rng⟩
    · exact False.elim f
  · exact False.elim f
  · rename_i e3; cases e3
  · exact False.elim f
theorem si_range2 (hm : X.mg "range" = none) (ha : SA X T W [e, e2] gs) (hg : Gl X "range" := by rfl) (hs : starEach [e, e2] X.env = [(false, eval e X.env), (false, eval e2 X.env)] := by rfl) (hs2 : starEach [e2] X.env = [(false, eval e2 X.env)] := by rfl) : SI X T W tg (.Call (.Name "range" p) [e, e2] [] pos) (gIR2 gs) := pi_imp (pi_range2 hg hm ha hs hs2) fun σ H R q => seqIA q fun ρ S as rs f => by
  unfold gIR2 at f ⊢
  refine ⟨fun a S1 eg v as1 H1 l r ra => ?_, fun c S1 eg => by rw [eg], fun eg => by rw [eg]⟩
  rw [eg] at f
  split at f
  · rename_i i j S2 e2
    cases e2
    split at f
    · rename_i hj
      cases ra with
      | cons r1 r2 =>
        cases r1
        cases r2 with
        | cons r3 r4 =>
          cases r3
          cases r4
          exact ⟨i, j, rfl, ⟨by omega, by omega, by omega, by omega⟩, f _ as1 H1 l r walk_rng⟩
    · exact False.elim f
  · exact False.elim f
  · rename_i e3; cases e3
  · exact False.elim f
theorem si_enum {elts : List Expr} {kk : Nat} (hm : X.mg "enumerate" = none) (ha : SA X T W [e] gs) (hg : Gl X "enumerate" := by rfl) (hs : starEach [e] X.env = [(false, eval e X.env)] := by rfl) : SI X T W (.Tuple elts kk tpos) (.Call (.Name "enumerate" p) [e] [] pos) (gIE gs) := pi_imp (pi_enum hg hm ha hs) fun σ H R q => seqIA q fun ρ S as rs f => by
  unfold gIE at f ⊢
  refine ⟨fun a S1 eg v as1 H1 l r ra => ?_, fun c S1 eg => by rw [eg], fun eg => by rw [eg]⟩
  rw [eg] at f
  split at f
  · rename_i n S2 e2
    cases e2
    split at f
    · rename_i xs hx
      cases ra with
      | cons r1 r2 =>
        cases r2
        obtain ⟨a, rfl, ha⟩ := r1.list
        obtain ⟨vs, hq, rl⟩ := r.sql hx ha
        exact ⟨a, vs, rfl, hq, f _ as1 H1 l r (walk_enum ha)⟩
    · exact False.elim f
  · exact False.elim f
  · rename_i e3; cases e3
  · exact False.elim f
theorem si_zip {elts : List Expr} {kk : Nat} (hm : X.mg "zip" = none) (ha : SA X T W [e, e2] gs) (hg : Gl X "zip" := by rfl) (hs : starEach [e, e2] X.env = (false, eval e X.env) :: starEach [e2] X.env := by rfl) (hpl : (backTo pos (starEach [e2] X.env)).any (·.1) = false := by rfl) : SI X T W (.Tuple elts kk tpos) (.Call (.Name "zip" p) [e, e2] [] pos) (gIZ gs) := pi_imp (pi_zip hg hm ha hs hpl) fun σ H R q => seqIA q fun ρ S as rs f => by
  unfold gIZ at f ⊢
  refine ⟨fun a S1 eg v as1 H1 l r ra => ?_, fun c S1 eg => by rw [eg], fun eg => by rw [eg]⟩
  rw [eg] at f
  split at f
  · rename_i n m S2 e2
    cases e2
    split at f
    · rename_i xs ys hx hy
      cases ra with
      | cons r1 r2 =>
        cases r2 with
        | cons r3 r4 =>
          cases r4
          obtain ⟨a, rfl, ha⟩ := r1.list
          obtain ⟨b, rfl, hb⟩ := r3.list
          obtain ⟨vs, hq, rl⟩ := r.sql hx ha
          obtain ⟨ws, hq2, rl2⟩ := r.sql hy hb
          exact ⟨a, b, vs, ws, rfl, hq, hq2, f _ as1 H1 l r (walk_zip ha hb)⟩
    · exact False.elim f
  · exact False.elim f
  · rename_i e3; cases e3
  · exact False.elim f
end
end Sx

set_option Elab.async false
set_option linter.all false
set_option maxRecDepth 100000
set_option maxHeartbeats 1000000
namespace Sx
open PySem PySem.Spec PyProof.Rows L2
/-! ### operations by values -/
section
variable {K : Frg} {T : Tbs} {W : WX} {H H' : Hp} {as as' : List Addr} {S S' : Sto}
theorem RelL.atI {xs : List A} {vs : List V} (h : RelL K H as xs vs) {i : Int} {a : A} (e : L2.atI xs i = some a) : ∃ v, L2.atI vs i = some v ∧ RelA K H as a v := by
  unfold L2.atI at e ⊢
  rw [← h.length]
  cases q : ixN xs.length i with
  | none => rw [q] at e; cases e
  | some j =>
    rw [q] at e
    obtain ⟨v, h1, h2⟩ := h.get (i := j) e
    exact ⟨v, h1, h2⟩
def I2 (f : Int → Int → A) : A → A → Sto → RE := fun a b S => match a, b with
  | .int i, .int j => .ok (f i j) S
  | _, _ => .stuck
def vSub : A → A → Sto → RE := I2 fun i j => .int (i - j)
def vLt : A → A → Sto → RE := I2 fun i j => .bl (decide (i < j))
def vLe : A → A → Sto → RE := I2 fun i j => .bl (decide (i ≤ j))
def vGt : A → A → Sto → RE := I2 fun i j => .bl (decide (j < i))
def vGe : A → A → Sto → RE := fun a b S => match a, b with
  | .int i, .int j => .ok (.bl (decide (j ≤ i))) S
  | .str i, .str j => .ok (.bl (!decide (i.cps.toList < j.cps.toList))) S
  | _, _ => .stuck
def vMod : A → A → Sto → RE := fun a b S => match a, b with
  | .int i, .int j => if 0 < j then .ok (.int (i % j)) S else .stuck
  | _, _ => .stuck
def vFdiv : A → A → Sto → RE := fun a b S => match a, b with
  | .int i, .int j => if 0 < j ∧ j < 1073741824 then .ok (.int (i / j)) S else .stuck
  | _, _ => .stuck
def vPow : A → A → Sto → RE := fun a b S => match a, b with
  | .int i, .int j => if 0 ≤ j ∧ j ≤ 100 ∧ i.natAbs < 18446744073709551616 then .ok (.int (i ^ j.toNat)) S else .stuck
  | _, _ => .stuck
def vMulI : A → A → Sto → RE := fun a b S => match a, b with
  | .int i, .int j => if (-18446744073709551616 < i ∧ i < 18446744073709551616) ∨ (-18446744073709551616 < j ∧ j < 18446744073709551616) then .ok (.int (i * j)) S else .stuck
  | _, _ => .stuck
def vAddI : A → A → Sto → RE := I2 fun i j => .int (i + j)
def vNeg : A → Sto → RE := fun a S => match a with
  | .int i => .ok (.int (-i)) S
  | _ => .stuck
def vIx : A → A → Sto → RE := fun a b S => match a, b with
  | .tup xs, .int i => (match L2.atI xs i with
    | some x => .ok x S
    | none => .stuck)
  | .ob n, .int i => (match itemsAt S n with
    | some xs => (match L2.atI xs i with
      | some x => .ok x S
      | none => .stuck)
    | none => .stuck)
  | .str x, .int i => (match L2.atI x.cps.toList i with
    | some c => if x.length ≤ 100000 then .ok (.str ⟨#[c]⟩) S else .stuck
    | none => .stuck)
  | _, _ => .stuck
end
section
variable {X : Cx} {T : Tbs} {W : WX}
theorem opI2 {f : Value → Value → Sem Value} {g : Int → Int → V} {q : Int → Int → A} (h : OpR X f (rI0 g)) (hq : ∀ i j H as, RelA X.K H as (q i j) (g i j)) : OpS X T f (I2 q) := op_imp h fun x y H Q a b S as r ra rb fv => by
  cases ra with
  | int i => cases rb with
    | int j => exact ⟨i, j, rfl, rfl, fv _ as H .refl r (hq i j H as)⟩
    | _ => exact False.elim fv
  | _ => first | exact False.elim fv | (cases rb <;> exact False.elim fv)
theorem os_sub : OpS X T (binaryOp .Sub) vSub := opI2 op_sub fun _ _ _ _ => .int _
theorem os_addI : OpS X T (binaryOp .Add) vAddI := opI2 op_add fun _ _ _ _ => .int _
theorem os_lt : OpS X T (compareOp .Lt) vLt := opI2 op_lt fun _ _ _ _ => .bl _
theorem os_le : OpS X T (compareOp .LtE) vLe := opI2 op_le fun _ _ _ _ => .bl _
theorem os_gt : OpS X T (compareOp .Gt) vGt := opI2 op_gt fun _ _ _ _ => .bl _
theorem os_ge : OpS X T (compareOp .GtE) vGe := op_imp (op_ge.or op_ge_str) fun x y H Q a b S as r ra rb fv => by
  cases ra with
  | int i => cases rb with
    | int j => exact .inl ⟨i, j, rfl, rfl, fv _ as H .refl r (.bl _)⟩
    | _ => exact False.elim fv
  | str i => cases rb with
    | str j => exact .inr ⟨i, j, rfl, rfl, fv _ as H .refl r (.bl _)⟩
    | _ => exact False.elim fv
  | _ => first | exact False.elim fv | (cases rb <;> exact False.elim fv)
theorem os_mod : OpS X T (binaryOp .Mod) vMod := op_imp op_mod fun x y H Q a b S as r ra rb fv => by
  cases ra with
  | int i => cases rb with
    | int j =>
      unfold vMod at fv
      dsimp only at fv
      split at fv
      · rename_i h
        exact ⟨i, j, rfl, rfl, h, fv _ as H .refl r (.int _)⟩
      · exact False.elim fv
    | _ => exact False.elim fv
  | _ => first | exact False.elim fv | (cases rb <;> exact False.elim fv)
theorem os_fdiv : OpS X T (binaryOp .FloorDiv) vFdiv := op_imp op_fdiv fun x y H Q a b S as r ra rb fv => by
  cases ra with
  | int i => cases rb with
    | int j =>
      unfold vFdiv at fv
      dsimp only at fv
      split at fv
      · rename_i h
        exact ⟨i, j, rfl, rfl, h, fv _ as H .refl r (.int _)⟩
      · exact False.elim fv
    | _ => exact False.elim fv
  | _ => first | exact False.elim fv | (cases rb <;> exact False.elim fv)
theorem os_pow : OpS X T (binaryOp .Pow) vPow := op_imp op_pow fun x y H Q a b S as r ra rb fv => by
  cases ra with
  | int i => cases rb with
    | int j =>
      unfold vPow at fv
      dsimp only at fv
      split at fv
      · rename_i h
        exact ⟨i, j, rfl, rfl, ⟨h.1, by omega, h.2.2⟩, fv _ as H .refl r (.int _)⟩
      · exact False.elim fv
    | _ => exact False.elim fv
  | _ => first | exact False.elim fv | (cases rb <;> exact False.elim fv)
theorem os_mulI : OpS X T (binaryOp .Mult) vMulI := op_imp op_mul fun x y H Q a b S as r ra rb fv => by
  cases ra with
  | int i => cases rb with
    | int j =>
      unfold vMulI at fv
      dsimp only at fv
      split at fv
      · rename_i h
        exact ⟨i, j, rfl, rfl, h, fv _ as H .refl r (.int _)⟩
      · exact False.elim fv
    | _ => exact False.elim fv
  | _ => first | exact False.elim fv | (cases rb <;> exact False.elim fv)
theorem us_neg : UnS X T (unaryOp .USub) vNeg := fun pins s σ H x v Q I rx ⟨a, S, as, r, ra, fv⟩ => un_neg pins s σ H x v Q I rx (by
  cases ra with
  | int i => exact ⟨i, rfl, fv _ as H .refl r (.int _)⟩
  | _ => exact False.elim fv)
theorem is_ix : IxS X T vIx := ix_imp ix_seq fun x y H Q a b S as r ra rb fv => by
  cases ra with
  | tup hs rl => cases rb with
    | int i =>
      unfold vIx at fv
      dsimp only at fv
      split at fv
      · rename_i z hz
        obtain ⟨v, h1, h2⟩ := rl.atI hz
        exact .inr (.inl ⟨_, _, i, v, rfl, rfl, hs, h1, fv v as H .refl r h2⟩)
      · exact False.elim fv
    | _ => exact False.elim fv
  | ob ea => cases rb with
    | int i =>
      unfold vIx at fv
      dsimp only at fv
      split at fv
      · rename_i xs hx
        obtain ⟨vs, hq, rl⟩ := r.sql hx ea
        split at fv
        · rename_i z hz
          obtain ⟨v, h1, h2⟩ := rl.atI hz
          exact .inl ⟨_, _, i, v, rfl, rfl, hq, h1, fv v as H .refl r h2⟩
        · exact False.elim fv
      · exact False.elim fv
    | _ => exact False.elim fv
  | str z => cases rb with
    | int i =>
      unfold vIx at fv
      dsimp only at fv
      split at fv
      · rename_i c hc
        split at fv
        · rename_i hl
          exact .inr (.inr ⟨z, i, c, rfl, rfl, sz5 hl, hc, fv _ as H .refl r (.str _)⟩)
        · exact False.elim fv
      · exact False.elim fv
    | _ => exact False.elim fv
  | _ => first | exact False.elim fv | (cases rb <;> exact False.elim fv)
end
/-! ### data, and == -/
mutual
def rdA (f : Nat → Option PyData) : A → Option PyData
  | .non => some .none
  | .bl b => some (.bool b)
  | .int i => some (.int i)
  | .str x => some (.str x)
  | .tup xs => (rdL f xs).map .tuple
  | .ob n => f n
def rdL (f : Nat → Option PyData) : List A → Option (List PyData)
  | [] => some []
  | a :: l => match rdA f a, rdL f l with
    | some d, some ds => some (d :: ds)
    | _, _ => none
end
def rd1 (S : Sto) (n : Nat) : Option PyData := match itemsAt S n with
  | some xs => (rdL (fun _ => none) xs).map .list
  | none => none
def rd2 (S : Sto) (n : Nat) : Option PyData := match itemsAt S n with
  | some xs => (rdL (rd1 S) xs).map .list
  | none => none
def dat (S : Sto) (a : A) : Option PyData := rdA (rd2 S) a
def isScal : A → A → Bool
  | .str _, .str _ => true
  | .int _, .int _ => true
  | .bl _, .bl _ => true
  | _, _ => false
def vEq : A → A → Sto → RE := fun a b S => match a, b with
  | .str x, .str y => .ok (.bl (decide (x = y))) S
  | .int x, .int y => .ok (.bl (decide (x = y))) S
  | .bl x, .bl y => .ok (.bl (decide (x = y))) S
  | a, b => (match dat S a, dat S b with
    | some d, some e => if (SeqAt.shaped d && SeqAt.shaped e) = true then .ok (.bl (PyData.eqv d e)) S else .stuck
    | _, _ => .stuck)
def vNe : A → A → Sto → RE := fun a b S => match vEq a b S with
  | .ok (.bl k) S1 => .ok (.bl (!k)) S1
  | _ => .stuck
section
variable {K : Frg} {T : Tbs} {W : WX} {H H' : Hp} {as as' : List Addr} {S S' : Sto}
mutual
theorem dp_of {f : Nat → Option PyData} (hf : ∀ n d a, f n = some d → as[n]? = some a → Dp K H (.ref a) d) : ∀ (a : A) (v : V) (d : PyData), RelA K H as a v → rdA f a = some d → Dp K H v d
  | .non, v, d, r, e => by cases r; cases e; exact .non
  | .bl b, v, d, r, e => by cases r; cases e; exact .bl b
  | .int i, v, d, r, e => by cases r; cases e; exact .int i
  | .str x, v, d, r, e => by cases r; cases e; exact .str x
  | .ob n, v, d, r, e => by
    cases r with
    | ob ea => exact hf n d _ e ea
  | .tup xs, v, d, r, e => by
    cases r with
    | tup hs rl =>
      have e : (rdL f xs).map PyData.tuple = some d := e
      cases q : rdL f xs with
      | none => rw [q] at e; cases e
      | some ds =>
        rw [q] at e
        cases e
        exact .tup hs (dp_ofL hf xs _ ds rl q)
theorem dp_ofL {f : Nat → Option PyData} (hf : ∀ n d a, f n = some d → as[n]? = some a → Dp K H (.ref a) d) : ∀ (l : List A) (vs : List V) (ds : List PyData), RelL K H as l vs → rdL f l = some ds → DpAll K H vs ds
  | [], vs, ds, r, e => by cases r; cases e; exact .nil
  | a :: l, vs, ds, r, e => by
    cases r with
    | cons r1 r2 =>
      have e : (match rdA f a, rdL f l with
        | some d, some ds => some (d :: ds)
        | _, _ => none) = some ds := e
      cases q1 : rdA f a with
      | none => rw [q1] at e; cases e
      | some d =>
        cases q2 : rdL f l with
        | none => rw [q1, q2] at e; cases e
        | some ds' =>
          rw [q1, q2] at e
          cases e
          exact .cons (dp_of hf a _ d r1 q1) (dp_ofL hf l _ ds' r2 q2)
end
theorem dp_rd1 (r : Rel K T S as H) (n : Nat) (d : PyData) (a : Addr) (e : rd1 S n = some d) (ha : as[n]? = some a) : Dp K H (.ref a) d := by
  unfold rd1 at e
  split at e
  · rename_i xs hx
    obtain ⟨vs, hq, rl⟩ := r.sql hx ha
    cases q : rdL (fun _ => none) xs with
    | none => rw [q] at e; cases e
    | some ds =>
      rw [q] at e
      cases e
      exact .lst hq (dp_ofL (fun n d a z _ => by cases z) xs vs ds rl q)
  · cases e
theorem dp_rd2 (r : Rel K T S as H) (n : Nat) (d : PyData) (a : Addr) (e : rd2 S n = some d) (ha : as[n]? = some a) : Dp K H (.ref a) d := by
  unfold rd2 at e
  split at e
  · rename_i xs hx
    obtain ⟨vs, hq, rl⟩ := r.sql hx ha
    cases q : rdL (rd1 S) xs with
    | none => rw [q] at e; cases e
    | some ds =>
      rw [q] at e
      cases e
      exact .lst hq (dp_ofL (dp_rd1 r) xs vs ds rl q)
  · cases e
theorem dp_dat (r : Rel K T S as H) {a : A} {v : V} {d : PyData} (ra : RelA K H as a v) (e : dat S a = some d) : Dp K H v d := dp_of (dp_rd2 r) a v d ra e
theorem d_str {i j : Str} : decide (V.str i = V.str j) = decide (i = j) := by simp
theorem d_int {i j : Int} : decide (V.int i = V.int j) = decide (i = j) := by simp
theorem d_bl {i j : Bool} : decide (V.bl i = V.bl j) = decide (i = j) := by simp
end
section
variable {X : Cx} {T : Tbs} {W : WX}
theorem vEq_data {a b : A} {S : Sto} (h : isScal a b = false) : vEq a b S = (match dat S a, dat S b with
    | some d, some e => if (SeqAt.shaped d && SeqAt.shaped e) = true then .ok (.bl (PyData.eqv d e)) S else .stuck
    | _, _ => .stuck) := by
  cases a <;> cases b <;> first | rfl | (cases h)
theorem os_eq (hu : X.A.units + 64 < cLine) : OpS X T (compareOp .Eq) vEq := op_imp (op_eq.or (op_eqD hu)) fun x y H Q a b S as r ra rb fv => by
  cases hs : isScal a b with
  | true =>
    cases ra with
    | str i => cases rb with
      | str j => exact .inl ⟨rfl, by rw [d_str]; exact fv _ as H .refl r (.bl _)⟩
      | _ => cases hs
    | int i => cases rb with
      | int j => exact .inl ⟨rfl, by rw [d_int]; exact fv _ as H .refl r (.bl _)⟩
      | _ => cases hs
    | bl i => cases rb with
      | bl j => exact .inl ⟨rfl, by rw [d_bl]; exact fv _ as H .refl r (.bl _)⟩
      | _ => cases hs
    | _ => first | (cases hs) | (cases rb <;> cases hs)
  | false =>
    rw [vEq_data hs] at fv
    split at fv
    · rename_i d e hd he
      split at fv
      · rename_i hsh
        obtain ⟨s1, s2⟩ := Bool.and_eq_true_iff.mp hsh
        exact .inr ⟨d, e, dp_dat r ra hd, dp_dat r rb he, s1, s2, fv _ as H .refl r (.bl _)⟩
      · exact False.elim fv
    · exact False.elim fv
theorem os_ne (hu : X.A.units + 64 < cLine) : OpS X T (compareOp .NotEq) vNe := op_imp (op_ne.or (op_neD hu)) fun x y H Q a b S as r ra rb fv => by
  unfold vNe at fv
  cases hs : isScal a b with
  | true =>
    cases ra with
    | str i => cases rb with
      | str j => exact .inl ⟨rfl, by rw [d_str]; exact fv _ as H .refl r (.bl _)⟩
      | _ => cases hs
    | int i => cases rb with
      | int j => exact .inl ⟨rfl, by rw [d_int]; exact fv _ as H .refl r (.bl _)⟩
      | _ => cases hs
    | bl i => cases rb with
      | bl j => exact .inl ⟨rfl, by rw [d_bl]; exact fv _ as H .refl r (.bl _)⟩
      | _ => cases hs
    | _ => first | (cases hs) | (cases rb <;> cases hs)
  | false =>
    rw [vEq_data hs] at fv
    split at fv
    · rename_i k S1 hk
      split at hk
      · rename_i d e hd he
        split at hk
        · rename_i hsh
          cases hk
          obtain ⟨s1, s2⟩ := Bool.and_eq_true_iff.mp hsh
          exact .inr ⟨d, e, dp_dat r ra hd, dp_dat r rb he, s1, s2, fv _ as H .refl r (.bl _)⟩
        · cases hk
      · cases hk
    · exact False.elim fv
end
/-! ### in, len, truth, isinstance, max, min -/
def flatA : A → Bool
  | .non => true
  | .bl _ => true
  | .int _ => true
  | .str _ => true
  | _ => false
def eqF : A → A → Bool
  | .non, .non => true
  | .bl a, .bl b => a == b
  | .bl a, .int b => (if a then 1 else 0) == b
  | .int a, .bl b => a == (if b then 1 else 0)
  | .int a, .int b => a == b
  | .str a, .str b => decide (a = b)
  | _, _ => false
def inF (x : A) (l : List A) : Bool := l.any fun y => eqF y x
def seqOf (S : Sto) : A → Option (List A)
  | .tup xs => some xs
  | .ob n => itemsAt S n
  | _ => none
/-- x in a tuple or list of flat things; a sign in a text -/
def vIn : A → A → Sto → RE := fun a b S => match b with
  | .str z => (match a with
    | .str x => (match x.cps.toList with
      | [c] => .ok (.bl (decide (c ∈ z.cps.toList))) S
      | _ => .stuck)
    | _ => .stuck)
  | b => (match seqOf S b with
    | some xs => if (flatA a && xs.all flatA) = true then .ok (.bl (inF a xs)) S else .stuck
    | none => .stuck)
def vNotIn : A → A → Sto → RE := fun a b S => match vIn a b S with
  | .ok (.bl k) S1 => .ok (.bl (!k)) S1
  | _ => .stuck
section
variable {K : Frg} {T : Tbs} {W : WX} {H H' : Hp} {as as' : List Addr} {S S' : Sto}
theorem RelA.flat {a : A} {v : V} (h : RelA K H as a v) : flatV v = flatA a := by cases h <;> rfl
theorem RelA.eqF {a b : A} {v w : V} (h : RelA K H as a v) (g : RelA K H as b w) (f1 : flatA a = true) (f2 : flatA b = true) : eqV v w = eqF a b := by
  cases h <;> cases g <;> first | rfl | (cases f1) | (cases f2) | (simp only [eqV, Sx.eqF]; rw [Bool.eq_iff_iff]; simp)
theorem RelL.flat {xs : List A} {vs : List V} (h : RelL K H as xs vs) : vs.all flatV = xs.all flatA := by
  induction xs generalizing vs with
  | nil => cases h; rfl
  | cons a xs ih => cases h with
    | cons h1 h2 => rw [List.all_cons, List.all_cons, h1.flat, ih h2]
theorem RelL.inF {a : A} {v : V} {xs : List A} {vs : List V} (h : RelL K H as xs vs) (g : RelA K H as a v) (f1 : flatA a = true) (f2 : xs.all flatA = true) : inV v vs = Sx.inF a xs := by
  induction xs generalizing vs with
  | nil => cases h; rfl
  | cons b xs ih => cases h with
    | cons h1 h2 =>
      rw [List.all_cons] at f2
      obtain ⟨f3, f4⟩ := Bool.and_eq_true_iff.mp f2
      unfold inV Sx.inF
      rw [List.any_cons, List.any_cons, h1.eqF g f3 f1]
      congr 1
      exact ih h2 f4
theorem Rel.seq (r : Rel K T S as H) {b : A} {y : V} {xs : List A} (rb : RelA K H as b y) (h : seqOf S b = some xs) : ∃ p vs, y = .ref p ∧ (SqL K H p vs ∨ SqT K H p vs) ∧ RelL K H as xs vs := by
  cases rb with
  | tup hs rl => cases h; exact ⟨_, _, rfl, .inr hs, rl⟩
  | ob ea => obtain ⟨vs, hq, rl⟩ := r.sql h ea; exact ⟨_, vs, rfl, .inl hq, rl⟩
  | _ => cases h
end
section
variable {X : Cx} {T : Tbs} {W : WX}
theorem one_sign {x : Str} {c : Nat} (h : x.cps.toList = [c]) : x = ⟨#[c]⟩ := by
  obtain ⟨a⟩ := x
  congr 1
  apply Array.ext'
  simpa using h
theorem os_in : OpS X T (compareOp .In) vIn := op_imp (op_in_seq.or op_in_sign) fun x y H Q a b S as r ra rb fv => by
  unfold vIn at fv
  split at fv
  · rename_i z
    cases rb
    split at fv
    · rename_i w
      cases ra
      split at fv
      · rename_i c hc
        exact .inr ⟨c, z, by rw [one_sign hc], rfl, fv _ as H .refl r (.bl _)⟩
      · exact False.elim fv
    · exact False.elim fv
  · split at fv
    · rename_i xs hx
      split at fv
      · rename_i hf
        obtain ⟨f1, f2⟩ := Bool.and_eq_true_iff.mp hf
        obtain ⟨p, vs, e, hq, rl⟩ := r.seq rb hx
        refine .inl ⟨p, vs, e, hq, by rw [ra.flat]; exact f1, by rw [rl.flat]; exact f2, ?_⟩
        show Q (.bl (inV x vs)) H
        rw [rl.inF ra f1 f2]
        exact fv _ as H .refl r (.bl _)
      · exact False.elim fv
    · exact False.elim fv
theorem os_notIn : OpS X T (compareOp .NotIn) vNotIn := op_imp (op_notIn_seq.or op_notIn_sign) fun x y H Q a b S as r ra rb fv => by
  unfold vNotIn vIn at fv
  split at fv
  · rename_i k S1 hk
    split at hk
    · rename_i z
      cases rb
      split at hk
      · rename_i w
        cases ra
        split at hk
        · rename_i c hc
          cases hk
          exact .inr ⟨c, z, by rw [one_sign hc], rfl, by
            have e : (!decide (c ∈ z.cps.toList)) = !decide (c ∈ z.cps.toList) := rfl
            first | exact fv _ as H .refl r (.bl _) | (simpa using fv _ as H .refl r (.bl _))⟩
        · cases hk
      · cases hk
    · split at hk
      · rename_i xs hx
        split at hk
        · rename_i hf
          cases hk
          obtain ⟨f1, f2⟩ := Bool.and_eq_true_iff.mp hf
          obtain ⟨p, vs, e, hq, rl⟩ := r.seq rb hx
          refine .inl ⟨p, vs, e, hq, by rw [ra.flat]; exact f1, by rw [rl.flat]; exact f2, ?_⟩
          show Q (.bl (!inV x vs)) H
          rw [rl.inF ra f1 f2]
          exact fv _ as H .refl r (.bl _)
        · cases hk
      · cases hk
  · exact False.elim fv
/-- len -/
def vLen : List A → Sto → RE := fun l S => match l with
  | [.str x] => if x.length ≤ 100000 then .ok (.int x.length) S else .stuck
  | [b] => (match seqOf S b with
    | some xs => .ok (.int xs.length) S
    | none => .stuck)
  | _ => .stuck
theorem cs_len : CallS X T (.builtin "len") vLen := call_imp call_len fun xs H Q l S as r rl fv => by
  unfold vLen at fv
  split at fv
  · rename_i x
    cases rl with
    | cons r1 r2 =>
      cases r1
      cases r2
      split at fv
      · rename_i h
        exact ⟨_, x.length, rfl, ⟨sz5 h, rfl⟩, fv _ as H .refl r (.int _)⟩
      · exact False.elim fv
  · rename_i b hb
    cases rl with
    | cons r1 r2 =>
      cases r2
      split at fv
      · rename_i xs hx
        obtain ⟨p, vs, e, hq, rl2⟩ := r.seq r1 hx
        subst e
        refine ⟨_, xs.length, rfl, ?_, fv _ as H .refl r (.int _)⟩
        rcases hq with hq | hq
        · exact .inl ⟨vs, hq, rl2.length⟩
        · exact .inr ⟨vs, hq, rl2.length⟩
      · exact False.elim fv
  · exact False.elim fv
def vMax : List A → Sto → RE := fun l S => match l with
  | [.int i, .int j] => .ok (.int (if j > i then j else i)) S
  | _ => .stuck
def vMin : List A → Sto → RE := fun l S => match l with
  | [.int i, .int j] => .ok (.int (if j < i then j else i)) S
  | _ => .stuck
theorem cs_max (hc : X.calm = true) : CallS X T (.builtin "max") vMax := call_imp (call_max2 hc) fun xs H Q l S as r rl fv => by
  unfold vMax at fv
  split at fv
  · cases rl with
    | cons r1 r2 => cases r2 with
      | cons r3 r4 => cases r1; cases r3; cases r4; exact ⟨_, _, rfl, fv _ as H .refl r (.int _)⟩
  · exact False.elim fv
theorem cs_min (hc : X.calm = true) : CallS X T (.builtin "min") vMin := call_imp (call_min2 hc) fun xs H Q l S as r rl fv => by
  unfold vMin at fv
  split at fv
  · cases rl with
    | cons r1 r2 => cases r2 with
      | cons r3 r4 => cases r1; cases r3; cases r4; exact ⟨_, _, rfl, fv _ as H .refl r (.int _)⟩
  · exact False.elim fv
/-- a value's truth -/
def truA (S : Sto) : A → Option Bool
  | .non => some false
  | .bl b => some b
  | .int i => some (i != 0)
  | .str x => if x.length ≤ 100000 then some (decide (x.length ≠ 0)) else none
  | b => (seqOf S b).map fun xs => !xs.isEmpty
def gTru (g : GE) : GE := fun ρ S => (g ρ S).bind fun a S1 => match truA S1 a with
  | some b => .ok (.bl b) S1
  | none => .stuck
theorem st_truth {a : Expr} {g : GE} (h : SE X T W a g) (he : ∀ whole, isTrue a X.env whole = (do let v ← whole; standAt a.pos; holding [v] (truthy v)) := by intro _; rfl) : ST X T W a (gTru g) := pt_imp (pt_truth h he) fun σ H Q ⟨ρ, S, as, rs, f⟩ => by
  refine seqT rs f fun x S1 v as1 H1 rs1 rx f1 l1 => ?_
  split at f1
  · rename_i b hb
    refine ⟨b, ?_, f1 as1 H1 .refl rs1.rel⟩
    cases rx with
    | non => cases hb; rfl
    | bl k => cases hb; rfl
    | int i => cases hb; rfl
    | str x =>
      unfold truA at hb
      dsimp only at hb
      split at hb
      · rename_i hl
        cases hb
        refine ⟨sz5 hl, ?_⟩
        rw [Bool.eq_iff_iff]
        simp
      · cases hb
    | tup hs rl =>
      have hb : (some _ : Option (List A)).map (fun xs => !xs.isEmpty) = some b := hb
      cases hb
      refine .inr (.inl ⟨_, hs, ?_⟩)
      cases rl <;> rfl
    | ob ea =>
      have hb : (itemsAt S1 _).map (fun xs => !xs.isEmpty) = some b := hb
      cases q : itemsAt S1 _ with
      | none => rw [q] at hb; cases hb
      | some xs =>
        rw [q] at hb
        cases hb
        obtain ⟨vs, hq, rl⟩ := rs1.rel.sql q ea
        refine .inl ⟨vs, hq, ?_⟩
        cases rl <;> rfl
  · exact False.elim f1
/-- isinstance with a built-in class -/
def tyA (S : Sto) : A → Option String
  | .non => some "NoneType"
  | .bl _ => some "bool"
  | .int _ => some "int"
  | .str _ => some "str"
  | .tup _ => some "tuple"
  | .ob n => (match S[n]? with
    | some (.lst _) => some "list"
    | some (.rol _) => some "list"
    | some (.dic _) => some "dict"
    | some (.dit _) => some "dict"
    | _ => none)
def isT (t n : String) : Bool := t == n || (t == "bool" && n == "int")
def isTs : List String := ["NoneType", "bool", "int", "str", "tuple", "list", "dict"]
theorem isT_ok {n : String} (hn : n ∈ ["int", "bool", "str", "tuple", "list"]) {t : String} (ht : t ∈ isTs) : kitB t n = some (isT t n) := by
  revert t n
  decide +kernel
def gIsi (n : String) (g : GE) : GE := fun ρ S => (g ρ S).bind fun a S1 => match tyA S1 a with
  | some t => .ok (.bl (isT t n)) S1
  | none => .stuck
theorem tyA_mem {S : Sto} {a : A} {t : String} (h : tyA S a = some t) : t ∈ isTs := by
  unfold tyA at h
  split at h <;> first | (cases h; decide) | skip
  split at h <;> first | (cases h; decide) | (cases h)
theorem tyX_of {K : Frg} {S : Sto} {as : List Addr} {H : Hp} {a : A} {v : V} {t : String} (r : Rel K T S as H) (ra : RelA K H as a v) (h : tyA S a = some t) : TyX K H v (.type t) := by
  cases ra with
  | non => cases h; exact .base .non
  | bl b => cases h; exact .base (.bl b)
  | int i => cases h; exact .base (.int i)
  | str x => cases h; exact .base (.str x)
  | tup hs rl =>
    cases h
    rcases hs with (hs | ⟨o, hs⟩) | ⟨o, its, n, hk, hc, _⟩
    · exact .base (.tup hs)
    · exact .fTuple hs
    · exact .kTuple hk hc
  | @ob n a ea =>
    unfold tyA at h
    dsimp only at h
    split at h
    · rename_i xs e
      cases h
      obtain ⟨vs, h1, _⟩ := r.obj _ _ _ e ea
      exact .base (.lst h1)
    · rename_i xs e
      cases h
      obtain ⟨vs, h1, _⟩ := r.obj _ _ _ e ea
      rcases h1 with ⟨o, h1⟩ | h1
      · exact .base (.frz h1)
      · rcases h1 with (h1 | ⟨o, h1⟩) | ⟨o, its, n, hk, hc, _⟩
        · cases h1
        · cases h1
        · exact .kList hk hc
    · rename_i xs e
      cases h
      obtain ⟨vs, h1, _⟩ := r.obj _ _ _ e ea
      exact .base (.dK h1)
    · rename_i xs e
      cases h
      obtain ⟨vs, h1, _⟩ := r.obj _ _ _ e ea
      exact .base (.dT h1)
    · cases h
theorem se_isi {e : Expr} {n : Str} {s : String} {p p2 pos : Pos} {g : GE} (hn : s ∈ ["int", "bool", "str", "tuple", "list"]) (hb : bootBuiltins n = some (.type s)) (hm : X.mg "isinstance" = none) (hmn : X.mg n = none) (he : SE X T W e g) (hg : Gl X "isinstance" := by rfl) (hgn : Gl X n := by rfl)
    (hnn : n ≠ "__name__" := by decide) (hd : (n == ("__debug__" : Str)) = false := by decide) (h1 : starEach [.Name n p2] X.env = (false, eval (.Name n p2) X.env) :: starEach [] X.env := by rfl)
    (hs : starEach [e, .Name n p2] X.env = (false, eval e X.env) :: starEach [.Name n p2] X.env := by rfl) (hpl : (backTo pos (starEach [.Name n p2] X.env)).any (·.1) = false := by rfl) : SE X T W (.Call (.Name "isinstance" p) [e, .Name n p2] [] pos) (gIsi s g) :=
  pe_imp (pe_callB call_isi hg hm (by decide +kernel) (pa_cons he (pa_cons (pe_bltn (v := .ty s) hgn hmn hb rfl hnn hd) pa_nil h1) hs) (he := hs) (hpl := hpl)) fun σ H Q ⟨ρ, S, as, rs, f⟩ => by
    refine seqE rs f fun x S1 v as1 H1 rs1 rx f1 l1 => ?_
    split at f1
    · rename_i t ht
      exact ⟨v, .ty s, .type t, .type s, _, rfl, .ty s, tyX_of rs1.rel rx ht, kit_ty (isT_ok hn (tyA_mem ht)), f1 _ as1 H1 .refl rs1.rel (.bl _)⟩
    · exact False.elim f1
end
end Sx

set_option Elab.async false
set_option linter.all false
set_option maxRecDepth 100000
set_option maxHeartbeats 1000000
namespace Sx
open PySem PySem.Spec PyProof.Rows L2
/-! ### methods of built-in types -/
def tyB (ty : String) (S : Sto) : A → Bool
  | .str _ => ty == "str"
  | .ob n => (match S[n]? with
    | some (.lst _) => ty == "list"
    | some (.dic _) => ty == "dict"
    | some (.dit _) => ty == "dict"
    | _ => false)
  | _ => false
def gMt (ty : String) (r : A → List A → Sto → RE) (g : GE) (gs : GA) : GE := fun ρ S => (g ρ S).bind fun a S1 => if tyB ty S1 a = true then (gs ρ S1).bind fun l S2 => (r a l S2).nox else .stuck
section
variable {X : Cx} {T : Tbs} {W : WX} {o e : Expr} {es : List Expr} {apos cpos : Pos} {g : GE} {gs : GA}
theorem tyV_of {K : Frg} {S : Sto} {as : List Addr} {H : Hp} {a : A} {v : V} {ty : String} (r : Rel K T S as H) (ra : RelA K H as a v) (h : tyB ty S a = true) : tyV K ty v H := by
  cases ra with
  | str x => exact beq_iff_eq.mp h
  | ob ea =>
    unfold tyB at h
    dsimp only at h
    split at h
    · rename_i xs e
      obtain ⟨vs, h1, _⟩ := r.obj _ _ _ e ea
      exact .inl ⟨beq_iff_eq.mp h, vs, SqL.of h1⟩
    · rename_i xs e
      obtain ⟨vs, h1, _⟩ := r.obj _ _ _ e ea
      exact .inr (.inr (.inl ⟨beq_iff_eq.mp h, .inl ⟨vs, h1⟩⟩))
    · rename_i xs e
      obtain ⟨vs, h1, _⟩ := r.obj _ _ _ e ea
      exact .inr (.inr (.inl ⟨beq_iff_eq.mp h, .inr ⟨vs, h1⟩⟩))
    · cases h
  | _ => cases h
theorem se_bm {ty id : String} {name : Str} {r : A → List A → Sto → RE} (pa : PlainAttrs ty) (slot : Slot ty name id) (hty : typeOf (.builtin id) = pure (.type "method_descriptor")) (hm : MtS X T id r) (ho : SE X T W o g) (ha : SA X T W (e :: es) gs)
    (hbase : attributeBase o name X.env (eval o X.env) = eval o X.env := by rfl)
    (hfew : ((backTo cpos (starEach (e :: es) X.env)).all (fun x => !x.1) && (backToKw cpos (keywordEach [] X.env)).all (fun x => x.1.isSome)
      && decide ((e :: es).length + ([] : List Keyword).length + (if ([] : List Keyword).isEmpty then 0 else 1) < 30)) = true := by rfl)
    (hline : (apos.endLine == cpos.line) = true := by rfl) (hs : starEach (e :: es) X.env = (false, eval e X.env) :: starEach es X.env := by rfl) (hplain : (backTo cpos (starEach es X.env)).any (·.1) = false := by rfl) :
    SE X T W (.Call (.Attribute o name apos) (e :: es) [] cpos) (gMt ty r g gs) := pe_imp (pe_bm pa slot hty hm ho ha hbase hfew hline hs hplain) fun σ H Q ⟨ρ, S, as, rs, f⟩ => by
  refine seqE rs f fun x S1 v as1 H1 rs1 rx f1 l1 => ?_
  split at f1
  · rename_i ht
    exact ⟨tyV_of rs1.rel rx ht, seqAE rs1 f1 fun l S2 vs as2 H2 rs2 rl f2 l2 => ⟨x, l, S2, as2, rs2.rel, rx.mono l2, rl, FinE.nox f2⟩⟩
  · exact False.elim f1
theorem se_bm0 {ty id : String} {name : Str} {r : A → List A → Sto → RE} (pa : PlainAttrs ty) (slot : Slot ty name id) (hty : typeOf (.builtin id) = pure (.type "method_descriptor")) (hm : MtS X T id r) (ho : SE X T W o g)
    (hbase : attributeBase o name X.env (eval o X.env) = eval o X.env := by rfl) (hline : (apos.endLine == cpos.line) = true := by rfl) :
    SE X T W (.Call (.Attribute o name apos) [] [] cpos) (gMt ty r g gNil) := pe_imp (pe_bm0 pa slot hty hm ho hbase hline) fun σ H Q ⟨ρ, S, as, rs, f⟩ => by
  refine seqE rs f fun x S1 v as1 H1 rs1 rx f1 l1 => ?_
  split at f1
  · rename_i ht
    exact ⟨tyV_of rs1.rel rx ht, x, [], S1, as1, rs1.rel, rx, .nil, FinE.nox f1⟩
  · exact False.elim f1
def vAppend : A → List A → Sto → RE := fun a l S => match a, l with
  | .ob n, [y] => (match S[n]? with
    | some (.lst xs) => if xs.length < 100000 then .ok .non (S.set n (.lst (xs ++ [y]))) else .stuck
    | _ => .stuck)
  | _, _ => .stuck
theorem ms_append : MtS X T "list.append" vAppend := mt_imp mt_append fun x xs H Q a l S as r ra rl fv => by
  unfold vAppend at fv
  split at fv
  · rename_i n y
    cases ra with
    | ob ea =>
      cases rl with
      | @cons _ v _ _ ry rn =>
        cases rn
        split at fv
        · rename_i ys e
          split at fv
          · rename_i hl
            obtain ⟨vs, h1, h2⟩ := r.obj _ _ _ e ea
            have kk : Kp H (upd H _ (.lst (vs ++ [v]))) := Kp.wr h1 rfl
            exact ⟨_, vs, _, rfl, rfl, h1, by rw [← h2.length]; exact sz6 hl, fv _ as _ kk.le (r.write (o' := .lst (ys ++ [y])) e ea h1 rfl rfl ⟨_, upd_same, (h2.append (RelL.one ry)).mono kk.le⟩) .non⟩
          · exact False.elim fv
        · exact False.elim fv
  · exact False.elim fv
def vPop : A → List A → Sto → RE := fun a l S => match a, l with
  | .ob n, [] => (match S[n]? with
    | some (.lst xs) => (match xs[xs.length - 1]? with
      | some y => .ok y (S.set n (.lst xs.dropLast))
      | none => .stuck)
    | _ => .stuck)
  | _, _ => .stuck
theorem RelL.dropLast {K : Frg} {H : Hp} {as : List Addr} {xs : List A} {vs : List V} (h : RelL K H as xs vs) : RelL K H as xs.dropLast vs.dropLast := by
  rw [List.dropLast_eq_take, List.dropLast_eq_take, ← h.length]
  exact h.take _
theorem ms_pop : MtS X T "list.pop" vPop := mt_imp mt_pop fun x xs H Q a l S as r ra rl fv => by
  unfold vPop at fv
  split at fv
  · rename_i n
    cases ra with
    | ob ea =>
      cases rl
      split at fv
      · rename_i ys e
        split at fv
        · rename_i y hy
          obtain ⟨vs, h1, h2⟩ := r.obj _ _ _ e ea
          obtain ⟨v, h3, h4⟩ := h2.get hy
          have kk : Kp H (upd H _ (.lst vs.dropLast)) := Kp.wr h1 rfl
          exact ⟨_, vs, v, rfl, rfl, h1, by rw [← h2.length]; exact h3, fv _ as _ kk.le (r.write (o' := .lst ys.dropLast) e ea h1 rfl rfl ⟨_, upd_same, h2.dropLast.mono kk.le⟩) (h4.mono kk.le)⟩
        · exact False.elim fv
      · exact False.elim fv
  · exact False.elim fv
def vClear : A → List A → Sto → RE := fun a l S => match a, l with
  | .ob n, [] => (match S[n]? with
    | some (.lst _) => .ok .non (S.set n (.lst []))
    | _ => .stuck)
  | _, _ => .stuck
theorem ms_clear : MtS X T "list.clear" vClear := mt_imp mt_clear fun x xs H Q a l S as r ra rl fv => by
  unfold vClear at fv
  split at fv
  · rename_i n
    cases ra with
    | ob ea =>
      cases rl
      split at fv
      · rename_i ys e
        obtain ⟨vs, h1, h2⟩ := r.obj _ _ _ e ea
        have kk : Kp H (upd H _ (.lst [])) := Kp.wr h1 rfl
        exact ⟨_, vs, rfl, rfl, h1, fv _ as _ kk.le (r.write (o' := .lst []) e ea h1 rfl rfl ⟨_, upd_same, .nil⟩) .non⟩
      · exact False.elim fv
  · exact False.elim fv
def vExtend : A → List A → Sto → RE := fun a l S => match a, l with
  | .ob n, [.ob m] => (match S[n]?, S[m]? with
    | some (.lst xs), some (.lst ys) => if xs.length + ys.length ≤ 100000 then .ok .non (S.set n (.lst (xs ++ ys))) else .stuck
    | _, _ => .stuck)
  | _, _ => .stuck
theorem ms_extend : MtS X T "list.extend" vExtend := mt_imp mt_extend fun x xs H Q a l S as r ra rl fv => by
  unfold vExtend at fv
  split at fv
  · rename_i n m
    cases ra with
    | ob ea =>
      cases rl with
      | cons ry rn =>
        cases rn
        cases ry with
        | ob eb =>
          split at fv
          · rename_i xs' ys' e1 e2
            split at fv
            · rename_i hl
              obtain ⟨vs, h1, h2⟩ := r.obj _ _ _ e1 ea
              obtain ⟨ws, h3, h4⟩ := r.obj _ _ _ e2 eb
              have kk : Kp H (upd H _ (.lst (vs ++ ws))) := Kp.wr h1 rfl
              exact ⟨_, _, vs, ws, rfl, rfl, h1, h3, by rw [← h2.length, ← h4.length]; exact sz5 hl, fv _ as _ kk.le (r.write (o' := .lst (xs' ++ ys')) e1 ea h1 rfl rfl ⟨_, upd_same, (h2.append h4).mono kk.le⟩) .non⟩
            · exact False.elim fv
          · exact False.elim fv
  · exact False.elim fv
end
end Sx

set_option Elab.async false
set_option linter.all false
set_option maxRecDepth 100000
set_option maxHeartbeats 1000000
namespace Sx
open PySem PySem.Spec PyProof.Rows L2
section
variable {X : Cx} {T : Tbs} {W : WX} {e a : Expr} {pos p2 : Pos} {g : GE}
/-! ### +, *, slices, conversions -/
def vAdd : A → A → Sto → RE := fun a b S => match a, b with
  | .int i, .int j => .ok (.int (i + j)) S
  | .str x, .str y => if x.length + y.length ≤ 100000 then .ok (.str (x ++ y)) S else .stuck
  | .tup xs, .tup ys => if xs.length + ys.length ≤ 100000 then .ok (.tup (xs ++ ys)) S else .stuck
  | .ob n, .ob m => (match S[n]?, S[m]? with
    | some (.lst xs), some (.lst ys) => if xs.length + ys.length ≤ 100000 then .ok (.ob S.length) (S ++ [.lst (xs ++ ys)]) else .stuck
    | _, _ => .stuck)
  | _, _ => .stuck
/-- a new list -/
theorem fin_new {K : Frg} {H : Hp} {as : List Addr} {S : Sto} {Q : VK} {xs : List A} {vs : List V} (r : Rel K T S as H) (rl : RelL K H as xs vs) (fv : FinV K T H as Q (.ok (.ob S.length) (S ++ [.lst xs]))) : ∀ p, H p = none → Q (.ref p) (upd H p (.lst vs)) := fun p hp => by
  have lA : Le K H as (upd H p (.lst vs)) (as ++ [p]) := (Kp.new hp).leA p
  exact fv _ _ _ lA (r.alloc hp ⟨vs, upd_same, rl.mono lA⟩) (.ob (by rw [← r.len]; simp))
/-- a new tuple -/
theorem fin_tup {K : Frg} {H : Hp} {as : List Addr} {S : Sto} {Q : VK} {xs : List A} {vs : List V} (r : Rel K T S as H) (rl : RelL K H as xs vs) (fv : FinV K T H as Q (.ok (.tup xs) S)) : ∀ p, H p = none → Q (.ref p) (upd H p (.tup vs)) := fun p hp => by
  have k := Kp.new (o := HO.tup vs) hp
  exact fv _ as _ k.le (r.tup hp) (.tup (SqT.of upd_same) (rl.mono k.le))
theorem os_add : OpS X T (binaryOp .Add) vAdd := op_imp (op_add.or (op_add_str.or (op_catA.or op_cat))) fun x y H Q a b S as r ra rb fv => by
  cases ra with
  | int i => cases rb with
    | int j => exact .inl ⟨i, j, rfl, rfl, fv _ as H .refl r (.int _)⟩
    | _ => exact False.elim fv
  | str i => cases rb with
    | str j =>
      unfold vAdd at fv
      dsimp only at fv
      split at fv
      · rename_i hl
        exact .inr (.inl ⟨i, j, rfl, rfl, sz5 hl, fv _ as H .refl r (.str _)⟩)
      · exact False.elim fv
    | _ => exact False.elim fv
  | @tup xs p vs hs rl => cases rb with
    | @tup ys q ws hs2 rl2 =>
      unfold vAdd at fv
      dsimp only at fv
      split at fv
      · rename_i hl
        refine .inr (.inr (.inl ⟨_, _, vs, ws, rfl, rfl, hs, hs2, by rw [← rl.length, ← rl2.length]; exact sz5 hl, fun e => ?_, fun _ e => ?_, fun _ _ => fin_tup r (rl.append rl2) fv⟩))
        · have e2 : xs = [] := List.length_eq_zero_iff.mp (by rw [rl.length, e]; rfl)
          subst e2
          exact fv _ as H .refl r (.tup hs2 rl2)
        · have e2 : ys = [] := List.length_eq_zero_iff.mp (by rw [rl2.length, e]; rfl)
          subst e2
          rw [List.append_nil] at fv
          exact fv _ as H .refl r (.tup hs rl)
      · exact False.elim fv
    | _ => exact False.elim fv
  | ob ea => cases rb with
    | ob eb =>
      unfold vAdd at fv
      dsimp only at fv
      split at fv
      · rename_i xs ys e1 e2
        split at fv
        · rename_i hl
          obtain ⟨vs, h1, h2⟩ := r.obj _ _ _ e1 ea
          obtain ⟨ws, h3, h4⟩ := r.obj _ _ _ e2 eb
          exact .inr (.inr (.inr ⟨_, _, vs, ws, rfl, rfl, h1, h3, by rw [← h2.length, ← h4.length]; exact sz5 hl, fin_new r (h2.append h4) fv⟩))
        · exact False.elim fv
      · exact False.elim fv
    | _ => exact False.elim fv
  | _ => first | exact False.elim fv | (cases rb <;> exact False.elim fv)
def repA (k : Nat) (xs : List A) : List A := (List.replicate k xs).flatten
theorem RelL.rep {K : Frg} {H : Hp} {as : List Addr} {xs : List A} {vs : List V} (h : RelL K H as xs vs) : ∀ k : Nat, RelL K H as (repA k xs) (List.replicate k vs).flatten
  | 0 => .nil
  | k + 1 => by
    unfold repA
    rw [List.replicate_succ, List.replicate_succ, List.flatten_cons, List.flatten_cons]
    exact h.append (RelL.rep h k)
def vMul : A → A → Sto → RE := fun a b S => match a, b with
  | .int i, .int j => if (-18446744073709551616 < i ∧ i < 18446744073709551616) ∨ (-18446744073709551616 < j ∧ j < 18446744073709551616) then .ok (.int (i * j)) S else .stuck
  | .tup xs, .int k => if 2 ≤ k ∧ k ≤ 1000 ∧ xs.length ≤ 1000 ∧ xs.length ≠ 0 then .ok (.tup (repA k.toNat xs)) S else .stuck
  | .ob n, .int k => (match S[n]? with
    | some (.lst xs) => if 0 ≤ k ∧ k ≤ 1000 ∧ xs.length ≤ 100 then .ok (.ob S.length) (S ++ [.lst (repA k.toNat xs)]) else .stuck
    | _ => .stuck)
  | _, _ => .stuck
theorem os_mul : OpS X T (binaryOp .Mult) vMul := op_imp (op_mul.or (op_repT.or op_rep)) fun x y H Q a b S as r ra rb fv => by
  cases ra with
  | int i => cases rb with
    | int j =>
      unfold vMul at fv
      dsimp only at fv
      split at fv
      · rename_i h
        exact .inl ⟨i, j, rfl, rfl, h, fv _ as H .refl r (.int _)⟩
      · exact False.elim fv
    | _ => exact False.elim fv
  | @tup xs p vs hs rl => cases rb with
    | int k =>
      unfold vMul at fv
      dsimp only at fv
      split at fv
      · rename_i h
        exact .inr (.inl ⟨_, k, vs, rfl, rfl, hs, fun z => h.2.2.2 (by rw [rl.length, z]; rfl), h.1, h.2.1, by rw [← rl.length]; exact h.2.2.1, fin_tup r (rl.rep _) fv⟩)
      · exact False.elim fv
    | _ => exact False.elim fv
  | ob ea => cases rb with
    | int k =>
      unfold vMul at fv
      dsimp only at fv
      split at fv
      · rename_i xs e1
        split at fv
        · rename_i h
          obtain ⟨vs, h1, h2⟩ := r.obj _ _ _ e1 ea
          refine .inr (.inr ⟨_, k, vs, rfl, rfl, h1, by omega, by omega, ?_, fin_new r (h2.rep _) fv⟩)
          rw [← h2.length]
          have h3 : k.toNat ≤ 1000 := by omega
          exact sz5 (Nat.le_trans (Nat.mul_le_mul h.2.2 h3) (by decide))
        · exact False.elim fv
      · exact False.elim fv
    | _ => exact False.elim fv
  | _ => first | exact False.elim fv | (cases rb <;> exact False.elim fv)
/-! slices -/
abbrev GO := Ro → Sto → RE
/-- a part of a slice: none, or an int -/
def pNone : GO := fun _ S => .ok .non S
def pSome (g : GE) : GO := fun ρ S => (g ρ S).bind fun a S1 => match a with
  | .int i => .ok (.int i) S1
  | _ => .stuck
def partOf : A → Option Int
  | .int i => some i
  | _ => none
def tO (K : Frg) (T : Tbs) (W : WX) (g : GO) : TO := fun σ H Q => ∃ ρ S as, RelSt K T ρ S as σ H ∧ FinE K T W σ H as (fun v H' => (v = .non ∧ Q none H') ∨ ∃ i, v = .int i ∧ Q (some i) H') (g ρ S)
abbrev SO (X : Cx) (T : Tbs) (W : WX) (e : Option Expr) (g : GO) : Prop := PO X e (tO X.K T W g)
theorem so_none : SO X T W none pNone := ⟨fun pins s σ H Q I ⟨ρ, S, as, rs, f⟩ => po_none.run pins s σ H Q I (by
  rcases f _ as H .refl rs.rel .non with ⟨_, q⟩ | ⟨i, e, _⟩
  · exact q
  · cases e)⟩
theorem so_some (h : SE X T W e g) : SO X T W (some e) (pSome g) := ⟨fun pins s σ H Q I ⟨ρ, S, as, rs, f⟩ => (po_some h).run pins s σ H Q I (seqE rs f fun x S1 v as1 H1 rs1 rx f1 l1 => by
  split at f1
  · cases rx
    rcases f1 _ as1 H1 .refl rs1.rel (.int _) with ⟨e, _⟩ | ⟨i, e, q⟩
    · cases e
    · cases e; exact ⟨_, rfl, q⟩
  · exact False.elim f1)⟩
def cutA (xs : List A) (lo hi : Option Int) : List A := (xs.drop (HT.sIx xs.length 0 lo)).take (HT.sIx xs.length xs.length hi - HT.sIx xs.length 0 lo)
theorem RelL.cutV {K : Frg} {H : Hp} {as : List Addr} {xs : List A} {vs : List V} (h : RelL K H as xs vs) (lo hi : Option Int) : RelL K H as (cutA xs lo hi) (L2.cutV vs lo hi) := by
  unfold cutA L2.cutV
  rw [← h.length]
  exact (h.drop _).take _
def vCut (a : A) (lo hi : Option Int) (S : Sto) : RE := match a with
  | .tup xs => .ok (.tup (cutA xs lo hi)) S
  | .str z => if z.length ≤ 100000 then .ok (.str (cutS z lo hi)) S else .stuck
  | .ob n => (match itemsAt S n with
    | some xs => .ok (.ob S.length) (S ++ [.lst (cutA xs lo hi)])
    | none => .stuck)
  | _ => .stuck
def gSlice (g : GE) (gl gh : GO) : GE := fun ρ S => (g ρ S).bind fun a S1 => (gl ρ S1).bind fun l S2 => (gh ρ S2).bind fun h S3 => vCut a (partOf l) (partOf h) S3
theorem SlR.or {r r' : V → Option Int → Option Int → Hp → VK → Prop} (h : SlR X r) (h' : SlR X r') : SlR X (fun x l u H Q => r x l u H Q ∨ r' x l u H Q) := by
  intro pins s σ H x v vl vu lo hi sl Q I rx hs pl pu q
  rcases q with q | q
  · exact h pins s σ H x v vl vu lo hi sl Q I rx hs pl pu q
  · exact h' pins s σ H x v vl vu lo hi sl Q I rx hs pl pu q
theorem whole {n a b : Nat} (h1 : a = 0) (h2 : b = n) (xs : List A) (hn : xs.length = n) : (xs.drop a).take (b - a) = xs := by
  subst h1 h2
  simp [← hn]
theorem part_ok {K : Frg} {σ : L2.St} {H : Hp} {as : List Addr} {ρ : Ro} {S : Sto} {gl : GO} {Q : VK} {k : A → Sto → RE} {R : Option Int → Hp → Prop} (rs : RelSt K T ρ S as σ H) (f : FinE K T W σ H as Q ((gl ρ S).bind k))
    (n : ∀ o S1 v as1 H1, RelSt K T ρ S1 as1 σ H1 → FinE K T W σ H1 as1 Q (k o S1) → Le K H as H1 as1 → RelA K H1 as1 o v → (v = .non ∧ R none H1) ∨ ∃ i, v = .int i ∧ R (some i) H1) : tO K T W gl σ H R := by
  refine ⟨ρ, S, as, rs, ?_⟩
  cases e : gl ρ S with
  | ok a S1 =>
    rw [e] at f
    exact fun v as1 H1 l r ra => n a S1 v as1 H1 (rs.mono l r) (FinE.later f l) l ra
  | exc c S1 => rw [e] at f; exact f
  | stuck => rw [e] at f; exact f
def PartG (g : GO) : Prop := ∀ ρ S a S1, g ρ S = .ok a S1 → a = .non ∨ ∃ i, a = .int i
theorem pNone_g : PartG pNone := fun ρ S a S1 e => by cases e; exact .inl rfl
theorem pSome_g (g : GE) : PartG (pSome g) := fun ρ S a S1 e => by
  unfold pSome at e
  cases q : g ρ S with
  | ok b S2 =>
    rw [q] at e
    cases b with
    | int i => cases e; exact .inr ⟨i, rfl⟩
    | _ => cases e
  | exc c S2 => rw [q] at e; cases e
  | stuck => rw [q] at e; cases e
theorem se_slice {lo hi : Option Expr} {gl gh : GO} (he : SE X T W e g) (hl : SO X T W lo gl) (hu : SO X T W hi gh) (pl : PartG gl := by first | exact pNone_g | exact pSome_g _) (ph : PartG gh := by first | exact pNone_g | exact pSome_g _) : SE X T W (.Subscript e (.Slice lo hi none p2) pos) (gSlice g gl gh) :=
  pe_imp (pe_slice (SlR.or sl_list (SlR.or sl_tupA sl_str)) he hl hu) fun σ H Q ⟨ρ, S, as, rs, f⟩ => by
    refine seqE rs f fun x S1 v as1 H1 rs1 rx f1 l1 => ?_
    refine ⟨ρ, S1, as1, rs1, ?_⟩
    cases e1 : gl ρ S1 with
    | exc c S2 => rw [e1] at f1; exact f1
    | stuck => rw [e1] at f1; exact f1
    | ok o1 S2 =>
      rw [e1] at f1
      intro w as2 H2 l2 r2 ra2
      have key : tO X.K T W gh σ H2 fun u H3 => (fun x l u H Q => rSlL X.K x l u H Q ∨ rSlA X.K x l u H Q ∨ rSlS x l u H Q) v (partOf o1) u H3 Q := by
        refine ⟨ρ, S2, as2, rs1.mono l2 r2, ?_⟩
        have f2 : FinE X.K T W σ H2 as2 Q ((gh ρ S2).bind fun h S3 => vCut x (partOf o1) (partOf h) S3) := FinE.later f1 l2
        cases e2 : gh ρ S2 with
        | exc c S3 => rw [e2] at f2; exact f2
        | stuck => rw [e2] at f2; exact f2
        | ok o2 S3 =>
          rw [e2] at f2
          intro w3 as3 H3 l3 r3 ra3
          have f3 : FinE X.K T W σ H3 as3 Q (vCut x (partOf o1) (partOf o2) S3) := FinE.later f2 l3
          have rx3 := (rx.mono l2).mono l3
          have fin : (fun x l u H Q => rSlL X.K x l u H Q ∨ rSlA X.K x l u H Q ∨ rSlS x l u H Q) v (partOf o1) (partOf o2) H3 Q := by
            cases rx3 with
            | @tup xs p vs hs rl =>
              refine .inr (.inl ⟨_, vs, rfl, hs, fun hw => ?_, fun _ => fin_tup r3 (rl.cutV _ _) f3⟩)
              refine f3 _ as3 H3 .refl r3 (.tup hs ?_)
              unfold cutA
              rw [rl.length]
              rw [whole hw.1 hw.2 xs rl.length]
              exact rl
            | str z =>
              unfold vCut at f3
              dsimp only at f3
              split at f3
              · rename_i hl
                exact .inr (.inr ⟨z, rfl, sz5 hl, f3 _ as3 H3 .refl r3 (.str _)⟩)
              · exact False.elim f3
            | ob ea =>
              unfold vCut at f3
              dsimp only at f3
              split at f3
              · rename_i xs hx
                obtain ⟨vs, hq, rl⟩ := r3.sql hx ea
                exact .inl ⟨_, vs, rfl, hq, fin_new r3 (rl.cutV _ _) f3⟩
              · exact False.elim f3
            | _ => exact False.elim f3
          rcases ph ρ S2 o2 S3 e2 with z | ⟨i, z⟩
          · subst z; cases ra3; exact .inl ⟨rfl, fin⟩
          · subst z; cases ra3; exact .inr ⟨i, rfl, fin⟩
      rcases pl ρ S1 o1 S2 e1 with z | ⟨i, z⟩
      · subst z; cases ra2; exact .inl ⟨rfl, key⟩
      · subst z; cases ra2; exact .inr ⟨i, rfl, key⟩
/-! not by truth, is None -/
def gNotT (g : GE) : GE := fun ρ S => (g ρ S).bind fun a S1 => match truA S1 a with
  | some b => .ok (.bl (!b)) S1
  | none => .stuck
theorem tru_of {K : Frg} {S : Sto} {as : List Addr} {H : Hp} {x : A} {v : V} {b : Bool} (r : Rel K T S as H) (rx : RelA K H as x v) (hb : truA S x = some b) : TruV K v H b := by
  cases rx with
  | non => cases hb; rfl
  | bl k => cases hb; rfl
  | int i => cases hb; rfl
  | str x =>
    unfold truA at hb
    dsimp only at hb
    split at hb
    · rename_i hl
      cases hb
      refine ⟨sz5 hl, ?_⟩
      rw [Bool.eq_iff_iff]
      simp
    · cases hb
  | tup hs rl =>
    have hb : (some _ : Option (List A)).map (fun xs => !xs.isEmpty) = some b := hb
    cases hb
    refine .inr (.inl ⟨_, hs, ?_⟩)
    cases rl <;> rfl
  | ob ea =>
    have hb : (itemsAt S _).map (fun xs => !xs.isEmpty) = some b := hb
    cases q : itemsAt S _ with
    | none => rw [q] at hb; cases hb
    | some xs =>
      rw [q] at hb
      cases hb
      obtain ⟨vs, hq, rl⟩ := r.sql q ea
      refine .inl ⟨vs, hq, ?_⟩
      cases rl <;> rfl
theorem se_notT (h : SE X T W a g) : SE X T W (.UnaryOp .Not a pos) (gNotT g) := pe_imp (pe_notT h) fun σ H Q ⟨ρ, S, as, rs, f⟩ => by
  refine seqE rs f fun x S1 v as1 H1 rs1 rx f1 l1 => ?_
  split at f1
  · rename_i b hb
    exact ⟨b, tru_of rs1.rel rx hb, f1 _ as1 H1 .refl rs1.rel (.bl _)⟩
  · exact False.elim f1
def isNon : A → Bool
  | .non => true
  | _ => false
def vIsN : A → A → Sto → RE := fun a b S => match b with
  | .non => .ok (.bl (isNon a)) S
  | _ => .stuck
def vNotN : A → A → Sto → RE := fun a b S => match b with
  | .non => .ok (.bl (!isNon a)) S
  | _ => .stuck
theorem isNon_of {K : Frg} {as : List Addr} {H : Hp} {x : A} {v : V} (rx : RelA K H as x v) : decide (v = .non) = isNon x := by
  cases rx <;> simp [isNon]
theorem os_isN : OpS X T (compareOp .Is) vIsN := op_imp op_isN fun x y H Q a b S as r ra rb fv => by
  cases rb with
  | non => exact ⟨rfl, by rw [isNon_of ra]; exact fv _ as H .refl r (.bl _)⟩
  | _ => exact False.elim fv
theorem os_notN : OpS X T (compareOp .IsNot) vNotN := op_imp op_notN fun x y H Q a b S as r ra rb fv => by
  cases rb with
  | non => exact ⟨rfl, by rw [isNon_of ra]; exact fv _ as H .refl r (.bl _)⟩
  | _ => exact False.elim fv
/-! conversions -/
def vList : List A → Sto → RE := fun l S => match l with
  | [b] => (match seqOf S b with
    | some xs => .ok (.ob S.length) (S ++ [.lst xs])
    | none => .stuck)
  | _ => .stuck
theorem cs_list : CallS X T (.type "list") vList := call_imp call_list_of fun xs H Q l S as r rl fv => by
  unfold vList at fv
  split at fv
  · cases rl with
    | cons r1 r2 =>
      cases r2
      split at fv
      · rename_i ys hx
        obtain ⟨p, vs, e, hq, rl2⟩ := r.seq r1 hx
        subst e
        exact ⟨p, vs, rfl, hq, fin_new r rl2 fv⟩
      · exact False.elim fv
  · exact False.elim fv
def vTuple : List A → Sto → RE := fun l S => match l with
  | [b] => (match seqOf S b with
    | some xs => .ok (.tup xs) S
    | none => .stuck)
  | _ => .stuck
theorem cs_tuple : CallS X T (.type "tuple") vTuple := call_imp call_tuple_of fun xs H Q l S as r rl fv => by
  unfold vTuple at fv
  split at fv
  · cases rl with
    | cons r1 r2 =>
      cases r2
      split at fv
      · rename_i ys hx
        obtain ⟨p, vs, e, hq, rl2⟩ := r.seq r1 hx
        subst e
        rcases hq with hq | hq
        · exact ⟨p, vs, rfl, .inl ⟨hq, fin_tup r rl2 fv⟩⟩
        · exact ⟨p, vs, rfl, .inr ⟨hq, fv _ as H .refl r (.tup hq rl2)⟩⟩
      · exact False.elim fv
  · exact False.elim fv
/-- in-place + and - of ints -/
theorem ipAdd : IpS X T .Add vAddI := fun pins s σ H x y v u Q I rx ry ⟨a, b, S, as, r, ra, rb, fv⟩ => ip_add pins s σ H x y v u Q I rx ry (by
  cases ra with
  | int i => cases rb with
    | int j => exact ⟨i, j, rfl, rfl, fv _ as H .refl r (.int _)⟩
    | _ => exact False.elim fv
  | _ => first | exact False.elim fv | (cases rb <;> exact False.elim fv))
abbrev vSubI := vSub
theorem inSub : InS X T .Sub vSubI := fun pins s σ H x y v u Q I rx ry ⟨a, b, S, as, r, ra, rb, fv⟩ => in_sub pins s σ H x y v u Q I rx ry (by
  cases ra with
  | int i => cases rb with
    | int j => exact ⟨i, j, rfl, rfl, fv _ as H .refl r (.int _)⟩
    | _ => exact False.elim fv
  | _ => first | exact False.elim fv | (cases rb <;> exact False.elim fv))
end
end Sx

set_option Elab.async false
set_option linter.all false
set_option maxRecDepth 100000
set_option maxHeartbeats 1000000
namespace Sx
open PySem PySem.Spec PyProof.Rows L2
/-! ### results of bodies, told to callers -/
theorem fitP {S : Sto} {a : A} (b : BelS S) (ba : Bel S.length a) : Fit S.length (.ok a S) (.ret a S) := by
  have := Fit.ret (n := S.length) (E := []) ba b (Nat.le_refl _)
  rwa [List.append_nil] at this
theorem fitPE {S E : Sto} {a : A} (b : BelS S) (ba : Bel S.length a) : Fit S.length (.ok a S) (.ret a (S ++ E)) := Fit.ret ba b (Nat.le_refl _)
theorem fitX {S : Sto} {c : Value} {ρ : Ro} (b : BelS S) : Fit S.length (.exc c S) (.exc c ρ S) := by
  have := Fit.exc (n := S.length) (c := c) (ρ := ρ) (E := []) b (Nat.le_refl _)
  rwa [List.append_nil] at this
theorem fitXE {S E : Sto} {c : Value} {ρ : Ro} (b : BelS S) : Fit S.length (.exc c S) (.exc c ρ (S ++ E)) := Fit.exc b (Nat.le_refl _)
theorem fitN {S : Sto} {ρ : Ro} (b : BelS S) : Fit S.length (.ok .non S) (.nx ρ S) := by
  have := Fit.nx (n := S.length) (ρ := ρ) (E := []) b (Nat.le_refl _)
  rwa [List.append_nil] at this
theorem noCX {P : Program} {w : World} {H : Hp} {s : Shared} {e : Value} {s' : Shared} (h : L2.CX P w [] H s (fun _ _ _ => False) e s') : False := by
  obtain ⟨_, _, _, _, _, _, _, _, _, _, _, _, z⟩ := h
  exact z
/-- the kind of a value is known -/
def kn (S : Sto) (a : A) : Bool := (tyA S a).isSome
theorem kn_some {S : Sto} {a : A} (h : kn S a = true) : ∃ t, tyA S a = some t := Option.isSome_iff_exists.mp h
theorem tyA_non (S : Sto) : tyA S .non = some "NoneType" := rfl
theorem tyA_bl (S : Sto) (b : Bool) : tyA S (.bl b) = some "bool" := rfl
theorem tyA_int (S : Sto) (i : Int) : tyA S (.int i) = some "int" := rfl
theorem tyA_str (S : Sto) (x : Str) : tyA S (.str x) = some "str" := rfl
theorem tyA_tup (S : Sto) (l : List A) : tyA S (.tup l) = some "tuple" := rfl
theorem isi_ob {S : Sto} {n : Nat} {ty : String} (h : tyA S (.ob n) = some ty) : isT ty "int" = false ∧ isT ty "bool" = false ∧ isT ty "str" = false ∧ isT ty "tuple" = false := by
  unfold tyA at h
  dsimp only at h
  split at h <;> first | (cases h; decide) | (cases h)
theorem kn_non (S : Sto) : kn S .non = true := rfl
theorem kn_bl (S : Sto) (b : Bool) : kn S (.bl b) = true := rfl
theorem kn_int (S : Sto) (b : Int) : kn S (.int b) = true := rfl
theorem kn_str (S : Sto) (b : Str) : kn S (.str b) = true := rfl
theorem kn_tup (S : Sto) (b : List A) : kn S (.tup b) = true := rfl
theorem bind_ite {c : Prop} [Decidable c] (a b : RE) (k : A → Sto → RE) : (if c then a else b).bind k = if c then a.bind k else b.bind k := by split <;> rfl
theorem bindA_ite {c : Prop} [Decidable c] (a b : RE) (k : A → Sto → RA) : (if c then a else b).bindA k = if c then a.bindA k else b.bindA k := by split <;> rfl
theorem bindS_ite {c : Prop} [Decidable c] (a b : RE) (ρ : Ro) (k : A → Sto → RS) : (if c then a else b).bindS ρ k = if c then a.bindS ρ k else b.bindS ρ k := by split <;> rfl
theorem bindT_ite {c : Prop} [Decidable c] (a b : RE) (k : Bool → Sto → RE) : (if c then a else b).bindT k = if c then a.bindT k else b.bindT k := by split <;> rfl
theorem bindTS_ite {c : Prop} [Decidable c] (a b : RE) (ρ : Ro) (k : Bool → Sto → RS) : (if c then a else b).bindTS ρ k = if c then a.bindTS ρ k else b.bindTS ρ k := by split <;> rfl
theorem nox_ite {c : Prop} [Decidable c] (a b : RE) : (if c then a else b).nox = if c then a.nox else b.nox := by split <;> rfl
theorem seq_ite {c : Prop} [Decidable c] (a b : RS) (k : GS) : (if c then a else b).seq k = if c then a.seq k else b.seq k := by split <;> rfl
theorem isT_ss : isT "str" "str" = true := by decide
theorem isT_tt : isT "tuple" "tuple" = true := by decide
theorem isT_ii : isT "int" "int" = true := by decide
theorem isT_bi : isT "bool" "int" = true := by decide
theorem isT_bb : isT "bool" "bool" = true := by decide
theorem isT_ib : isT "int" "bool" = false := by decide
theorem isT_ll : isT "list" "list" = true := by decide
theorem vIx_t0 (x0 : A) (l : List A) (S : Sto) : vIx (.tup (x0 :: l)) (.int 0) S = .ok x0 S := by
  have e : L2.atI (x0 :: l) (0 : Int) = some x0 := L2.atI_nat (j := 0) rfl
  show (match L2.atI (x0 :: l) (0 : Int) with
    | some x => RE.ok x S
    | none => .stuck) = _
  rw [e]
theorem vIx_t1 (x0 x1 : A) (l : List A) (S : Sto) : vIx (.tup (x0 :: x1 :: l)) (.int 1) S = .ok x1 S := by
  have e : L2.atI (x0 :: x1 :: l) (1 : Int) = some x1 := L2.atI_nat (j := 1) rfl
  show (match L2.atI (x0 :: x1 :: l) (1 : Int) with
    | some x => RE.ok x S
    | none => .stuck) = _
  rw [e]
theorem vIx_t2 (x0 x1 x2 : A) (l : List A) (S : Sto) : vIx (.tup (x0 :: x1 :: x2 :: l)) (.int 2) S = .ok x2 S := by
  have e : L2.atI (x0 :: x1 :: x2 :: l) (2 : Int) = some x2 := L2.atI_nat (j := 2) rfl
  show (match L2.atI (x0 :: x1 :: x2 :: l) (2 : Int) with
    | some x => RE.ok x S
    | none => .stuck) = _
  rw [e]
theorem vIx_t3 (x0 x1 x2 x3 : A) (l : List A) (S : Sto) : vIx (.tup (x0 :: x1 :: x2 :: x3 :: l)) (.int 3) S = .ok x3 S := by
  have e : L2.atI (x0 :: x1 :: x2 :: x3 :: l) (3 : Int) = some x3 := L2.atI_nat (j := 3) rfl
  show (match L2.atI (x0 :: x1 :: x2 :: x3 :: l) (3 : Int) with
    | some x => RE.ok x S
    | none => .stuck) = _
  rw [e]
theorem vIx_t4 (x0 x1 x2 x3 x4 : A) (l : List A) (S : Sto) : vIx (.tup (x0 :: x1 :: x2 :: x3 :: x4 :: l)) (.int 4) S = .ok x4 S := by
  have e : L2.atI (x0 :: x1 :: x2 :: x3 :: x4 :: l) (4 : Int) = some x4 := L2.atI_nat (j := 4) rfl
  show (match L2.atI (x0 :: x1 :: x2 :: x3 :: x4 :: l) (4 : Int) with
    | some x => RE.ok x S
    | none => .stuck) = _
  rw [e]
theorem vIx_t5 (x0 x1 x2 x3 x4 x5 : A) (l : List A) (S : Sto) : vIx (.tup (x0 :: x1 :: x2 :: x3 :: x4 :: x5 :: l)) (.int 5) S = .ok x5 S := by
  have e : L2.atI (x0 :: x1 :: x2 :: x3 :: x4 :: x5 :: l) (5 : Int) = some x5 := L2.atI_nat (j := 5) rfl
  show (match L2.atI (x0 :: x1 :: x2 :: x3 :: x4 :: x5 :: l) (5 : Int) with
    | some x => RE.ok x S
    | none => .stuck) = _
  rw [e]
theorem vEq_ss (x y : Str) (S : Sto) : vEq (.str x) (.str y) S = .ok (.bl (decide (x = y))) S := rfl
theorem vEq_ii (x y : Int) (S : Sto) : vEq (.int x) (.int y) S = .ok (.bl (decide (x = y))) S := rfl
theorem vEq_bb (x y : Bool) (S : Sto) : vEq (.bl x) (.bl y) S = .ok (.bl (decide (x = y))) S := rfl
theorem vNe_ss (x y : Str) (S : Sto) : vNe (.str x) (.str y) S = .ok (.bl (!decide (x = y))) S := rfl
theorem vNe_ii (x y : Int) (S : Sto) : vNe (.int x) (.int y) S = .ok (.bl (!decide (x = y))) S := rfl
theorem vNe_bb (x y : Bool) (S : Sto) : vNe (.bl x) (.bl y) S = .ok (.bl (!decide (x = y))) S := rfl
theorem vLen_tup (l : List A) (S : Sto) : vLen [.tup l] S = .ok (.int l.length) S := rfl
theorem truA_tup (l : List A) (S : Sto) : truA S (.tup l) = some (!l.isEmpty) := rfl
theorem truA_bl (b : Bool) (S : Sto) : truA S (.bl b) = some b := rfl
theorem vLe_ii (x y : Int) (S : Sto) : vLe (.int x) (.int y) S = .ok (.bl (decide (x ≤ y))) S := rfl
theorem vLt_ii (x y : Int) (S : Sto) : vLt (.int x) (.int y) S = .ok (.bl (decide (x < y))) S := rfl
theorem vGt_ii (x y : Int) (S : Sto) : vGt (.int x) (.int y) S = .ok (.bl (decide (y < x))) S := rfl
theorem vGe_ii (x y : Int) (S : Sto) : vGe (.int x) (.int y) S = .ok (.bl (decide (y ≤ x))) S := rfl
theorem vSub_ii (x y : Int) (S : Sto) : vSub (.int x) (.int y) S = .ok (.int (x - y)) S := rfl
theorem vAdd_ii (x y : Int) (S : Sto) : vAdd (.int x) (.int y) S = .ok (.int (x + y)) S := rfl
theorem vAddI_ii (x y : Int) (S : Sto) : vAddI (.int x) (.int y) S = .ok (.int (x + y)) S := rfl
theorem vNeg_i (x : Int) (S : Sto) : vNeg (.int x) S = .ok (.int (-x)) S := rfl
theorem vMod_pos (x y : Int) (S : Sto) (h : 0 < y) : vMod (.int x) (.int y) S = .ok (.int (x % y)) S := by
  show (if 0 < y then RE.ok (.int (x % y)) S else .stuck) = _
  rw [if_pos h]
theorem vFdiv_pos (x y : Int) (S : Sto) (h : 0 < y ∧ y < 1073741824) : vFdiv (.int x) (.int y) S = .ok (.int (x / y)) S := by
  show (if 0 < y ∧ y < 1073741824 then RE.ok (.int (x / y)) S else .stuck) = _
  rw [if_pos h]
/-- ints -/
def intsOf : List A → Option (List Int)
  | [] => some []
  | .int i :: l => (intsOf l).map (i :: ·)
  | _ :: _ => none
theorem intsOf_map (ns : List Int) : intsOf (ns.map .int) = some ns := by
  induction ns with
  | nil => rfl
  | cons n ns ih => show (intsOf (ns.map .int)).map (n :: ·) = _; rw [ih]; rfl
theorem intsOf_eq : ∀ {l : List A} {ns : List Int}, intsOf l = some ns → l = ns.map .int
  | [], ns, h => by cases h; rfl
  | .int i :: l, ns, h => by
    have h : (intsOf l).map (i :: ·) = some ns := h
    cases e : intsOf l with
    | none => rw [e] at h; cases h
    | some ms => rw [e] at h; cases h; rw [intsOf_eq e]; rfl
  | .non :: _, _, h => by cases h
  | .bl _ :: _, _, h => by cases h
  | .str _ :: _, _, h => by cases h
  | .tup _ :: _, _, h => by cases h
  | .ob _ :: _, _, h => by cases h
theorem items_new (S : Sto) (xs : List A) : itemsAt (S ++ [.lst xs]) S.length = some xs := by
  unfold itemsAt
  simp [O.items]
theorem get_app {S : Sto} {n : Nat} {o : O} (h : S[n]? = some o) (E : Sto) : (S ++ E)[n]? = some o := by
  rw [List.getElem?_append_left (List.getElem?_eq_some_iff.mp h).1]; exact h
theorem items_app {S : Sto} {n : Nat} {xs : List A} (h : itemsAt S n = some xs) (E : Sto) : itemsAt (S ++ E) n = some xs := by
  unfold itemsAt at h ⊢
  cases e : S[n]? with
  | none => rw [e] at h; cases h
  | some o => rw [e] at h; rw [get_app e E]; exact h
theorem vIx_ob {n : Nat} {i : Int} {S : Sto} {xs : List A} {x : A} (h : itemsAt S n = some xs) (e : L2.atI xs i = some x) : vIx (.ob n) (.int i) S = .ok x S := by
  show (match itemsAt S n with
    | some xs => (match L2.atI xs i with
      | some x => RE.ok x S
      | none => .stuck)
    | none => .stuck) = _
  rw [h]
  simp only [e]
/-- a list display indexed at once -/
theorem vIx_new {i : Int} {S : Sto} {xs : List A} {x : A} (e : L2.atI xs i = some x) : vIx (.ob S.length) (.int i) (S ++ [.lst xs]) = .ok x (S ++ [.lst xs]) := vIx_ob (items_new S xs) e
theorem append_at {S : Sto} {n : Nat} {xs : List A} {y : A} (h : S[n]? = some (.lst xs)) (hl : xs.length < 100000) : vAppend (.ob n) [y] S = .ok .non (S.set n (.lst (xs ++ [y]))) := by
  show (match S[n]? with
    | some (.lst xs) => if xs.length < 100000 then RE.ok .non (S.set n (.lst (xs ++ [y]))) else .stuck
    | _ => .stuck) = _
  rw [h]
  simp only [hl, if_true]
theorem tyB_list {S : Sto} {n : Nat} {xs : List A} (h : S[n]? = some (.lst xs)) : tyB "list" S (.ob n) = true := by
  show (match S[n]? with
    | some (.lst _) => ("list" : String) == "list"
    | some (.dic _) => ("list" : String) == "dict"
    | some (.dit _) => ("list" : String) == "dict"
    | _ => false) = true
  rw [h]
  rfl
/-- the law's promise: at a script of ints it answers True -/
def F_law : List A → Sto → RE := fun l S => match l, S with
  | [.ob 0], [o] => (match o.items.bind intsOf with
    | some ns => if ns.length ≤ 63 then .ok (.bl true) S else .stuck
    | none => .stuck)
  | _, _ => .stuck
theorem F_law_at {o : O} {ns : List Int} (h : o.items = some (ns.map .int)) (hl : ns.length ≤ 63) : F_law [.ob 0] [o] = .ok (.bl true) [o] := by
  have e : o.items.bind intsOf = some ns := by rw [h]; exact intsOf_map ns
  show (match o.items.bind intsOf with
    | some ns => if ns.length ≤ 63 then RE.ok (.bl true) [o] else .stuck
    | none => .stuck) = _
  rw [e]
  exact if_pos hl
theorem F_law_cases {l : List A} {S : Sto} (h : F_law l S ≠ .stuck) : ∃ (ns : List Int) (o : O), l = [.ob 0] ∧ S = [o] ∧ o.items = some (ns.map .int) ∧ ns.length ≤ 63 ∧ F_law l S = .ok (.bl true) S := by
  unfold F_law at h
  split at h
  · rename_i o
    split at h
    · rename_i ns e
      split at h
      · rename_i hl
        cases q : o.items with
        | none => rw [q] at e; cases e
        | some xs =>
          rw [q] at e
          have e2 := intsOf_eq e
          subst e2
          exact ⟨ns, o, rfl, rfl, q, hl, F_law_at q hl⟩
      · exact absurd rfl h
    · exact absurd rfl h
  · exact absurd rfl h
theorem F_law_len (l : List A) (S : Sto) (h : F_law l S ≠ .stuck) : l.length = 1 := by
  obtain ⟨ns, o, e, _⟩ := F_law_cases h
  rw [e]; rfl
theorem ints_rel {K : Frg} {H : Hp} {as : List Addr} : ∀ ns : List Int, RelL K H as (ns.map .int) (ns.map V.int)
  | [] => .nil
  | n :: ns => .cons (.int n) (ints_rel ns)
theorem sp_law {K : Frg} {T : Tbs} {H : Hp} {a : Addr} {ns : List Int} (ht : LamX.Tabs T H) (hl : ns.length ≤ 63) (hS : SqL K H a (ns.map V.int)) : spF K T F_law [.ref a] H (fun v _ => v = .bl true) fun _ _ _ => False := by
  obtain ⟨o, ho, hro⟩ : ∃ o : O, o.items = some (ns.map .int) ∧ RelO K H [a] o a := by
    rcases hS with (h | ⟨ob, h⟩) | h
    · exact ⟨.lst (ns.map .int), rfl, _, h, ints_rel ns⟩
    · exact ⟨.rol (ns.map .int), rfl, _, .inl ⟨ob, h⟩, ints_rel ns⟩
    · exact ⟨.rol (ns.map .int), rfl, _, .inr (.inr h), ints_rel ns⟩
  refine ⟨[.ob 0], [o], [a], ⟨rfl, fun n m b o1 u h1 h2 h3 h4 m1 m2 => ?_, fun n o1 b h1 h2 => ?_, ht⟩, .cons (.ob rfl) .nil, ?_⟩
  · have e1 := (List.getElem?_eq_some_iff.mp h3).1
    have e2 := (List.getElem?_eq_some_iff.mp h4).1
    simp at e1 e2
    omega
  · have e : o1 = o := by
      have := List.mem_of_getElem? h1
      simpa using this
    have e2 : b = a := by
      have := List.mem_of_getElem? h2
      simpa using this
    subst e e2
    exact hro
  · rw [F_law_at ho hl]
    intro v as' H' l r ra
    cases ra
    rfl
/-- the end: from the law's promise to what the head asks -/
theorem law_end {l : PySem.W.OpenLaw} {w : World} {K : Frg} {mg : Str → Option Value} {fa : Addr} {h : Heap} {fd : FuncData} {d : Nat} (T : Tbs) (cs : List (Addr × Addr)) (hT : ∀ p ∈ cs, h.get? p.2 = some { cls := .none, data := .fields #[] }) (nT : ∀ p ∈ cs, K.lookup p.2 = none) (C : ∀ p ∈ cs, PySem.W.CodeHd h p.1 p.2)
    (tb : ∀ H : Hp, (∀ p ∈ cs, H p.2 = some (.tbl #[])) → LamX.Tabs T H) (hb : Binds K fd ["script"] []) (KX : K.In h) (hb2 : ∀ (s : Shared) (u : Value), BindsTo s fd ⟨[u], []⟩ [("script", u)]) (hd : d ≤ 500)
    (F : ∀ base : Heap, K.In base → base.Ns mainGlobals mg → (∀ p ∈ cs, LamX.TabB base mg p.1 p.2) → FnR l.prog w K mg base d fa fd ["script"] (spF K T F_law)) : LamX.LawAtS l w K (L2.CX l.prog w) 200 63 "script" mg fa h :=
  ⟨fd, cs, spF K T F_law, hT, nT, C, hb2, fun H a ns hl _ hH hS => sp_law (tb H hH) hl hS, fun base h1 h2 h3 => (F base h1 h2 h3).ok (by omega) (by omega)⟩
end Sx

set_option Elab.async false
set_option linter.all false
set_option maxRecDepth 100000
set_option maxHeartbeats 1000000
namespace Sx
open PySem PySem.Spec PyProof.Rows L2
/-! ### texts joined -/
def strsOf : List A → Option (List Str)
  | [] => some []
  | .str x :: l => (strsOf l).map (x :: ·)
  | _ :: _ => none
theorem strsOf_map (ns : List Str) : strsOf (ns.map .str) = some ns := by
  induction ns with
  | nil => rfl
  | cons n ns ih => show (strsOf (ns.map .str)).map (n :: ·) = _; rw [ih]; rfl
theorem strsOf_eq : ∀ {l : List A} {ns : List Str}, strsOf l = some ns → l = ns.map .str
  | [], ns, h => by cases h; rfl
  | .str i :: l, ns, h => by
    have h : (strsOf l).map (i :: ·) = some ns := h
    cases e : strsOf l with
    | none => rw [e] at h; cases h
    | some ms => rw [e] at h; cases h; rw [strsOf_eq e]; rfl
  | .non :: _, _, h => by cases h
  | .bl _ :: _, _, h => by cases h
  | .int _ :: _, _, h => by cases h
  | .tup _ :: _, _, h => by cases h
  | .ob _ :: _, _, h => by cases h
theorem strs_rel {K : Frg} {H : Hp} {as : List Addr} : ∀ {ns : List Str} {vs : List V}, RelL K H as (ns.map .str) vs → vs = ns.map V.str
  | [], vs, h => by cases h; rfl
  | n :: ns, vs, h => by
    cases h with
    | cons h1 h2 => cases h1; rw [strs_rel h2]; rfl
def joinFit (a : Str) (ys : List Str) : Bool := decide ((ys.map (·.length)).sum + ys.length * a.length ≤ 16777216)
def vJoin : A → List A → Sto → RE := fun a l S => match a, l with
  | .str x, [b] => (match (seqOf S b).bind strsOf with
    | some ys => if joinFit x ys = true then .ok (.str (Str.join x ys)) S else .stuck
    | none => .stuck)
  | _, _ => .stuck
section
variable {X : Cx} {T : Tbs} {W : WX}
theorem ms_join : MtS X T "str.join" vJoin := mt_imp mt_join fun x xs H Q a l S as r ra rl fv => by
  unfold vJoin at fv
  split at fv
  · rename_i z b
    cases ra
    cases rl with
    | cons ry rn =>
      cases rn
      split at fv
      · rename_i ys e
        split at fv
        · rename_i hj
          cases q : seqOf S b with
          | none => rw [q] at e; cases e
          | some l =>
            rw [q] at e
            have e2 := strsOf_eq (l := l) e
            subst e2
            obtain ⟨p, vs, ep, hq, rl⟩ := r.seq ry q
            have e3 := strs_rel rl
            subst e3
            refine ⟨z, p, ys, rfl, by rw [ep], hq, of_decide_eq_true hj, ?_⟩
            rw [TL.join_eq]
            exact fv _ as H .refl r (.str _)
        · exact False.elim fv
      · exact False.elim fv
  · exact False.elim fv
end
/-! ### comprehensions that leave the store -/
theorem lc_eq {chk : Sto → Bool} {gg : GG} {gt ge : GE} {ρ0 : Ro} {S0 : Sto} (p : A → Bool) (f : A → A) (hc : ∀ l, chk (S0 ++ [.lst l]) = true) : ∀ (items acc : List A),
    (∀ x ∈ items, ∃ ρ1, (∀ S, gg x ρ0 S = some (ρ1, S)) ∧ ∀ l, gt ρ1 (S0 ++ [.lst l]) = .ok (.bl (p x)) (S0 ++ [.lst l]) ∧ (p x = true → ge ρ1 (S0 ++ [.lst l]) = .ok (f x) (S0 ++ [.lst l]))) → acc.length + items.length ≤ 100000 →
    lcGo chk gg gt ge ρ0 S0.length items (S0 ++ [.lst acc]) = .ok (.ob S0.length) (S0 ++ [.lst (acc ++ (items.filter p).map f)])
  | [], acc, _, _ => by simp [lcGo, hc]
  | x :: r, acc, h, hl => by
    obtain ⟨ρ1, h1, h2⟩ := h x (by simp)
    obtain ⟨h3, h4⟩ := h2 acc
    have ih := lc_eq (gg := gg) (gt := gt) (ge := ge) (ρ0 := ρ0) p f hc r
    unfold lcGo
    rw [if_pos (hc acc), h1]
    dsimp only
    rw [h3]
    have hl2 : acc.length < 100000 := by simp at hl; omega
    cases hp : p x with
    | false =>
      simp only [RE.nox_ok, RE.bindT_ok]
      rw [if_neg (by decide), ih acc (fun y hy => h y (by simp [hy])) (by simp at hl; omega), List.filter_cons, hp]
      rfl
    | true =>
      simp only [RE.nox_ok, RE.bindT_ok, if_true]
      rw [h4 hp]
      simp only [RE.nox_ok, RE.bind_ok]
      have e : (S0 ++ [O.lst acc])[S0.length]? = some (O.lst acc) := by simp
      rw [e]
      simp only [hl2, if_true]
      have e2 : (S0 ++ [O.lst acc]).set S0.length (.lst (acc ++ [f x])) = S0 ++ [.lst (acc ++ [f x])] := by simp
      rw [e2, ih (acc ++ [f x]) (fun y hy => h y (by simp [hy])) (by simp at hl ⊢; omega), List.filter_cons, hp]
      simp
/-! ### nice values: no objects, texts well formed, not too deep; values whose kinds are known -/
def niceS (x : Str) : Bool := decide (x.length ≤ 100000) && PyData.strOk x
def nice : Nat → A → Bool
  | n + 1, .tup l => l.all (nice n)
  | 0, .tup _ => false
  | _, .str x => niceS x
  | _, .ob _ => false
  | _, _ => true
mutual
def good (S : Sto) : A → Bool
  | .str x => decide (x.length ≤ 100000)
  | .tup l => goodL S l
  | .ob n => kn S (.ob n)
  | _ => true
def goodL (S : Sto) : List A → Bool
  | [] => true
  | a :: l => good S a && goodL S l
end
theorem goodL_iff {S : Sto} : ∀ {l : List A}, goodL S l = true ↔ ∀ x ∈ l, good S x = true
  | [] => by simp [goodL]
  | a :: l => by simp [goodL, goodL_iff (l := l)]
theorem good_tup {S : Sto} {l : List A} : good S (.tup l) = true ↔ ∀ x ∈ l, good S x = true := by
  rw [good]; exact goodL_iff
theorem good_kn {S : Sto} {a : A} (h : good S a = true) : kn S a = true := by
  cases a with
  | ob n => simpa [good] using h
  | _ => rfl
theorem kn_app {S : Sto} {a : A} (h : kn S a = true) (E : Sto) : kn (S ++ E) a = true := by
  cases a with
  | ob n =>
    obtain ⟨t, ht⟩ := kn_some h
    unfold kn tyA at *
    dsimp only at *
    cases e : S[n]? with
    | none => rw [e] at ht; cases ht
    | some o => rw [get_app e E]; rw [e] at h; exact h
  | _ => rfl
mutual
theorem good_app {S : Sto} : ∀ {a : A}, good S a = true → ∀ E, good (S ++ E) a = true
  | .ob n, h, E => by
    simp only [good] at h ⊢
    exact kn_app h E
  | .tup l, h, E => by
    simp only [good] at h ⊢
    exact goodL_app h E
  | .non, _, _ => by simp [good]
  | .bl _, _, _ => by simp [good]
  | .int _, _, _ => by simp [good]
  | .str _, h, _ => by simpa [good] using h
theorem goodL_app {S : Sto} : ∀ {l : List A}, goodL S l = true → ∀ E, goodL (S ++ E) l = true
  | [], _, _ => by simp [goodL]
  | a :: l, h, E => by
    simp only [goodL, Bool.and_eq_true] at h ⊢
    exact ⟨good_app h.1 E, goodL_app h.2 E⟩
end
theorem nice_tup {n : Nat} {l : List A} : nice n (.tup l) = true → ∃ m, n = m + 1 ∧ ∀ x ∈ l, nice m x = true := by
  cases n with
  | zero => intro h; cases h
  | succ m => intro h; exact ⟨m, rfl, by simpa [nice] using h⟩
mutual
theorem nice_good : ∀ {a : A} {n : Nat}, nice n a = true → ∀ S, good S a = true
  | .tup l, n, h, S => by
    obtain ⟨m, _, h2⟩ := nice_tup h
    simp only [good]
    exact nice_goodL h2 S
  | .non, _, _, _ => by simp [good]
  | .bl _, _, _, _ => by simp [good]
  | .int _, _, _, _ => by simp [good]
  | .str x, n, h, _ => by
    have h : niceS x = true := by cases n <;> simpa [nice] using h
    simp only [niceS, Bool.and_eq_true] at h
    simpa [good] using h.1
  | .ob k, n, h, _ => by cases n <;> simp [nice] at h
theorem nice_goodL : ∀ {l : List A} {n : Nat}, (∀ x ∈ l, nice n x = true) → ∀ S, goodL S l = true
  | [], _, _, _ => by simp [goodL]
  | a :: l, n, h, S => by
    simp only [goodL, Bool.and_eq_true]
    exact ⟨nice_good (h a (by simp)) S, nice_goodL (fun x hx => h x (by simp [hx])) S⟩
end
mutual
theorem nice_dat : ∀ {a : A} {n : Nat}, nice n a = true → ∃ d : PyData, (∀ f, rdA f a = some d) ∧ d.canLay0 = true ∧ d.depth ≤ n
  | .tup l, n, h => by
    obtain ⟨m, e, h2⟩ := nice_tup h
    obtain ⟨ds, h3, h4, h5⟩ := nice_datL h2
    refine ⟨.tuple ds, fun f => by rw [rdA, h3 f]; rfl, by rw [PyData.canLay0]; exact h4, ?_⟩
    rw [PyData.depth]
    omega
  | .non, _, _ => ⟨.none, fun f => by rw [rdA], by rw [PyData.canLay0], by rw [PyData.depth]; omega⟩
  | .bl b, _, _ => ⟨.bool b, fun f => by rw [rdA], by rw [PyData.canLay0], by rw [PyData.depth]; omega⟩
  | .int i, _, _ => ⟨.int i, fun f => by rw [rdA], by rw [PyData.canLay0], by rw [PyData.depth]; omega⟩
  | .str x, n, h => by
    have h : niceS x = true := by cases n <;> simpa [nice] using h
    simp only [niceS, Bool.and_eq_true] at h
    exact ⟨.str x, fun f => by rw [rdA], by rw [PyData.canLay0]; exact h.2, by rw [PyData.depth]; omega⟩
  | .ob k, n, h => by cases n <;> simp [nice] at h
theorem nice_datL : ∀ {l : List A} {n : Nat}, (∀ x ∈ l, nice n x = true) → ∃ ds : List PyData, (∀ f, rdL f l = some ds) ∧ PyData.canLayAll0 ds = true ∧ PyData.depthAll ds ≤ n
  | [], _, _ => ⟨[], fun f => by rw [rdL], by rw [PyData.canLayAll0], by rw [PyData.depthAll]; omega⟩
  | a :: l, n, h => by
    obtain ⟨d, h1, h2, h3⟩ := nice_dat (h a (by simp))
    obtain ⟨ds, h4, h5, h6⟩ := nice_datL (l := l) (n := n) fun x hx => h x (by simp [hx])
    refine ⟨d :: ds, fun f => by rw [rdL, h1 f, h4 f], by rw [PyData.canLayAll0, h2, h5]; rfl, ?_⟩
    rw [PyData.depthAll]
    omega
end
theorem vEq_same {a : A} {n : Nat} (h : nice n a = true) (hn : n ≤ 60) (S : Sto) : vEq a a S = .ok (.bl true) S := by
  cases hs : isScal a a with
  | true =>
    cases a with
    | str x => simp [vEq]
    | int x => simp [vEq]
    | bl x => simp [vEq]
    | _ => cases hs
  | false =>
    obtain ⟨d, h1, h2, h3⟩ := nice_dat h
    have e : dat S a = some d := h1 _
    have sh : SeqAt.shaped d = true := by
      unfold SeqAt.shaped
      rw [h2]
      simp
      omega
    rw [vEq_data hs, e]
    simp [sh, SeqAt.eqv_refl d h2]
end Sx

set_option Elab.async false
set_option linter.all false
set_option maxRecDepth 100000
set_option maxHeartbeats 1000000
namespace Sx
open PySem PySem.Spec PyProof.Rows L2
/-! ### hearers, plainly -/
def isIn (x : A) (lo hi : Int) : Bool := match x with
  | .int i => decide (lo ≤ i) && decide (i ≤ hi)
  | _ => false
abbrev smallS : Str := "abcdefghijklmnopqrstuvwxyz"
def isWordS (x : Str) : Bool := decide (1 ≤ x.length) && decide (x.length ≤ 6) && x.cps.toList.all fun c => decide (c ∈ smallS.cps.toList)
def isWord : A → Bool
  | .str x => isWordS x
  | _ => false
/-- a sign that is none of SMALL -/
def badSign (z : Str) : A → Bool
  | .str x => !decide (x.cps.toList.getD 0 0 ∈ z.cps.toList)
  | _ => false
theorem badSign_empty (z x : Str) : ((signs x).filter (badSign z)).isEmpty = x.cps.toList.all fun c => decide (c ∈ z.cps.toList) := by
  unfold signs
  induction x.cps.toList with
  | nil => rfl
  | cons c l ih =>
    rw [List.map_cons, List.filter_cons, List.all_cons]
    by_cases h : c ∈ z.cps.toList
    · have e : badSign z (.str ⟨#[c]⟩) = false := by
        unfold badSign
        simpa using h
      rw [e, if_neg (by decide), ih]
      simp [h]
    · have e : badSign z (.str ⟨#[c]⟩) = true := by
        unfold badSign
        simpa using h
      rw [e, if_pos rfl]
      simp at h
      simp [h]
theorem isWord_bad {x : Str} (h1 : 1 ≤ x.length) (h2 : x.length ≤ 6) : isWord (.str x) = ((signs x).filter (badSign smallS)).isEmpty := by
  rw [badSign_empty, isWord, isWordS, decide_eq_true h1, decide_eq_true h2]
  rfl
def isTest (x : A) : Bool := match x with
  | .tup (.str s :: r) => if s = "any" then r.isEmpty else (decide (s = "over") || decide (s = "under")) && (match r with
    | [v] => isIn v 0 9999
    | _ => false)
  | _ => false
def fitT (x : A) (v : Int) : Bool := match x with
  | .tup [.str s, .int n] => if s = "over" then decide (n < v) else decide (v < n)
  | _ => true
def isHow : A → Bool
  | .str x => decide (x = "always") || decide (x = "once")
  | _ => false
def isDeedW (h : A → Bool) : A → Bool
  | .tup (.str s :: r) =>
    if s = "stop" ∨ s = "done" then r.isEmpty
    else if s = "tell" then (match r with
      | [a, b] => isWord a && isIn b 0 9999
      | _ => false)
    else if s = "leave" then (match r with
      | [a] => isWord a
      | _ => false)
    else decide (s = "join") && (match r with
      | [a] => h a
      | _ => false)
  | _ => false
def isHrW (d : A → Bool) : A → Bool
  | .tup [o, t, r, h, ts, .tup ds] => isWord o && isWord t && isIn r 0 9 && isHow h && isTest ts && decide (ds.length ≤ 3) && ds.all d
  | _ => false
def isHr : Nat → A → Bool
  | 0, _ => false
  | n + 1, a => isHrW (isDeedW (isHr n)) a
/-! nice -/
theorem cps_small {c : Nat} (h : c ∈ smallS.cps.toList) : c < 0x110000 := by
  have : ∀ c ∈ smallS.cps.toList, c < 0x110000 := by decide +kernel
  exact this c h
theorem niceS_word {x : Str} (h : isWordS x = true) : niceS x = true := by
  unfold isWordS at h
  simp only [Bool.and_eq_true, decide_eq_true_eq, List.all_eq_true] at h
  unfold niceS PyData.strOk
  simp only [Bool.and_eq_true, decide_eq_true_eq]
  refine ⟨by omega, ?_⟩
  rw [← Array.all_toList, List.all_eq_true]
  intro c hc
  simp only [decide_eq_true_eq]
  exact cps_small (h.2 c hc)
theorem nice_str {n : Nat} {x : Str} (h : niceS x = true) : nice n (.str x) = true := by cases n <;> exact h
theorem nice_int {n : Nat} {x : Int} : nice n (.int x) = true := by cases n <;> rfl
theorem nice_bl {n : Nat} {x : Bool} : nice n (.bl x) = true := by cases n <;> rfl
theorem nice_non {n : Nat} : nice n .non = true := by cases n <;> rfl
theorem nice_tupI {n : Nat} {l : List A} (h : ∀ x ∈ l, nice n x = true) : nice (n + 1) (.tup l) = true := by
  show l.all (nice n) = true
  exact List.all_eq_true.mpr h
theorem nice_word {n : Nat} {a : A} (h : isWord a = true) : nice n a = true := by
  cases a with
  | str x => exact nice_str (niceS_word h)
  | _ => cases h
theorem nice_in {n : Nat} {a : A} {lo hi : Int} (h : isIn a lo hi = true) : nice n a = true := by
  cases a with
  | int x => exact nice_int
  | _ => cases h
theorem nice_how {n : Nat} {a : A} (h : isHow a = true) : nice n a = true := by
  cases a with
  | str x =>
    refine nice_str ?_
    unfold isHow at h
    simp only [Bool.or_eq_true, decide_eq_true_eq] at h
    rcases h with h | h <;> subst h <;> decide +kernel
  | _ => cases h
theorem nice_test {n : Nat} {a : A} (h : isTest a = true) : nice (n + 1) a = true := by
  unfold isTest at h
  split at h
  · rename_i s r
    split at h
    · rename_i hs
      have : r = [] := by simpa using h
      subst this hs
      refine nice_tupI fun x hx => ?_
      simp at hx
      subst hx
      exact nice_str (by decide +kernel)
    · simp only [Bool.and_eq_true, Bool.or_eq_true, decide_eq_true_eq] at h
      obtain ⟨h1, h2⟩ := h
      split at h2
      · refine nice_tupI fun x hx => ?_
        simp at hx
        rcases hx with hx | hx
        · subst hx
          rcases h1 with h1 | h1 <;> subst h1 <;> exact nice_str (by decide +kernel)
        · subst hx
          exact nice_in h2
      · cases h2
  · cases h
theorem nice_deed {n : Nat} {hf : A → Bool} (ih : ∀ a, hf a = true → nice n a = true) {a : A} (h : isDeedW hf a = true) : nice (n + 1) a = true := by
  unfold isDeedW at h
  split at h
  · rename_i s r
    split at h
    · rename_i hs
      have : r = [] := by simpa using h
      subst this
      refine nice_tupI fun x hx => ?_
      simp at hx
      subst hx
      rcases hs with hs | hs <;> subst hs <;> exact nice_str (by decide +kernel)
    · split at h
      · rename_i hs
        subst hs
        split at h
        · simp only [Bool.and_eq_true] at h
          refine nice_tupI fun x hx => ?_
          simp at hx
          rcases hx with hx | hx | hx <;> subst hx
          · exact nice_str (by decide +kernel)
          · exact nice_word h.1
          · exact nice_in h.2
        · cases h
      · split at h
        · rename_i hs
          subst hs
          split at h
          · refine nice_tupI fun x hx => ?_
            simp at hx
            rcases hx with hx | hx <;> subst hx
            · exact nice_str (by decide +kernel)
            · exact nice_word h
          · cases h
        · simp only [Bool.and_eq_true, decide_eq_true_eq] at h
          obtain ⟨hs, h⟩ := h
          subst hs
          split at h
          · refine nice_tupI fun x hx => ?_
            simp at hx
            rcases hx with hx | hx <;> subst hx
            · exact nice_str (by decide +kernel)
            · exact ih _ h
          · cases h
  · cases h
theorem isHrW_cases {d : A → Bool} {a : A} (h : isHrW d a = true) : ∃ o t r w ts ds, a = .tup [o, t, r, w, ts, .tup ds] ∧ isWord o = true ∧ isWord t = true ∧ isIn r 0 9 = true ∧ isHow w = true ∧ isTest ts = true ∧ ds.length ≤ 3 ∧ ∀ x ∈ ds, d x = true := by
  unfold isHrW at h
  split at h
  · simp only [Bool.and_eq_true, decide_eq_true_eq, List.all_eq_true] at h
    obtain ⟨⟨⟨⟨⟨⟨h1, h2⟩, h3⟩, h4⟩, h5⟩, h6⟩, h7⟩ := h
    exact ⟨_, _, _, _, _, _, rfl, h1, h2, h3, h4, h5, h6, h7⟩
  · cases h
theorem nice_hr : ∀ {n : Nat} {a : A}, isHr n a = true → nice (3 * n) a = true
  | 0, a, h => by cases h
  | n + 1, a, h => by
    obtain ⟨o, t, r, w, ts, ds, e, h1, h2, h3, h4, h5, h6, h7⟩ := isHrW_cases h
    subst e
    have e : 3 * (n + 1) = (3 * n + 2) + 1 := by omega
    rw [e]
    refine nice_tupI fun x hx => ?_
    simp at hx
    rcases hx with hx | hx | hx | hx | hx | hx <;> subst hx
    · exact nice_word h1
    · exact nice_word h2
    · exact nice_in h3
    · exact nice_how h4
    · exact nice_test h5
    · exact nice_tupI fun x hx => nice_deed (fun a => nice_hr) (h7 x hx)
theorem isHr_succ : ∀ {n : Nat} {a : A}, isHr n a = true → isHr (n + 1) a = true
  | 0, a, h => by cases h
  | n + 1, a, h => by
    obtain ⟨o, t, r, w, ts, ds, e, h1, h2, h3, h4, h5, h6, h7⟩ := isHrW_cases h
    subst e
    show isHrW (isDeedW (isHr (n + 1))) _ = true
    unfold isHrW
    simp only [h1, h2, h3, h4, h5, h6, Bool.and_true, decide_true, Bool.true_and, List.all_eq_true]
    intro x hx
    have := h7 x hx
    unfold isDeedW at this ⊢
    split at this
    · split
      · rename_i hs; rw [if_pos hs] at this; exact this
      · rename_i hs
        rw [if_neg hs] at this
        split
        · rename_i hs2; rw [if_pos hs2] at this; exact this
        · rename_i hs2
          rw [if_neg hs2] at this
          split
          · rename_i hs3; rw [if_pos hs3] at this; exact this
          · rename_i hs3
            rw [if_neg hs3] at this
            simp only [Bool.and_eq_true] at this ⊢
            refine ⟨this.1, ?_⟩
            have t2 := this.2
            split at t2
            · exact isHr_succ t2
            · cases t2
    · cases this
/-! ### the laws' own making of hearers -/
def cellOf (ns : List Int) (k : Int) : Int := ns.getD k.toNat 0
def seedOf (s k : Int) : Int := ((s * 1103515245 + 7919 * k + 12345) % 2147483647) ^ 5 % 2147483647
def pickOf (s m : Int) : Int := s / 97 % m
def letterOf (i : Int) : Nat := smallS.cps.toList.getD i.toNat 97
def wordOf (s : Int) : Str := if 0 < s / 5 % 6 then (["a", "b", "c", "news", "log"] : List Str).getD (pickOf s 5).toNat "a" else
  ⟨((List.range (1 + s / 7 % 6).toNat).map fun k => letterOf (pickOf (seedOf s (k : Nat)) 26)).toArray⟩
def rankOf (s : Int) : Int := if pickOf (seedOf s 7) 3 = 0 then seedOf s 2 / 7 % 10 else 3
def howOf (s : Int) : Str := if pickOf (seedOf s 6) 3 = 2 then "once" else "always"
def testOf (s : Int) : A := ([.tup [.str "any"], .tup [.str "any"], .tup [.str "over", .int (seedOf s 4 / 7 % 10000)], .tup [.str "under", .int (seedOf s 4 / 7 % 10000)]] : List A).getD (pickOf (seedOf s 3) 4).toNat .non
def manyOf (s : Int) : Int := ([0, 1, 2, 3, 1] : List Int).getD (pickOf (seedOf s 5) 5).toNat 0
def hrW (d : Int → A) (s : Int) : A := .tup [.str (wordOf (seedOf s 0)), .str (wordOf (seedOf s 1)), .int (rankOf s), .str (howOf s), testOf s, .tup ((List.range (manyOf s).toNat).map fun k => d (seedOf s (10 + (k : Nat))))]
def lastDeed (s : Int) : A := if pickOf s 9 % 3 = 0 then .tup [.str "leave", .str (wordOf (seedOf s 3))] else if pickOf s 9 % 3 = 1 then .tup [.str "stop"] else .tup [.str "done"]
def tellVal (s : Int) : Int := if s / 11 % 3 = 0 then 0 else if s / 11 % 3 = 1 then 1 else s / 7 % 10000
def deedW (deep : Int) (h : Int → A) (s : Int) : A :=
  if pickOf s 9 < 4 then .tup [.str "tell", .str (wordOf (seedOf s 1)), .int (tellVal s)]
  else if pickOf s 9 < 6 ∧ 1 < deep then .tup [.str "join", h (seedOf s 2)]
  else lastDeed s
def hrG : Nat → Int → A
  | 0, _ => .non
  | n + 1, s => hrW (deedW ((n + 1 : Nat) : Int) (hrG n)) s
theorem emod_lt' {a b : Int} (h : 0 < b) : 0 ≤ a % b ∧ a % b < b := ⟨Int.emod_nonneg _ (by omega), Int.emod_lt_of_pos _ h⟩
theorem letter_small {i : Int} : letterOf i ∈ smallS.cps.toList := by
  unfold letterOf
  by_cases h : i.toNat < smallS.cps.toList.length
  · rw [List.getD_eq_getElem?_getD, List.getElem?_eq_getElem h]
    exact List.getElem_mem h
  · rw [List.getD_eq_getElem?_getD, List.getElem?_eq_none (by omega)]
    decide +kernel
theorem word_ok (s : Int) : isWordS (wordOf s) = true := by
  unfold wordOf
  split
  · obtain ⟨h1, h2⟩ := emod_lt' (a := s / 97) (b := 5) (by decide)
    have e : ∀ k : Nat, k < 5 → isWordS ((["a", "b", "c", "news", "log"] : List Str).getD k "a") = true := by decide +kernel
    exact e _ (by unfold pickOf; omega)
  · obtain ⟨h1, h2⟩ := emod_lt' (a := s / 7) (b := 6) (by decide)
    unfold isWordS Str.length
    simp only [Bool.and_eq_true, decide_eq_true_eq, List.all_eq_true]
    refine ⟨⟨?_, ?_⟩, ?_⟩
    · simp; omega
    · simp; omega
    · intro c hc
      simp at hc
      obtain ⟨k, _, rfl⟩ := hc
      exact letter_small
theorem test_ok (s : Int) : isTest (testOf s) = true := by
  unfold testOf
  obtain ⟨h1, h2⟩ := emod_lt' (a := seedOf s 3 / 97) (b := 4) (by decide)
  obtain ⟨h3, h4⟩ := emod_lt' (a := seedOf s 4 / 7) (b := 10000) (by decide)
  have h5 : (pickOf (seedOf s 3) 4).toNat < 4 := by unfold pickOf; omega
  generalize (pickOf (seedOf s 3) 4).toNat = k at h5 ⊢
  generalize seedOf s 4 / 7 % 10000 = v at h3 h4 ⊢
  have h6 : v ≤ 9999 := by omega
  have e1 : ¬ (("over" : Str) = "any") := by decide
  have e2 : ¬ (("under" : Str) = "any") := by decide
  match k, h5 with
  | 0, _ => rfl
  | 1, _ => rfl
  | 2, _ => simp [isTest, isIn, h3, h6, e1]
  | 3, _ => simp [isTest, isIn, h3, h6, e2]
theorem how_ok (s : Int) : isHow (.str (howOf s)) = true := by
  unfold howOf
  split <;> decide +kernel
theorem isIn_int {i lo hi : Int} (h1 : lo ≤ i) (h2 : i ≤ hi) : isIn (.int i) lo hi = true := by simp [isIn, h1, h2]
theorem rank_ok (s : Int) : isIn (.int (rankOf s)) 0 9 = true := by
  unfold rankOf
  split
  · obtain ⟨h1, h2⟩ := emod_lt' (a := seedOf s 2 / 7) (b := 10) (by decide)
    exact isIn_int h1 (by omega)
  · decide
theorem many_ok (s : Int) : 0 ≤ manyOf s ∧ manyOf s ≤ 3 := by
  obtain ⟨h1, h2⟩ := emod_lt' (a := seedOf s 5 / 97) (b := 5) (by decide)
  have h5 : (pickOf (seedOf s 5) 5).toNat < 5 := by unfold pickOf; omega
  unfold manyOf
  generalize (pickOf (seedOf s 5) 5).toNat = k at h5 ⊢
  match k, h5 with
  | 0, _ => decide
  | 1, _ => decide
  | 2, _ => decide
  | 3, _ => decide
  | 4, _ => decide
theorem deed_ok {n : Nat} {h : Int → A} {hf : A → Bool} (hh : 1 < n → ∀ s, hf (h s) = true) (s : Int) : isDeedW hf (deedW (n : Int) h s) = true := by
  have e1 : ¬ (("tell" : Str) = "stop" ∨ ("tell" : Str) = "done") := by decide
  have e2 : ¬ (("join" : Str) = "stop" ∨ ("join" : Str) = "done") := by decide
  have e3 : ¬ (("join" : Str) = "tell") := by decide
  have e4 : ¬ (("join" : Str) = "leave") := by decide
  have e5 : ¬ (("leave" : Str) = "stop" ∨ ("leave" : Str) = "done") := by decide
  have e6 : ¬ (("leave" : Str) = "tell") := by decide
  unfold deedW
  split
  · have : isIn (.int (tellVal s)) 0 9999 = true := by
      unfold tellVal
      split
      · decide
      · split
        · decide
        · obtain ⟨h1, h2⟩ := emod_lt' (a := s / 7) (b := 10000) (by decide)
          exact isIn_int h1 (by omega)
    unfold isDeedW
    dsimp only
    rw [if_neg e1, if_pos rfl, this, isWord, word_ok]
    rfl
  · split
    · rename_i hd
      unfold isDeedW
      dsimp only
      rw [if_neg e2, if_neg e3, if_neg e4, hh (by omega)]
      rfl
    · unfold lastDeed
      split
      · unfold isDeedW
        dsimp only
        rw [if_neg e5, if_neg e6, if_pos rfl, isWord, word_ok]
      · split <;> (unfold isDeedW; rfl)
theorem hr_ok : ∀ (n : Nat), 0 < n → ∀ s, isHr n (hrG n s) = true
  | n + 1, _, s => by
    obtain ⟨m1, m2⟩ := many_ok s
    show isHrW (isDeedW (isHr n)) (hrW (deedW ((n + 1 : Nat) : Int) (hrG n)) s) = true
    unfold isHrW hrW
    simp only [isWord, word_ok, rank_ok, how_ok, test_ok, Bool.and_true, Bool.true_and, Bool.and_eq_true, decide_eq_true_eq, List.all_eq_true]
    refine ⟨by simp; omega, fun x hx => ?_⟩
    obtain ⟨k, _, rfl⟩ := List.mem_map.mp hx
    exact deed_ok (fun hn s => hr_ok n (by omega) s) _
end Sx

set_option Elab.async false
set_option linter.all false
set_option maxRecDepth 100000
set_option maxHeartbeats 1000000
namespace Sx
open PySem PySem.Spec PyProof.Rows L2
/-- one statement after the other -/
theorem seq_step {q1 q2 : GS} {ρ ρ1 : Ro} {S S1 : Sto} {z : RS} (h : q1 ρ S = .nx ρ1 S1) (h2 : q2 ρ1 S1 = z) : gSeq q1 q2 ρ S = z := by
  unfold gSeq
  rw [h]
  exact h2
/-! ### places behind a store's end -/
theorem get_off {S E : Sto} (k : Nat) : (S ++ E)[S.length + k]? = E[k]? := by
  rw [List.getElem?_append_right (by omega)]
  congr 1
  omega
theorem get_off0 {S E : Sto} : (S ++ E)[S.length]? = E[0]? := get_off 0
theorem items_off {S E : Sto} (k : Nat) : itemsAt (S ++ E) (S.length + k) = itemsAt E k := by
  unfold itemsAt
  rw [get_off]
theorem items_off0 {S E : Sto} : itemsAt (S ++ E) S.length = itemsAt E 0 := items_off 0
theorem set_off {S E : Sto} (k : Nat) (o : O) : (S ++ E).set (S.length + k) o = S ++ E.set k o := by
  rw [List.set_append_right _ _ (by omega)]
  congr 2
  omega
theorem set_off0 {S E : Sto} (o : O) : (S ++ E).set S.length o = S ++ E.set 0 o := set_off 0 o
theorem itemsAt_c0 (o : O) (E : Sto) : itemsAt (o :: E) 0 = o.items := rfl
theorem itemsAt_cs (o : O) (E : Sto) (k : Nat) : itemsAt (o :: E) (k + 1) = itemsAt E k := rfl
theorem items_lst (xs : List A) : (O.lst xs).items = some xs := rfl
theorem vIx_obE (n : Nat) (i : Int) (S : Sto) : vIx (.ob n) (.int i) S = (match itemsAt S n with
    | some xs => (match L2.atI xs i with
      | some x => RE.ok x S
      | none => .stuck)
    | none => .stuck) := rfl
theorem vIx_tupE (l : List A) (i : Int) (S : Sto) : vIx (.tup l) (.int i) S = (match L2.atI l i with
      | some x => RE.ok x S
      | none => .stuck) := rfl
theorem vIx_strE (x : Str) (i : Int) (S : Sto) : vIx (.str x) (.int i) S = (match L2.atI x.cps.toList i with
    | some c => if x.length ≤ 100000 then RE.ok (.str ⟨#[c]⟩) S else .stuck
    | none => .stuck) := rfl
section
variable {α : Type} (a0 a1 a2 a3 a4 a5 a6 a7 : α) (l : List α)
theorem at0 : L2.atI (a0 :: l) (0 : Int) = some a0 := L2.atI_nat (j := 0) rfl
theorem at1 : L2.atI (a0 :: a1 :: l) (1 : Int) = some a1 := L2.atI_nat (j := 1) rfl
theorem at2 : L2.atI (a0 :: a1 :: a2 :: l) (2 : Int) = some a2 := L2.atI_nat (j := 2) rfl
theorem at3 : L2.atI (a0 :: a1 :: a2 :: a3 :: l) (3 : Int) = some a3 := L2.atI_nat (j := 3) rfl
theorem at4 : L2.atI (a0 :: a1 :: a2 :: a3 :: a4 :: l) (4 : Int) = some a4 := L2.atI_nat (j := 4) rfl
theorem at5 : L2.atI (a0 :: a1 :: a2 :: a3 :: a4 :: a5 :: l) (5 : Int) = some a5 := L2.atI_nat (j := 5) rfl
theorem at6 : L2.atI (a0 :: a1 :: a2 :: a3 :: a4 :: a5 :: a6 :: l) (6 : Int) = some a6 := L2.atI_nat (j := 6) rfl
theorem at7 : L2.atI (a0 :: a1 :: a2 :: a3 :: a4 :: a5 :: a6 :: a7 :: l) (7 : Int) = some a7 := L2.atI_nat (j := 7) rfl
end
theorem atI_getD {α : Type} {xs : List α} {i : Int} (d : α) (h0 : 0 ≤ i) (h1 : i < xs.length) : L2.atI xs i = some (xs.getD i.toNat d) := by
  have e : i = ((i.toNat : Nat) : Int) := by omega
  have ex : i.toNat < xs.length := by omega
  have := L2.atI_nat (xs := xs) (j := i.toNat) (v := xs[i.toNat]) (by simp [ex])
  rw [← e] at this
  rw [this]
  simp [ex]
theorem pick_lt (s : Int) {m : Int} (h : 0 < m) : 0 ≤ pickOf s m ∧ pickOf s m < m := emod_lt' h
mutual
theorem nice_bel : ∀ {a : A} {n : Nat}, nice n a = true → ∀ m, Bel m a
  | .tup l, n, h, m => by
    obtain ⟨k, _, h2⟩ := nice_tup h
    exact .tup (nice_belL h2 m)
  | .non, _, _, _ => .non
  | .bl _, _, _, _ => .bl _
  | .int _, _, _, _ => .int _
  | .str _, _, _, _ => .str _
  | .ob k, n, h, _ => by cases n <;> simp [nice] at h
theorem nice_belL : ∀ {l : List A} {n : Nat}, (∀ x ∈ l, nice n x = true) → ∀ m, ∀ x, x ∈ l → Bel m x
  | [], _, _, _, _, hx => by cases hx
  | a :: l, n, h, m, x, hx => by
    rcases List.mem_cons.mp hx with e | e
    · rw [e]; exact nice_bel (h a (by simp)) m
    · exact nice_belL (l := l) (n := n) (fun y hy => h y (by simp [hy])) m x e
end
theorem nice_mono : ∀ {n : Nat} {a : A}, nice n a = true → ∀ m, n ≤ m → nice m a = true
  | 0, a, h, m, _ => by cases a <;> first | (cases m <;> exact h) | (cases h)
  | n + 1, a, h, m, hm => by
    cases a with
    | tup l =>
      obtain ⟨k, e, h2⟩ := nice_tup h
      cases e
      cases m with
      | zero => omega
      | succ m => exact nice_tupI fun x hx => nice_mono (h2 x hx) m (by omega)
    | _ => cases m <;> exact h
theorem hr_bel {n : Nat} (hn : 0 < n) (s : Int) (m : Nat) : Bel m (hrG n s) := nice_bel (nice_hr (hr_ok n hn s)) m
theorem isHr_cases {n : Nat} {a : A} (h : isHr (n + 1) a = true) : ∃ o t r w ts ds, a = .tup [o, t, r, w, ts, .tup ds] ∧ isWord o = true ∧ isWord t = true ∧ isIn r 0 9 = true ∧ isHow w = true ∧ isTest ts = true ∧ ds.length ≤ 3 ∧ ∀ x ∈ ds, isDeedW (isHr n) x = true := isHrW_cases h
/-- a made hearer, forgotten -/
theorem hr_made (n : Nat) (s : Int) : ∃ a, hrG (n + 1) s = a ∧ isHr (n + 1) a = true := ⟨_, rfl, hr_ok (n + 1) (by omega) s⟩
/-- the signs of a range, one by one, joined -/
theorem join_one (f : Nat → Nat) (l : List Nat) : Str.join "" (l.map fun k => (⟨#[f k]⟩ : Str)) = ⟨(l.map f).toArray⟩ := by
  have e : TL.tl (Str.join "" (l.map fun k => (⟨#[f k]⟩ : Str))) = l.map f := by
    rw [TL.tl_join]
    induction l with
    | nil => rfl
    | cons a l ih =>
      cases l with
      | nil => rfl
      | cons b l => exact congrArg (f a :: ·) ih
  generalize Str.join "" (l.map fun k => (⟨#[f k]⟩ : Str)) = z at e
  obtain ⟨c⟩ := z
  congr 1
  apply Array.ext'
  simpa using e
theorem word_long {s : Int} (h : ¬ 0 < s / 5 % 6) : wordOf s = Str.join "" ((List.range (1 + s / 7 % 6).toNat).map fun (k : Nat) => (⟨#[letterOf (pickOf (seedOf s (k : Int)) 26)]⟩ : Str)) := by
  rw [join_one (fun (k : Nat) => letterOf (pickOf (seedOf s (k : Int)) 26)), wordOf, if_neg h]
theorem vMul_l (i j : Int) (S : Sto) (h : -18446744073709551616 < i ∧ i < 18446744073709551616) : vMul (.int i) (.int j) S = .ok (.int (i * j)) S := by
  show (if _ then RE.ok (.int (i * j)) S else .stuck) = _
  exact if_pos (.inl h)
theorem vMul_r (i j : Int) (S : Sto) (h : -18446744073709551616 < j ∧ j < 18446744073709551616) : vMul (.int i) (.int j) S = .ok (.int (i * j)) S := by
  show (if _ then RE.ok (.int (i * j)) S else .stuck) = _
  exact if_pos (.inr h)
theorem sum_ones : ∀ n : Nat, ((List.range n).map fun _ => 1).sum = n
  | 0 => rfl
  | n + 1 => by rw [List.range_succ, List.map_append, List.sum_append, sum_ones n]; rfl
def sds (s : Int) : List A := [.int (seedOf s 0), .int (seedOf s 1), .int (seedOf s 2), .int (seedOf s 3), .int (seedOf s 4), .int (seedOf s 5), .int (seedOf s 6), .int (seedOf s 7)]
end Sx

set_option Elab.async false
set_option linter.all false
set_option maxRecDepth 100000
set_option maxHeartbeats 0
namespace Hd
open PySem PySem.Spec PyProof.Rows L2
def top (i : Nat) : Stmt := PySem.Challenge.pw_hearlines_k01_hearers.main.body.getD i (.Pass ⟨0, 0, 0, 0⟩)
def mkD (c : Str) (m : Option Str) (nm ql : Str) (st : Stmt) : He.DefD := ⟨(c, m), nm, ql, defArgs st, defBody st, defScope st, [], []⟩
abbrev s_is_within : Stmt := top 9
def d_is_within : He.DefD := mkD "is_within" none "is_within" "is_within" s_is_within
abbrev s_is_word : Stmt := top 10
def d_is_word : He.DefD := mkD "is_word" none "is_word" "is_word" s_is_word
abbrev s_is_value : Stmt := top 11
def d_is_value : He.DefD := mkD "is_value" none "is_value" "is_value" s_is_value
abbrev s_is_test : Stmt := top 12
def d_is_test : He.DefD := mkD "is_test" none "is_test" "is_test" s_is_test
abbrev s_is_deed : Stmt := top 13
def d_is_deed : He.DefD := mkD "is_deed" none "is_deed" "is_deed" s_is_deed
abbrev s_is_hearer_so : Stmt := top 14
def d_is_hearer_so : He.DefD := mkD "is_hearer_so" none "is_hearer_so" "is_hearer_so" s_is_hearer_so
abbrev s_is_hearer : Stmt := top 15
def d_is_hearer : He.DefD := mkD "is_hearer" none "is_hearer" "is_hearer" s_is_hearer
abbrev s_checked : Stmt := top 16
def d_checked : He.DefD := mkD "checked" none "checked" "checked" s_checked
abbrev s__law_cell : Stmt := top 18
def d__law_cell : He.DefD := mkD "_law_cell" none "_law_cell" "_law_cell" s__law_cell
abbrev s__law_seed : Stmt := top 19
def d__law_seed : He.DefD := mkD "_law_seed" none "_law_seed" "_law_seed" s__law_seed
abbrev s__law_pick : Stmt := top 20
def d__law_pick : He.DefD := mkD "_law_pick" none "_law_pick" "_law_pick" s__law_pick
abbrev s__law_word : Stmt := top 21
def d__law_word : He.DefD := mkD "_law_word" none "_law_word" "_law_word" s__law_word
abbrev s__law_hearer : Stmt := top 22
def d__law_hearer : He.DefD := mkD "_law_hearer" none "_law_hearer" "_law_hearer" s__law_hearer
abbrev s__law_deed : Stmt := top 23
def d__law_deed : He.DefD := mkD "_law_deed" none "_law_deed" "_law_deed" s__law_deed
abbrev s_law : Stmt := top 24
def d_law : He.DefD := mkD "law" none "law" "law" s_law
def fn : List He.DefD := [d_is_within, d_is_word, d_is_value, d_is_test, d_is_deed, d_is_hearer_so, d_is_hearer, d_checked, d__law_cell, d__law_seed, d__law_pick, d__law_word, d__law_hearer, d__law_deed, d_law]
def fa : List He.Fa := [
  .glo "is_within",
  .glo "is_word",
  .glo "is_value",
  .glo "is_test",
  .glo "is_deed",
  .glo "is_hearer_so",
  .glo "is_hearer",
  .glo "checked",
  .glo "_law_cell",
  .glo "_law_seed",
  .glo "_law_pick",
  .glo "_law_word",
  .glo "_law_hearer",
  .glo "_law_deed",
  .glo "law",
  .glo "HallError",
  .exc "HallError",
  .glo "BadHearer",
  .exc "BadHearer",
  .exm "HallError" "HallError" true,
  .exm "HallError" "BadHearer" false,
  .exm "BadHearer" "HallError" true,
  .exm "BadHearer" "BadHearer" true,
  .str "SMALL" "abcdefghijklmnopqrstuvwxyz",
  .int "MOST_VALUE" 9999,
  .int "MOST_DEEDS" 3,
  .int "DEEPEST" 3,
  .glo "HOWS",
  .free "isinstance",
  .free "len",
  .free "str",
  .free "int",
  .free "range",
  .free "list",
  .free "tuple",
  .free "bool"]
abbrev R : PySem.W.OpenRow := PySem.W.OpenLaw.row PySem.Challenge.rw_hearlines_k01_hearers
def tf : List He.Defn := []
def ex (K : PySem.W.Frag) : Bool := He.tupB K "HOWS" [.str "always", .str "once"]
abbrev hk : PySem.W.Hook := He.hookX 5 fa fn [] tf ex
def ob (s : PySem.W.SharedT) : He.AlX := He.obsX 5 fa fn [] tf ex (HandSHeadRun.getT s)
theorem ob_eq (s : PySem.W.SharedT) : ob s = hk.obs s.abs := He.obsX_eq (HandSHeadRun.getT_eq s)
def lo0 : List Str := ["HallError", "BadHearer", "SMALL", "MOST_VALUE", "MOST_DEEDS", "DEEPEST", "HOWS", "is_within", "is_word", "is_value", "is_test", "is_deed", "is_hearer_so", "is_hearer", "checked", "_law_cell", "_law_seed", "_law_pick", "_law_word", "_law_hearer", "_law_deed"]
def lo : List Str := lo0
theorem run (w : World) : HandSHeadRun.RunEq R (PySem.W.view R.prog [24]) hk ob 12000 lo w := by
  intro os
  kernel_rfl
/-- what the top has left, by names -/
structure Tx (K : PySem.W.Frag) (mg : Str → Option Value) where
  n_isinstance : mg "isinstance" = none
  n_len : mg "len" = none
  n_str : mg "str" = none
  n_int : mg "int" = none
  n_range : mg "range" = none
  n_list : mg "list" = none
  n_tuple : mg "tuple" = none
  n_bool : mg "bool" = none
  m_SMALL : ∃ t, mg "SMALL" = some (.str "abcdefghijklmnopqrstuvwxyz" t)
  m_MOST_VALUE : ∃ t, mg "MOST_VALUE" = some (.int 9999 t)
  m_MOST_DEEDS : ∃ t, mg "MOST_DEEDS" = some (.int 3 t)
  m_DEEPEST : ∃ t, mg "DEEPEST" = some (.int 3 t)
  m_HOWS : mg "HOWS" = some (.ref (He.ga K "HOWS"))
  r_HOWS : ∀ H, SqT K H (He.ga K "HOWS") [.str "always", .str "once"]
  m_HallError : mg "HallError" = some (.ref (He.ga K "HallError"))
  x_HallError : PySem.W.excIn K (He.ga K "HallError") He.veBase "ValueError.__new__" = true ∧ PySem.W.keepIn K (.ref (He.ga K "HallError")) = true ∧ PySem.W.subIn K (.ref (He.ga K "HallError")) (.type "BaseException") = some true ∧ PySem.W.typeIn K (.ref (He.ga K "HallError")) = some (.type "type")
  m_BadHearer : mg "BadHearer" = some (.ref (He.ga K "BadHearer"))
  x_BadHearer : PySem.W.excIn K (He.ga K "BadHearer") He.veBase "ValueError.__new__" = true ∧ PySem.W.keepIn K (.ref (He.ga K "BadHearer")) = true ∧ PySem.W.subIn K (.ref (He.ga K "BadHearer")) (.type "BaseException") = some true ∧ PySem.W.typeIn K (.ref (He.ga K "BadHearer")) = some (.type "type")
  e_HallError_HallError : PySem.W.exmOne K (.ref (He.ga K "HallError")) (.ref (He.ga K "HallError")) = some true
  e_HallError_BadHearer : PySem.W.exmOne K (.ref (He.ga K "HallError")) (.ref (He.ga K "BadHearer")) = some false
  e_BadHearer_HallError : PySem.W.exmOne K (.ref (He.ga K "BadHearer")) (.ref (He.ga K "HallError")) = some true
  e_BadHearer_BadHearer : PySem.W.exmOne K (.ref (He.ga K "BadHearer")) (.ref (He.ga K "BadHearer")) = some true
  f_is_within : FuncData
  D_is_within : FunD K "is_within" "is_within" (defArgs s_is_within) (defBody s_is_within) (defScope s_is_within) [] [] (He.ga K "is_within") f_is_within
  m_is_within : mg "is_within" = some (.ref (He.ga K "is_within"))
  f_is_word : FuncData
  D_is_word : FunD K "is_word" "is_word" (defArgs s_is_word) (defBody s_is_word) (defScope s_is_word) [] [] (He.ga K "is_word") f_is_word
  m_is_word : mg "is_word" = some (.ref (He.ga K "is_word"))
  f_is_value : FuncData
  D_is_value : FunD K "is_value" "is_value" (defArgs s_is_value) (defBody s_is_value) (defScope s_is_value) [] [] (He.ga K "is_value") f_is_value
  m_is_value : mg "is_value" = some (.ref (He.ga K "is_value"))
  f_is_test : FuncData
  D_is_test : FunD K "is_test" "is_test" (defArgs s_is_test) (defBody s_is_test) (defScope s_is_test) [] [] (He.ga K "is_test") f_is_test
  m_is_test : mg "is_test" = some (.ref (He.ga K "is_test"))
  f_is_deed : FuncData
  D_is_deed : FunD K "is_deed" "is_deed" (defArgs s_is_deed) (defBody s_is_deed) (defScope s_is_deed) [] [] (He.ga K "is_deed") f_is_deed
  m_is_deed : mg "is_deed" = some (.ref (He.ga K "is_deed"))
  f_is_hearer_so : FuncData
  D_is_hearer_so : FunD K "is_hearer_so" "is_hearer_so" (defArgs s_is_hearer_so) (defBody s_is_hearer_so) (defScope s_is_hearer_so) [] [] (He.ga K "is_hearer_so") f_is_hearer_so
  m_is_hearer_so : mg "is_hearer_so" = some (.ref (He.ga K "is_hearer_so"))
  f_is_hearer : FuncData
  D_is_hearer : FunD K "is_hearer" "is_hearer" (defArgs s_is_hearer) (defBody s_is_hearer) (defScope s_is_hearer) [] [] (He.ga K "is_hearer") f_is_hearer
  m_is_hearer : mg "is_hearer" = some (.ref (He.ga K "is_hearer"))
  f_checked : FuncData
  D_checked : FunD K "checked" "checked" (defArgs s_checked) (defBody s_checked) (defScope s_checked) [] [] (He.ga K "checked") f_checked
  m_checked : mg "checked" = some (.ref (He.ga K "checked"))
  f__law_cell : FuncData
  D__law_cell : FunD K "_law_cell" "_law_cell" (defArgs s__law_cell) (defBody s__law_cell) (defScope s__law_cell) [] [] (He.ga K "_law_cell") f__law_cell
  m__law_cell : mg "_law_cell" = some (.ref (He.ga K "_law_cell"))
  f__law_seed : FuncData
  D__law_seed : FunD K "_law_seed" "_law_seed" (defArgs s__law_seed) (defBody s__law_seed) (defScope s__law_seed) [] [] (He.ga K "_law_seed") f__law_seed
  m__law_seed : mg "_law_seed" = some (.ref (He.ga K "_law_seed"))
  f__law_pick : FuncData
  D__law_pick : FunD K "_law_pick" "_law_pick" (defArgs s__law_pick) (defBody s__law_pick) (defScope s__law_pick) [] [] (He.ga K "_law_pick") f__law_pick
  m__law_pick : mg "_law_pick" = some (.ref (He.ga K "_law_pick"))
  f__law_word : FuncData
  D__law_word : FunD K "_law_word" "_law_word" (defArgs s__law_word) (defBody s__law_word) (defScope s__law_word) [] [] (He.ga K "_law_word") f__law_word
  m__law_word : mg "_law_word" = some (.ref (He.ga K "_law_word"))
  f__law_hearer : FuncData
  D__law_hearer : FunD K "_law_hearer" "_law_hearer" (defArgs s__law_hearer) (defBody s__law_hearer) (defScope s__law_hearer) [] [] (He.ga K "_law_hearer") f__law_hearer
  m__law_hearer : mg "_law_hearer" = some (.ref (He.ga K "_law_hearer"))
  f__law_deed : FuncData
  D__law_deed : FunD K "_law_deed" "_law_deed" (defArgs s__law_deed) (defBody s__law_deed) (defScope s__law_deed) [] [] (He.ga K "_law_deed") f__law_deed
  m__law_deed : mg "_law_deed" = some (.ref (He.ga K "_law_deed"))
  f_law : FuncData
  D_law : FunD K "law" "law" (defArgs s_law) (defBody s_law) (defScope s_law) [] [] (He.ga K "law") f_law
  m_law : mg "law" = some (.ref (He.ga K "law"))
theorem tx_mk {w : World} {h : Heap} {K : PySem.W.Frag} {mg : Str → Option Value} (X : K.In h) (G : h.Ns mainGlobals mg) (c : He.SaysX fa fn [] tf ex w h K) : Nonempty (Tx K mg) := by
  obtain ⟨fd0, D0⟩ := c.t.d.def_ 0 (d := d_is_within) rfl
  obtain ⟨fd1, D1⟩ := c.t.d.def_ 1 (d := d_is_word) rfl
  obtain ⟨fd2, D2⟩ := c.t.d.def_ 2 (d := d_is_value) rfl
  obtain ⟨fd3, D3⟩ := c.t.d.def_ 3 (d := d_is_test) rfl
  obtain ⟨fd4, D4⟩ := c.t.d.def_ 4 (d := d_is_deed) rfl
  obtain ⟨fd5, D5⟩ := c.t.d.def_ 5 (d := d_is_hearer_so) rfl
  obtain ⟨fd6, D6⟩ := c.t.d.def_ 6 (d := d_is_hearer) rfl
  obtain ⟨fd7, D7⟩ := c.t.d.def_ 7 (d := d_checked) rfl
  obtain ⟨fd8, D8⟩ := c.t.d.def_ 8 (d := d__law_cell) rfl
  obtain ⟨fd9, D9⟩ := c.t.d.def_ 9 (d := d__law_seed) rfl
  obtain ⟨fd10, D10⟩ := c.t.d.def_ 10 (d := d__law_pick) rfl
  obtain ⟨fd11, D11⟩ := c.t.d.def_ 11 (d := d__law_word) rfl
  obtain ⟨fd12, D12⟩ := c.t.d.def_ 12 (d := d__law_hearer) rfl
  obtain ⟨fd13, D13⟩ := c.t.d.def_ 13 (d := d__law_deed) rfl
  obtain ⟨fd14, D14⟩ := c.t.d.def_ 14 (d := d_law) rfl
  exact ⟨⟨
    He.free_ok X G (c.t.d.fact 28 (f := .free "isinstance") rfl),
    He.free_ok X G (c.t.d.fact 29 (f := .free "len") rfl),
    He.free_ok X G (c.t.d.fact 30 (f := .free "str") rfl),
    He.free_ok X G (c.t.d.fact 31 (f := .free "int") rfl),
    He.free_ok X G (c.t.d.fact 32 (f := .free "range") rfl),
    He.free_ok X G (c.t.d.fact 33 (f := .free "list") rfl),
    He.free_ok X G (c.t.d.fact 34 (f := .free "tuple") rfl),
    He.free_ok X G (c.t.d.fact 35 (f := .free "bool") rfl),
    He.str_ok X G (c.t.d.fact 23 (f := .str "SMALL" "abcdefghijklmnopqrstuvwxyz") rfl),
    He.int_ok X G (c.t.d.fact 24 (f := .int "MOST_VALUE" 9999) rfl),
    He.int_ok X G (c.t.d.fact 25 (f := .int "MOST_DEEDS" 3) rfl),
    He.int_ok X G (c.t.d.fact 26 (f := .int "DEEPEST" 3) rfl),
    He.glo_ok X G (c.t.d.fact 27 (f := .glo "HOWS") rfl),
    fun H => He.tupB_ok (vs := [.str "always", .str "once"]) (by simpa [ex] using c.more) H,
    He.glo_ok X G (c.t.d.fact 15 (f := .glo "HallError") rfl),
    He.exc_ok (c.t.d.fact 16 (f := .exc "HallError") rfl),
    He.glo_ok X G (c.t.d.fact 17 (f := .glo "BadHearer") rfl),
    He.exc_ok (c.t.d.fact 18 (f := .exc "BadHearer") rfl),
    He.exm_ok (c.t.d.fact 19 (f := .exm "HallError" "HallError" true) rfl),
    He.exm_ok (c.t.d.fact 20 (f := .exm "HallError" "BadHearer" false) rfl),
    He.exm_ok (c.t.d.fact 21 (f := .exm "BadHearer" "HallError" true) rfl),
    He.exm_ok (c.t.d.fact 22 (f := .exm "BadHearer" "BadHearer" true) rfl),
    fd0,
    D0,
    He.glo_ok X G (c.t.d.fact 0 (f := .glo "is_within") rfl),
    fd1,
    D1,
    He.glo_ok X G (c.t.d.fact 1 (f := .glo "is_word") rfl),
    fd2,
    D2,
    He.glo_ok X G (c.t.d.fact 2 (f := .glo "is_value") rfl),
    fd3,
    D3,
    He.glo_ok X G (c.t.d.fact 3 (f := .glo "is_test") rfl),
    fd4,
    D4,
    He.glo_ok X G (c.t.d.fact 4 (f := .glo "is_deed") rfl),
    fd5,
    D5,
    He.glo_ok X G (c.t.d.fact 5 (f := .glo "is_hearer_so") rfl),
    fd6,
    D6,
    He.glo_ok X G (c.t.d.fact 6 (f := .glo "is_hearer") rfl),
    fd7,
    D7,
    He.glo_ok X G (c.t.d.fact 7 (f := .glo "checked") rfl),
    fd8,
    D8,
    He.glo_ok X G (c.t.d.fact 8 (f := .glo "_law_cell") rfl),
    fd9,
    D9,
    He.glo_ok X G (c.t.d.fact 9 (f := .glo "_law_seed") rfl),
    fd10,
    D10,
    He.glo_ok X G (c.t.d.fact 10 (f := .glo "_law_pick") rfl),
    fd11,
    D11,
    He.glo_ok X G (c.t.d.fact 11 (f := .glo "_law_word") rfl),
    fd12,
    D12,
    He.glo_ok X G (c.t.d.fact 12 (f := .glo "_law_hearer") rfl),
    fd13,
    D13,
    He.glo_ok X G (c.t.d.fact 13 (f := .glo "_law_deed") rfl),
    fd14,
    D14,
    He.glo_ok X G (c.t.d.fact 14 (f := .glo "law") rfl)⟩⟩
end Hd


set_option Elab.async false
set_option linter.all false
set_option maxRecDepth 100000
set_option maxHeartbeats 4000000
namespace Sx.My
open PySem PySem.Spec PyProof.Rows L2
def tbs (K : Frg) : Tbs := []
/-! the program's words, values, tests, hearers -/
theorem fnr_stuck {P : Program} {w : World} {K : Frg} {mg : Str → Option Value} {base : Heap} {d : Nat} {f : Addr} {fd : FuncData} {ps : List Str} : FnR P w K mg base d f fd ps (spF K (tbs K) fun _ _ => .stuck) :=
  ⟨fun _ _ _ _ ⟨_, _, _, _, _, z⟩ => False.elim z, fun _ _ _ _ _ _ _ _ _ _ _ _ _ ⟨_, _, _, _, _, z⟩ => False.elim z⟩
def F_is_within (K : Frg) : List A → Sto → RE := fun l S => match l with
  | [x, .int lo, .int hi] => if kn S x = true then .ok (.bl (isIn x lo hi)) S else .stuck
  | _ => .stuck
def F_is_value (K : Frg) : List A → Sto → RE := fun l S => match l with
  | [x] => if kn S x = true then .ok (.bl (isIn x 0 9999)) S else .stuck
  | _ => .stuck
def F_is_word (K : Frg) : List A → Sto → RE := fun l S => match l with
  | [x] => if good S x = true then .ok (.bl (isWord x)) S else .stuck
  | _ => .stuck
def F_is_test (K : Frg) : List A → Sto → RE := fun l S => match l with
  | [x] => if good S x = true then .ok (.bl (isTest x)) S else .stuck
  | _ => .stuck
def F_is_fit (K : Frg) : List A → Sto → RE := fun l S => match l with
  | [x, .int v] => if isTest x = true then .ok (.bl (fitT x v)) S else .stuck
  | _ => .stuck
section
variable {P : Program} {w : World} {K : Frg} {mg : Str → Option Value} {base : Heap}
-- with is_within
abbrev N_is_within : List Str := ["thing", "low", "high"]
abbrev P_is_within : List Str := ["thing", "low", "high"]
theorem sc_is_within : FnScope N_is_within P_is_within (defScope Hd.s_is_within) := ⟨rfl, rfl, rfl, by decide +kernel, rfl, by decide +kernel, by decide +kernel⟩
theorem b_is_within {K : Frg} {mg : Str → Option Value} (t : Hd.Tx K mg) : Binds K t.f_is_within P_is_within [] := FunD.bindsN t.D_is_within fun _ _ _ _ _ _ us hl => match us, hl with | [_, _, _], _ => rfl
def q_is_within (K : Frg) : GS :=
  gRet (gAnd (gIsi "int" (gVar 0)) (gAnd (gNot (gIsi "bool" (gVar 0))) (gChain vLe vLe (gVar 1) (gVar 0) (gVar 2))))
theorem sb_is_within {P : Program} {w : World} {K : Frg} {mg : Str → Option Value} {base : Heap} (t : Hd.Tx K mg)  {cdv : Value} {A : Around} {outer : List Env} {s : Shared} {H : Hp} {E : XK} (hr : Rm 0 (A.deeper (envOfC "is_within" (defScope Hd.s_is_within) s.heap.objs.size (He.ga K "is_within") cdv))) :
    SB (cxOf (L2.CX P w) P w K mg base N_is_within "is_within" (defScope Hd.s_is_within) (He.ga K "is_within") cdv A outer s H E) (tbs K) (fun c d _ H2 => E c d H2) (defBody Hd.s_is_within) (q_is_within K ) := by
  have nd : N_is_within.Nodup := sc_is_within.nd
  have hp := passes_of (X := cxOf (L2.CX P w) P w K mg base N_is_within "is_within" (defScope Hd.s_is_within) (He.ga K "is_within") cdv A outer s H E) (K := fun e s2 => L2.CX P w outer H s E e s2) (E₁ := fun e s2 => L2.CX P w outer H s E e s2) rfl
  have tk : Takes (cxOf (L2.CX P w) P w K mg base N_is_within "is_within" (defScope Hd.s_is_within) (He.ga K "is_within") cdv A outer s H E) (fun c d _ H2 => E c d H2) := takes_of rfl rfl rfl rfl
  exact (sb_one (ss_ret (se_and (se_isi (by decide) (by decide +kernel) t.n_isinstance t.n_int (se_var' (pv 0))) (se_and (se_not (se_isi (by decide) (by decide +kernel) t.n_isinstance t.n_bool (se_var' (pv 0)))) (se_one (se_chain os_le os_le (se_var' (pv 1)) (se_var' (pv 0)) (se_var' (pv 2))))))))

theorem ok_is_within (t : Hd.Tx K mg) : FnR P w K mg base 1 (He.ga K "is_within") t.f_is_within P_is_within (spF K (tbs K) (F_is_within K)) := by
  refine fnF t.D_is_within sc_is_within (fun l S h => by unfold F_is_within at h; split at h <;> first | rfl | exact absurd rfl h) (q_is_within K) (fun cdv A outer s H E hr => sb_is_within t hr) fun l S b bl h => ?_
  unfold F_is_within at h ⊢
  split at h
  rotate_left
  · exact absurd rfl h
  rename_i x lo hi
  by_cases hk : kn S x = true
  rotate_left
  · exact absurd (if_neg hk) h
  rw [if_pos hk]
  obtain ⟨ty, hty⟩ := kn_some hk
  have e : q_is_within K (startR N_is_within.length [x, .int lo, .int hi]) S = .ret (.bl (isIn x lo hi)) S := by
    cases x
    case ob n =>
      obtain ⟨h1, h2, h3, h4⟩ := isi_ob hty
      simp [q_is_within, gVar, gC, gOp, gUn, gAnd, gOr, gNot, gIf, gNil, gCons, gTup, gLst, gCB, gChain, gSet, gExpr, gRet, gRetN, gPass, gBrk, gCt, gRaise, gIfS, gSeq, nName, nTup, setAll, gAsg, gCall, gTru, gNotT, gIsi, RE.bind_ok, RE.bind_exc, RE.bind_stuck, RE.bindA_ok, RE.bindS_ok, RE.bindS_exc, RE.bindT_ok, RE.bindTS_ok, RA.bind_ok, RA.bindA_ok, RE.nox_ok, RS.seq_nx, RS.seq_ret, RS.seq_exc, RS.seq_brk, RS.seq_ct, RS.seq_stuck, RE.bindA_exc, RE.bindA_stuck, RE.bindS_stuck, RE.bindT_exc, RE.bindT_stuck, RE.bindTS_exc, RE.bindTS_stuck, RA.bind_exc, RA.bind_stuck, RA.bindA_exc, RA.bindA_stuck, RE.nox_stuck, bind_ite, bindA_ite, bindS_ite, bindT_ite, bindTS_ite, nox_ite, seq_ite, startR, tyA_non, tyA_bl, tyA_int, tyA_str, tyA_tup, List.map_cons, List.map_nil, List.length_cons, List.length_nil, List.cons_append, List.nil_append, List.append_nil, List.getElem?_cons_zero, List.getElem?_cons_succ, List.set_cons_zero, List.set_cons_succ, vIx_t0, vIx_t1, vIx_t2, vIx_t3, vIx_t4, vIx_t5, vEq_ss, vEq_ii, vEq_bb, vNe_ss, vNe_ii, vNe_bb, vLen_tup, truA_tup, truA_bl, vLe_ii, vLt_ii, vGt_ii, vGe_ii, vSub_ii, vAdd_ii, vAddI_ii, vNeg_i, isT_ss, isT_tt, isT_ii, isT_bi, isT_bb, isT_ib, hty, h1, h2, isIn]
    all_goals simp [q_is_within, gVar, gC, gOp, gUn, gAnd, gOr, gNot, gIf, gNil, gCons, gTup, gLst, gCB, gChain, gSet, gExpr, gRet, gRetN, gPass, gBrk, gCt, gRaise, gIfS, gSeq, nName, nTup, setAll, gAsg, gCall, gTru, gNotT, gIsi, RE.bind_ok, RE.bind_exc, RE.bind_stuck, RE.bindA_ok, RE.bindS_ok, RE.bindS_exc, RE.bindT_ok, RE.bindTS_ok, RA.bind_ok, RA.bindA_ok, RE.nox_ok, RS.seq_nx, RS.seq_ret, RS.seq_exc, RS.seq_brk, RS.seq_ct, RS.seq_stuck, RE.bindA_exc, RE.bindA_stuck, RE.bindS_stuck, RE.bindT_exc, RE.bindT_stuck, RE.bindTS_exc, RE.bindTS_stuck, RA.bind_exc, RA.bind_stuck, RA.bindA_exc, RA.bindA_stuck, RE.nox_stuck, bind_ite, bindA_ite, bindS_ite, bindT_ite, bindTS_ite, nox_ite, seq_ite, startR, tyA_non, tyA_bl, tyA_int, tyA_str, tyA_tup, List.map_cons, List.map_nil, List.length_cons, List.length_nil, List.cons_append, List.nil_append, List.append_nil, List.getElem?_cons_zero, List.getElem?_cons_succ, List.set_cons_zero, List.set_cons_succ, vIx_t0, vIx_t1, vIx_t2, vIx_t3, vIx_t4, vIx_t5, vEq_ss, vEq_ii, vEq_bb, vNe_ss, vNe_ii, vNe_bb, vLen_tup, truA_tup, truA_bl, vLe_ii, vLt_ii, vGt_ii, vGe_ii, vSub_ii, vAdd_ii, vAddI_ii, vNeg_i, isT_ss, isT_tt, isT_ii, isT_bi, isT_bb, isT_ib, isT, vLe, I2, isIn]
    split <;> simp_all <;> omega
  rw [e]
  exact fitP b (.bl _)
-- with is_value
abbrev N_is_value : List Str := ["thing"]
abbrev P_is_value : List Str := ["thing"]
theorem sc_is_value : FnScope N_is_value P_is_value (defScope Hd.s_is_value) := ⟨rfl, rfl, rfl, by decide +kernel, rfl, by decide +kernel, by decide +kernel⟩
theorem b_is_value {K : Frg} {mg : Str → Option Value} (t : Hd.Tx K mg) : Binds K t.f_is_value P_is_value [] := FunD.bindsN t.D_is_value fun _ _ _ _ _ _ us hl => match us, hl with | [_], _ => rfl
def q_is_value (K : Frg) : GS :=
  gRet (gCall (F_is_within K) (gCons (gVar 0) (gCons (gC (.int 0)) (gCons (gC (.int 9999)) (gNil)))))
theorem sb_is_value {P : Program} {w : World} {K : Frg} {mg : Str → Option Value} {base : Heap} (t : Hd.Tx K mg)  {cdv : Value} {A : Around} {outer : List Env} {s : Shared} {H : Hp} {E : XK} (hr : Rm 1 (A.deeper (envOfC "is_value" (defScope Hd.s_is_value) s.heap.objs.size (He.ga K "is_value") cdv))) :
    SB (cxOf (L2.CX P w) P w K mg base N_is_value "is_value" (defScope Hd.s_is_value) (He.ga K "is_value") cdv A outer s H E) (tbs K) (fun c d _ H2 => E c d H2) (defBody Hd.s_is_value) (q_is_value K ) := by
  have nd : N_is_value.Nodup := sc_is_value.nd
  have hp := passes_of (X := cxOf (L2.CX P w) P w K mg base N_is_value "is_value" (defScope Hd.s_is_value) (He.ga K "is_value") cdv A outer s H E) (K := fun e s2 => L2.CX P w outer H s E e s2) (E₁ := fun e s2 => L2.CX P w outer H s E e s2) rfl
  have tk : Takes (cxOf (L2.CX P w) P w K mg base N_is_value "is_value" (defScope Hd.s_is_value) (He.ga K "is_value") cdv A outer s H E) (fun c d _ H2 => E c d H2) := takes_of rfl rfl rfl rfl
  exact (sb_one (ss_ret (se_call (ok_is_within t) (hr.mono (by omega)) t.m_is_within t.D_is_within.kp (b_is_within t) tk (sa_cons (se_var' (pv 0)) (sa_cons se_int (sa_cons (se_c' (pe_glob (v := .int 9999) rfl t.m_MOST_VALUE.choose_spec ⟨_, rfl⟩) (fun _ _ => .int _)) sa_nil))))))

theorem ok_is_value (t : Hd.Tx K mg) : FnR P w K mg base 2 (He.ga K "is_value") t.f_is_value P_is_value (spF K (tbs K) (F_is_value K)) := by
  refine fnF t.D_is_value sc_is_value (fun l S h => by unfold F_is_value at h; split at h <;> first | rfl | exact absurd rfl h) (q_is_value K) (fun cdv A outer s H E hr => sb_is_value t hr) fun l S b bl h => ?_
  unfold F_is_value at h ⊢
  split at h
  rotate_left
  · exact absurd rfl h
  rename_i x
  by_cases hk : kn S x = true
  rotate_left
  · exact absurd (if_neg hk) h
  rw [if_pos hk]
  have e : q_is_value K (startR N_is_value.length [x]) S = .ret (.bl (isIn x 0 9999)) S := by
    simp [q_is_value, gVar, gC, gOp, gUn, gAnd, gOr, gNot, gIf, gNil, gCons, gTup, gLst, gCB, gChain, gSet, gExpr, gRet, gRetN, gPass, gBrk, gCt, gRaise, gIfS, gSeq, nName, nTup, setAll, gAsg, gCall, gTru, gNotT, gIsi, RE.bind_ok, RE.bind_exc, RE.bind_stuck, RE.bindA_ok, RE.bindS_ok, RE.bindS_exc, RE.bindT_ok, RE.bindTS_ok, RA.bind_ok, RA.bindA_ok, RE.nox_ok, RS.seq_nx, RS.seq_ret, RS.seq_exc, RS.seq_brk, RS.seq_ct, RS.seq_stuck, RE.bindA_exc, RE.bindA_stuck, RE.bindS_stuck, RE.bindT_exc, RE.bindT_stuck, RE.bindTS_exc, RE.bindTS_stuck, RA.bind_exc, RA.bind_stuck, RA.bindA_exc, RA.bindA_stuck, RE.nox_stuck, bind_ite, bindA_ite, bindS_ite, bindT_ite, bindTS_ite, nox_ite, seq_ite, startR, tyA_non, tyA_bl, tyA_int, tyA_str, tyA_tup, List.map_cons, List.map_nil, List.length_cons, List.length_nil, List.cons_append, List.nil_append, List.append_nil, List.getElem?_cons_zero, List.getElem?_cons_succ, List.set_cons_zero, List.set_cons_succ, vIx_t0, vIx_t1, vIx_t2, vIx_t3, vIx_t4, vIx_t5, vEq_ss, vEq_ii, vEq_bb, vNe_ss, vNe_ii, vNe_bb, vLen_tup, truA_tup, truA_bl, vLe_ii, vLt_ii, vGt_ii, vGe_ii, vSub_ii, vAdd_ii, vAddI_ii, vNeg_i, isT_ss, isT_tt, isT_ii, isT_bi, isT_bb, isT_ib, F_is_within, hk]
  rw [e]
  exact fitP b (.bl _)
-- with is_word
abbrev N_is_word : List Str := ["thing", "sign"]
abbrev P_is_word : List Str := ["thing"]
theorem sc_is_word : FnScope N_is_word P_is_word (defScope Hd.s_is_word) := ⟨rfl, rfl, rfl, by decide +kernel, rfl, by decide +kernel, by decide +kernel⟩
theorem b_is_word {K : Frg} {mg : Str → Option Value} (t : Hd.Tx K mg) : Binds K t.f_is_word P_is_word [] := FunD.bindsN t.D_is_word fun _ _ _ _ _ _ us hl => match us, hl with | [_], _ => rfl
def q_is_word (K : Frg) : GS :=
  gSeq (gIfS (gOr (gNot (gIsi "str" (gVar 0))) (gNot (gChain vLe vLe (gC (.int 1)) (gCB vLen (gCons (gVar 0) (gNil))) (gC (.int 6))))) (gRet (gC (.bl false))) (gPass))
  (gRet (gNotT (gLc (gIS (gVar 0)) (nName 1) (gOp vNotIn (gVar 1) (gC (.str "abcdefghijklmnopqrstuvwxyz"))) (gVar 1) [1])))
theorem sb_is_word {P : Program} {w : World} {K : Frg} {mg : Str → Option Value} {base : Heap} (t : Hd.Tx K mg)  {cdv : Value} {A : Around} {outer : List Env} {s : Shared} {H : Hp} {E : XK} (hr : Rm 0 (A.deeper (envOfC "is_word" (defScope Hd.s_is_word) s.heap.objs.size (He.ga K "is_word") cdv))) :
    SB (cxOf (L2.CX P w) P w K mg base N_is_word "is_word" (defScope Hd.s_is_word) (He.ga K "is_word") cdv A outer s H E) (tbs K) (fun c d _ H2 => E c d H2) (defBody Hd.s_is_word) (q_is_word K ) := by
  have nd : N_is_word.Nodup := sc_is_word.nd
  have hp := passes_of (X := cxOf (L2.CX P w) P w K mg base N_is_word "is_word" (defScope Hd.s_is_word) (He.ga K "is_word") cdv A outer s H E) (K := fun e s2 => L2.CX P w outer H s E e s2) (E₁ := fun e s2 => L2.CX P w outer H s E e s2) rfl
  have tk : Takes (cxOf (L2.CX P w) P w K mg base N_is_word "is_word" (defScope Hd.s_is_word) (He.ga K "is_word") cdv A outer s H E) (fun c d _ H2 => E c d H2) := takes_of rfl rfl rfl rfl
  exact (sb_cons (ss_if (st_w (sw_or (st_not (st_val (se_isi (by decide) (by decide +kernel) t.n_isinstance t.n_str (se_var' (pv 0))))) (sw_or1 (st_not (st_chain os_le os_le se_int (se_callB cs_len (by rfl) t.n_len (by decide +kernel) (sa_cons (se_var' (pv 0)) sa_nil)) se_int))))) (sb_one (ss_ret se_bl)) sb_nil)
  (sb_one (ss_ret (se_notT (se_lc (own := [("sign", 1)]) rfl nd (si_str (se_var' (pv 0))) (blkOk_by (own := [("sign", 1)]) (N := N_is_word) (sc := defScope Hd.s_is_word) (by decide +kernel)) (tg_name (by decide)) (fun _ _ _ _ _ => (pg_name (i := 1) nd rfl (Or.inl rfl))) (fun _ _ _ _ _ => (sts_one (st_cmp os_notIn (se_var' (pv 1)) (se_c' (pe_glob (v := .str "abcdefghijklmnopqrstuvwxyz") rfl t.m_SMALL.choose_spec ⟨_, rfl⟩) (fun _ _ => .str _)) (by rfl)))) (fun _ _ _ _ _ => (se_var' (pv 1))))))))

theorem e_is_word {x : A} {S : Sto} (hk : good S x = true) : ∃ E, q_is_word K (startR N_is_word.length [x]) S = .ret (.bl (isWord x)) (S ++ E) := by
  cases x
  case ob n =>
    obtain ⟨ty, hty⟩ := kn_some (good_kn hk)
    obtain ⟨h1, h2, h3, h4⟩ := isi_ob hty
    exact ⟨[], by simp [q_is_word, gVar, gC, gOp, gUn, gAnd, gOr, gNot, gIf, gNil, gCons, gTup, gLst, gCB, gChain, gSet, gExpr, gRet, gRetN, gPass, gBrk, gCt, gRaise, gIfS, gSeq, nName, nTup, setAll, gAsg, gCall, gTru, gNotT, gIsi, RE.bind_ok, RE.bind_exc, RE.bind_stuck, RE.bindA_ok, RE.bindS_ok, RE.bindS_exc, RE.bindT_ok, RE.bindTS_ok, RA.bind_ok, RA.bindA_ok, RE.nox_ok, RS.seq_nx, RS.seq_ret, RS.seq_exc, RS.seq_brk, RS.seq_ct, RS.seq_stuck, RE.bindA_exc, RE.bindA_stuck, RE.bindS_stuck, RE.bindT_exc, RE.bindT_stuck, RE.bindTS_exc, RE.bindTS_stuck, RA.bind_exc, RA.bind_stuck, RA.bindA_exc, RA.bindA_stuck, RE.nox_stuck, bind_ite, bindA_ite, bindS_ite, bindT_ite, bindTS_ite, nox_ite, seq_ite, startR, tyA_non, tyA_bl, tyA_int, tyA_str, tyA_tup, List.map_cons, List.map_nil, List.length_cons, List.length_nil, List.cons_append, List.nil_append, List.append_nil, List.getElem?_cons_zero, List.getElem?_cons_succ, List.set_cons_zero, List.set_cons_succ, vIx_t0, vIx_t1, vIx_t2, vIx_t3, vIx_t4, vIx_t5, vEq_ss, vEq_ii, vEq_bb, vNe_ss, vNe_ii, vNe_bb, vLen_tup, truA_tup, truA_bl, vLe_ii, vLt_ii, vGt_ii, vGe_ii, vSub_ii, vAdd_ii, vAddI_ii, vNeg_i, isT_ss, isT_tt, isT_ii, isT_bi, isT_bb, isT_ib, hty, h3, isWord]⟩
  case str x =>
    have hl : x.length ≤ 100000 := by simpa [good] using hk
    by_cases h1 : 1 ≤ x.length
    · by_cases h2 : x.length ≤ 6
      · refine ⟨[.lst ((signs x).filter (badSign smallS))], ?_⟩
        have lc := lc_eq (chk := fun _ => true) (gg := nName 1) (gt := gOp vNotIn (gVar 1) (gC (.str smallS))) (ge := gVar 1) (ρ0 := [some (.str x), none]) (S0 := S) (badSign smallS) id (fun _ => rfl) (signs x) [] (fun a ha => by
            obtain ⟨c, hc, rfl⟩ := List.mem_map.mp ha
            exact ⟨[some (.str x), some (.str ⟨#[c]⟩)], fun _ => rfl, fun l => ⟨by simp [gVar, gC, gOp, gUn, gAnd, gOr, gNot, gIf, gNil, gCons, gTup, gLst, gCB, gChain, gSet, gExpr, gRet, gRetN, gPass, gBrk, gCt, gRaise, gIfS, gSeq, nName, nTup, setAll, gAsg, gCall, gTru, gNotT, gIsi, RE.bind_ok, RE.bind_exc, RE.bind_stuck, RE.bindA_ok, RE.bindS_ok, RE.bindS_exc, RE.bindT_ok, RE.bindTS_ok, RA.bind_ok, RA.bindA_ok, RE.nox_ok, RS.seq_nx, RS.seq_ret, RS.seq_exc, RS.seq_brk, RS.seq_ct, RS.seq_stuck, RE.bindA_exc, RE.bindA_stuck, RE.bindS_stuck, RE.bindT_exc, RE.bindT_stuck, RE.bindTS_exc, RE.bindTS_stuck, RA.bind_exc, RA.bind_stuck, RA.bindA_exc, RA.bindA_stuck, RE.nox_stuck, bind_ite, bindA_ite, bindS_ite, bindT_ite, bindTS_ite, nox_ite, seq_ite, startR, tyA_non, tyA_bl, tyA_int, tyA_str, tyA_tup, List.map_cons, List.map_nil, List.length_cons, List.length_nil, List.cons_append, List.nil_append, List.append_nil, List.getElem?_cons_zero, List.getElem?_cons_succ, List.set_cons_zero, List.set_cons_succ, vIx_t0, vIx_t1, vIx_t2, vIx_t3, vIx_t4, vIx_t5, vEq_ss, vEq_ii, vEq_bb, vNe_ss, vNe_ii, vNe_bb, vLen_tup, truA_tup, truA_bl, vLe_ii, vLt_ii, vGt_ii, vGe_ii, vSub_ii, vAdd_ii, vAddI_ii, vNeg_i, isT_ss, isT_tt, isT_ii, isT_bi, isT_bb, isT_ib, vNotIn, vIn, badSign], fun _ => rfl⟩⟩) (by simp [signs, Str.length] at hl ⊢; omega)
        have e1 : ¬ ((x.length : Int) < 1) := by omega
        have e2 : (1 : Int) ≤ (x.length : Int) := by omega
        have e3 : (x.length : Int) ≤ 6 := by omega
        simp only [List.nil_append, List.map_id] at lc
        simp [q_is_word, gVar, gC, gOp, gUn, gAnd, gOr, gNot, gIf, gNil, gCons, gTup, gLst, gCB, gChain, gSet, gExpr, gRet, gRetN, gPass, gBrk, gCt, gRaise, gIfS, gSeq, nName, nTup, setAll, gAsg, gCall, gTru, gNotT, gIsi, RE.bind_ok, RE.bind_exc, RE.bind_stuck, RE.bindA_ok, RE.bindS_ok, RE.bindS_exc, RE.bindT_ok, RE.bindTS_ok, RA.bind_ok, RA.bindA_ok, RE.nox_ok, RS.seq_nx, RS.seq_ret, RS.seq_exc, RS.seq_brk, RS.seq_ct, RS.seq_stuck, RE.bindA_exc, RE.bindA_stuck, RE.bindS_stuck, RE.bindT_exc, RE.bindT_stuck, RE.bindTS_exc, RE.bindTS_stuck, RA.bind_exc, RA.bind_stuck, RA.bindA_exc, RA.bindA_stuck, RE.nox_stuck, bind_ite, bindA_ite, bindS_ite, bindT_ite, bindTS_ite, nox_ite, seq_ite, startR, tyA_non, tyA_bl, tyA_int, tyA_str, tyA_tup, List.map_cons, List.map_nil, List.length_cons, List.length_nil, List.cons_append, List.nil_append, List.append_nil, List.getElem?_cons_zero, List.getElem?_cons_succ, List.set_cons_zero, List.set_cons_succ, vIx_t0, vIx_t1, vIx_t2, vIx_t3, vIx_t4, vIx_t5, vEq_ss, vEq_ii, vEq_bb, vNe_ss, vNe_ii, vNe_bb, vLen_tup, truA_tup, truA_bl, vLe_ii, vLt_ii, vGt_ii, vGe_ii, vSub_ii, vAdd_ii, vAddI_ii, vNeg_i, isT_ss, isT_tt, isT_ii, isT_bi, isT_bb, isT_ib, vLen, hl, e2, e3, gLc, gIS, wipeR, lc, truA, seqOf, items_new, isWord_bad h1 h2]
      · have e2 : (1 : Int) ≤ (x.length : Int) := by omega
        have e3 : ¬ (x.length : Int) ≤ 6 := by omega
        exact ⟨[], by simp [q_is_word, gVar, gC, gOp, gUn, gAnd, gOr, gNot, gIf, gNil, gCons, gTup, gLst, gCB, gChain, gSet, gExpr, gRet, gRetN, gPass, gBrk, gCt, gRaise, gIfS, gSeq, nName, nTup, setAll, gAsg, gCall, gTru, gNotT, gIsi, RE.bind_ok, RE.bind_exc, RE.bind_stuck, RE.bindA_ok, RE.bindS_ok, RE.bindS_exc, RE.bindT_ok, RE.bindTS_ok, RA.bind_ok, RA.bindA_ok, RE.nox_ok, RS.seq_nx, RS.seq_ret, RS.seq_exc, RS.seq_brk, RS.seq_ct, RS.seq_stuck, RE.bindA_exc, RE.bindA_stuck, RE.bindS_stuck, RE.bindT_exc, RE.bindT_stuck, RE.bindTS_exc, RE.bindTS_stuck, RA.bind_exc, RA.bind_stuck, RA.bindA_exc, RA.bindA_stuck, RE.nox_stuck, bind_ite, bindA_ite, bindS_ite, bindT_ite, bindTS_ite, nox_ite, seq_ite, startR, tyA_non, tyA_bl, tyA_int, tyA_str, tyA_tup, List.map_cons, List.map_nil, List.length_cons, List.length_nil, List.cons_append, List.nil_append, List.append_nil, List.getElem?_cons_zero, List.getElem?_cons_succ, List.set_cons_zero, List.set_cons_succ, vIx_t0, vIx_t1, vIx_t2, vIx_t3, vIx_t4, vIx_t5, vEq_ss, vEq_ii, vEq_bb, vNe_ss, vNe_ii, vNe_bb, vLen_tup, truA_tup, truA_bl, vLe_ii, vLt_ii, vGt_ii, vGe_ii, vSub_ii, vAdd_ii, vAddI_ii, vNeg_i, isT_ss, isT_tt, isT_ii, isT_bi, isT_bb, isT_ib, vLen, hl, e2, e3, isWord, isWordS, h2]⟩
    · have e2 : ¬ (1 : Int) ≤ (x.length : Int) := by omega
      exact ⟨[], by simp [q_is_word, gVar, gC, gOp, gUn, gAnd, gOr, gNot, gIf, gNil, gCons, gTup, gLst, gCB, gChain, gSet, gExpr, gRet, gRetN, gPass, gBrk, gCt, gRaise, gIfS, gSeq, nName, nTup, setAll, gAsg, gCall, gTru, gNotT, gIsi, RE.bind_ok, RE.bind_exc, RE.bind_stuck, RE.bindA_ok, RE.bindS_ok, RE.bindS_exc, RE.bindT_ok, RE.bindTS_ok, RA.bind_ok, RA.bindA_ok, RE.nox_ok, RS.seq_nx, RS.seq_ret, RS.seq_exc, RS.seq_brk, RS.seq_ct, RS.seq_stuck, RE.bindA_exc, RE.bindA_stuck, RE.bindS_stuck, RE.bindT_exc, RE.bindT_stuck, RE.bindTS_exc, RE.bindTS_stuck, RA.bind_exc, RA.bind_stuck, RA.bindA_exc, RA.bindA_stuck, RE.nox_stuck, bind_ite, bindA_ite, bindS_ite, bindT_ite, bindTS_ite, nox_ite, seq_ite, startR, tyA_non, tyA_bl, tyA_int, tyA_str, tyA_tup, List.map_cons, List.map_nil, List.length_cons, List.length_nil, List.cons_append, List.nil_append, List.append_nil, List.getElem?_cons_zero, List.getElem?_cons_succ, List.set_cons_zero, List.set_cons_succ, vIx_t0, vIx_t1, vIx_t2, vIx_t3, vIx_t4, vIx_t5, vEq_ss, vEq_ii, vEq_bb, vNe_ss, vNe_ii, vNe_bb, vLen_tup, truA_tup, truA_bl, vLe_ii, vLt_ii, vGt_ii, vGe_ii, vSub_ii, vAdd_ii, vAddI_ii, vNeg_i, isT_ss, isT_tt, isT_ii, isT_bi, isT_bb, isT_ib, vLen, hl, e2, isWord, isWordS, h1]⟩
  all_goals exact ⟨[], by simp [q_is_word, gVar, gC, gOp, gUn, gAnd, gOr, gNot, gIf, gNil, gCons, gTup, gLst, gCB, gChain, gSet, gExpr, gRet, gRetN, gPass, gBrk, gCt, gRaise, gIfS, gSeq, nName, nTup, setAll, gAsg, gCall, gTru, gNotT, gIsi, RE.bind_ok, RE.bind_exc, RE.bind_stuck, RE.bindA_ok, RE.bindS_ok, RE.bindS_exc, RE.bindT_ok, RE.bindTS_ok, RA.bind_ok, RA.bindA_ok, RE.nox_ok, RS.seq_nx, RS.seq_ret, RS.seq_exc, RS.seq_brk, RS.seq_ct, RS.seq_stuck, RE.bindA_exc, RE.bindA_stuck, RE.bindS_stuck, RE.bindT_exc, RE.bindT_stuck, RE.bindTS_exc, RE.bindTS_stuck, RA.bind_exc, RA.bind_stuck, RA.bindA_exc, RA.bindA_stuck, RE.nox_stuck, bind_ite, bindA_ite, bindS_ite, bindT_ite, bindTS_ite, nox_ite, seq_ite, startR, tyA_non, tyA_bl, tyA_int, tyA_str, tyA_tup, List.map_cons, List.map_nil, List.length_cons, List.length_nil, List.cons_append, List.nil_append, List.append_nil, List.getElem?_cons_zero, List.getElem?_cons_succ, List.set_cons_zero, List.set_cons_succ, vIx_t0, vIx_t1, vIx_t2, vIx_t3, vIx_t4, vIx_t5, vEq_ss, vEq_ii, vEq_bb, vNe_ss, vNe_ii, vNe_bb, vLen_tup, truA_tup, truA_bl, vLe_ii, vLt_ii, vGt_ii, vGe_ii, vSub_ii, vAdd_ii, vAddI_ii, vNeg_i, isT_ss, isT_tt, isT_ii, isT_bi, isT_bb, isT_ib, isT, isWord]⟩
theorem ok_is_word (t : Hd.Tx K mg) : FnR P w K mg base 1 (He.ga K "is_word") t.f_is_word P_is_word (spF K (tbs K) (F_is_word K)) := by
  refine fnF t.D_is_word sc_is_word (fun l S h => by unfold F_is_word at h; split at h <;> first | rfl | exact absurd rfl h) (q_is_word K) (fun cdv A outer s H E hr => sb_is_word t hr) fun l S b bl h => ?_
  unfold F_is_word at h ⊢
  split at h
  rotate_left
  · exact absurd rfl h
  rename_i x
  by_cases hk : good S x = true
  rotate_left
  · exact absurd (if_neg hk) h
  rw [if_pos hk]
  obtain ⟨E, e⟩ := e_is_word (K := K) hk
  rw [e]
  exact fitPE b (.bl _)
-- with is_test
abbrev N_is_test : List Str := ["thing"]
abbrev P_is_test : List Str := ["thing"]
theorem sc_is_test : FnScope N_is_test P_is_test (defScope Hd.s_is_test) := ⟨rfl, rfl, rfl, by decide +kernel, rfl, by decide +kernel, by decide +kernel⟩
theorem b_is_test {K : Frg} {mg : Str → Option Value} (t : Hd.Tx K mg) : Binds K t.f_is_test P_is_test [] := FunD.bindsN t.D_is_test fun _ _ _ _ _ _ us hl => match us, hl with | [_], _ => rfl
def q_is_test (K : Frg) : GS :=
  gSeq (gIfS (gOr (gNot (gIsi "tuple" (gVar 0))) (gOr (gNot (gTru (gVar 0))) (gNot (gIsi "str" (gOp vIx (gVar 0) (gC (.int 0))))))) (gRet (gC (.bl false))) (gPass))
  (gSeq (gIfS (gOp vEq (gOp vIx (gVar 0) (gC (.int 0))) (gC (.str "any"))) (gRet (gOp vEq (gCB vLen (gCons (gVar 0) (gNil))) (gC (.int 1)))) (gPass))
  (gRet (gAnd (gOp vIn (gOp vIx (gVar 0) (gC (.int 0))) (gTup (gCons (gC (.str "over")) (gCons (gC (.str "under")) (gNil))))) (gAnd (gOp vEq (gCB vLen (gCons (gVar 0) (gNil))) (gC (.int 2))) (gCall (F_is_value K) (gCons (gOp vIx (gVar 0) (gC (.int 1))) (gNil)))))))
theorem sb_is_test {P : Program} {w : World} {K : Frg} {mg : Str → Option Value} {base : Heap} (t : Hd.Tx K mg)  {cdv : Value} {A : Around} {outer : List Env} {s : Shared} {H : Hp} {E : XK} (hr : Rm 2 (A.deeper (envOfC "is_test" (defScope Hd.s_is_test) s.heap.objs.size (He.ga K "is_test") cdv))) :
    SB (cxOf (L2.CX P w) P w K mg base N_is_test "is_test" (defScope Hd.s_is_test) (He.ga K "is_test") cdv A outer s H E) (tbs K) (fun c d _ H2 => E c d H2) (defBody Hd.s_is_test) (q_is_test K ) := by
  have nd : N_is_test.Nodup := sc_is_test.nd
  have hp := passes_of (X := cxOf (L2.CX P w) P w K mg base N_is_test "is_test" (defScope Hd.s_is_test) (He.ga K "is_test") cdv A outer s H E) (K := fun e s2 => L2.CX P w outer H s E e s2) (E₁ := fun e s2 => L2.CX P w outer H s E e s2) rfl
  have tk : Takes (cxOf (L2.CX P w) P w K mg base N_is_test "is_test" (defScope Hd.s_is_test) (He.ga K "is_test") cdv A outer s H E) (fun c d _ H2 => E c d H2) := takes_of rfl rfl rfl rfl
  exact (sb_cons (ss_if (st_w (sw_or (st_not (st_val (se_isi (by decide) (by decide +kernel) t.n_isinstance t.n_tuple (se_var' (pv 0))))) (sw_or (st_not (st_truth (se_var' (pv 0)))) (sw_or1 (st_not (st_val (se_isi (by decide) (by decide +kernel) t.n_isinstance t.n_str (se_ix is_ix (se_var' (pv 0)) se_int (fun _ _ => rfl))))))))) (sb_one (ss_ret se_bl)) sb_nil)
  (sb_cons (ss_if (st_cmp (os_eq hr.units) (se_ix is_ix (se_var' (pv 0)) se_int (fun _ _ => rfl)) se_str (nomark _)) (sb_one (ss_ret (se_cmp (os_eq hr.units) (se_callB cs_len (by rfl) t.n_len (by decide +kernel) (sa_cons (se_var' (pv 0)) sa_nil)) se_int (nomark _)))) sb_nil)
  (sb_one (ss_ret (se_and (se_cmp os_in (se_ix is_ix (se_var' (pv 0)) se_int (fun _ _ => rfl)) (se_tup (sa_cons se_str (sa_cons se_str sa_nil))) (by rfl)) (se_and (se_cmp (os_eq hr.units) (se_callB cs_len (by rfl) t.n_len (by decide +kernel) (sa_cons (se_var' (pv 0)) sa_nil)) se_int (nomark _)) (se_one (se_call (ok_is_value t) (hr.mono (by omega)) t.m_is_value t.D_is_value.kp (b_is_value t) tk (sa_cons (se_ix is_ix (se_var' (pv 0)) se_int (fun _ _ => rfl)) sa_nil)))))))))

theorem e_is_test {x : A} {S : Sto} (hk : good S x = true) : q_is_test K (startR N_is_test.length [x]) S = .ret (.bl (isTest x)) S := by
  cases x
  case ob n =>
    obtain ⟨ty, hty⟩ := kn_some (good_kn hk)
    obtain ⟨h1, h2, h3, h4⟩ := isi_ob hty
    simp [q_is_test, gVar, gC, gOp, gUn, gAnd, gOr, gNot, gIf, gNil, gCons, gTup, gLst, gCB, gChain, gSet, gExpr, gRet, gRetN, gPass, gBrk, gCt, gRaise, gIfS, gSeq, nName, nTup, setAll, gAsg, gCall, gTru, gNotT, gIsi, RE.bind_ok, RE.bind_exc, RE.bind_stuck, RE.bindA_ok, RE.bindS_ok, RE.bindS_exc, RE.bindT_ok, RE.bindTS_ok, RA.bind_ok, RA.bindA_ok, RE.nox_ok, RS.seq_nx, RS.seq_ret, RS.seq_exc, RS.seq_brk, RS.seq_ct, RS.seq_stuck, RE.bindA_exc, RE.bindA_stuck, RE.bindS_stuck, RE.bindT_exc, RE.bindT_stuck, RE.bindTS_exc, RE.bindTS_stuck, RA.bind_exc, RA.bind_stuck, RA.bindA_exc, RA.bindA_stuck, RE.nox_stuck, bind_ite, bindA_ite, bindS_ite, bindT_ite, bindTS_ite, nox_ite, seq_ite, startR, tyA_non, tyA_bl, tyA_int, tyA_str, tyA_tup, List.map_cons, List.map_nil, List.length_cons, List.length_nil, List.cons_append, List.nil_append, List.append_nil, List.getElem?_cons_zero, List.getElem?_cons_succ, List.set_cons_zero, List.set_cons_succ, vIx_t0, vIx_t1, vIx_t2, vIx_t3, vIx_t4, vIx_t5, vEq_ss, vEq_ii, vEq_bb, vNe_ss, vNe_ii, vNe_bb, vLen_tup, truA_tup, truA_bl, vLe_ii, vLt_ii, vGt_ii, vGe_ii, vSub_ii, vAdd_ii, vAddI_ii, vNeg_i, isT_ss, isT_tt, isT_ii, isT_bi, isT_bb, isT_ib, hty, h4, isTest]
  case tup l =>
    cases l with
    | nil => simp [q_is_test, gVar, gC, gOp, gUn, gAnd, gOr, gNot, gIf, gNil, gCons, gTup, gLst, gCB, gChain, gSet, gExpr, gRet, gRetN, gPass, gBrk, gCt, gRaise, gIfS, gSeq, nName, nTup, setAll, gAsg, gCall, gTru, gNotT, gIsi, RE.bind_ok, RE.bind_exc, RE.bind_stuck, RE.bindA_ok, RE.bindS_ok, RE.bindS_exc, RE.bindT_ok, RE.bindTS_ok, RA.bind_ok, RA.bindA_ok, RE.nox_ok, RS.seq_nx, RS.seq_ret, RS.seq_exc, RS.seq_brk, RS.seq_ct, RS.seq_stuck, RE.bindA_exc, RE.bindA_stuck, RE.bindS_stuck, RE.bindT_exc, RE.bindT_stuck, RE.bindTS_exc, RE.bindTS_stuck, RA.bind_exc, RA.bind_stuck, RA.bindA_exc, RA.bindA_stuck, RE.nox_stuck, bind_ite, bindA_ite, bindS_ite, bindT_ite, bindTS_ite, nox_ite, seq_ite, startR, tyA_non, tyA_bl, tyA_int, tyA_str, tyA_tup, List.map_cons, List.map_nil, List.length_cons, List.length_nil, List.cons_append, List.nil_append, List.append_nil, List.getElem?_cons_zero, List.getElem?_cons_succ, List.set_cons_zero, List.set_cons_succ, vIx_t0, vIx_t1, vIx_t2, vIx_t3, vIx_t4, vIx_t5, vEq_ss, vEq_ii, vEq_bb, vNe_ss, vNe_ii, vNe_bb, vLen_tup, truA_tup, truA_bl, vLe_ii, vLt_ii, vGt_ii, vGe_ii, vSub_ii, vAdd_ii, vAddI_ii, vNeg_i, isT_ss, isT_tt, isT_ii, isT_bi, isT_bb, isT_ib, isTest]
    | cons y r =>
      replace hk := good_tup.mp hk
      obtain ⟨ty, hty⟩ := kn_some (good_kn (hk y (by simp)))
      cases y
      case ob n =>
        obtain ⟨h1, h2, h3, h4⟩ := isi_ob hty
        simp [q_is_test, gVar, gC, gOp, gUn, gAnd, gOr, gNot, gIf, gNil, gCons, gTup, gLst, gCB, gChain, gSet, gExpr, gRet, gRetN, gPass, gBrk, gCt, gRaise, gIfS, gSeq, nName, nTup, setAll, gAsg, gCall, gTru, gNotT, gIsi, RE.bind_ok, RE.bind_exc, RE.bind_stuck, RE.bindA_ok, RE.bindS_ok, RE.bindS_exc, RE.bindT_ok, RE.bindTS_ok, RA.bind_ok, RA.bindA_ok, RE.nox_ok, RS.seq_nx, RS.seq_ret, RS.seq_exc, RS.seq_brk, RS.seq_ct, RS.seq_stuck, RE.bindA_exc, RE.bindA_stuck, RE.bindS_stuck, RE.bindT_exc, RE.bindT_stuck, RE.bindTS_exc, RE.bindTS_stuck, RA.bind_exc, RA.bind_stuck, RA.bindA_exc, RA.bindA_stuck, RE.nox_stuck, bind_ite, bindA_ite, bindS_ite, bindT_ite, bindTS_ite, nox_ite, seq_ite, startR, tyA_non, tyA_bl, tyA_int, tyA_str, tyA_tup, List.map_cons, List.map_nil, List.length_cons, List.length_nil, List.cons_append, List.nil_append, List.append_nil, List.getElem?_cons_zero, List.getElem?_cons_succ, List.set_cons_zero, List.set_cons_succ, vIx_t0, vIx_t1, vIx_t2, vIx_t3, vIx_t4, vIx_t5, vEq_ss, vEq_ii, vEq_bb, vNe_ss, vNe_ii, vNe_bb, vLen_tup, truA_tup, truA_bl, vLe_ii, vLt_ii, vGt_ii, vGe_ii, vSub_ii, vAdd_ii, vAddI_ii, vNeg_i, isT_ss, isT_tt, isT_ii, isT_bi, isT_bb, isT_ib, hty, h3, isTest]
      case str s =>
        by_cases hs : s = "any"
        · subst hs
          cases r <;> simp [q_is_test, gVar, gC, gOp, gUn, gAnd, gOr, gNot, gIf, gNil, gCons, gTup, gLst, gCB, gChain, gSet, gExpr, gRet, gRetN, gPass, gBrk, gCt, gRaise, gIfS, gSeq, nName, nTup, setAll, gAsg, gCall, gTru, gNotT, gIsi, RE.bind_ok, RE.bind_exc, RE.bind_stuck, RE.bindA_ok, RE.bindS_ok, RE.bindS_exc, RE.bindT_ok, RE.bindTS_ok, RA.bind_ok, RA.bindA_ok, RE.nox_ok, RS.seq_nx, RS.seq_ret, RS.seq_exc, RS.seq_brk, RS.seq_ct, RS.seq_stuck, RE.bindA_exc, RE.bindA_stuck, RE.bindS_stuck, RE.bindT_exc, RE.bindT_stuck, RE.bindTS_exc, RE.bindTS_stuck, RA.bind_exc, RA.bind_stuck, RA.bindA_exc, RA.bindA_stuck, RE.nox_stuck, bind_ite, bindA_ite, bindS_ite, bindT_ite, bindTS_ite, nox_ite, seq_ite, startR, tyA_non, tyA_bl, tyA_int, tyA_str, tyA_tup, List.map_cons, List.map_nil, List.length_cons, List.length_nil, List.cons_append, List.nil_append, List.append_nil, List.getElem?_cons_zero, List.getElem?_cons_succ, List.set_cons_zero, List.set_cons_succ, vIx_t0, vIx_t1, vIx_t2, vIx_t3, vIx_t4, vIx_t5, vEq_ss, vEq_ii, vEq_bb, vNe_ss, vNe_ii, vNe_bb, vLen_tup, truA_tup, truA_bl, vLe_ii, vLt_ii, vGt_ii, vGe_ii, vSub_ii, vAdd_ii, vAddI_ii, vNeg_i, isT_ss, isT_tt, isT_ii, isT_bi, isT_bb, isT_ib, isTest]
          omega
        · have ho : (s = "over" ∨ s = "under") ∨ ¬ (s = "over" ∨ s = "under") := Classical.em _
          have c1 : (("over" : Str) = s) = (s = "over") := propext eq_comm
          have c2 : (("under" : Str) = s) = (s = "under") := propext eq_comm
          cases r with
          | nil => simp [q_is_test, gVar, gC, gOp, gUn, gAnd, gOr, gNot, gIf, gNil, gCons, gTup, gLst, gCB, gChain, gSet, gExpr, gRet, gRetN, gPass, gBrk, gCt, gRaise, gIfS, gSeq, nName, nTup, setAll, gAsg, gCall, gTru, gNotT, gIsi, RE.bind_ok, RE.bind_exc, RE.bind_stuck, RE.bindA_ok, RE.bindS_ok, RE.bindS_exc, RE.bindT_ok, RE.bindTS_ok, RA.bind_ok, RA.bindA_ok, RE.nox_ok, RS.seq_nx, RS.seq_ret, RS.seq_exc, RS.seq_brk, RS.seq_ct, RS.seq_stuck, RE.bindA_exc, RE.bindA_stuck, RE.bindS_stuck, RE.bindT_exc, RE.bindT_stuck, RE.bindTS_exc, RE.bindTS_stuck, RA.bind_exc, RA.bind_stuck, RA.bindA_exc, RA.bindA_stuck, RE.nox_stuck, bind_ite, bindA_ite, bindS_ite, bindT_ite, bindTS_ite, nox_ite, seq_ite, startR, tyA_non, tyA_bl, tyA_int, tyA_str, tyA_tup, List.map_cons, List.map_nil, List.length_cons, List.length_nil, List.cons_append, List.nil_append, List.append_nil, List.getElem?_cons_zero, List.getElem?_cons_succ, List.set_cons_zero, List.set_cons_succ, vIx_t0, vIx_t1, vIx_t2, vIx_t3, vIx_t4, vIx_t5, vEq_ss, vEq_ii, vEq_bb, vNe_ss, vNe_ii, vNe_bb, vLen_tup, truA_tup, truA_bl, vLe_ii, vLt_ii, vGt_ii, vGe_ii, vSub_ii, vAdd_ii, vAddI_ii, vNeg_i, isT_ss, isT_tt, isT_ii, isT_bi, isT_bb, isT_ib, isTest, hs, vIn, seqOf, flatA, inF, eqF]
          | cons v r2 =>
            cases r2 with
            | nil =>
              simp [q_is_test, gVar, gC, gOp, gUn, gAnd, gOr, gNot, gIf, gNil, gCons, gTup, gLst, gCB, gChain, gSet, gExpr, gRet, gRetN, gPass, gBrk, gCt, gRaise, gIfS, gSeq, nName, nTup, setAll, gAsg, gCall, gTru, gNotT, gIsi, RE.bind_ok, RE.bind_exc, RE.bind_stuck, RE.bindA_ok, RE.bindS_ok, RE.bindS_exc, RE.bindT_ok, RE.bindTS_ok, RA.bind_ok, RA.bindA_ok, RE.nox_ok, RS.seq_nx, RS.seq_ret, RS.seq_exc, RS.seq_brk, RS.seq_ct, RS.seq_stuck, RE.bindA_exc, RE.bindA_stuck, RE.bindS_stuck, RE.bindT_exc, RE.bindT_stuck, RE.bindTS_exc, RE.bindTS_stuck, RA.bind_exc, RA.bind_stuck, RA.bindA_exc, RA.bindA_stuck, RE.nox_stuck, bind_ite, bindA_ite, bindS_ite, bindT_ite, bindTS_ite, nox_ite, seq_ite, startR, tyA_non, tyA_bl, tyA_int, tyA_str, tyA_tup, List.map_cons, List.map_nil, List.length_cons, List.length_nil, List.cons_append, List.nil_append, List.append_nil, List.getElem?_cons_zero, List.getElem?_cons_succ, List.set_cons_zero, List.set_cons_succ, vIx_t0, vIx_t1, vIx_t2, vIx_t3, vIx_t4, vIx_t5, vEq_ss, vEq_ii, vEq_bb, vNe_ss, vNe_ii, vNe_bb, vLen_tup, truA_tup, truA_bl, vLe_ii, vLt_ii, vGt_ii, vGe_ii, vSub_ii, vAdd_ii, vAddI_ii, vNeg_i, isT_ss, isT_tt, isT_ii, isT_bi, isT_bb, isT_ib, isTest, hs, vIn, seqOf, flatA, inF, eqF, F_is_value, good_kn (hk v (by simp)), c1, c2]
              rcases ho with ho | ho
              · rw [if_pos ho]; rcases ho with ho | ho <;> simp [ho]
              · rw [if_neg ho]; simp only [not_or] at ho; simp [ho.1, ho.2]
            | cons v2 r3 =>
              have e : ¬ ((r3.length : Int) + 1 + 1 + 1 = 2) := by omega
              simp [q_is_test, gVar, gC, gOp, gUn, gAnd, gOr, gNot, gIf, gNil, gCons, gTup, gLst, gCB, gChain, gSet, gExpr, gRet, gRetN, gPass, gBrk, gCt, gRaise, gIfS, gSeq, nName, nTup, setAll, gAsg, gCall, gTru, gNotT, gIsi, RE.bind_ok, RE.bind_exc, RE.bind_stuck, RE.bindA_ok, RE.bindS_ok, RE.bindS_exc, RE.bindT_ok, RE.bindTS_ok, RA.bind_ok, RA.bindA_ok, RE.nox_ok, RS.seq_nx, RS.seq_ret, RS.seq_exc, RS.seq_brk, RS.seq_ct, RS.seq_stuck, RE.bindA_exc, RE.bindA_stuck, RE.bindS_stuck, RE.bindT_exc, RE.bindT_stuck, RE.bindTS_exc, RE.bindTS_stuck, RA.bind_exc, RA.bind_stuck, RA.bindA_exc, RA.bindA_stuck, RE.nox_stuck, bind_ite, bindA_ite, bindS_ite, bindT_ite, bindTS_ite, nox_ite, seq_ite, startR, tyA_non, tyA_bl, tyA_int, tyA_str, tyA_tup, List.map_cons, List.map_nil, List.length_cons, List.length_nil, List.cons_append, List.nil_append, List.append_nil, List.getElem?_cons_zero, List.getElem?_cons_succ, List.set_cons_zero, List.set_cons_succ, vIx_t0, vIx_t1, vIx_t2, vIx_t3, vIx_t4, vIx_t5, vEq_ss, vEq_ii, vEq_bb, vNe_ss, vNe_ii, vNe_bb, vLen_tup, truA_tup, truA_bl, vLe_ii, vLt_ii, vGt_ii, vGe_ii, vSub_ii, vAdd_ii, vAddI_ii, vNeg_i, isT_ss, isT_tt, isT_ii, isT_bi, isT_bb, isT_ib, isTest, hs, vIn, seqOf, flatA, inF, eqF, e]
      all_goals simp [q_is_test, gVar, gC, gOp, gUn, gAnd, gOr, gNot, gIf, gNil, gCons, gTup, gLst, gCB, gChain, gSet, gExpr, gRet, gRetN, gPass, gBrk, gCt, gRaise, gIfS, gSeq, nName, nTup, setAll, gAsg, gCall, gTru, gNotT, gIsi, RE.bind_ok, RE.bind_exc, RE.bind_stuck, RE.bindA_ok, RE.bindS_ok, RE.bindS_exc, RE.bindT_ok, RE.bindTS_ok, RA.bind_ok, RA.bindA_ok, RE.nox_ok, RS.seq_nx, RS.seq_ret, RS.seq_exc, RS.seq_brk, RS.seq_ct, RS.seq_stuck, RE.bindA_exc, RE.bindA_stuck, RE.bindS_stuck, RE.bindT_exc, RE.bindT_stuck, RE.bindTS_exc, RE.bindTS_stuck, RA.bind_exc, RA.bind_stuck, RA.bindA_exc, RA.bindA_stuck, RE.nox_stuck, bind_ite, bindA_ite, bindS_ite, bindT_ite, bindTS_ite, nox_ite, seq_ite, startR, tyA_non, tyA_bl, tyA_int, tyA_str, tyA_tup, List.map_cons, List.map_nil, List.length_cons, List.length_nil, List.cons_append, List.nil_append, List.append_nil, List.getElem?_cons_zero, List.getElem?_cons_succ, List.set_cons_zero, List.set_cons_succ, vIx_t0, vIx_t1, vIx_t2, vIx_t3, vIx_t4, vIx_t5, vEq_ss, vEq_ii, vEq_bb, vNe_ss, vNe_ii, vNe_bb, vLen_tup, truA_tup, truA_bl, vLe_ii, vLt_ii, vGt_ii, vGe_ii, vSub_ii, vAdd_ii, vAddI_ii, vNeg_i, isT_ss, isT_tt, isT_ii, isT_bi, isT_bb, isT_ib, isTest, isT]
  all_goals simp [q_is_test, gVar, gC, gOp, gUn, gAnd, gOr, gNot, gIf, gNil, gCons, gTup, gLst, gCB, gChain, gSet, gExpr, gRet, gRetN, gPass, gBrk, gCt, gRaise, gIfS, gSeq, nName, nTup, setAll, gAsg, gCall, gTru, gNotT, gIsi, RE.bind_ok, RE.bind_exc, RE.bind_stuck, RE.bindA_ok, RE.bindS_ok, RE.bindS_exc, RE.bindT_ok, RE.bindTS_ok, RA.bind_ok, RA.bindA_ok, RE.nox_ok, RS.seq_nx, RS.seq_ret, RS.seq_exc, RS.seq_brk, RS.seq_ct, RS.seq_stuck, RE.bindA_exc, RE.bindA_stuck, RE.bindS_stuck, RE.bindT_exc, RE.bindT_stuck, RE.bindTS_exc, RE.bindTS_stuck, RA.bind_exc, RA.bind_stuck, RA.bindA_exc, RA.bindA_stuck, RE.nox_stuck, bind_ite, bindA_ite, bindS_ite, bindT_ite, bindTS_ite, nox_ite, seq_ite, startR, tyA_non, tyA_bl, tyA_int, tyA_str, tyA_tup, List.map_cons, List.map_nil, List.length_cons, List.length_nil, List.cons_append, List.nil_append, List.append_nil, List.getElem?_cons_zero, List.getElem?_cons_succ, List.set_cons_zero, List.set_cons_succ, vIx_t0, vIx_t1, vIx_t2, vIx_t3, vIx_t4, vIx_t5, vEq_ss, vEq_ii, vEq_bb, vNe_ss, vNe_ii, vNe_bb, vLen_tup, truA_tup, truA_bl, vLe_ii, vLt_ii, vGt_ii, vGe_ii, vSub_ii, vAdd_ii, vAddI_ii, vNeg_i, isT_ss, isT_tt, isT_ii, isT_bi, isT_bb, isT_ib, isTest, isT]
theorem ok_is_test (t : Hd.Tx K mg) : FnR P w K mg base 3 (He.ga K "is_test") t.f_is_test P_is_test (spF K (tbs K) (F_is_test K)) := by
  refine fnF t.D_is_test sc_is_test (fun l S h => by unfold F_is_test at h; split at h <;> first | rfl | exact absurd rfl h) (q_is_test K) (fun cdv A outer s H E hr => sb_is_test t hr) fun l S b bl h => ?_
  unfold F_is_test at h ⊢
  split at h
  rotate_left
  · exact absurd rfl h
  rename_i x
  by_cases hk : good S x = true
  rotate_left
  · exact absurd (if_neg hk) h
  rw [if_pos hk, e_is_test hk]
  exact fitP b (.bl _)
-- with is_deed is_hearer_so
abbrev N_is_deed : List Str := ["thing", "deep"]
abbrev P_is_deed : List Str := ["thing", "deep"]
theorem sc_is_deed : FnScope N_is_deed P_is_deed (defScope Hd.s_is_deed) := ⟨rfl, rfl, rfl, by decide +kernel, rfl, by decide +kernel, by decide +kernel⟩
theorem b_is_deed {K : Frg} {mg : Str → Option Value} (t : Hd.Tx K mg) : Binds K t.f_is_deed P_is_deed [] := FunD.bindsN t.D_is_deed fun _ _ _ _ _ _ us hl => match us, hl with | [_, _], _ => rfl
abbrev N_is_hearer_so : List Str := ["thing", "deep", "owner", "topic", "rank", "how", "test", "deeds", "deed"]
abbrev P_is_hearer_so : List Str := ["thing", "deep"]
theorem sc_is_hearer_so : FnScope N_is_hearer_so P_is_hearer_so (defScope Hd.s_is_hearer_so) := ⟨rfl, rfl, rfl, by decide +kernel, rfl, by decide +kernel, by decide +kernel⟩
theorem b_is_hearer_so {K : Frg} {mg : Str → Option Value} (t : Hd.Tx K mg) : Binds K t.f_is_hearer_so P_is_hearer_so [] := FunD.bindsN t.D_is_hearer_so fun _ _ _ _ _ _ us hl => match us, hl with | [_, _], _ => rfl
def F_is_hearer_so (n : Nat) (K : Frg) : List A → Sto → RE := fun l S => match l with
  | [x, .int deep] => if good S x = true ∧ 0 ≤ deep ∧ deep ≤ (n : Int) then .ok (.bl (isHr deep.toNat x)) S else .stuck
  | _ => .stuck
def F_is_deed (n : Nat) (K : Frg) : List A → Sto → RE := fun l S => match l with
  | [x, .int deep] => if good S x = true ∧ 0 ≤ deep ∧ deep ≤ (n : Int) then .ok (.bl (isDeedW (isHr deep.toNat) x)) S else .stuck
  | _ => .stuck
def q_is_deed (K : Frg) (Fh : List A → Sto → RE) : GS :=
  gSeq (gIfS (gOr (gNot (gIsi "tuple" (gVar 0))) (gOr (gNot (gTru (gVar 0))) (gNot (gIsi "str" (gOp vIx (gVar 0) (gC (.int 0))))))) (gRet (gC (.bl false))) (gPass))
  (gSeq (gIfS (gOp vIn (gOp vIx (gVar 0) (gC (.int 0))) (gTup (gCons (gC (.str "stop")) (gCons (gC (.str "done")) (gNil))))) (gRet (gOp vEq (gCB vLen (gCons (gVar 0) (gNil))) (gC (.int 1)))) (gPass))
  (gSeq (gIfS (gOp vEq (gOp vIx (gVar 0) (gC (.int 0))) (gC (.str "tell"))) (gRet (gAnd (gOp vEq (gCB vLen (gCons (gVar 0) (gNil))) (gC (.int 3))) (gAnd (gCall (F_is_word K) (gCons (gOp vIx (gVar 0) (gC (.int 1))) (gNil))) (gCall (F_is_value K) (gCons (gOp vIx (gVar 0) (gC (.int 2))) (gNil)))))) (gPass))
  (gSeq (gIfS (gOp vEq (gOp vIx (gVar 0) (gC (.int 0))) (gC (.str "leave"))) (gRet (gAnd (gOp vEq (gCB vLen (gCons (gVar 0) (gNil))) (gC (.int 2))) (gCall (F_is_word K) (gCons (gOp vIx (gVar 0) (gC (.int 1))) (gNil))))) (gPass))
  (gRet (gAnd (gOp vEq (gOp vIx (gVar 0) (gC (.int 0))) (gC (.str "join"))) (gAnd (gOp vEq (gCB vLen (gCons (gVar 0) (gNil))) (gC (.int 2))) (gCall (Fh) (gCons (gOp vIx (gVar 0) (gC (.int 1))) (gCons (gVar 1) (gNil))))))))))
theorem sb_is_deed {P : Program} {w : World} {K : Frg} {mg : Str → Option Value} {base : Heap} (t : Hd.Tx K mg) {d dh : Nat} {Fh : List A → Sto → RE} (okh : FnR P w K mg base dh (He.ga K "is_hearer_so") t.f_is_hearer_so P_is_hearer_so (spF K (tbs K) Fh)) (hd : 2 ≤ d) (hdh : dh ≤ d) {cdv : Value} {A : Around} {outer : List Env} {s : Shared} {H : Hp} {E : XK} (hr : Rm d (A.deeper (envOfC "is_deed" (defScope Hd.s_is_deed) s.heap.objs.size (He.ga K "is_deed") cdv))) :
    SB (cxOf (L2.CX P w) P w K mg base N_is_deed "is_deed" (defScope Hd.s_is_deed) (He.ga K "is_deed") cdv A outer s H E) (tbs K) (fun c d _ H2 => E c d H2) (defBody Hd.s_is_deed) (q_is_deed K Fh) := by
  have nd : N_is_deed.Nodup := sc_is_deed.nd
  have hp := passes_of (X := cxOf (L2.CX P w) P w K mg base N_is_deed "is_deed" (defScope Hd.s_is_deed) (He.ga K "is_deed") cdv A outer s H E) (K := fun e s2 => L2.CX P w outer H s E e s2) (E₁ := fun e s2 => L2.CX P w outer H s E e s2) rfl
  have tk : Takes (cxOf (L2.CX P w) P w K mg base N_is_deed "is_deed" (defScope Hd.s_is_deed) (He.ga K "is_deed") cdv A outer s H E) (fun c d _ H2 => E c d H2) := takes_of rfl rfl rfl rfl
  exact (sb_cons (ss_if (st_w (sw_or (st_not (st_val (se_isi (by decide) (by decide +kernel) t.n_isinstance t.n_tuple (se_var' (pv 0))))) (sw_or (st_not (st_truth (se_var' (pv 0)))) (sw_or1 (st_not (st_val (se_isi (by decide) (by decide +kernel) t.n_isinstance t.n_str (se_ix is_ix (se_var' (pv 0)) se_int (fun _ _ => rfl))))))))) (sb_one (ss_ret se_bl)) sb_nil)
  (sb_cons (ss_if (st_cmp os_in (se_ix is_ix (se_var' (pv 0)) se_int (fun _ _ => rfl)) (se_tup (sa_cons se_str (sa_cons se_str sa_nil))) (by rfl)) (sb_one (ss_ret (se_cmp (os_eq hr.units) (se_callB cs_len (by rfl) t.n_len (by decide +kernel) (sa_cons (se_var' (pv 0)) sa_nil)) se_int (nomark _)))) sb_nil)
  (sb_cons (ss_if (st_cmp (os_eq hr.units) (se_ix is_ix (se_var' (pv 0)) se_int (fun _ _ => rfl)) se_str (nomark _)) (sb_one (ss_ret (se_and (se_cmp (os_eq hr.units) (se_callB cs_len (by rfl) t.n_len (by decide +kernel) (sa_cons (se_var' (pv 0)) sa_nil)) se_int (nomark _)) (se_and (se_call (ok_is_word t) (hr.mono (by omega)) t.m_is_word t.D_is_word.kp (b_is_word t) tk (sa_cons (se_ix is_ix (se_var' (pv 0)) se_int (fun _ _ => rfl)) sa_nil)) (se_one (se_call (ok_is_value t) (hr.mono (by omega)) t.m_is_value t.D_is_value.kp (b_is_value t) tk (sa_cons (se_ix is_ix (se_var' (pv 0)) se_int (fun _ _ => rfl)) sa_nil))))))) sb_nil)
  (sb_cons (ss_if (st_cmp (os_eq hr.units) (se_ix is_ix (se_var' (pv 0)) se_int (fun _ _ => rfl)) se_str (nomark _)) (sb_one (ss_ret (se_and (se_cmp (os_eq hr.units) (se_callB cs_len (by rfl) t.n_len (by decide +kernel) (sa_cons (se_var' (pv 0)) sa_nil)) se_int (nomark _)) (se_one (se_call (ok_is_word t) (hr.mono (by omega)) t.m_is_word t.D_is_word.kp (b_is_word t) tk (sa_cons (se_ix is_ix (se_var' (pv 0)) se_int (fun _ _ => rfl)) sa_nil)))))) sb_nil)
  (sb_one (ss_ret (se_and (se_cmp (os_eq hr.units) (se_ix is_ix (se_var' (pv 0)) se_int (fun _ _ => rfl)) se_str (nomark _)) (se_and (se_cmp (os_eq hr.units) (se_callB cs_len (by rfl) t.n_len (by decide +kernel) (sa_cons (se_var' (pv 0)) sa_nil)) se_int (nomark _)) (se_one (se_call (okh) (hr.mono (by omega)) t.m_is_hearer_so t.D_is_hearer_so.kp (b_is_hearer_so t) tk (sa_cons (se_ix is_ix (se_var' (pv 0)) se_int (fun _ _ => rfl)) (sa_cons (se_var' (pv 1)) sa_nil))))))))))))

theorem e_is_deed {x : A} {deep : Int} {S : Sto} {Fh : List A → Sto → RE} (hk : good S x = true) (hF : ∀ a, good S a = true → Fh [a, .int deep] S = .ok (.bl (isHr deep.toNat a)) S) : q_is_deed K Fh (startR N_is_deed.length [x, .int deep]) S = .ret (.bl (isDeedW (isHr deep.toNat) x)) S := by
  cases x
  case ob n =>
    obtain ⟨ty, hty⟩ := kn_some (good_kn hk)
    obtain ⟨h1, h2, h3, h4⟩ := isi_ob hty
    simp [q_is_deed, gVar, gC, gOp, gUn, gAnd, gOr, gNot, gIf, gNil, gCons, gTup, gLst, gCB, gChain, gSet, gExpr, gRet, gRetN, gPass, gBrk, gCt, gRaise, gIfS, gSeq, nName, nTup, setAll, gAsg, gCall, gTru, gNotT, gIsi, RE.bind_ok, RE.bind_exc, RE.bind_stuck, RE.bindA_ok, RE.bindS_ok, RE.bindS_exc, RE.bindT_ok, RE.bindTS_ok, RA.bind_ok, RA.bindA_ok, RE.nox_ok, RS.seq_nx, RS.seq_ret, RS.seq_exc, RS.seq_brk, RS.seq_ct, RS.seq_stuck, RE.bindA_exc, RE.bindA_stuck, RE.bindS_stuck, RE.bindT_exc, RE.bindT_stuck, RE.bindTS_exc, RE.bindTS_stuck, RA.bind_exc, RA.bind_stuck, RA.bindA_exc, RA.bindA_stuck, RE.nox_stuck, bind_ite, bindA_ite, bindS_ite, bindT_ite, bindTS_ite, nox_ite, seq_ite, startR, tyA_non, tyA_bl, tyA_int, tyA_str, tyA_tup, List.map_cons, List.map_nil, List.length_cons, List.length_nil, List.cons_append, List.nil_append, List.append_nil, List.getElem?_cons_zero, List.getElem?_cons_succ, List.set_cons_zero, List.set_cons_succ, vIx_t0, vIx_t1, vIx_t2, vIx_t3, vIx_t4, vIx_t5, vEq_ss, vEq_ii, vEq_bb, vNe_ss, vNe_ii, vNe_bb, vLen_tup, truA_tup, truA_bl, vLe_ii, vLt_ii, vGt_ii, vGe_ii, vSub_ii, vAdd_ii, vAddI_ii, vNeg_i, isT_ss, isT_tt, isT_ii, isT_bi, isT_bb, isT_ib, hty, h4, isDeedW]
  case tup l =>
    cases l with
    | nil => simp [q_is_deed, gVar, gC, gOp, gUn, gAnd, gOr, gNot, gIf, gNil, gCons, gTup, gLst, gCB, gChain, gSet, gExpr, gRet, gRetN, gPass, gBrk, gCt, gRaise, gIfS, gSeq, nName, nTup, setAll, gAsg, gCall, gTru, gNotT, gIsi, RE.bind_ok, RE.bind_exc, RE.bind_stuck, RE.bindA_ok, RE.bindS_ok, RE.bindS_exc, RE.bindT_ok, RE.bindTS_ok, RA.bind_ok, RA.bindA_ok, RE.nox_ok, RS.seq_nx, RS.seq_ret, RS.seq_exc, RS.seq_brk, RS.seq_ct, RS.seq_stuck, RE.bindA_exc, RE.bindA_stuck, RE.bindS_stuck, RE.bindT_exc, RE.bindT_stuck, RE.bindTS_exc, RE.bindTS_stuck, RA.bind_exc, RA.bind_stuck, RA.bindA_exc, RA.bindA_stuck, RE.nox_stuck, bind_ite, bindA_ite, bindS_ite, bindT_ite, bindTS_ite, nox_ite, seq_ite, startR, tyA_non, tyA_bl, tyA_int, tyA_str, tyA_tup, List.map_cons, List.map_nil, List.length_cons, List.length_nil, List.cons_append, List.nil_append, List.append_nil, List.getElem?_cons_zero, List.getElem?_cons_succ, List.set_cons_zero, List.set_cons_succ, vIx_t0, vIx_t1, vIx_t2, vIx_t3, vIx_t4, vIx_t5, vEq_ss, vEq_ii, vEq_bb, vNe_ss, vNe_ii, vNe_bb, vLen_tup, truA_tup, truA_bl, vLe_ii, vLt_ii, vGt_ii, vGe_ii, vSub_ii, vAdd_ii, vAddI_ii, vNeg_i, isT_ss, isT_tt, isT_ii, isT_bi, isT_bb, isT_ib, isDeedW]
    | cons y r =>
      replace hk := good_tup.mp hk
      obtain ⟨ty, hty⟩ := kn_some (good_kn (hk y (by simp)))
      cases y
      case ob n =>
        obtain ⟨h1, h2, h3, h4⟩ := isi_ob hty
        simp [q_is_deed, gVar, gC, gOp, gUn, gAnd, gOr, gNot, gIf, gNil, gCons, gTup, gLst, gCB, gChain, gSet, gExpr, gRet, gRetN, gPass, gBrk, gCt, gRaise, gIfS, gSeq, nName, nTup, setAll, gAsg, gCall, gTru, gNotT, gIsi, RE.bind_ok, RE.bind_exc, RE.bind_stuck, RE.bindA_ok, RE.bindS_ok, RE.bindS_exc, RE.bindT_ok, RE.bindTS_ok, RA.bind_ok, RA.bindA_ok, RE.nox_ok, RS.seq_nx, RS.seq_ret, RS.seq_exc, RS.seq_brk, RS.seq_ct, RS.seq_stuck, RE.bindA_exc, RE.bindA_stuck, RE.bindS_stuck, RE.bindT_exc, RE.bindT_stuck, RE.bindTS_exc, RE.bindTS_stuck, RA.bind_exc, RA.bind_stuck, RA.bindA_exc, RA.bindA_stuck, RE.nox_stuck, bind_ite, bindA_ite, bindS_ite, bindT_ite, bindTS_ite, nox_ite, seq_ite, startR, tyA_non, tyA_bl, tyA_int, tyA_str, tyA_tup, List.map_cons, List.map_nil, List.length_cons, List.length_nil, List.cons_append, List.nil_append, List.append_nil, List.getElem?_cons_zero, List.getElem?_cons_succ, List.set_cons_zero, List.set_cons_succ, vIx_t0, vIx_t1, vIx_t2, vIx_t3, vIx_t4, vIx_t5, vEq_ss, vEq_ii, vEq_bb, vNe_ss, vNe_ii, vNe_bb, vLen_tup, truA_tup, truA_bl, vLe_ii, vLt_ii, vGt_ii, vGe_ii, vSub_ii, vAdd_ii, vAddI_ii, vNeg_i, isT_ss, isT_tt, isT_ii, isT_bi, isT_bb, isT_ib, hty, h3, isDeedW]
      case str s =>
        have c1 : (("stop" : Str) = s) = (s = "stop") := propext eq_comm
        have c2 : (("done" : Str) = s) = (s = "done") := propext eq_comm
        by_cases h1 : s = "stop" ∨ s = "done"
        · cases r <;> simp [q_is_deed, gVar, gC, gOp, gUn, gAnd, gOr, gNot, gIf, gNil, gCons, gTup, gLst, gCB, gChain, gSet, gExpr, gRet, gRetN, gPass, gBrk, gCt, gRaise, gIfS, gSeq, nName, nTup, setAll, gAsg, gCall, gTru, gNotT, gIsi, RE.bind_ok, RE.bind_exc, RE.bind_stuck, RE.bindA_ok, RE.bindS_ok, RE.bindS_exc, RE.bindT_ok, RE.bindTS_ok, RA.bind_ok, RA.bindA_ok, RE.nox_ok, RS.seq_nx, RS.seq_ret, RS.seq_exc, RS.seq_brk, RS.seq_ct, RS.seq_stuck, RE.bindA_exc, RE.bindA_stuck, RE.bindS_stuck, RE.bindT_exc, RE.bindT_stuck, RE.bindTS_exc, RE.bindTS_stuck, RA.bind_exc, RA.bind_stuck, RA.bindA_exc, RA.bindA_stuck, RE.nox_stuck, bind_ite, bindA_ite, bindS_ite, bindT_ite, bindTS_ite, nox_ite, seq_ite, startR, tyA_non, tyA_bl, tyA_int, tyA_str, tyA_tup, List.map_cons, List.map_nil, List.length_cons, List.length_nil, List.cons_append, List.nil_append, List.append_nil, List.getElem?_cons_zero, List.getElem?_cons_succ, List.set_cons_zero, List.set_cons_succ, vIx_t0, vIx_t1, vIx_t2, vIx_t3, vIx_t4, vIx_t5, vEq_ss, vEq_ii, vEq_bb, vNe_ss, vNe_ii, vNe_bb, vLen_tup, truA_tup, truA_bl, vLe_ii, vLt_ii, vGt_ii, vGe_ii, vSub_ii, vAdd_ii, vAddI_ii, vNeg_i, isT_ss, isT_tt, isT_ii, isT_bi, isT_bb, isT_ib, vIn, seqOf, flatA, inF, eqF, c1, c2, h1, isDeedW]
          omega
        · by_cases h2 : s = "tell"
          · subst h2
            match r, hk with
            | [], _ => simp [q_is_deed, gVar, gC, gOp, gUn, gAnd, gOr, gNot, gIf, gNil, gCons, gTup, gLst, gCB, gChain, gSet, gExpr, gRet, gRetN, gPass, gBrk, gCt, gRaise, gIfS, gSeq, nName, nTup, setAll, gAsg, gCall, gTru, gNotT, gIsi, RE.bind_ok, RE.bind_exc, RE.bind_stuck, RE.bindA_ok, RE.bindS_ok, RE.bindS_exc, RE.bindT_ok, RE.bindTS_ok, RA.bind_ok, RA.bindA_ok, RE.nox_ok, RS.seq_nx, RS.seq_ret, RS.seq_exc, RS.seq_brk, RS.seq_ct, RS.seq_stuck, RE.bindA_exc, RE.bindA_stuck, RE.bindS_stuck, RE.bindT_exc, RE.bindT_stuck, RE.bindTS_exc, RE.bindTS_stuck, RA.bind_exc, RA.bind_stuck, RA.bindA_exc, RA.bindA_stuck, RE.nox_stuck, bind_ite, bindA_ite, bindS_ite, bindT_ite, bindTS_ite, nox_ite, seq_ite, startR, tyA_non, tyA_bl, tyA_int, tyA_str, tyA_tup, List.map_cons, List.map_nil, List.length_cons, List.length_nil, List.cons_append, List.nil_append, List.append_nil, List.getElem?_cons_zero, List.getElem?_cons_succ, List.set_cons_zero, List.set_cons_succ, vIx_t0, vIx_t1, vIx_t2, vIx_t3, vIx_t4, vIx_t5, vEq_ss, vEq_ii, vEq_bb, vNe_ss, vNe_ii, vNe_bb, vLen_tup, truA_tup, truA_bl, vLe_ii, vLt_ii, vGt_ii, vGe_ii, vSub_ii, vAdd_ii, vAddI_ii, vNeg_i, isT_ss, isT_tt, isT_ii, isT_bi, isT_bb, isT_ib, vIn, seqOf, flatA, inF, eqF, c1, c2, h1, isDeedW]
            | [a], _ => simp [q_is_deed, gVar, gC, gOp, gUn, gAnd, gOr, gNot, gIf, gNil, gCons, gTup, gLst, gCB, gChain, gSet, gExpr, gRet, gRetN, gPass, gBrk, gCt, gRaise, gIfS, gSeq, nName, nTup, setAll, gAsg, gCall, gTru, gNotT, gIsi, RE.bind_ok, RE.bind_exc, RE.bind_stuck, RE.bindA_ok, RE.bindS_ok, RE.bindS_exc, RE.bindT_ok, RE.bindTS_ok, RA.bind_ok, RA.bindA_ok, RE.nox_ok, RS.seq_nx, RS.seq_ret, RS.seq_exc, RS.seq_brk, RS.seq_ct, RS.seq_stuck, RE.bindA_exc, RE.bindA_stuck, RE.bindS_stuck, RE.bindT_exc, RE.bindT_stuck, RE.bindTS_exc, RE.bindTS_stuck, RA.bind_exc, RA.bind_stuck, RA.bindA_exc, RA.bindA_stuck, RE.nox_stuck, bind_ite, bindA_ite, bindS_ite, bindT_ite, bindTS_ite, nox_ite, seq_ite, startR, tyA_non, tyA_bl, tyA_int, tyA_str, tyA_tup, List.map_cons, List.map_nil, List.length_cons, List.length_nil, List.cons_append, List.nil_append, List.append_nil, List.getElem?_cons_zero, List.getElem?_cons_succ, List.set_cons_zero, List.set_cons_succ, vIx_t0, vIx_t1, vIx_t2, vIx_t3, vIx_t4, vIx_t5, vEq_ss, vEq_ii, vEq_bb, vNe_ss, vNe_ii, vNe_bb, vLen_tup, truA_tup, truA_bl, vLe_ii, vLt_ii, vGt_ii, vGe_ii, vSub_ii, vAdd_ii, vAddI_ii, vNeg_i, isT_ss, isT_tt, isT_ii, isT_bi, isT_bb, isT_ib, vIn, seqOf, flatA, inF, eqF, c1, c2, h1, isDeedW]
            | [a, b], hk =>
              have g1 := hk a (by simp)
              have g2 := good_kn (hk b (by simp))
              cases hw : isWord a <;> simp [q_is_deed, gVar, gC, gOp, gUn, gAnd, gOr, gNot, gIf, gNil, gCons, gTup, gLst, gCB, gChain, gSet, gExpr, gRet, gRetN, gPass, gBrk, gCt, gRaise, gIfS, gSeq, nName, nTup, setAll, gAsg, gCall, gTru, gNotT, gIsi, RE.bind_ok, RE.bind_exc, RE.bind_stuck, RE.bindA_ok, RE.bindS_ok, RE.bindS_exc, RE.bindT_ok, RE.bindTS_ok, RA.bind_ok, RA.bindA_ok, RE.nox_ok, RS.seq_nx, RS.seq_ret, RS.seq_exc, RS.seq_brk, RS.seq_ct, RS.seq_stuck, RE.bindA_exc, RE.bindA_stuck, RE.bindS_stuck, RE.bindT_exc, RE.bindT_stuck, RE.bindTS_exc, RE.bindTS_stuck, RA.bind_exc, RA.bind_stuck, RA.bindA_exc, RA.bindA_stuck, RE.nox_stuck, bind_ite, bindA_ite, bindS_ite, bindT_ite, bindTS_ite, nox_ite, seq_ite, startR, tyA_non, tyA_bl, tyA_int, tyA_str, tyA_tup, List.map_cons, List.map_nil, List.length_cons, List.length_nil, List.cons_append, List.nil_append, List.append_nil, List.getElem?_cons_zero, List.getElem?_cons_succ, List.set_cons_zero, List.set_cons_succ, vIx_t0, vIx_t1, vIx_t2, vIx_t3, vIx_t4, vIx_t5, vEq_ss, vEq_ii, vEq_bb, vNe_ss, vNe_ii, vNe_bb, vLen_tup, truA_tup, truA_bl, vLe_ii, vLt_ii, vGt_ii, vGe_ii, vSub_ii, vAdd_ii, vAddI_ii, vNeg_i, isT_ss, isT_tt, isT_ii, isT_bi, isT_bb, isT_ib, vIn, seqOf, flatA, inF, eqF, c1, c2, h1, isDeedW, F_is_word, F_is_value, g1, g2, hw]
            | a :: b :: c :: r4, _ =>
              have e : ¬ ((r4.length : Int) + 1 + 1 + 1 + 1 = 3) := by omega
              simp [q_is_deed, gVar, gC, gOp, gUn, gAnd, gOr, gNot, gIf, gNil, gCons, gTup, gLst, gCB, gChain, gSet, gExpr, gRet, gRetN, gPass, gBrk, gCt, gRaise, gIfS, gSeq, nName, nTup, setAll, gAsg, gCall, gTru, gNotT, gIsi, RE.bind_ok, RE.bind_exc, RE.bind_stuck, RE.bindA_ok, RE.bindS_ok, RE.bindS_exc, RE.bindT_ok, RE.bindTS_ok, RA.bind_ok, RA.bindA_ok, RE.nox_ok, RS.seq_nx, RS.seq_ret, RS.seq_exc, RS.seq_brk, RS.seq_ct, RS.seq_stuck, RE.bindA_exc, RE.bindA_stuck, RE.bindS_stuck, RE.bindT_exc, RE.bindT_stuck, RE.bindTS_exc, RE.bindTS_stuck, RA.bind_exc, RA.bind_stuck, RA.bindA_exc, RA.bindA_stuck, RE.nox_stuck, bind_ite, bindA_ite, bindS_ite, bindT_ite, bindTS_ite, nox_ite, seq_ite, startR, tyA_non, tyA_bl, tyA_int, tyA_str, tyA_tup, List.map_cons, List.map_nil, List.length_cons, List.length_nil, List.cons_append, List.nil_append, List.append_nil, List.getElem?_cons_zero, List.getElem?_cons_succ, List.set_cons_zero, List.set_cons_succ, vIx_t0, vIx_t1, vIx_t2, vIx_t3, vIx_t4, vIx_t5, vEq_ss, vEq_ii, vEq_bb, vNe_ss, vNe_ii, vNe_bb, vLen_tup, truA_tup, truA_bl, vLe_ii, vLt_ii, vGt_ii, vGe_ii, vSub_ii, vAdd_ii, vAddI_ii, vNeg_i, isT_ss, isT_tt, isT_ii, isT_bi, isT_bb, isT_ib, vIn, seqOf, flatA, inF, eqF, c1, c2, h1, isDeedW, e]
          · by_cases h3 : s = "leave"
            · subst h3
              match r, hk with
              | [], _ => simp [q_is_deed, gVar, gC, gOp, gUn, gAnd, gOr, gNot, gIf, gNil, gCons, gTup, gLst, gCB, gChain, gSet, gExpr, gRet, gRetN, gPass, gBrk, gCt, gRaise, gIfS, gSeq, nName, nTup, setAll, gAsg, gCall, gTru, gNotT, gIsi, RE.bind_ok, RE.bind_exc, RE.bind_stuck, RE.bindA_ok, RE.bindS_ok, RE.bindS_exc, RE.bindT_ok, RE.bindTS_ok, RA.bind_ok, RA.bindA_ok, RE.nox_ok, RS.seq_nx, RS.seq_ret, RS.seq_exc, RS.seq_brk, RS.seq_ct, RS.seq_stuck, RE.bindA_exc, RE.bindA_stuck, RE.bindS_stuck, RE.bindT_exc, RE.bindT_stuck, RE.bindTS_exc, RE.bindTS_stuck, RA.bind_exc, RA.bind_stuck, RA.bindA_exc, RA.bindA_stuck, RE.nox_stuck, bind_ite, bindA_ite, bindS_ite, bindT_ite, bindTS_ite, nox_ite, seq_ite, startR, tyA_non, tyA_bl, tyA_int, tyA_str, tyA_tup, List.map_cons, List.map_nil, List.length_cons, List.length_nil, List.cons_append, List.nil_append, List.append_nil, List.getElem?_cons_zero, List.getElem?_cons_succ, List.set_cons_zero, List.set_cons_succ, vIx_t0, vIx_t1, vIx_t2, vIx_t3, vIx_t4, vIx_t5, vEq_ss, vEq_ii, vEq_bb, vNe_ss, vNe_ii, vNe_bb, vLen_tup, truA_tup, truA_bl, vLe_ii, vLt_ii, vGt_ii, vGe_ii, vSub_ii, vAdd_ii, vAddI_ii, vNeg_i, isT_ss, isT_tt, isT_ii, isT_bi, isT_bb, isT_ib, vIn, seqOf, flatA, inF, eqF, c1, c2, h1, h2, isDeedW]
              | [a], hk =>
                have g1 := hk a (by simp)
                simp [q_is_deed, gVar, gC, gOp, gUn, gAnd, gOr, gNot, gIf, gNil, gCons, gTup, gLst, gCB, gChain, gSet, gExpr, gRet, gRetN, gPass, gBrk, gCt, gRaise, gIfS, gSeq, nName, nTup, setAll, gAsg, gCall, gTru, gNotT, gIsi, RE.bind_ok, RE.bind_exc, RE.bind_stuck, RE.bindA_ok, RE.bindS_ok, RE.bindS_exc, RE.bindT_ok, RE.bindTS_ok, RA.bind_ok, RA.bindA_ok, RE.nox_ok, RS.seq_nx, RS.seq_ret, RS.seq_exc, RS.seq_brk, RS.seq_ct, RS.seq_stuck, RE.bindA_exc, RE.bindA_stuck, RE.bindS_stuck, RE.bindT_exc, RE.bindT_stuck, RE.bindTS_exc, RE.bindTS_stuck, RA.bind_exc, RA.bind_stuck, RA.bindA_exc, RA.bindA_stuck, RE.nox_stuck, bind_ite, bindA_ite, bindS_ite, bindT_ite, bindTS_ite, nox_ite, seq_ite, startR, tyA_non, tyA_bl, tyA_int, tyA_str, tyA_tup, List.map_cons, List.map_nil, List.length_cons, List.length_nil, List.cons_append, List.nil_append, List.append_nil, List.getElem?_cons_zero, List.getElem?_cons_succ, List.set_cons_zero, List.set_cons_succ, vIx_t0, vIx_t1, vIx_t2, vIx_t3, vIx_t4, vIx_t5, vEq_ss, vEq_ii, vEq_bb, vNe_ss, vNe_ii, vNe_bb, vLen_tup, truA_tup, truA_bl, vLe_ii, vLt_ii, vGt_ii, vGe_ii, vSub_ii, vAdd_ii, vAddI_ii, vNeg_i, isT_ss, isT_tt, isT_ii, isT_bi, isT_bb, isT_ib, vIn, seqOf, flatA, inF, eqF, c1, c2, h1, h2, isDeedW, F_is_word, g1]
              | a :: c :: r4, _ =>
                have e : ¬ ((r4.length : Int) + 1 + 1 + 1 = 2) := by omega
                simp [q_is_deed, gVar, gC, gOp, gUn, gAnd, gOr, gNot, gIf, gNil, gCons, gTup, gLst, gCB, gChain, gSet, gExpr, gRet, gRetN, gPass, gBrk, gCt, gRaise, gIfS, gSeq, nName, nTup, setAll, gAsg, gCall, gTru, gNotT, gIsi, RE.bind_ok, RE.bind_exc, RE.bind_stuck, RE.bindA_ok, RE.bindS_ok, RE.bindS_exc, RE.bindT_ok, RE.bindTS_ok, RA.bind_ok, RA.bindA_ok, RE.nox_ok, RS.seq_nx, RS.seq_ret, RS.seq_exc, RS.seq_brk, RS.seq_ct, RS.seq_stuck, RE.bindA_exc, RE.bindA_stuck, RE.bindS_stuck, RE.bindT_exc, RE.bindT_stuck, RE.bindTS_exc, RE.bindTS_stuck, RA.bind_exc, RA.bind_stuck, RA.bindA_exc, RA.bindA_stuck, RE.nox_stuck, bind_ite, bindA_ite, bindS_ite, bindT_ite, bindTS_ite, nox_ite, seq_ite, startR, tyA_non, tyA_bl, tyA_int, tyA_str, tyA_tup, List.map_cons, List.map_nil, List.length_cons, List.length_nil, List.cons_append, List.nil_append, List.append_nil, List.getElem?_cons_zero, List.getElem?_cons_succ, List.set_cons_zero, List.set_cons_succ, vIx_t0, vIx_t1, vIx_t2, vIx_t3, vIx_t4, vIx_t5, vEq_ss, vEq_ii, vEq_bb, vNe_ss, vNe_ii, vNe_bb, vLen_tup, truA_tup, truA_bl, vLe_ii, vLt_ii, vGt_ii, vGe_ii, vSub_ii, vAdd_ii, vAddI_ii, vNeg_i, isT_ss, isT_tt, isT_ii, isT_bi, isT_bb, isT_ib, vIn, seqOf, flatA, inF, eqF, c1, c2, h1, h2, isDeedW, e]
            · by_cases h4 : s = "join"
              · subst h4
                match r, hk with
                | [], _ => simp [q_is_deed, gVar, gC, gOp, gUn, gAnd, gOr, gNot, gIf, gNil, gCons, gTup, gLst, gCB, gChain, gSet, gExpr, gRet, gRetN, gPass, gBrk, gCt, gRaise, gIfS, gSeq, nName, nTup, setAll, gAsg, gCall, gTru, gNotT, gIsi, RE.bind_ok, RE.bind_exc, RE.bind_stuck, RE.bindA_ok, RE.bindS_ok, RE.bindS_exc, RE.bindT_ok, RE.bindTS_ok, RA.bind_ok, RA.bindA_ok, RE.nox_ok, RS.seq_nx, RS.seq_ret, RS.seq_exc, RS.seq_brk, RS.seq_ct, RS.seq_stuck, RE.bindA_exc, RE.bindA_stuck, RE.bindS_stuck, RE.bindT_exc, RE.bindT_stuck, RE.bindTS_exc, RE.bindTS_stuck, RA.bind_exc, RA.bind_stuck, RA.bindA_exc, RA.bindA_stuck, RE.nox_stuck, bind_ite, bindA_ite, bindS_ite, bindT_ite, bindTS_ite, nox_ite, seq_ite, startR, tyA_non, tyA_bl, tyA_int, tyA_str, tyA_tup, List.map_cons, List.map_nil, List.length_cons, List.length_nil, List.cons_append, List.nil_append, List.append_nil, List.getElem?_cons_zero, List.getElem?_cons_succ, List.set_cons_zero, List.set_cons_succ, vIx_t0, vIx_t1, vIx_t2, vIx_t3, vIx_t4, vIx_t5, vEq_ss, vEq_ii, vEq_bb, vNe_ss, vNe_ii, vNe_bb, vLen_tup, truA_tup, truA_bl, vLe_ii, vLt_ii, vGt_ii, vGe_ii, vSub_ii, vAdd_ii, vAddI_ii, vNeg_i, isT_ss, isT_tt, isT_ii, isT_bi, isT_bb, isT_ib, vIn, seqOf, flatA, inF, eqF, c1, c2, h1, h2, h3, isDeedW]
                | [a], hk =>
                  have g1 := hk a (by simp)
                  simp [q_is_deed, gVar, gC, gOp, gUn, gAnd, gOr, gNot, gIf, gNil, gCons, gTup, gLst, gCB, gChain, gSet, gExpr, gRet, gRetN, gPass, gBrk, gCt, gRaise, gIfS, gSeq, nName, nTup, setAll, gAsg, gCall, gTru, gNotT, gIsi, RE.bind_ok, RE.bind_exc, RE.bind_stuck, RE.bindA_ok, RE.bindS_ok, RE.bindS_exc, RE.bindT_ok, RE.bindTS_ok, RA.bind_ok, RA.bindA_ok, RE.nox_ok, RS.seq_nx, RS.seq_ret, RS.seq_exc, RS.seq_brk, RS.seq_ct, RS.seq_stuck, RE.bindA_exc, RE.bindA_stuck, RE.bindS_stuck, RE.bindT_exc, RE.bindT_stuck, RE.bindTS_exc, RE.bindTS_stuck, RA.bind_exc, RA.bind_stuck, RA.bindA_exc, RA.bindA_stuck, RE.nox_stuck, bind_ite, bindA_ite, bindS_ite, bindT_ite, bindTS_ite, nox_ite, seq_ite, startR, tyA_non, tyA_bl, tyA_int, tyA_str, tyA_tup, List.map_cons, List.map_nil, List.length_cons, List.length_nil, List.cons_append, List.nil_append, List.append_nil, List.getElem?_cons_zero, List.getElem?_cons_succ, List.set_cons_zero, List.set_cons_succ, vIx_t0, vIx_t1, vIx_t2, vIx_t3, vIx_t4, vIx_t5, vEq_ss, vEq_ii, vEq_bb, vNe_ss, vNe_ii, vNe_bb, vLen_tup, truA_tup, truA_bl, vLe_ii, vLt_ii, vGt_ii, vGe_ii, vSub_ii, vAdd_ii, vAddI_ii, vNeg_i, isT_ss, isT_tt, isT_ii, isT_bi, isT_bb, isT_ib, vIn, seqOf, flatA, inF, eqF, c1, c2, h1, h2, h3, isDeedW, hF a g1]
                | a :: c :: r4, _ =>
                  have e : ¬ ((r4.length : Int) + 1 + 1 + 1 = 2) := by omega
                  simp [q_is_deed, gVar, gC, gOp, gUn, gAnd, gOr, gNot, gIf, gNil, gCons, gTup, gLst, gCB, gChain, gSet, gExpr, gRet, gRetN, gPass, gBrk, gCt, gRaise, gIfS, gSeq, nName, nTup, setAll, gAsg, gCall, gTru, gNotT, gIsi, RE.bind_ok, RE.bind_exc, RE.bind_stuck, RE.bindA_ok, RE.bindS_ok, RE.bindS_exc, RE.bindT_ok, RE.bindTS_ok, RA.bind_ok, RA.bindA_ok, RE.nox_ok, RS.seq_nx, RS.seq_ret, RS.seq_exc, RS.seq_brk, RS.seq_ct, RS.seq_stuck, RE.bindA_exc, RE.bindA_stuck, RE.bindS_stuck, RE.bindT_exc, RE.bindT_stuck, RE.bindTS_exc, RE.bindTS_stuck, RA.bind_exc, RA.bind_stuck, RA.bindA_exc, RA.bindA_stuck, RE.nox_stuck, bind_ite, bindA_ite, bindS_ite, bindT_ite, bindTS_ite, nox_ite, seq_ite, startR, tyA_non, tyA_bl, tyA_int, tyA_str, tyA_tup, List.map_cons, List.map_nil, List.length_cons, List.length_nil, List.cons_append, List.nil_append, List.append_nil, List.getElem?_cons_zero, List.getElem?_cons_succ, List.set_cons_zero, List.set_cons_succ, vIx_t0, vIx_t1, vIx_t2, vIx_t3, vIx_t4, vIx_t5, vEq_ss, vEq_ii, vEq_bb, vNe_ss, vNe_ii, vNe_bb, vLen_tup, truA_tup, truA_bl, vLe_ii, vLt_ii, vGt_ii, vGe_ii, vSub_ii, vAdd_ii, vAddI_ii, vNeg_i, isT_ss, isT_tt, isT_ii, isT_bi, isT_bb, isT_ib, vIn, seqOf, flatA, inF, eqF, c1, c2, h1, h2, h3, isDeedW, e]
              · simp [q_is_deed, gVar, gC, gOp, gUn, gAnd, gOr, gNot, gIf, gNil, gCons, gTup, gLst, gCB, gChain, gSet, gExpr, gRet, gRetN, gPass, gBrk, gCt, gRaise, gIfS, gSeq, nName, nTup, setAll, gAsg, gCall, gTru, gNotT, gIsi, RE.bind_ok, RE.bind_exc, RE.bind_stuck, RE.bindA_ok, RE.bindS_ok, RE.bindS_exc, RE.bindT_ok, RE.bindTS_ok, RA.bind_ok, RA.bindA_ok, RE.nox_ok, RS.seq_nx, RS.seq_ret, RS.seq_exc, RS.seq_brk, RS.seq_ct, RS.seq_stuck, RE.bindA_exc, RE.bindA_stuck, RE.bindS_stuck, RE.bindT_exc, RE.bindT_stuck, RE.bindTS_exc, RE.bindTS_stuck, RA.bind_exc, RA.bind_stuck, RA.bindA_exc, RA.bindA_stuck, RE.nox_stuck, bind_ite, bindA_ite, bindS_ite, bindT_ite, bindTS_ite, nox_ite, seq_ite, startR, tyA_non, tyA_bl, tyA_int, tyA_str, tyA_tup, List.map_cons, List.map_nil, List.length_cons, List.length_nil, List.cons_append, List.nil_append, List.append_nil, List.getElem?_cons_zero, List.getElem?_cons_succ, List.set_cons_zero, List.set_cons_succ, vIx_t0, vIx_t1, vIx_t2, vIx_t3, vIx_t4, vIx_t5, vEq_ss, vEq_ii, vEq_bb, vNe_ss, vNe_ii, vNe_bb, vLen_tup, truA_tup, truA_bl, vLe_ii, vLt_ii, vGt_ii, vGe_ii, vSub_ii, vAdd_ii, vAddI_ii, vNeg_i, isT_ss, isT_tt, isT_ii, isT_bi, isT_bb, isT_ib, vIn, seqOf, flatA, inF, eqF, c1, c2, h1, h2, h3, h4, isDeedW]
      all_goals simp [q_is_deed, gVar, gC, gOp, gUn, gAnd, gOr, gNot, gIf, gNil, gCons, gTup, gLst, gCB, gChain, gSet, gExpr, gRet, gRetN, gPass, gBrk, gCt, gRaise, gIfS, gSeq, nName, nTup, setAll, gAsg, gCall, gTru, gNotT, gIsi, RE.bind_ok, RE.bind_exc, RE.bind_stuck, RE.bindA_ok, RE.bindS_ok, RE.bindS_exc, RE.bindT_ok, RE.bindTS_ok, RA.bind_ok, RA.bindA_ok, RE.nox_ok, RS.seq_nx, RS.seq_ret, RS.seq_exc, RS.seq_brk, RS.seq_ct, RS.seq_stuck, RE.bindA_exc, RE.bindA_stuck, RE.bindS_stuck, RE.bindT_exc, RE.bindT_stuck, RE.bindTS_exc, RE.bindTS_stuck, RA.bind_exc, RA.bind_stuck, RA.bindA_exc, RA.bindA_stuck, RE.nox_stuck, bind_ite, bindA_ite, bindS_ite, bindT_ite, bindTS_ite, nox_ite, seq_ite, startR, tyA_non, tyA_bl, tyA_int, tyA_str, tyA_tup, List.map_cons, List.map_nil, List.length_cons, List.length_nil, List.cons_append, List.nil_append, List.append_nil, List.getElem?_cons_zero, List.getElem?_cons_succ, List.set_cons_zero, List.set_cons_succ, vIx_t0, vIx_t1, vIx_t2, vIx_t3, vIx_t4, vIx_t5, vEq_ss, vEq_ii, vEq_bb, vNe_ss, vNe_ii, vNe_bb, vLen_tup, truA_tup, truA_bl, vLe_ii, vLt_ii, vGt_ii, vGe_ii, vSub_ii, vAdd_ii, vAddI_ii, vNeg_i, isT_ss, isT_tt, isT_ii, isT_bi, isT_bb, isT_ib, isDeedW, isT]
  all_goals simp [q_is_deed, gVar, gC, gOp, gUn, gAnd, gOr, gNot, gIf, gNil, gCons, gTup, gLst, gCB, gChain, gSet, gExpr, gRet, gRetN, gPass, gBrk, gCt, gRaise, gIfS, gSeq, nName, nTup, setAll, gAsg, gCall, gTru, gNotT, gIsi, RE.bind_ok, RE.bind_exc, RE.bind_stuck, RE.bindA_ok, RE.bindS_ok, RE.bindS_exc, RE.bindT_ok, RE.bindTS_ok, RA.bind_ok, RA.bindA_ok, RE.nox_ok, RS.seq_nx, RS.seq_ret, RS.seq_exc, RS.seq_brk, RS.seq_ct, RS.seq_stuck, RE.bindA_exc, RE.bindA_stuck, RE.bindS_stuck, RE.bindT_exc, RE.bindT_stuck, RE.bindTS_exc, RE.bindTS_stuck, RA.bind_exc, RA.bind_stuck, RA.bindA_exc, RA.bindA_stuck, RE.nox_stuck, bind_ite, bindA_ite, bindS_ite, bindT_ite, bindTS_ite, nox_ite, seq_ite, startR, tyA_non, tyA_bl, tyA_int, tyA_str, tyA_tup, List.map_cons, List.map_nil, List.length_cons, List.length_nil, List.cons_append, List.nil_append, List.append_nil, List.getElem?_cons_zero, List.getElem?_cons_succ, List.set_cons_zero, List.set_cons_succ, vIx_t0, vIx_t1, vIx_t2, vIx_t3, vIx_t4, vIx_t5, vEq_ss, vEq_ii, vEq_bb, vNe_ss, vNe_ii, vNe_bb, vLen_tup, truA_tup, truA_bl, vLe_ii, vLt_ii, vGt_ii, vGe_ii, vSub_ii, vAdd_ii, vAddI_ii, vNeg_i, isT_ss, isT_tt, isT_ii, isT_bi, isT_bb, isT_ib, isDeedW, isT]
theorem ok_is_deed_of (t : Hd.Tx K mg) {n d : Nat} (hd : 2 ≤ d) (okh : FnR P w K mg base d (He.ga K "is_hearer_so") t.f_is_hearer_so P_is_hearer_so (spF K (tbs K) (F_is_hearer_so n K))) : FnR P w K mg base (d + 1) (He.ga K "is_deed") t.f_is_deed P_is_deed (spF K (tbs K) (F_is_deed n K)) := by
  refine fnF t.D_is_deed sc_is_deed (fun l S h => by unfold F_is_deed at h; split at h <;> first | rfl | exact absurd rfl h) (q_is_deed K (F_is_hearer_so n K)) (fun cdv A outer s H E hr => sb_is_deed t okh hd (Nat.le_refl d) hr) fun l S b bl h => ?_
  unfold F_is_deed at h ⊢
  split at h
  rotate_left
  · exact absurd rfl h
  rename_i x deep
  by_cases hk : good S x = true ∧ 0 ≤ deep ∧ deep ≤ (n : Int)
  rotate_left
  · exact absurd (if_neg hk) h
  rw [if_pos hk, e_is_deed hk.1 (fun a ha => if_pos ⟨ha, hk.2⟩)]
  exact fitP b (.bl _)
def q_is_hearer_so_0 (K : Frg) (Fd : List A → Sto → RE) : GS :=
  gIfS (gOr (gOp vEq (gVar 1) (gC (.int 0))) (gOr (gNot (gIsi "tuple" (gVar 0))) (gOp vNe (gCB vLen (gCons (gVar 0) (gNil))) (gC (.int 6))))) (gRet (gC (.bl false))) (gPass)
def q_is_hearer_so_1 (K : Frg) (Fd : List A → Sto → RE) : GS :=
  gAsg (gVar 0) (nTup [2, 3, 4, 5, 6, 7])
def q_is_hearer_so_2 (K : Frg) (Fd : List A → Sto → RE) : GS :=
  gIfS (gOr (gNot (gCall (F_is_word K) (gCons (gVar 2) (gNil)))) (gOr (gNot (gCall (F_is_word K) (gCons (gVar 3) (gNil)))) (gNot (gCall (F_is_within K) (gCons (gVar 4) (gCons (gC (.int 0)) (gCons (gC (.int 9)) (gNil)))))))) (gRet (gC (.bl false))) (gPass)
def q_is_hearer_so_3 (K : Frg) (Fd : List A → Sto → RE) : GS :=
  gIfS (gOr (gNot (gIsi "str" (gVar 5))) (gOr (gOp vNotIn (gVar 5) (gC (.tup [.str "always", .str "once"]))) (gNot (gCall (F_is_test K) (gCons (gVar 6) (gNil)))))) (gRet (gC (.bl false))) (gPass)
def q_is_hearer_so_4 (K : Frg) (Fd : List A → Sto → RE) : GS :=
  gIfS (gOr (gNot (gIsi "tuple" (gVar 7))) (gOp vGt (gCB vLen (gCons (gVar 7) (gNil))) (gC (.int 3)))) (gRet (gC (.bl false))) (gPass)
def q_is_hearer_so_5 (K : Frg) (Fd : List A → Sto → RE) : GS :=
  gRet (gNotT (gLc (gIT (gVar 7)) (nName 8) (gNot (gCall (Fd) (gCons (gVar 8) (gCons (gOp vSub (gVar 1) (gC (.int 1))) (gNil))))) (gVar 8) [8]))
def q_is_hearer_so (K : Frg) (Fd : List A → Sto → RE) : GS :=
  gSeq (q_is_hearer_so_0 K Fd) (gSeq (q_is_hearer_so_1 K Fd) (gSeq (q_is_hearer_so_2 K Fd) (gSeq (q_is_hearer_so_3 K Fd) (gSeq (q_is_hearer_so_4 K Fd) (q_is_hearer_so_5 K Fd)))))
theorem sb_is_hearer_so {P : Program} {w : World} {K : Frg} {mg : Str → Option Value} {base : Heap} (t : Hd.Tx K mg) {d dd : Nat} {Fd : List A → Sto → RE} (okd : FnR P w K mg base dd (He.ga K "is_deed") t.f_is_deed P_is_deed (spF K (tbs K) Fd)) (hd : 3 ≤ d) (hdd : dd ≤ d) {cdv : Value} {A : Around} {outer : List Env} {s : Shared} {H : Hp} {E : XK} (hr : Rm d (A.deeper (envOfC "is_hearer_so" (defScope Hd.s_is_hearer_so) s.heap.objs.size (He.ga K "is_hearer_so") cdv))) :
    SB (cxOf (L2.CX P w) P w K mg base N_is_hearer_so "is_hearer_so" (defScope Hd.s_is_hearer_so) (He.ga K "is_hearer_so") cdv A outer s H E) (tbs K) (fun c d _ H2 => E c d H2) (defBody Hd.s_is_hearer_so) (q_is_hearer_so K Fd) := by
  have nd : N_is_hearer_so.Nodup := sc_is_hearer_so.nd
  have hp := passes_of (X := cxOf (L2.CX P w) P w K mg base N_is_hearer_so "is_hearer_so" (defScope Hd.s_is_hearer_so) (He.ga K "is_hearer_so") cdv A outer s H E) (K := fun e s2 => L2.CX P w outer H s E e s2) (E₁ := fun e s2 => L2.CX P w outer H s E e s2) rfl
  have tk : Takes (cxOf (L2.CX P w) P w K mg base N_is_hearer_so "is_hearer_so" (defScope Hd.s_is_hearer_so) (He.ga K "is_hearer_so") cdv A outer s H E) (fun c d _ H2 => E c d H2) := takes_of rfl rfl rfl rfl
  exact (sb_cons (ss_if (st_w (sw_or (st_cmp (os_eq hr.units) (se_var' (pv 1)) se_int (nomark _)) (sw_or (st_not (st_val (se_isi (by decide) (by decide +kernel) t.n_isinstance t.n_tuple (se_var' (pv 0))))) (sw_or1 (st_cmp (os_ne hr.units) (se_callB cs_len (by rfl) t.n_len (by decide +kernel) (sa_cons (se_var' (pv 0)) sa_nil)) se_int (nomark _)))))) (sb_one (ss_ret se_bl)) sb_nil)
  (sb_cons (ss_asg (se_var' (pv 0)) (sg_tup rfl (sgs_cons (i := 2) nd rfl (Or.inl rfl) (sgs_cons (i := 3) nd rfl (Or.inl rfl) (sgs_cons (i := 4) nd rfl (Or.inl rfl) (sgs_cons (i := 5) nd rfl (Or.inl rfl) (sgs_cons (i := 6) nd rfl (Or.inl rfl) (sgs_cons (i := 7) nd rfl (Or.inl rfl) sgs_nil))))))))
  (sb_cons (ss_if (st_w (sw_or (st_not (st_val (se_call (ok_is_word t) (hr.mono (by omega)) t.m_is_word t.D_is_word.kp (b_is_word t) tk (sa_cons (se_var' (pv 2)) sa_nil)))) (sw_or (st_not (st_val (se_call (ok_is_word t) (hr.mono (by omega)) t.m_is_word t.D_is_word.kp (b_is_word t) tk (sa_cons (se_var' (pv 3)) sa_nil)))) (sw_or1 (st_not (st_val (se_call (ok_is_within t) (hr.mono (by omega)) t.m_is_within t.D_is_within.kp (b_is_within t) tk (sa_cons (se_var' (pv 4)) (sa_cons se_int (sa_cons se_int sa_nil)))))))))) (sb_one (ss_ret se_bl)) sb_nil)
  (sb_cons (ss_if (st_w (sw_or (st_not (st_val (se_isi (by decide) (by decide +kernel) t.n_isinstance t.n_str (se_var' (pv 5))))) (sw_or (st_cmp os_notIn (se_var' (pv 5)) (se_c' (pe_glob (v := .ref (He.ga K "HOWS")) rfl t.m_HOWS rfl) (fun H _ => .tup (t.r_HOWS H) (.cons (.str _) (.cons (.str _) .nil)))) (by rfl)) (sw_or1 (st_not (st_val (se_call (ok_is_test t) (hr.mono (by omega)) t.m_is_test t.D_is_test.kp (b_is_test t) tk (sa_cons (se_var' (pv 6)) sa_nil)))))))) (sb_one (ss_ret se_bl)) sb_nil)
  (sb_cons (ss_if (st_w (sw_or (st_not (st_val (se_isi (by decide) (by decide +kernel) t.n_isinstance t.n_tuple (se_var' (pv 7))))) (sw_or1 (st_cmp os_gt (se_callB cs_len (by rfl) t.n_len (by decide +kernel) (sa_cons (se_var' (pv 7)) sa_nil)) (se_c' (pe_glob (v := .int 3) rfl t.m_MOST_DEEDS.choose_spec ⟨_, rfl⟩) (fun _ _ => .int _)) (nomark _))))) (sb_one (ss_ret se_bl)) sb_nil)
  (sb_one (ss_ret (se_notT (se_lc (own := [("deed", 8)]) rfl nd (si_tup (se_var' (pv 7))) (blkOk_by (own := [("deed", 8)]) (N := N_is_hearer_so) (sc := defScope Hd.s_is_hearer_so) (by decide +kernel)) (tg_name (by decide)) (fun _ _ _ _ _ => (pg_name (i := 8) nd rfl (Or.inl rfl))) (fun _ _ _ _ _ => (sts_one (st_not (st_val (se_call (okd) (hr.mono (by omega)) t.m_is_deed t.D_is_deed.kp (b_is_deed t) takes0 (sa_cons (se_var' (pv 8)) (sa_cons (se_op os_sub (se_var' (pv 1)) se_int) sa_nil))))))) (fun _ _ _ _ _ => (se_var' (pv 8))))))))))))

theorem e_is_hearer_so0 {x : A} {S : Sto} {Fd : List A → Sto → RE} : q_is_hearer_so K Fd (startR N_is_hearer_so.length [x, .int 0]) S = .ret (.bl false) S := by
  simp [q_is_hearer_so, q_is_hearer_so_0, gVar, gC, gOp, gUn, gAnd, gOr, gNot, gIf, gNil, gCons, gTup, gLst, gCB, gChain, gSet, gExpr, gRet, gRetN, gPass, gBrk, gCt, gRaise, gIfS, gSeq, nName, nTup, setAll, gAsg, gCall, gTru, gNotT, gIsi, RE.bind_ok, RE.bind_exc, RE.bind_stuck, RE.bindA_ok, RE.bindS_ok, RE.bindS_exc, RE.bindT_ok, RE.bindTS_ok, RA.bind_ok, RA.bindA_ok, RE.nox_ok, RS.seq_nx, RS.seq_ret, RS.seq_exc, RS.seq_brk, RS.seq_ct, RS.seq_stuck, RE.bindA_exc, RE.bindA_stuck, RE.bindS_stuck, RE.bindT_exc, RE.bindT_stuck, RE.bindTS_exc, RE.bindTS_stuck, RA.bind_exc, RA.bind_stuck, RA.bindA_exc, RA.bindA_stuck, RE.nox_stuck, bind_ite, bindA_ite, bindS_ite, bindT_ite, bindTS_ite, nox_ite, seq_ite, startR, tyA_non, tyA_bl, tyA_int, tyA_str, tyA_tup, List.map_cons, List.map_nil, List.length_cons, List.length_nil, List.cons_append, List.nil_append, List.append_nil, List.getElem?_cons_zero, List.getElem?_cons_succ, List.set_cons_zero, List.set_cons_succ, vIx_t0, vIx_t1, vIx_t2, vIx_t3, vIx_t4, vIx_t5, vEq_ss, vEq_ii, vEq_bb, vNe_ss, vNe_ii, vNe_bb, vLen_tup, truA_tup, truA_bl, vLe_ii, vLt_ii, vGt_ii, vGe_ii, vSub_ii, vAdd_ii, vAddI_ii, vNeg_i, isT_ss, isT_tt, isT_ii, isT_bi, isT_bb, isT_ib]
theorem isHr_six {n : Nat} {l : List A} (h : l.length ≠ 6) : isHr n (.tup l) = false := by
  cases n with
  | zero => rfl
  | succ n =>
    show isHrW _ _ = false
    unfold isHrW
    split
    · rename_i e
      cases e
      exact absurd rfl h
    · rfl
theorem e_is_hearer_so3 {x y o tp r w ts ds : A} {S : Sto} {Fd : List A → Sto → RE} (gw : kn S w = true) (gts : good S ts = true) : q_is_hearer_so_3 K Fd [some x, some y, some o, some tp, some r, some w, some ts, some ds, none] S = if (isHow w && isTest ts) = true then .nx [some x, some y, some o, some tp, some r, some w, some ts, some ds, none] S else .ret (.bl false) S := by
  cases w
  case ob m =>
    obtain ⟨ty, hty⟩ := kn_some gw
    obtain ⟨h1, h2, h3, h4⟩ := isi_ob hty
    simp [q_is_hearer_so_3, gVar, gC, gOp, gUn, gAnd, gOr, gNot, gIf, gNil, gCons, gTup, gLst, gCB, gChain, gSet, gExpr, gRet, gRetN, gPass, gBrk, gCt, gRaise, gIfS, gSeq, nName, nTup, setAll, gAsg, gCall, gTru, gNotT, gIsi, RE.bind_ok, RE.bind_exc, RE.bind_stuck, RE.bindA_ok, RE.bindS_ok, RE.bindS_exc, RE.bindT_ok, RE.bindTS_ok, RA.bind_ok, RA.bindA_ok, RE.nox_ok, RS.seq_nx, RS.seq_ret, RS.seq_exc, RS.seq_brk, RS.seq_ct, RS.seq_stuck, RE.bindA_exc, RE.bindA_stuck, RE.bindS_stuck, RE.bindT_exc, RE.bindT_stuck, RE.bindTS_exc, RE.bindTS_stuck, RA.bind_exc, RA.bind_stuck, RA.bindA_exc, RA.bindA_stuck, RE.nox_stuck, bind_ite, bindA_ite, bindS_ite, bindT_ite, bindTS_ite, nox_ite, seq_ite, startR, tyA_non, tyA_bl, tyA_int, tyA_str, tyA_tup, List.map_cons, List.map_nil, List.length_cons, List.length_nil, List.cons_append, List.nil_append, List.append_nil, List.getElem?_cons_zero, List.getElem?_cons_succ, List.set_cons_zero, List.set_cons_succ, vIx_t0, vIx_t1, vIx_t2, vIx_t3, vIx_t4, vIx_t5, vEq_ss, vEq_ii, vEq_bb, vNe_ss, vNe_ii, vNe_bb, vLen_tup, truA_tup, truA_bl, vLe_ii, vLt_ii, vGt_ii, vGe_ii, vSub_ii, vAdd_ii, vAddI_ii, vNeg_i, isT_ss, isT_tt, isT_ii, isT_bi, isT_bb, isT_ib, hty, h3, isHow]
  case str z =>
    have c1 : (("always" : Str) = z) = (z = "always") := propext eq_comm
    have c2 : (("once" : Str) = z) = (z = "once") := propext eq_comm
    by_cases hz : z = "always" ∨ z = "once"
    · have hh : isHow (.str z) = true := by simpa [isHow] using hz
      rcases hz with hz | hz <;> cases h2 : isTest ts <;> simp [q_is_hearer_so_3, gVar, gC, gOp, gUn, gAnd, gOr, gNot, gIf, gNil, gCons, gTup, gLst, gCB, gChain, gSet, gExpr, gRet, gRetN, gPass, gBrk, gCt, gRaise, gIfS, gSeq, nName, nTup, setAll, gAsg, gCall, gTru, gNotT, gIsi, RE.bind_ok, RE.bind_exc, RE.bind_stuck, RE.bindA_ok, RE.bindS_ok, RE.bindS_exc, RE.bindT_ok, RE.bindTS_ok, RA.bind_ok, RA.bindA_ok, RE.nox_ok, RS.seq_nx, RS.seq_ret, RS.seq_exc, RS.seq_brk, RS.seq_ct, RS.seq_stuck, RE.bindA_exc, RE.bindA_stuck, RE.bindS_stuck, RE.bindT_exc, RE.bindT_stuck, RE.bindTS_exc, RE.bindTS_stuck, RA.bind_exc, RA.bind_stuck, RA.bindA_exc, RA.bindA_stuck, RE.nox_stuck, bind_ite, bindA_ite, bindS_ite, bindT_ite, bindTS_ite, nox_ite, seq_ite, startR, tyA_non, tyA_bl, tyA_int, tyA_str, tyA_tup, List.map_cons, List.map_nil, List.length_cons, List.length_nil, List.cons_append, List.nil_append, List.append_nil, List.getElem?_cons_zero, List.getElem?_cons_succ, List.set_cons_zero, List.set_cons_succ, vIx_t0, vIx_t1, vIx_t2, vIx_t3, vIx_t4, vIx_t5, vEq_ss, vEq_ii, vEq_bb, vNe_ss, vNe_ii, vNe_bb, vLen_tup, truA_tup, truA_bl, vLe_ii, vLt_ii, vGt_ii, vGe_ii, vSub_ii, vAdd_ii, vAddI_ii, vNeg_i, isT_ss, isT_tt, isT_ii, isT_bi, isT_bb, isT_ib, vNotIn, vIn, seqOf, flatA, inF, eqF, c1, c2, hz, hh, F_is_test, gts, h2]
      all_goals decide +kernel
    · have hh : isHow (.str z) = false := by simpa [isHow] using hz
      simp only [not_or] at hz
      simp [q_is_hearer_so_3, gVar, gC, gOp, gUn, gAnd, gOr, gNot, gIf, gNil, gCons, gTup, gLst, gCB, gChain, gSet, gExpr, gRet, gRetN, gPass, gBrk, gCt, gRaise, gIfS, gSeq, nName, nTup, setAll, gAsg, gCall, gTru, gNotT, gIsi, RE.bind_ok, RE.bind_exc, RE.bind_stuck, RE.bindA_ok, RE.bindS_ok, RE.bindS_exc, RE.bindT_ok, RE.bindTS_ok, RA.bind_ok, RA.bindA_ok, RE.nox_ok, RS.seq_nx, RS.seq_ret, RS.seq_exc, RS.seq_brk, RS.seq_ct, RS.seq_stuck, RE.bindA_exc, RE.bindA_stuck, RE.bindS_stuck, RE.bindT_exc, RE.bindT_stuck, RE.bindTS_exc, RE.bindTS_stuck, RA.bind_exc, RA.bind_stuck, RA.bindA_exc, RA.bindA_stuck, RE.nox_stuck, bind_ite, bindA_ite, bindS_ite, bindT_ite, bindTS_ite, nox_ite, seq_ite, startR, tyA_non, tyA_bl, tyA_int, tyA_str, tyA_tup, List.map_cons, List.map_nil, List.length_cons, List.length_nil, List.cons_append, List.nil_append, List.append_nil, List.getElem?_cons_zero, List.getElem?_cons_succ, List.set_cons_zero, List.set_cons_succ, vIx_t0, vIx_t1, vIx_t2, vIx_t3, vIx_t4, vIx_t5, vEq_ss, vEq_ii, vEq_bb, vNe_ss, vNe_ii, vNe_bb, vLen_tup, truA_tup, truA_bl, vLe_ii, vLt_ii, vGt_ii, vGe_ii, vSub_ii, vAdd_ii, vAddI_ii, vNeg_i, isT_ss, isT_tt, isT_ii, isT_bi, isT_bb, isT_ib, vNotIn, vIn, seqOf, flatA, inF, eqF, c1, c2, hz, hh]
  all_goals simp [q_is_hearer_so_3, gVar, gC, gOp, gUn, gAnd, gOr, gNot, gIf, gNil, gCons, gTup, gLst, gCB, gChain, gSet, gExpr, gRet, gRetN, gPass, gBrk, gCt, gRaise, gIfS, gSeq, nName, nTup, setAll, gAsg, gCall, gTru, gNotT, gIsi, RE.bind_ok, RE.bind_exc, RE.bind_stuck, RE.bindA_ok, RE.bindS_ok, RE.bindS_exc, RE.bindT_ok, RE.bindTS_ok, RA.bind_ok, RA.bindA_ok, RE.nox_ok, RS.seq_nx, RS.seq_ret, RS.seq_exc, RS.seq_brk, RS.seq_ct, RS.seq_stuck, RE.bindA_exc, RE.bindA_stuck, RE.bindS_stuck, RE.bindT_exc, RE.bindT_stuck, RE.bindTS_exc, RE.bindTS_stuck, RA.bind_exc, RA.bind_stuck, RA.bindA_exc, RA.bindA_stuck, RE.nox_stuck, bind_ite, bindA_ite, bindS_ite, bindT_ite, bindTS_ite, nox_ite, seq_ite, startR, tyA_non, tyA_bl, tyA_int, tyA_str, tyA_tup, List.map_cons, List.map_nil, List.length_cons, List.length_nil, List.cons_append, List.nil_append, List.append_nil, List.getElem?_cons_zero, List.getElem?_cons_succ, List.set_cons_zero, List.set_cons_succ, vIx_t0, vIx_t1, vIx_t2, vIx_t3, vIx_t4, vIx_t5, vEq_ss, vEq_ii, vEq_bb, vNe_ss, vNe_ii, vNe_bb, vLen_tup, truA_tup, truA_bl, vLe_ii, vLt_ii, vGt_ii, vGe_ii, vSub_ii, vAdd_ii, vAddI_ii, vNeg_i, isT_ss, isT_tt, isT_ii, isT_bi, isT_bb, isT_ib, isT, isHow]
theorem e_is_hearer_so {x : A} {deep : Int} {n : Nat} {S : Sto} {Fd : List A → Sto → RE} (hk : good S x = true) (hn : deep = (n : Int) + 1) (hF : ∀ a l, good S a = true → Fd [a, .int (n : Int)] (S ++ [.lst l]) = .ok (.bl (isDeedW (isHr n) a)) (S ++ [.lst l])) : ∃ E, q_is_hearer_so K Fd (startR N_is_hearer_so.length [x, .int deep]) S = .ret (.bl (isHr (n + 1) x)) (S ++ E) := by
  have hd : ¬ (deep = 0) := by omega
  have hd1 : deep - 1 = (n : Int) := by omega
  cases x
  case ob m =>
    obtain ⟨ty, hty⟩ := kn_some (good_kn hk)
    obtain ⟨h1, h2, h3, h4⟩ := isi_ob hty
    exact ⟨[], by simp [q_is_hearer_so, q_is_hearer_so_0, gVar, gC, gOp, gUn, gAnd, gOr, gNot, gIf, gNil, gCons, gTup, gLst, gCB, gChain, gSet, gExpr, gRet, gRetN, gPass, gBrk, gCt, gRaise, gIfS, gSeq, nName, nTup, setAll, gAsg, gCall, gTru, gNotT, gIsi, RE.bind_ok, RE.bind_exc, RE.bind_stuck, RE.bindA_ok, RE.bindS_ok, RE.bindS_exc, RE.bindT_ok, RE.bindTS_ok, RA.bind_ok, RA.bindA_ok, RE.nox_ok, RS.seq_nx, RS.seq_ret, RS.seq_exc, RS.seq_brk, RS.seq_ct, RS.seq_stuck, RE.bindA_exc, RE.bindA_stuck, RE.bindS_stuck, RE.bindT_exc, RE.bindT_stuck, RE.bindTS_exc, RE.bindTS_stuck, RA.bind_exc, RA.bind_stuck, RA.bindA_exc, RA.bindA_stuck, RE.nox_stuck, bind_ite, bindA_ite, bindS_ite, bindT_ite, bindTS_ite, nox_ite, seq_ite, startR, tyA_non, tyA_bl, tyA_int, tyA_str, tyA_tup, List.map_cons, List.map_nil, List.length_cons, List.length_nil, List.cons_append, List.nil_append, List.append_nil, List.getElem?_cons_zero, List.getElem?_cons_succ, List.set_cons_zero, List.set_cons_succ, vIx_t0, vIx_t1, vIx_t2, vIx_t3, vIx_t4, vIx_t5, vEq_ss, vEq_ii, vEq_bb, vNe_ss, vNe_ii, vNe_bb, vLen_tup, truA_tup, truA_bl, vLe_ii, vLt_ii, vGt_ii, vGe_ii, vSub_ii, vAdd_ii, vAddI_ii, vNeg_i, isT_ss, isT_tt, isT_ii, isT_bi, isT_bb, isT_ib, hd, hty, h4, isHr, isHrW]⟩
  case tup l =>
    by_cases h6 : l.length = 6
    rotate_left
    · have e : ¬ ((l.length : Int) = 6) := by omega
      exact ⟨[], by simp [q_is_hearer_so, q_is_hearer_so_0, gVar, gC, gOp, gUn, gAnd, gOr, gNot, gIf, gNil, gCons, gTup, gLst, gCB, gChain, gSet, gExpr, gRet, gRetN, gPass, gBrk, gCt, gRaise, gIfS, gSeq, nName, nTup, setAll, gAsg, gCall, gTru, gNotT, gIsi, RE.bind_ok, RE.bind_exc, RE.bind_stuck, RE.bindA_ok, RE.bindS_ok, RE.bindS_exc, RE.bindT_ok, RE.bindTS_ok, RA.bind_ok, RA.bindA_ok, RE.nox_ok, RS.seq_nx, RS.seq_ret, RS.seq_exc, RS.seq_brk, RS.seq_ct, RS.seq_stuck, RE.bindA_exc, RE.bindA_stuck, RE.bindS_stuck, RE.bindT_exc, RE.bindT_stuck, RE.bindTS_exc, RE.bindTS_stuck, RA.bind_exc, RA.bind_stuck, RA.bindA_exc, RA.bindA_stuck, RE.nox_stuck, bind_ite, bindA_ite, bindS_ite, bindT_ite, bindTS_ite, nox_ite, seq_ite, startR, tyA_non, tyA_bl, tyA_int, tyA_str, tyA_tup, List.map_cons, List.map_nil, List.length_cons, List.length_nil, List.cons_append, List.nil_append, List.append_nil, List.getElem?_cons_zero, List.getElem?_cons_succ, List.set_cons_zero, List.set_cons_succ, vIx_t0, vIx_t1, vIx_t2, vIx_t3, vIx_t4, vIx_t5, vEq_ss, vEq_ii, vEq_bb, vNe_ss, vNe_ii, vNe_bb, vLen_tup, truA_tup, truA_bl, vLe_ii, vLt_ii, vGt_ii, vGe_ii, vSub_ii, vAdd_ii, vAddI_ii, vNeg_i, isT_ss, isT_tt, isT_ii, isT_bi, isT_bb, isT_ib, hd, e, isHr_six h6]⟩
    match l, h6, good_tup.mp hk with
    | [o, tp, r, w, ts, ds], _h6, hg =>
    have go := hg o (by simp)
    have gt := hg tp (by simp)
    have gr := good_kn (hg r (by simp))
    have gw := good_kn (hg w (by simp))
    have gts := hg ts (by simp)
    have gds := hg ds (by simp)
    have s0 : q_is_hearer_so_0 K Fd [some (.tup [o, tp, r, w, ts, ds]), some (.int deep), none, none, none, none, none, none, none] S = .nx [some (.tup [o, tp, r, w, ts, ds]), some (.int deep), none, none, none, none, none, none, none] S := by
      simp [q_is_hearer_so_0, gVar, gC, gOp, gUn, gAnd, gOr, gNot, gIf, gNil, gCons, gTup, gLst, gCB, gChain, gSet, gExpr, gRet, gRetN, gPass, gBrk, gCt, gRaise, gIfS, gSeq, nName, nTup, setAll, gAsg, gCall, gTru, gNotT, gIsi, RE.bind_ok, RE.bind_exc, RE.bind_stuck, RE.bindA_ok, RE.bindS_ok, RE.bindS_exc, RE.bindT_ok, RE.bindTS_ok, RA.bind_ok, RA.bindA_ok, RE.nox_ok, RS.seq_nx, RS.seq_ret, RS.seq_exc, RS.seq_brk, RS.seq_ct, RS.seq_stuck, RE.bindA_exc, RE.bindA_stuck, RE.bindS_stuck, RE.bindT_exc, RE.bindT_stuck, RE.bindTS_exc, RE.bindTS_stuck, RA.bind_exc, RA.bind_stuck, RA.bindA_exc, RA.bindA_stuck, RE.nox_stuck, bind_ite, bindA_ite, bindS_ite, bindT_ite, bindTS_ite, nox_ite, seq_ite, startR, tyA_non, tyA_bl, tyA_int, tyA_str, tyA_tup, List.map_cons, List.map_nil, List.length_cons, List.length_nil, List.cons_append, List.nil_append, List.append_nil, List.getElem?_cons_zero, List.getElem?_cons_succ, List.set_cons_zero, List.set_cons_succ, vIx_t0, vIx_t1, vIx_t2, vIx_t3, vIx_t4, vIx_t5, vEq_ss, vEq_ii, vEq_bb, vNe_ss, vNe_ii, vNe_bb, vLen_tup, truA_tup, truA_bl, vLe_ii, vLt_ii, vGt_ii, vGe_ii, vSub_ii, vAdd_ii, vAddI_ii, vNeg_i, isT_ss, isT_tt, isT_ii, isT_bi, isT_bb, isT_ib, hd]
    have s1 : q_is_hearer_so_1 K Fd [some (.tup [o, tp, r, w, ts, ds]), some (.int deep), none, none, none, none, none, none, none] S = .nx [some (.tup [o, tp, r, w, ts, ds]), some (.int deep), some o, some tp, some r, some w, some ts, some ds, none] S := by
      simp [q_is_hearer_so_1, gVar, gC, gOp, gUn, gAnd, gOr, gNot, gIf, gNil, gCons, gTup, gLst, gCB, gChain, gSet, gExpr, gRet, gRetN, gPass, gBrk, gCt, gRaise, gIfS, gSeq, nName, nTup, setAll, gAsg, gCall, gTru, gNotT, gIsi, RE.bind_ok, RE.bind_exc, RE.bind_stuck, RE.bindA_ok, RE.bindS_ok, RE.bindS_exc, RE.bindT_ok, RE.bindTS_ok, RA.bind_ok, RA.bindA_ok, RE.nox_ok, RS.seq_nx, RS.seq_ret, RS.seq_exc, RS.seq_brk, RS.seq_ct, RS.seq_stuck, RE.bindA_exc, RE.bindA_stuck, RE.bindS_stuck, RE.bindT_exc, RE.bindT_stuck, RE.bindTS_exc, RE.bindTS_stuck, RA.bind_exc, RA.bind_stuck, RA.bindA_exc, RA.bindA_stuck, RE.nox_stuck, bind_ite, bindA_ite, bindS_ite, bindT_ite, bindTS_ite, nox_ite, seq_ite, startR, tyA_non, tyA_bl, tyA_int, tyA_str, tyA_tup, List.map_cons, List.map_nil, List.length_cons, List.length_nil, List.cons_append, List.nil_append, List.append_nil, List.getElem?_cons_zero, List.getElem?_cons_succ, List.set_cons_zero, List.set_cons_succ, vIx_t0, vIx_t1, vIx_t2, vIx_t3, vIx_t4, vIx_t5, vEq_ss, vEq_ii, vEq_bb, vNe_ss, vNe_ii, vNe_bb, vLen_tup, truA_tup, truA_bl, vLe_ii, vLt_ii, vGt_ii, vGe_ii, vSub_ii, vAdd_ii, vAddI_ii, vNeg_i, isT_ss, isT_tt, isT_ii, isT_bi, isT_bb, isT_ib]
    have s2 : q_is_hearer_so_2 K Fd [some (.tup [o, tp, r, w, ts, ds]), some (.int deep), some o, some tp, some r, some w, some ts, some ds, none] S = if (isWord o && isWord tp && isIn r 0 9) = true then .nx [some (.tup [o, tp, r, w, ts, ds]), some (.int deep), some o, some tp, some r, some w, some ts, some ds, none] S else .ret (.bl false) S := by
      cases h1 : isWord o <;> cases h2 : isWord tp <;> cases h3 : isIn r 0 9 <;> simp [q_is_hearer_so_2, gVar, gC, gOp, gUn, gAnd, gOr, gNot, gIf, gNil, gCons, gTup, gLst, gCB, gChain, gSet, gExpr, gRet, gRetN, gPass, gBrk, gCt, gRaise, gIfS, gSeq, nName, nTup, setAll, gAsg, gCall, gTru, gNotT, gIsi, RE.bind_ok, RE.bind_exc, RE.bind_stuck, RE.bindA_ok, RE.bindS_ok, RE.bindS_exc, RE.bindT_ok, RE.bindTS_ok, RA.bind_ok, RA.bindA_ok, RE.nox_ok, RS.seq_nx, RS.seq_ret, RS.seq_exc, RS.seq_brk, RS.seq_ct, RS.seq_stuck, RE.bindA_exc, RE.bindA_stuck, RE.bindS_stuck, RE.bindT_exc, RE.bindT_stuck, RE.bindTS_exc, RE.bindTS_stuck, RA.bind_exc, RA.bind_stuck, RA.bindA_exc, RA.bindA_stuck, RE.nox_stuck, bind_ite, bindA_ite, bindS_ite, bindT_ite, bindTS_ite, nox_ite, seq_ite, startR, tyA_non, tyA_bl, tyA_int, tyA_str, tyA_tup, List.map_cons, List.map_nil, List.length_cons, List.length_nil, List.cons_append, List.nil_append, List.append_nil, List.getElem?_cons_zero, List.getElem?_cons_succ, List.set_cons_zero, List.set_cons_succ, vIx_t0, vIx_t1, vIx_t2, vIx_t3, vIx_t4, vIx_t5, vEq_ss, vEq_ii, vEq_bb, vNe_ss, vNe_ii, vNe_bb, vLen_tup, truA_tup, truA_bl, vLe_ii, vLt_ii, vGt_ii, vGe_ii, vSub_ii, vAdd_ii, vAddI_ii, vNeg_i, isT_ss, isT_tt, isT_ii, isT_bi, isT_bb, isT_ib, F_is_word, F_is_within, go, gt, gr, h1, h2, h3]
    have s3 := e_is_hearer_so3 (K := K) (Fd := Fd) (x := .tup [o, tp, r, w, ts, ds]) (y := .int deep) (o := o) (tp := tp) (r := r) (ds := ds) gw gts
    by_cases b1 : (isWord o && isWord tp && isIn r 0 9) = true
    rotate_left
    · refine ⟨[], ?_⟩
      have e : isHr (n + 1) (.tup [o, tp, r, w, ts, ds]) = false := by
        show isHrW _ _ = false
        unfold isHrW
        split
        · rename_i e2
          cases e2
          simp only [Bool.not_eq_true] at b1
          simp [b1]
        · rfl
      simp only [q_is_hearer_so, gVar, gC, gOp, gUn, gAnd, gOr, gNot, gIf, gNil, gCons, gTup, gLst, gCB, gChain, gSet, gExpr, gRet, gRetN, gPass, gBrk, gCt, gRaise, gIfS, gSeq, nName, nTup, setAll, gAsg, gCall, gTru, gNotT, gIsi, RE.bind_ok, RE.bind_exc, RE.bind_stuck, RE.bindA_ok, RE.bindS_ok, RE.bindS_exc, RE.bindT_ok, RE.bindTS_ok, RA.bind_ok, RA.bindA_ok, RE.nox_ok, RS.seq_nx, RS.seq_ret, RS.seq_exc, RS.seq_brk, RS.seq_ct, RS.seq_stuck, RE.bindA_exc, RE.bindA_stuck, RE.bindS_stuck, RE.bindT_exc, RE.bindT_stuck, RE.bindTS_exc, RE.bindTS_stuck, RA.bind_exc, RA.bind_stuck, RA.bindA_exc, RA.bindA_stuck, RE.nox_stuck, bind_ite, bindA_ite, bindS_ite, bindT_ite, bindTS_ite, nox_ite, seq_ite, startR, tyA_non, tyA_bl, tyA_int, tyA_str, tyA_tup, List.map_cons, List.map_nil, List.length_cons, List.length_nil, List.cons_append, List.nil_append, List.append_nil, List.getElem?_cons_zero, List.getElem?_cons_succ, List.set_cons_zero, List.set_cons_succ, vIx_t0, vIx_t1, vIx_t2, vIx_t3, vIx_t4, vIx_t5, vEq_ss, vEq_ii, vEq_bb, vNe_ss, vNe_ii, vNe_bb, vLen_tup, truA_tup, truA_bl, vLe_ii, vLt_ii, vGt_ii, vGe_ii, vSub_ii, vAdd_ii, vAddI_ii, vNeg_i, isT_ss, isT_tt, isT_ii, isT_bi, isT_bb, isT_ib, s0, s1, s2, if_neg b1, e, List.length_cons, List.length_nil, Nat.reduceAdd, Nat.reduceSub, List.replicate]
    by_cases b2 : (isHow w && isTest ts) = true
    rotate_left
    · refine ⟨[], ?_⟩
      have e : isHr (n + 1) (.tup [o, tp, r, w, ts, ds]) = false := by
        show isHrW _ _ = false
        unfold isHrW
        split
        · rename_i e2
          cases e2
          simp only [Bool.not_eq_true] at b2
          rw [Bool.and_assoc (isWord _ && isWord _ && isIn _ 0 9), b1, b2]
          rfl
        · rfl
      simp only [q_is_hearer_so, gVar, gC, gOp, gUn, gAnd, gOr, gNot, gIf, gNil, gCons, gTup, gLst, gCB, gChain, gSet, gExpr, gRet, gRetN, gPass, gBrk, gCt, gRaise, gIfS, gSeq, nName, nTup, setAll, gAsg, gCall, gTru, gNotT, gIsi, RE.bind_ok, RE.bind_exc, RE.bind_stuck, RE.bindA_ok, RE.bindS_ok, RE.bindS_exc, RE.bindT_ok, RE.bindTS_ok, RA.bind_ok, RA.bindA_ok, RE.nox_ok, RS.seq_nx, RS.seq_ret, RS.seq_exc, RS.seq_brk, RS.seq_ct, RS.seq_stuck, RE.bindA_exc, RE.bindA_stuck, RE.bindS_stuck, RE.bindT_exc, RE.bindT_stuck, RE.bindTS_exc, RE.bindTS_stuck, RA.bind_exc, RA.bind_stuck, RA.bindA_exc, RA.bindA_stuck, RE.nox_stuck, bind_ite, bindA_ite, bindS_ite, bindT_ite, bindTS_ite, nox_ite, seq_ite, startR, tyA_non, tyA_bl, tyA_int, tyA_str, tyA_tup, List.map_cons, List.map_nil, List.length_cons, List.length_nil, List.cons_append, List.nil_append, List.append_nil, List.getElem?_cons_zero, List.getElem?_cons_succ, List.set_cons_zero, List.set_cons_succ, vIx_t0, vIx_t1, vIx_t2, vIx_t3, vIx_t4, vIx_t5, vEq_ss, vEq_ii, vEq_bb, vNe_ss, vNe_ii, vNe_bb, vLen_tup, truA_tup, truA_bl, vLe_ii, vLt_ii, vGt_ii, vGe_ii, vSub_ii, vAdd_ii, vAddI_ii, vNeg_i, isT_ss, isT_tt, isT_ii, isT_bi, isT_bb, isT_ib, s0, s1, s2, s3, if_pos b1, if_neg b2, e, List.length_cons, List.length_nil, Nat.reduceAdd, Nat.reduceSub, List.replicate]
    cases ds
    case tup ds =>
      by_cases h3 : ds.length ≤ 3
      rotate_left
      · have e : ¬ ((ds.length : Int) ≤ 3) := by omega
        refine ⟨[], ?_⟩
        have s4 : q_is_hearer_so_4 K Fd [some (.tup [o, tp, r, w, ts, .tup ds]), some (.int deep), some o, some tp, some r, some w, some ts, some (.tup ds), none] S = .ret (.bl false) S := by
          simp [q_is_hearer_so_4, gVar, gC, gOp, gUn, gAnd, gOr, gNot, gIf, gNil, gCons, gTup, gLst, gCB, gChain, gSet, gExpr, gRet, gRetN, gPass, gBrk, gCt, gRaise, gIfS, gSeq, nName, nTup, setAll, gAsg, gCall, gTru, gNotT, gIsi, RE.bind_ok, RE.bind_exc, RE.bind_stuck, RE.bindA_ok, RE.bindS_ok, RE.bindS_exc, RE.bindT_ok, RE.bindTS_ok, RA.bind_ok, RA.bindA_ok, RE.nox_ok, RS.seq_nx, RS.seq_ret, RS.seq_exc, RS.seq_brk, RS.seq_ct, RS.seq_stuck, RE.bindA_exc, RE.bindA_stuck, RE.bindS_stuck, RE.bindT_exc, RE.bindT_stuck, RE.bindTS_exc, RE.bindTS_stuck, RA.bind_exc, RA.bind_stuck, RA.bindA_exc, RA.bindA_stuck, RE.nox_stuck, bind_ite, bindA_ite, bindS_ite, bindT_ite, bindTS_ite, nox_ite, seq_ite, startR, tyA_non, tyA_bl, tyA_int, tyA_str, tyA_tup, List.map_cons, List.map_nil, List.length_cons, List.length_nil, List.cons_append, List.nil_append, List.append_nil, List.getElem?_cons_zero, List.getElem?_cons_succ, List.set_cons_zero, List.set_cons_succ, vIx_t0, vIx_t1, vIx_t2, vIx_t3, vIx_t4, vIx_t5, vEq_ss, vEq_ii, vEq_bb, vNe_ss, vNe_ii, vNe_bb, vLen_tup, truA_tup, truA_bl, vLe_ii, vLt_ii, vGt_ii, vGe_ii, vSub_ii, vAdd_ii, vAddI_ii, vNeg_i, isT_ss, isT_tt, isT_ii, isT_bi, isT_bb, isT_ib]
          omega
        have e2 : isHr (n + 1) (.tup [o, tp, r, w, ts, .tup ds]) = false := by
          show isHrW _ _ = false
          simp [isHrW, h3]
        simp only [q_is_hearer_so, gVar, gC, gOp, gUn, gAnd, gOr, gNot, gIf, gNil, gCons, gTup, gLst, gCB, gChain, gSet, gExpr, gRet, gRetN, gPass, gBrk, gCt, gRaise, gIfS, gSeq, nName, nTup, setAll, gAsg, gCall, gTru, gNotT, gIsi, RE.bind_ok, RE.bind_exc, RE.bind_stuck, RE.bindA_ok, RE.bindS_ok, RE.bindS_exc, RE.bindT_ok, RE.bindTS_ok, RA.bind_ok, RA.bindA_ok, RE.nox_ok, RS.seq_nx, RS.seq_ret, RS.seq_exc, RS.seq_brk, RS.seq_ct, RS.seq_stuck, RE.bindA_exc, RE.bindA_stuck, RE.bindS_stuck, RE.bindT_exc, RE.bindT_stuck, RE.bindTS_exc, RE.bindTS_stuck, RA.bind_exc, RA.bind_stuck, RA.bindA_exc, RA.bindA_stuck, RE.nox_stuck, bind_ite, bindA_ite, bindS_ite, bindT_ite, bindTS_ite, nox_ite, seq_ite, startR, tyA_non, tyA_bl, tyA_int, tyA_str, tyA_tup, List.map_cons, List.map_nil, List.length_cons, List.length_nil, List.cons_append, List.nil_append, List.append_nil, List.getElem?_cons_zero, List.getElem?_cons_succ, List.set_cons_zero, List.set_cons_succ, vIx_t0, vIx_t1, vIx_t2, vIx_t3, vIx_t4, vIx_t5, vEq_ss, vEq_ii, vEq_bb, vNe_ss, vNe_ii, vNe_bb, vLen_tup, truA_tup, truA_bl, vLe_ii, vLt_ii, vGt_ii, vGe_ii, vSub_ii, vAdd_ii, vAddI_ii, vNeg_i, isT_ss, isT_tt, isT_ii, isT_bi, isT_bb, isT_ib, s0, s1, s2, s3, s4, if_pos b1, if_pos b2, e2, List.length_cons, List.length_nil, Nat.reduceAdd, Nat.reduceSub, List.replicate]
      · have e : (ds.length : Int) ≤ 3 := by omega
        have s4 : q_is_hearer_so_4 K Fd [some (.tup [o, tp, r, w, ts, .tup ds]), some (.int deep), some o, some tp, some r, some w, some ts, some (.tup ds), none] S = .nx [some (.tup [o, tp, r, w, ts, .tup ds]), some (.int deep), some o, some tp, some r, some w, some ts, some (.tup ds), none] S := by
          simp [q_is_hearer_so_4, gVar, gC, gOp, gUn, gAnd, gOr, gNot, gIf, gNil, gCons, gTup, gLst, gCB, gChain, gSet, gExpr, gRet, gRetN, gPass, gBrk, gCt, gRaise, gIfS, gSeq, nName, nTup, setAll, gAsg, gCall, gTru, gNotT, gIsi, RE.bind_ok, RE.bind_exc, RE.bind_stuck, RE.bindA_ok, RE.bindS_ok, RE.bindS_exc, RE.bindT_ok, RE.bindTS_ok, RA.bind_ok, RA.bindA_ok, RE.nox_ok, RS.seq_nx, RS.seq_ret, RS.seq_exc, RS.seq_brk, RS.seq_ct, RS.seq_stuck, RE.bindA_exc, RE.bindA_stuck, RE.bindS_stuck, RE.bindT_exc, RE.bindT_stuck, RE.bindTS_exc, RE.bindTS_stuck, RA.bind_exc, RA.bind_stuck, RA.bindA_exc, RA.bindA_stuck, RE.nox_stuck, bind_ite, bindA_ite, bindS_ite, bindT_ite, bindTS_ite, nox_ite, seq_ite, startR, tyA_non, tyA_bl, tyA_int, tyA_str, tyA_tup, List.map_cons, List.map_nil, List.length_cons, List.length_nil, List.cons_append, List.nil_append, List.append_nil, List.getElem?_cons_zero, List.getElem?_cons_succ, List.set_cons_zero, List.set_cons_succ, vIx_t0, vIx_t1, vIx_t2, vIx_t3, vIx_t4, vIx_t5, vEq_ss, vEq_ii, vEq_bb, vNe_ss, vNe_ii, vNe_bb, vLen_tup, truA_tup, truA_bl, vLe_ii, vLt_ii, vGt_ii, vGe_ii, vSub_ii, vAdd_ii, vAddI_ii, vNeg_i, isT_ss, isT_tt, isT_ii, isT_bi, isT_bb, isT_ib]
          omega
        have lc := lc_eq (chk := fun _ => true) (gg := nName 8) (gt := gNot (gCall (Fd) (gCons (gVar 8) (gCons (gOp vSub (gVar 1) (gC (.int 1))) (gNil))))) (ge := gVar 8) (ρ0 := [some (.tup [o, tp, r, w, ts, .tup ds]), some (.int deep), some o, some tp, some r, some w, some ts, some (.tup ds), none]) (S0 := S) (fun a => !isDeedW (isHr n) a) id (fun _ => rfl) ds [] (fun a ha => by
            refine ⟨[some (.tup [o, tp, r, w, ts, .tup ds]), some (.int deep), some o, some tp, some r, some w, some ts, some (.tup ds), some a], fun _ => rfl, fun l => ⟨?_, fun _ => rfl⟩⟩
            simp [gVar, gC, gOp, gUn, gAnd, gOr, gNot, gIf, gNil, gCons, gTup, gLst, gCB, gChain, gSet, gExpr, gRet, gRetN, gPass, gBrk, gCt, gRaise, gIfS, gSeq, nName, nTup, setAll, gAsg, gCall, gTru, gNotT, gIsi, RE.bind_ok, RE.bind_exc, RE.bind_stuck, RE.bindA_ok, RE.bindS_ok, RE.bindS_exc, RE.bindT_ok, RE.bindTS_ok, RA.bind_ok, RA.bindA_ok, RE.nox_ok, RS.seq_nx, RS.seq_ret, RS.seq_exc, RS.seq_brk, RS.seq_ct, RS.seq_stuck, RE.bindA_exc, RE.bindA_stuck, RE.bindS_stuck, RE.bindT_exc, RE.bindT_stuck, RE.bindTS_exc, RE.bindTS_stuck, RA.bind_exc, RA.bind_stuck, RA.bindA_exc, RA.bindA_stuck, RE.nox_stuck, bind_ite, bindA_ite, bindS_ite, bindT_ite, bindTS_ite, nox_ite, seq_ite, startR, tyA_non, tyA_bl, tyA_int, tyA_str, tyA_tup, List.map_cons, List.map_nil, List.length_cons, List.length_nil, List.cons_append, List.nil_append, List.append_nil, List.getElem?_cons_zero, List.getElem?_cons_succ, List.set_cons_zero, List.set_cons_succ, vIx_t0, vIx_t1, vIx_t2, vIx_t3, vIx_t4, vIx_t5, vEq_ss, vEq_ii, vEq_bb, vNe_ss, vNe_ii, vNe_bb, vLen_tup, truA_tup, truA_bl, vLe_ii, vLt_ii, vGt_ii, vGe_ii, vSub_ii, vAdd_ii, vAddI_ii, vNeg_i, isT_ss, isT_tt, isT_ii, isT_bi, isT_bb, isT_ib, hd1, hF a l (good_tup.mp gds a ha)]) (by simp; omega)
        refine ⟨[.lst (ds.filter fun a => !isDeedW (isHr n) a)], ?_⟩
        have e2 : isHr (n + 1) (.tup [o, tp, r, w, ts, .tup ds]) = (ds.filter fun a => !isDeedW (isHr n) a).isEmpty := by
          show isHrW _ _ = _
          simp only [Bool.and_eq_true] at b1 b2
          simp only [isHrW, b1.1.1, b1.1.2, b1.2, b2.1, b2.2, h3, decide_true, Bool.and_self, Bool.true_and]
          rw [Bool.eq_iff_iff]
          simp
        simp only [List.nil_append, List.map_id] at lc
        have s5 : q_is_hearer_so_5 K Fd [some (.tup [o, tp, r, w, ts, .tup ds]), some (.int deep), some o, some tp, some r, some w, some ts, some (.tup ds), none] S = .ret (.bl (ds.filter fun a => !isDeedW (isHr n) a).isEmpty) (S ++ [.lst (ds.filter fun a => !isDeedW (isHr n) a)]) := by
          simp only [q_is_hearer_so_5, gVar, gC, gOp, gUn, gAnd, gOr, gNot, gIf, gNil, gCons, gTup, gLst, gCB, gChain, gSet, gExpr, gRet, gRetN, gPass, gBrk, gCt, gRaise, gIfS, gSeq, nName, nTup, setAll, gAsg, gCall, gTru, gNotT, gIsi, RE.bind_ok, RE.bind_exc, RE.bind_stuck, RE.bindA_ok, RE.bindS_ok, RE.bindS_exc, RE.bindT_ok, RE.bindTS_ok, RA.bind_ok, RA.bindA_ok, RE.nox_ok, RS.seq_nx, RS.seq_ret, RS.seq_exc, RS.seq_brk, RS.seq_ct, RS.seq_stuck, RE.bindA_exc, RE.bindA_stuck, RE.bindS_stuck, RE.bindT_exc, RE.bindT_stuck, RE.bindTS_exc, RE.bindTS_stuck, RA.bind_exc, RA.bind_stuck, RA.bindA_exc, RA.bindA_stuck, RE.nox_stuck, bind_ite, bindA_ite, bindS_ite, bindT_ite, bindTS_ite, nox_ite, seq_ite, startR, tyA_non, tyA_bl, tyA_int, tyA_str, tyA_tup, List.map_cons, List.map_nil, List.length_cons, List.length_nil, List.cons_append, List.nil_append, List.append_nil, List.getElem?_cons_zero, List.getElem?_cons_succ, List.set_cons_zero, List.set_cons_succ, vIx_t0, vIx_t1, vIx_t2, vIx_t3, vIx_t4, vIx_t5, vEq_ss, vEq_ii, vEq_bb, vNe_ss, vNe_ii, vNe_bb, vLen_tup, truA_tup, truA_bl, vLe_ii, vLt_ii, vGt_ii, vGe_ii, vSub_ii, vAdd_ii, vAddI_ii, vNeg_i, isT_ss, isT_tt, isT_ii, isT_bi, isT_bb, isT_ib, gLc, gIT, wipeR, lc, truA, seqOf, items_new, Option.map_some, Bool.not_not]
        simp only [q_is_hearer_so, gVar, gC, gOp, gUn, gAnd, gOr, gNot, gIf, gNil, gCons, gTup, gLst, gCB, gChain, gSet, gExpr, gRet, gRetN, gPass, gBrk, gCt, gRaise, gIfS, gSeq, nName, nTup, setAll, gAsg, gCall, gTru, gNotT, gIsi, RE.bind_ok, RE.bind_exc, RE.bind_stuck, RE.bindA_ok, RE.bindS_ok, RE.bindS_exc, RE.bindT_ok, RE.bindTS_ok, RA.bind_ok, RA.bindA_ok, RE.nox_ok, RS.seq_nx, RS.seq_ret, RS.seq_exc, RS.seq_brk, RS.seq_ct, RS.seq_stuck, RE.bindA_exc, RE.bindA_stuck, RE.bindS_stuck, RE.bindT_exc, RE.bindT_stuck, RE.bindTS_exc, RE.bindTS_stuck, RA.bind_exc, RA.bind_stuck, RA.bindA_exc, RA.bindA_stuck, RE.nox_stuck, bind_ite, bindA_ite, bindS_ite, bindT_ite, bindTS_ite, nox_ite, seq_ite, startR, tyA_non, tyA_bl, tyA_int, tyA_str, tyA_tup, List.map_cons, List.map_nil, List.length_cons, List.length_nil, List.cons_append, List.nil_append, List.append_nil, List.getElem?_cons_zero, List.getElem?_cons_succ, List.set_cons_zero, List.set_cons_succ, vIx_t0, vIx_t1, vIx_t2, vIx_t3, vIx_t4, vIx_t5, vEq_ss, vEq_ii, vEq_bb, vNe_ss, vNe_ii, vNe_bb, vLen_tup, truA_tup, truA_bl, vLe_ii, vLt_ii, vGt_ii, vGe_ii, vSub_ii, vAdd_ii, vAddI_ii, vNeg_i, isT_ss, isT_tt, isT_ii, isT_bi, isT_bb, isT_ib, s0, s1, s2, s3, s4, s5, if_pos b1, if_pos b2, e2, List.length_cons, List.length_nil, Nat.reduceAdd, Nat.reduceSub, List.replicate]
    case ob m =>
      refine ⟨[], ?_⟩
      obtain ⟨ty, hty⟩ := kn_some (good_kn gds)
      obtain ⟨h1, h2, h3, h4⟩ := isi_ob hty
      have s4 : q_is_hearer_so_4 K Fd [some (.tup [o, tp, r, w, ts, .ob m]), some (.int deep), some o, some tp, some r, some w, some ts, some (.ob m), none] S = .ret (.bl false) S := by
        simp [q_is_hearer_so_4, gVar, gC, gOp, gUn, gAnd, gOr, gNot, gIf, gNil, gCons, gTup, gLst, gCB, gChain, gSet, gExpr, gRet, gRetN, gPass, gBrk, gCt, gRaise, gIfS, gSeq, nName, nTup, setAll, gAsg, gCall, gTru, gNotT, gIsi, RE.bind_ok, RE.bind_exc, RE.bind_stuck, RE.bindA_ok, RE.bindS_ok, RE.bindS_exc, RE.bindT_ok, RE.bindTS_ok, RA.bind_ok, RA.bindA_ok, RE.nox_ok, RS.seq_nx, RS.seq_ret, RS.seq_exc, RS.seq_brk, RS.seq_ct, RS.seq_stuck, RE.bindA_exc, RE.bindA_stuck, RE.bindS_stuck, RE.bindT_exc, RE.bindT_stuck, RE.bindTS_exc, RE.bindTS_stuck, RA.bind_exc, RA.bind_stuck, RA.bindA_exc, RA.bindA_stuck, RE.nox_stuck, bind_ite, bindA_ite, bindS_ite, bindT_ite, bindTS_ite, nox_ite, seq_ite, startR, tyA_non, tyA_bl, tyA_int, tyA_str, tyA_tup, List.map_cons, List.map_nil, List.length_cons, List.length_nil, List.cons_append, List.nil_append, List.append_nil, List.getElem?_cons_zero, List.getElem?_cons_succ, List.set_cons_zero, List.set_cons_succ, vIx_t0, vIx_t1, vIx_t2, vIx_t3, vIx_t4, vIx_t5, vEq_ss, vEq_ii, vEq_bb, vNe_ss, vNe_ii, vNe_bb, vLen_tup, truA_tup, truA_bl, vLe_ii, vLt_ii, vGt_ii, vGe_ii, vSub_ii, vAdd_ii, vAddI_ii, vNeg_i, isT_ss, isT_tt, isT_ii, isT_bi, isT_bb, isT_ib, hty, h4]
      have e2 : isHr (n + 1) (.tup [o, tp, r, w, ts, .ob m]) = false := rfl
      simp only [q_is_hearer_so, gVar, gC, gOp, gUn, gAnd, gOr, gNot, gIf, gNil, gCons, gTup, gLst, gCB, gChain, gSet, gExpr, gRet, gRetN, gPass, gBrk, gCt, gRaise, gIfS, gSeq, nName, nTup, setAll, gAsg, gCall, gTru, gNotT, gIsi, RE.bind_ok, RE.bind_exc, RE.bind_stuck, RE.bindA_ok, RE.bindS_ok, RE.bindS_exc, RE.bindT_ok, RE.bindTS_ok, RA.bind_ok, RA.bindA_ok, RE.nox_ok, RS.seq_nx, RS.seq_ret, RS.seq_exc, RS.seq_brk, RS.seq_ct, RS.seq_stuck, RE.bindA_exc, RE.bindA_stuck, RE.bindS_stuck, RE.bindT_exc, RE.bindT_stuck, RE.bindTS_exc, RE.bindTS_stuck, RA.bind_exc, RA.bind_stuck, RA.bindA_exc, RA.bindA_stuck, RE.nox_stuck, bind_ite, bindA_ite, bindS_ite, bindT_ite, bindTS_ite, nox_ite, seq_ite, startR, tyA_non, tyA_bl, tyA_int, tyA_str, tyA_tup, List.map_cons, List.map_nil, List.length_cons, List.length_nil, List.cons_append, List.nil_append, List.append_nil, List.getElem?_cons_zero, List.getElem?_cons_succ, List.set_cons_zero, List.set_cons_succ, vIx_t0, vIx_t1, vIx_t2, vIx_t3, vIx_t4, vIx_t5, vEq_ss, vEq_ii, vEq_bb, vNe_ss, vNe_ii, vNe_bb, vLen_tup, truA_tup, truA_bl, vLe_ii, vLt_ii, vGt_ii, vGe_ii, vSub_ii, vAdd_ii, vAddI_ii, vNeg_i, isT_ss, isT_tt, isT_ii, isT_bi, isT_bb, isT_ib, s0, s1, s2, s3, s4, if_pos b1, if_pos b2, e2, List.length_cons, List.length_nil, Nat.reduceAdd, Nat.reduceSub, List.replicate]
    all_goals
      refine ⟨[], ?_⟩
      simp only [q_is_hearer_so, gVar, gC, gOp, gUn, gAnd, gOr, gNot, gIf, gNil, gCons, gTup, gLst, gCB, gChain, gSet, gExpr, gRet, gRetN, gPass, gBrk, gCt, gRaise, gIfS, gSeq, nName, nTup, setAll, gAsg, gCall, gTru, gNotT, gIsi, RE.bind_ok, RE.bind_exc, RE.bind_stuck, RE.bindA_ok, RE.bindS_ok, RE.bindS_exc, RE.bindT_ok, RE.bindTS_ok, RA.bind_ok, RA.bindA_ok, RE.nox_ok, RS.seq_nx, RS.seq_ret, RS.seq_exc, RS.seq_brk, RS.seq_ct, RS.seq_stuck, RE.bindA_exc, RE.bindA_stuck, RE.bindS_stuck, RE.bindT_exc, RE.bindT_stuck, RE.bindTS_exc, RE.bindTS_stuck, RA.bind_exc, RA.bind_stuck, RA.bindA_exc, RA.bindA_stuck, RE.nox_stuck, bind_ite, bindA_ite, bindS_ite, bindT_ite, bindTS_ite, nox_ite, seq_ite, startR, tyA_non, tyA_bl, tyA_int, tyA_str, tyA_tup, List.map_cons, List.map_nil, List.length_cons, List.length_nil, List.cons_append, List.nil_append, List.append_nil, List.getElem?_cons_zero, List.getElem?_cons_succ, List.set_cons_zero, List.set_cons_succ, vIx_t0, vIx_t1, vIx_t2, vIx_t3, vIx_t4, vIx_t5, vEq_ss, vEq_ii, vEq_bb, vNe_ss, vNe_ii, vNe_bb, vLen_tup, truA_tup, truA_bl, vLe_ii, vLt_ii, vGt_ii, vGe_ii, vSub_ii, vAdd_ii, vAddI_ii, vNeg_i, isT_ss, isT_tt, isT_ii, isT_bi, isT_bb, isT_ib, s0, s1, s2, s3, if_pos b1, if_pos b2, List.length_cons, List.length_nil, Nat.reduceAdd, Nat.reduceSub, List.replicate]
      simp [q_is_hearer_so_4, gVar, gC, gOp, gUn, gAnd, gOr, gNot, gIf, gNil, gCons, gTup, gLst, gCB, gChain, gSet, gExpr, gRet, gRetN, gPass, gBrk, gCt, gRaise, gIfS, gSeq, nName, nTup, setAll, gAsg, gCall, gTru, gNotT, gIsi, RE.bind_ok, RE.bind_exc, RE.bind_stuck, RE.bindA_ok, RE.bindS_ok, RE.bindS_exc, RE.bindT_ok, RE.bindTS_ok, RA.bind_ok, RA.bindA_ok, RE.nox_ok, RS.seq_nx, RS.seq_ret, RS.seq_exc, RS.seq_brk, RS.seq_ct, RS.seq_stuck, RE.bindA_exc, RE.bindA_stuck, RE.bindS_stuck, RE.bindT_exc, RE.bindT_stuck, RE.bindTS_exc, RE.bindTS_stuck, RA.bind_exc, RA.bind_stuck, RA.bindA_exc, RA.bindA_stuck, RE.nox_stuck, bind_ite, bindA_ite, bindS_ite, bindT_ite, bindTS_ite, nox_ite, seq_ite, startR, tyA_non, tyA_bl, tyA_int, tyA_str, tyA_tup, List.map_cons, List.map_nil, List.length_cons, List.length_nil, List.cons_append, List.nil_append, List.append_nil, List.getElem?_cons_zero, List.getElem?_cons_succ, List.set_cons_zero, List.set_cons_succ, vIx_t0, vIx_t1, vIx_t2, vIx_t3, vIx_t4, vIx_t5, vEq_ss, vEq_ii, vEq_bb, vNe_ss, vNe_ii, vNe_bb, vLen_tup, truA_tup, truA_bl, vLe_ii, vLt_ii, vGt_ii, vGe_ii, vSub_ii, vAdd_ii, vAddI_ii, vNeg_i, isT_ss, isT_tt, isT_ii, isT_bi, isT_bb, isT_ib, isT, isHr, isHrW]
  all_goals exact ⟨[], by simp [q_is_hearer_so, q_is_hearer_so_0, gVar, gC, gOp, gUn, gAnd, gOr, gNot, gIf, gNil, gCons, gTup, gLst, gCB, gChain, gSet, gExpr, gRet, gRetN, gPass, gBrk, gCt, gRaise, gIfS, gSeq, nName, nTup, setAll, gAsg, gCall, gTru, gNotT, gIsi, RE.bind_ok, RE.bind_exc, RE.bind_stuck, RE.bindA_ok, RE.bindS_ok, RE.bindS_exc, RE.bindT_ok, RE.bindTS_ok, RA.bind_ok, RA.bindA_ok, RE.nox_ok, RS.seq_nx, RS.seq_ret, RS.seq_exc, RS.seq_brk, RS.seq_ct, RS.seq_stuck, RE.bindA_exc, RE.bindA_stuck, RE.bindS_stuck, RE.bindT_exc, RE.bindT_stuck, RE.bindTS_exc, RE.bindTS_stuck, RA.bind_exc, RA.bind_stuck, RA.bindA_exc, RA.bindA_stuck, RE.nox_stuck, bind_ite, bindA_ite, bindS_ite, bindT_ite, bindTS_ite, nox_ite, seq_ite, startR, tyA_non, tyA_bl, tyA_int, tyA_str, tyA_tup, List.map_cons, List.map_nil, List.length_cons, List.length_nil, List.cons_append, List.nil_append, List.append_nil, List.getElem?_cons_zero, List.getElem?_cons_succ, List.set_cons_zero, List.set_cons_succ, vIx_t0, vIx_t1, vIx_t2, vIx_t3, vIx_t4, vIx_t5, vEq_ss, vEq_ii, vEq_bb, vNe_ss, vNe_ii, vNe_bb, vLen_tup, truA_tup, truA_bl, vLe_ii, vLt_ii, vGt_ii, vGe_ii, vSub_ii, vAdd_ii, vAddI_ii, vNeg_i, isT_ss, isT_tt, isT_ii, isT_bi, isT_bb, isT_ib, hd, isT, isHr, isHrW]⟩
theorem good_lst {S : Sto} {a : A} (h : good S a = true) (l : List A) : good (S ++ [.lst l]) a = true := good_app h _
theorem ok_is_hearer_so_of (t : Hd.Tx K mg) {n d : Nat} {Fd : List A → Sto → RE} (hd : 3 ≤ d) (okd : FnR P w K mg base d (He.ga K "is_deed") t.f_is_deed P_is_deed (spF K (tbs K) Fd)) (hF : ∀ m : Nat, m + 1 ≤ n → ∀ S a, good S a = true → Fd [a, .int (m : Int)] S = .ok (.bl (isDeedW (isHr m) a)) S) : FnR P w K mg base (d + 1) (He.ga K "is_hearer_so") t.f_is_hearer_so P_is_hearer_so (spF K (tbs K) (F_is_hearer_so n K)) := by
  refine fnF t.D_is_hearer_so sc_is_hearer_so (fun l S h => by unfold F_is_hearer_so at h; split at h <;> first | rfl | exact absurd rfl h) (q_is_hearer_so K Fd) (fun cdv A outer s H E hr => sb_is_hearer_so t okd hd (Nat.le_refl d) hr) fun l S b bl h => ?_
  unfold F_is_hearer_so at h ⊢
  split at h
  rotate_left
  · exact absurd rfl h
  rename_i x deep
  by_cases hk : good S x = true ∧ 0 ≤ deep ∧ deep ≤ (n : Int)
  rotate_left
  · exact absurd (if_neg hk) h
  rw [if_pos hk]
  by_cases h0 : deep = 0
  · subst h0
    rw [e_is_hearer_so0]
    exact fitP b (.bl _)
  · obtain ⟨m, hm⟩ : ∃ m : Nat, deep = (m : Int) + 1 := ⟨(deep - 1).toNat, by omega⟩
    obtain ⟨E, e⟩ := e_is_hearer_so (K := K) (Fd := Fd) hk.1 hm (fun a l ha => hF m (by omega) _ a (good_lst ha l))
    have e3 : deep.toNat = m + 1 := by omega
    rw [e, e3]
    exact fitPE b (.bl _)
theorem ok_is_hearer_so (t : Hd.Tx K mg) : ∀ n : Nat, FnR P w K mg base (4 + 2 * n) (He.ga K "is_hearer_so") t.f_is_hearer_so P_is_hearer_so (spF K (tbs K) (F_is_hearer_so n K))
  | 0 => ok_is_hearer_so_of t (d := 3) (Nat.le_refl _) fnr_stuck fun m hm => absurd hm (by omega)
  | n + 1 => ok_is_hearer_so_of t (d := 4 + 2 * n + 1) (by omega) (ok_is_deed_of t (by omega) (ok_is_hearer_so t n)) fun m hm S a ha => if_pos ⟨ha, by omega, by omega⟩
theorem ok_is_deed (t : Hd.Tx K mg) (n : Nat) : FnR P w K mg base (5 + 2 * n) (He.ga K "is_deed") t.f_is_deed P_is_deed (spF K (tbs K) (F_is_deed n K)) := (show 4 + 2 * n + 1 = 5 + 2 * n by omega) ▸ ok_is_deed_of t (by omega) (ok_is_hearer_so t n)
def F_is_hearer (K : Frg) : List A → Sto → RE := fun l S => match l with
  | [x] => if good S x = true then .ok (.bl (isHr 3 x)) S else .stuck
  | _ => .stuck
-- with is_hearer
abbrev N_is_hearer : List Str := ["thing"]
abbrev P_is_hearer : List Str := ["thing"]
theorem sc_is_hearer : FnScope N_is_hearer P_is_hearer (defScope Hd.s_is_hearer) := ⟨rfl, rfl, rfl, by decide +kernel, rfl, by decide +kernel, by decide +kernel⟩
theorem b_is_hearer {K : Frg} {mg : Str → Option Value} (t : Hd.Tx K mg) : Binds K t.f_is_hearer P_is_hearer [] := FunD.bindsN t.D_is_hearer fun _ _ _ _ _ _ us hl => match us, hl with | [_], _ => rfl
def q_is_hearer (K : Frg) : GS :=
  gRet (gCall (F_is_hearer_so 3 K) (gCons (gVar 0) (gCons (gC (.int 3)) (gNil))))
theorem sb_is_hearer {P : Program} {w : World} {K : Frg} {mg : Str → Option Value} {base : Heap} (t : Hd.Tx K mg)  {cdv : Value} {A : Around} {outer : List Env} {s : Shared} {H : Hp} {E : XK} (hr : Rm 10 (A.deeper (envOfC "is_hearer" (defScope Hd.s_is_hearer) s.heap.objs.size (He.ga K "is_hearer") cdv))) :
    SB (cxOf (L2.CX P w) P w K mg base N_is_hearer "is_hearer" (defScope Hd.s_is_hearer) (He.ga K "is_hearer") cdv A outer s H E) (tbs K) (fun c d _ H2 => E c d H2) (defBody Hd.s_is_hearer) (q_is_hearer K ) := by
  have nd : N_is_hearer.Nodup := sc_is_hearer.nd
  have hp := passes_of (X := cxOf (L2.CX P w) P w K mg base N_is_hearer "is_hearer" (defScope Hd.s_is_hearer) (He.ga K "is_hearer") cdv A outer s H E) (K := fun e s2 => L2.CX P w outer H s E e s2) (E₁ := fun e s2 => L2.CX P w outer H s E e s2) rfl
  have tk : Takes (cxOf (L2.CX P w) P w K mg base N_is_hearer "is_hearer" (defScope Hd.s_is_hearer) (He.ga K "is_hearer") cdv A outer s H E) (fun c d _ H2 => E c d H2) := takes_of rfl rfl rfl rfl
  exact (sb_one (ss_ret (se_call (ok_is_hearer_so t 3) (hr.mono (by omega)) t.m_is_hearer_so t.D_is_hearer_so.kp (b_is_hearer_so t) tk (sa_cons (se_var' (pv 0)) (sa_cons (se_c' (pe_glob (v := .int 3) rfl t.m_DEEPEST.choose_spec ⟨_, rfl⟩) (fun _ _ => .int _)) sa_nil)))))

theorem ok_is_hearer (t : Hd.Tx K mg) : FnR P w K mg base 11 (He.ga K "is_hearer") t.f_is_hearer P_is_hearer (spF K (tbs K) (F_is_hearer K)) := by
  refine fnF t.D_is_hearer sc_is_hearer (fun l S h => by unfold F_is_hearer at h; split at h <;> first | rfl | exact absurd rfl h) (q_is_hearer K) (fun cdv A outer s H E hr => sb_is_hearer t hr) fun l S b bl h => ?_
  unfold F_is_hearer at h ⊢
  split at h
  rotate_left
  · exact absurd rfl h
  rename_i x
  by_cases hk : good S x = true
  rotate_left
  · exact absurd (if_neg hk) h
  rw [if_pos hk]
  have e : q_is_hearer K (startR N_is_hearer.length [x]) S = .ret (.bl (isHr 3 x)) S := by
    simp [q_is_hearer, gVar, gC, gOp, gUn, gAnd, gOr, gNot, gIf, gNil, gCons, gTup, gLst, gCB, gChain, gSet, gExpr, gRet, gRetN, gPass, gBrk, gCt, gRaise, gIfS, gSeq, nName, nTup, setAll, gAsg, gCall, gTru, gNotT, gIsi, RE.bind_ok, RE.bind_exc, RE.bind_stuck, RE.bindA_ok, RE.bindS_ok, RE.bindS_exc, RE.bindT_ok, RE.bindTS_ok, RA.bind_ok, RA.bindA_ok, RE.nox_ok, RS.seq_nx, RS.seq_ret, RS.seq_exc, RS.seq_brk, RS.seq_ct, RS.seq_stuck, RE.bindA_exc, RE.bindA_stuck, RE.bindS_stuck, RE.bindT_exc, RE.bindT_stuck, RE.bindTS_exc, RE.bindTS_stuck, RA.bind_exc, RA.bind_stuck, RA.bindA_exc, RA.bindA_stuck, RE.nox_stuck, bind_ite, bindA_ite, bindS_ite, bindT_ite, bindTS_ite, nox_ite, seq_ite, startR, tyA_non, tyA_bl, tyA_int, tyA_str, tyA_tup, List.map_cons, List.map_nil, List.length_cons, List.length_nil, List.cons_append, List.nil_append, List.append_nil, List.getElem?_cons_zero, List.getElem?_cons_succ, List.set_cons_zero, List.set_cons_succ, vIx_t0, vIx_t1, vIx_t2, vIx_t3, vIx_t4, vIx_t5, vEq_ss, vEq_ii, vEq_bb, vNe_ss, vNe_ii, vNe_bb, vLen_tup, truA_tup, truA_bl, vLe_ii, vLt_ii, vGt_ii, vGe_ii, vSub_ii, vAdd_ii, vAddI_ii, vNeg_i, isT_ss, isT_tt, isT_ii, isT_bi, isT_bb, isT_ib, F_is_hearer_so, hk]
  rw [e]
  exact fitP b (.bl _)
abbrev cBadHearer (K : Frg) : Value := .ref (He.ga K "BadHearer")
abbrev cBadTopic (K : Frg) : Value := .ref (He.ga K "BadTopic")
abbrev cBadValue (K : Frg) : Value := .ref (He.ga K "BadValue")
def F_checked (K : Frg) : List A → Sto → RE := fun l S => match l with
  | [x] => if good S x = true then (if isHr 3 x = true then .ok x S else .exc (cBadHearer K) S) else .stuck
  | _ => .stuck
-- with checked
abbrev N_checked : List Str := ["hearer"]
abbrev P_checked : List Str := ["hearer"]
theorem sc_checked : FnScope N_checked P_checked (defScope Hd.s_checked) := ⟨rfl, rfl, rfl, by decide +kernel, rfl, by decide +kernel, by decide +kernel⟩
theorem b_checked {K : Frg} {mg : Str → Option Value} (t : Hd.Tx K mg) : Binds K t.f_checked P_checked [] := FunD.bindsN t.D_checked fun _ _ _ _ _ _ us hl => match us, hl with | [_], _ => rfl
def q_checked (K : Frg) : GS :=
  gSeq (gIfS (gNot (gCall (F_is_hearer K) (gCons (gVar 0) (gNil)))) (gRaise (.ref (He.ga K "BadHearer"))) (gPass))
  (gRet (gVar 0))
theorem sb_checked {P : Program} {w : World} {K : Frg} {mg : Str → Option Value} {base : Heap} (t : Hd.Tx K mg)  {cdv : Value} {A : Around} {outer : List Env} {s : Shared} {H : Hp} {E : XK} (hr : Rm 11 (A.deeper (envOfC "checked" (defScope Hd.s_checked) s.heap.objs.size (He.ga K "checked") cdv))) :
    SB (cxOf (L2.CX P w) P w K mg base N_checked "checked" (defScope Hd.s_checked) (He.ga K "checked") cdv A outer s H E) (tbs K) (fun c d _ H2 => E c d H2) (defBody Hd.s_checked) (q_checked K ) := by
  have nd : N_checked.Nodup := sc_checked.nd
  have hp := passes_of (X := cxOf (L2.CX P w) P w K mg base N_checked "checked" (defScope Hd.s_checked) (He.ga K "checked") cdv A outer s H E) (K := fun e s2 => L2.CX P w outer H s E e s2) (E₁ := fun e s2 => L2.CX P w outer H s E e s2) rfl
  have tk : Takes (cxOf (L2.CX P w) P w K mg base N_checked "checked" (defScope Hd.s_checked) (He.ga K "checked") cdv A outer s H E) (fun c d _ H2 => E c d H2) := takes_of rfl rfl rfl rfl
  exact (sb_cons (ss_if (st_not (st_val (se_call (ok_is_hearer t) (hr.mono (by omega)) t.m_is_hearer t.D_is_hearer.kp (b_is_hearer t) tk (sa_cons (se_var' (pv 0)) sa_nil)))) (sb_one (ss_raise rfl tk (pmk_own PySem.F.excBase_ValueError t.x_BadHearer.1 t.m_BadHearer t.x_BadHearer.2.1 (raises_own t.x_BadHearer.2.2.1 t.x_BadHearer.2.2.2) (by exact rfl)))) sb_nil)
  (sb_one (ss_ret (se_var' (pv 0)))))

theorem ok_checked (t : Hd.Tx K mg) : FnR P w K mg base 12 (He.ga K "checked") t.f_checked P_checked (spF K (tbs K) (F_checked K)) := by
  refine fnF t.D_checked sc_checked (fun l S h => by unfold F_checked at h; split at h <;> first | rfl | exact absurd rfl h) (q_checked K) (fun cdv A outer s H E hr => sb_checked t hr) fun l S b bl h => ?_
  unfold F_checked at h ⊢
  split at h
  rotate_left
  · exact absurd rfl h
  rename_i x
  by_cases hk : good S x = true
  rotate_left
  · exact absurd (if_neg hk) h
  rw [if_pos hk]
  cases hh : isHr 3 x
  · have e : q_checked K (startR N_checked.length [x]) S = .exc (cBadHearer K) [some x] S := by
      simp [q_checked, gVar, gC, gOp, gUn, gAnd, gOr, gNot, gIf, gNil, gCons, gTup, gLst, gCB, gChain, gSet, gExpr, gRet, gRetN, gPass, gBrk, gCt, gRaise, gIfS, gSeq, nName, nTup, setAll, gAsg, gCall, gTru, gNotT, gIsi, RE.bind_ok, RE.bind_exc, RE.bind_stuck, RE.bindA_ok, RE.bindS_ok, RE.bindS_exc, RE.bindT_ok, RE.bindTS_ok, RA.bind_ok, RA.bindA_ok, RE.nox_ok, RS.seq_nx, RS.seq_ret, RS.seq_exc, RS.seq_brk, RS.seq_ct, RS.seq_stuck, RE.bindA_exc, RE.bindA_stuck, RE.bindS_stuck, RE.bindT_exc, RE.bindT_stuck, RE.bindTS_exc, RE.bindTS_stuck, RA.bind_exc, RA.bind_stuck, RA.bindA_exc, RA.bindA_stuck, RE.nox_stuck, bind_ite, bindA_ite, bindS_ite, bindT_ite, bindTS_ite, nox_ite, seq_ite, startR, tyA_non, tyA_bl, tyA_int, tyA_str, tyA_tup, List.map_cons, List.map_nil, List.length_cons, List.length_nil, List.cons_append, List.nil_append, List.append_nil, List.getElem?_cons_zero, List.getElem?_cons_succ, List.set_cons_zero, List.set_cons_succ, vIx_t0, vIx_t1, vIx_t2, vIx_t3, vIx_t4, vIx_t5, vEq_ss, vEq_ii, vEq_bb, vNe_ss, vNe_ii, vNe_bb, vLen_tup, truA_tup, truA_bl, vLe_ii, vLt_ii, vGt_ii, vGe_ii, vSub_ii, vAdd_ii, vAddI_ii, vNeg_i, isT_ss, isT_tt, isT_ii, isT_bi, isT_bb, isT_ib, F_is_hearer, hk, hh]
    rw [e]
    exact fitX b
  · have e : q_checked K (startR N_checked.length [x]) S = .ret x S := by
      simp [q_checked, gVar, gC, gOp, gUn, gAnd, gOr, gNot, gIf, gNil, gCons, gTup, gLst, gCB, gChain, gSet, gExpr, gRet, gRetN, gPass, gBrk, gCt, gRaise, gIfS, gSeq, nName, nTup, setAll, gAsg, gCall, gTru, gNotT, gIsi, RE.bind_ok, RE.bind_exc, RE.bind_stuck, RE.bindA_ok, RE.bindS_ok, RE.bindS_exc, RE.bindT_ok, RE.bindTS_ok, RA.bind_ok, RA.bindA_ok, RE.nox_ok, RS.seq_nx, RS.seq_ret, RS.seq_exc, RS.seq_brk, RS.seq_ct, RS.seq_stuck, RE.bindA_exc, RE.bindA_stuck, RE.bindS_stuck, RE.bindT_exc, RE.bindT_stuck, RE.bindTS_exc, RE.bindTS_stuck, RA.bind_exc, RA.bind_stuck, RA.bindA_exc, RA.bindA_stuck, RE.nox_stuck, bind_ite, bindA_ite, bindS_ite, bindT_ite, bindTS_ite, nox_ite, seq_ite, startR, tyA_non, tyA_bl, tyA_int, tyA_str, tyA_tup, List.map_cons, List.map_nil, List.length_cons, List.length_nil, List.cons_append, List.nil_append, List.append_nil, List.getElem?_cons_zero, List.getElem?_cons_succ, List.set_cons_zero, List.set_cons_succ, vIx_t0, vIx_t1, vIx_t2, vIx_t3, vIx_t4, vIx_t5, vEq_ss, vEq_ii, vEq_bb, vNe_ss, vNe_ii, vNe_bb, vLen_tup, truA_tup, truA_bl, vLe_ii, vLt_ii, vGt_ii, vGe_ii, vSub_ii, vAdd_ii, vAddI_ii, vNeg_i, isT_ss, isT_tt, isT_ii, isT_bi, isT_bb, isT_ib, F_is_hearer, hk, hh]
    rw [e]
    exact fitP b (bl x (by simp))
def F_look_topic (K : Frg) : List A → Sto → RE := fun l S => match l with
  | [x] => if good S x = true then (if isWord x = true then .ok .non S else .exc (cBadTopic K) S) else .stuck
  | _ => .stuck
def F_look_value (K : Frg) : List A → Sto → RE := fun l S => match l with
  | [x] => if kn S x = true then (if isIn x 0 9999 = true then .ok .non S else .exc (cBadValue K) S) else .stuck
  | _ => .stuck
end
end Sx.My

set_option Elab.async false
set_option linter.all false
set_option maxRecDepth 100000
set_option maxHeartbeats 4000000
namespace Sx.My
open PySem PySem.Spec PyProof.Rows L2
/-! the laws' own making -/
def F__law_cell (K : Frg) : List A → Sto → RE := fun l S => match l with
  | [.ob n, .int k] => (match (itemsAt S n).bind intsOf with
    | some ns => if 0 ≤ k then .ok (.int (cellOf ns k)) S else .stuck
    | none => .stuck)
  | _ => .stuck
theorem F__law_cell_at {K : Frg} {S : Sto} {n : Nat} {ns : List Int} {k : Int} (h : itemsAt S n = some (ns.map A.int)) (hk : 0 ≤ k) : F__law_cell K [.ob n, .int k] S = .ok (.int (cellOf ns k)) S := by
  unfold F__law_cell
  simp only [h, Option.bind_some, intsOf_map, hk, if_true]
def F__law_seed (K : Frg) : List A → Sto → RE := fun l S => match l with
  | [.int s, .int k] => .ok (.int (seedOf s k)) S
  | _ => .stuck
def F__law_pick (K : Frg) : List A → Sto → RE := fun l S => match l with
  | [.int s, .int m] => if 0 < m then .ok (.int (pickOf s m)) S else .stuck
  | _ => .stuck
theorem pick_at {K : Frg} {s m : Int} {S : Sto} (h : 0 < m) : F__law_pick K [.int s, .int m] S = .ok (.int (pickOf s m)) S := by
  unfold F__law_pick
  exact if_pos h
def F__law_word (K : Frg) : List A → Sto → RE := fun l S => match l with
  | [.int s] => .ok (.str (wordOf s)) S
  | _ => .stuck
def F__law_hearer (n : Nat) (K : Frg) : List A → Sto → RE := fun l S => match l with
  | [.int s, .int deep] => if 1 ≤ deep ∧ deep ≤ (n : Int) then .ok (hrG deep.toNat s) S else .stuck
  | _ => .stuck
theorem law_hearer_at {n d : Nat} {K : Frg} {s : Int} {S : Sto} (h1 : 1 ≤ d) (h2 : d ≤ n) : F__law_hearer n K [.int s, .int (d : Int)] S = .ok (hrG d s) S := by
  unfold F__law_hearer
  dsimp only
  rw [if_pos (by omega)]
  rfl
def F__law_deed (n : Nat) (K : Frg) : List A → Sto → RE := fun l S => match l with
  | [.int s, .int deep] => if 1 ≤ deep ∧ deep ≤ (n : Int) then .ok (deedW deep (hrG (deep - 1).toNat) s) S else .stuck
  | _ => .stuck
section
variable {P : Program} {w : World} {K : Frg} {mg : Str → Option Value} {base : Heap}
-- with _law_cell
abbrev N__law_cell : List Str := ["script", "k"]
abbrev P__law_cell : List Str := ["script", "k"]
theorem sc__law_cell : FnScope N__law_cell P__law_cell (defScope Hd.s__law_cell) := ⟨rfl, rfl, rfl, by decide +kernel, rfl, by decide +kernel, by decide +kernel⟩
theorem b__law_cell {K : Frg} {mg : Str → Option Value} (t : Hd.Tx K mg) : Binds K t.f__law_cell P__law_cell [] := FunD.bindsN t.D__law_cell fun _ _ _ _ _ _ us hl => match us, hl with | [_, _], _ => rfl
def q__law_cell (K : Frg) : GS :=
  gSeq (gIfS (gOp vLt (gVar 1) (gCB vLen (gCons (gVar 0) (gNil)))) (gRet (gOp vIx (gVar 0) (gVar 1))) (gPass))
  (gRet (gC (.int 0)))
theorem sb__law_cell {P : Program} {w : World} {K : Frg} {mg : Str → Option Value} {base : Heap} (t : Hd.Tx K mg)  {cdv : Value} {A : Around} {outer : List Env} {s : Shared} {H : Hp} {E : XK} (hr : Rm 0 (A.deeper (envOfC "_law_cell" (defScope Hd.s__law_cell) s.heap.objs.size (He.ga K "_law_cell") cdv))) :
    SB (cxOf (L2.CX P w) P w K mg base N__law_cell "_law_cell" (defScope Hd.s__law_cell) (He.ga K "_law_cell") cdv A outer s H E) (tbs K) (fun c d _ H2 => E c d H2) (defBody Hd.s__law_cell) (q__law_cell K ) := by
  have nd : N__law_cell.Nodup := sc__law_cell.nd
  have hp := passes_of (X := cxOf (L2.CX P w) P w K mg base N__law_cell "_law_cell" (defScope Hd.s__law_cell) (He.ga K "_law_cell") cdv A outer s H E) (K := fun e s2 => L2.CX P w outer H s E e s2) (E₁ := fun e s2 => L2.CX P w outer H s E e s2) rfl
  have tk : Takes (cxOf (L2.CX P w) P w K mg base N__law_cell "_law_cell" (defScope Hd.s__law_cell) (He.ga K "_law_cell") cdv A outer s H E) (fun c d _ H2 => E c d H2) := takes_of rfl rfl rfl rfl
  exact (sb_cons (ss_if (st_cmp os_lt (se_var' (pv 1)) (se_callB cs_len (by rfl) t.n_len (by decide +kernel) (sa_cons (se_var' (pv 0)) sa_nil)) (nomark _)) (sb_one (ss_ret (se_ix is_ix (se_var' (pv 0)) (se_var' (pv 1)) (fun _ _ => rfl)))) sb_nil)
  (sb_one (ss_ret se_int)))

theorem ok__law_cell (t : Hd.Tx K mg) : FnR P w K mg base 1 (He.ga K "_law_cell") t.f__law_cell P__law_cell (spF K (tbs K) (F__law_cell K)) := by
  refine fnF t.D__law_cell sc__law_cell (fun l S h => by unfold F__law_cell at h; split at h <;> first | rfl | exact absurd rfl h) (q__law_cell K) (fun cdv A outer s H E hr => sb__law_cell t hr) fun l S b bl h => ?_
  unfold F__law_cell at h ⊢
  split at h
  rotate_left
  · exact absurd rfl h
  rename_i n k
  cases hq : itemsAt S n with
  | none => rw [hq] at h; exact absurd rfl h
  | some xs =>
    rw [hq] at h
    simp only [Option.bind_some] at h ⊢
    cases hi : intsOf xs with
    | none => rw [hi] at h; exact absurd rfl h
    | some ns =>
      rw [hi] at h
      have e2 := intsOf_eq hi
      subst e2
      by_cases hk : 0 ≤ k
      rotate_left
      · exact absurd (if_neg hk) h
      have e : q__law_cell K (startR N__law_cell.length [.ob n, .int k]) S = .ret (.int (cellOf ns k)) S := by
        by_cases hl : k < (ns.length : Int)
        · have ex : k.toNat < ns.length := by omega
          have ek : k = ((k.toNat : Nat) : Int) := by omega
          have ha : L2.atI (ns.map A.int) k = some (.int (cellOf ns k)) := by
            have := L2.atI_nat (xs := ns.map A.int) (j := k.toNat) (v := .int ns[k.toNat]) (by simp [ex])
            rw [← ek] at this
            rw [this]
            simp [cellOf, ex]
          simp [q__law_cell, gVar, gC, gOp, gUn, gAnd, gOr, gNot, gIf, gNil, gCons, gTup, gLst, gCB, gChain, gSet, gExpr, gRet, gRetN, gPass, gBrk, gCt, gRaise, gIfS, gSeq, nName, nTup, setAll, gAsg, gCall, gTru, gNotT, gIsi, RE.bind_ok, RE.bind_exc, RE.bind_stuck, RE.bindA_ok, RE.bindS_ok, RE.bindS_exc, RE.bindT_ok, RE.bindTS_ok, RA.bind_ok, RA.bindA_ok, RE.nox_ok, RS.seq_nx, RS.seq_ret, RS.seq_exc, RS.seq_brk, RS.seq_ct, RS.seq_stuck, RE.bindA_exc, RE.bindA_stuck, RE.bindS_stuck, RE.bindT_exc, RE.bindT_stuck, RE.bindTS_exc, RE.bindTS_stuck, RA.bind_exc, RA.bind_stuck, RA.bindA_exc, RA.bindA_stuck, RE.nox_stuck, bind_ite, bindA_ite, bindS_ite, bindT_ite, bindTS_ite, nox_ite, seq_ite, startR, tyA_non, tyA_bl, tyA_int, tyA_str, tyA_tup, List.map_cons, List.map_nil, List.length_cons, List.length_nil, List.cons_append, List.nil_append, List.append_nil, List.getElem?_cons_zero, List.getElem?_cons_succ, List.set_cons_zero, List.set_cons_succ, vIx_t0, vIx_t1, vIx_t2, vIx_t3, vIx_t4, vIx_t5, vEq_ss, vEq_ii, vEq_bb, vNe_ss, vNe_ii, vNe_bb, vLen_tup, truA_tup, truA_bl, vLe_ii, vLt_ii, vGt_ii, vGe_ii, vSub_ii, vAdd_ii, vAddI_ii, vNeg_i, isT_ss, isT_tt, isT_ii, isT_bi, isT_bb, isT_ib, vLen, seqOf, hq, hl, vIx, ha]
        · have ex : ¬ k.toNat < ns.length := by omega
          simp [q__law_cell, gVar, gC, gOp, gUn, gAnd, gOr, gNot, gIf, gNil, gCons, gTup, gLst, gCB, gChain, gSet, gExpr, gRet, gRetN, gPass, gBrk, gCt, gRaise, gIfS, gSeq, nName, nTup, setAll, gAsg, gCall, gTru, gNotT, gIsi, RE.bind_ok, RE.bind_exc, RE.bind_stuck, RE.bindA_ok, RE.bindS_ok, RE.bindS_exc, RE.bindT_ok, RE.bindTS_ok, RA.bind_ok, RA.bindA_ok, RE.nox_ok, RS.seq_nx, RS.seq_ret, RS.seq_exc, RS.seq_brk, RS.seq_ct, RS.seq_stuck, RE.bindA_exc, RE.bindA_stuck, RE.bindS_stuck, RE.bindT_exc, RE.bindT_stuck, RE.bindTS_exc, RE.bindTS_stuck, RA.bind_exc, RA.bind_stuck, RA.bindA_exc, RA.bindA_stuck, RE.nox_stuck, bind_ite, bindA_ite, bindS_ite, bindT_ite, bindTS_ite, nox_ite, seq_ite, startR, tyA_non, tyA_bl, tyA_int, tyA_str, tyA_tup, List.map_cons, List.map_nil, List.length_cons, List.length_nil, List.cons_append, List.nil_append, List.append_nil, List.getElem?_cons_zero, List.getElem?_cons_succ, List.set_cons_zero, List.set_cons_succ, vIx_t0, vIx_t1, vIx_t2, vIx_t3, vIx_t4, vIx_t5, vEq_ss, vEq_ii, vEq_bb, vNe_ss, vNe_ii, vNe_bb, vLen_tup, truA_tup, truA_bl, vLe_ii, vLt_ii, vGt_ii, vGe_ii, vSub_ii, vAdd_ii, vAddI_ii, vNeg_i, isT_ss, isT_tt, isT_ii, isT_bi, isT_bb, isT_ib, vLen, seqOf, hq, hl, cellOf, List.getD_eq_getElem?_getD, List.getElem?_eq_none (Nat.le_of_not_lt ex)]
      simp only [hq, Option.bind_some, hi, hk, if_true]
      rw [e]
      exact fitP b (.int _)
-- with _law_seed
abbrev N__law_seed : List Str := ["seed", "k"]
abbrev P__law_seed : List Str := ["seed", "k"]
theorem sc__law_seed : FnScope N__law_seed P__law_seed (defScope Hd.s__law_seed) := ⟨rfl, rfl, rfl, by decide +kernel, rfl, by decide +kernel, by decide +kernel⟩
theorem b__law_seed {K : Frg} {mg : Str → Option Value} (t : Hd.Tx K mg) : Binds K t.f__law_seed P__law_seed [] := FunD.bindsN t.D__law_seed fun _ _ _ _ _ _ us hl => match us, hl with | [_, _], _ => rfl
def q__law_seed (K : Frg) : GS :=
  gRet (gOp vMod (gOp vPow (gOp vMod (gOp vAdd (gOp vAdd (gOp vMul (gVar 0) (gC (.int 1103515245))) (gOp vMul (gC (.int 7919)) (gVar 1))) (gC (.int 12345))) (gC (.int 2147483647))) (gC (.int 5))) (gC (.int 2147483647)))
theorem sb__law_seed {P : Program} {w : World} {K : Frg} {mg : Str → Option Value} {base : Heap} (t : Hd.Tx K mg)  {cdv : Value} {A : Around} {outer : List Env} {s : Shared} {H : Hp} {E : XK} (hr : Rm 0 (A.deeper (envOfC "_law_seed" (defScope Hd.s__law_seed) s.heap.objs.size (He.ga K "_law_seed") cdv))) :
    SB (cxOf (L2.CX P w) P w K mg base N__law_seed "_law_seed" (defScope Hd.s__law_seed) (He.ga K "_law_seed") cdv A outer s H E) (tbs K) (fun c d _ H2 => E c d H2) (defBody Hd.s__law_seed) (q__law_seed K ) := by
  have nd : N__law_seed.Nodup := sc__law_seed.nd
  have hp := passes_of (X := cxOf (L2.CX P w) P w K mg base N__law_seed "_law_seed" (defScope Hd.s__law_seed) (He.ga K "_law_seed") cdv A outer s H E) (K := fun e s2 => L2.CX P w outer H s E e s2) (E₁ := fun e s2 => L2.CX P w outer H s E e s2) rfl
  have tk : Takes (cxOf (L2.CX P w) P w K mg base N__law_seed "_law_seed" (defScope Hd.s__law_seed) (He.ga K "_law_seed") cdv A outer s H E) (fun c d _ H2 => E c d H2) := takes_of rfl rfl rfl rfl
  exact (sb_one (ss_ret (se_op os_mod (se_op os_pow (se_op os_mod (se_op os_add (se_op os_add (se_op os_mul (se_var' (pv 0)) se_int) (se_op os_mul se_int (se_var' (pv 1)))) se_int) se_int) se_int) se_int)))

theorem ok__law_seed (t : Hd.Tx K mg) : FnR P w K mg base 1 (He.ga K "_law_seed") t.f__law_seed P__law_seed (spF K (tbs K) (F__law_seed K)) := by
  refine fnF t.D__law_seed sc__law_seed (fun l S h => by unfold F__law_seed at h; split at h <;> first | rfl | exact absurd rfl h) (q__law_seed K) (fun cdv A outer s H E hr => sb__law_seed t hr) fun l S b bl h => ?_
  unfold F__law_seed at h ⊢
  split at h
  rotate_left
  · exact absurd rfl h
  rename_i s k
  have e : q__law_seed K (startR N__law_seed.length [.int s, .int k]) S = .ret (.int (seedOf s k)) S := by
    have m1 : ∀ a S, vMul (.int a) (.int 1103515245) S = .ok (.int (a * 1103515245)) S := fun a S => vMul_r _ _ _ (by decide)
    have m2 : ∀ a S, vMul (.int 7919) (.int a) S = .ok (.int (7919 * a)) S := fun a S => vMul_l _ _ _ (by decide)
    have m3 : ∀ a S, vMod (.int a) (.int 2147483647) S = .ok (.int (a % 2147483647)) S := fun a S => vMod_pos _ _ _ (by decide)
    have m4 : ∀ a S, vPow (.int (a % 2147483647)) (.int 5) S = .ok (.int ((a % 2147483647) ^ 5)) S := fun a S => if_pos (by
      obtain ⟨h1, h2⟩ := emod_lt' (a := a) (b := 2147483647) (by decide)
      omega)
    simp only [q__law_seed, gVar, gC, gOp, gUn, gAnd, gOr, gNot, gIf, gNil, gCons, gTup, gLst, gCB, gChain, gSet, gExpr, gRet, gRetN, gPass, gBrk, gCt, gRaise, gIfS, gSeq, nName, nTup, setAll, gAsg, gCall, gTru, gNotT, gIsi, RE.bind_ok, RE.bind_exc, RE.bind_stuck, RE.bindA_ok, RE.bindS_ok, RE.bindS_exc, RE.bindT_ok, RE.bindTS_ok, RA.bind_ok, RA.bindA_ok, RE.nox_ok, RS.seq_nx, RS.seq_ret, RS.seq_exc, RS.seq_brk, RS.seq_ct, RS.seq_stuck, RE.bindA_exc, RE.bindA_stuck, RE.bindS_stuck, RE.bindT_exc, RE.bindT_stuck, RE.bindTS_exc, RE.bindTS_stuck, RA.bind_exc, RA.bind_stuck, RA.bindA_exc, RA.bindA_stuck, RE.nox_stuck, bind_ite, bindA_ite, bindS_ite, bindT_ite, bindTS_ite, nox_ite, seq_ite, startR, tyA_non, tyA_bl, tyA_int, tyA_str, tyA_tup, List.map_cons, List.map_nil, List.length_cons, List.length_nil, List.cons_append, List.nil_append, List.append_nil, List.getElem?_cons_zero, List.getElem?_cons_succ, List.set_cons_zero, List.set_cons_succ, vIx_t0, vIx_t1, vIx_t2, vIx_t3, vIx_t4, vIx_t5, vEq_ss, vEq_ii, vEq_bb, vNe_ss, vNe_ii, vNe_bb, vLen_tup, truA_tup, truA_bl, vLe_ii, vLt_ii, vGt_ii, vGe_ii, vSub_ii, vAdd_ii, vAddI_ii, vNeg_i, isT_ss, isT_tt, isT_ii, isT_bi, isT_bb, isT_ib, m1, m2, m3, m4, seedOf, List.replicate, Nat.reduceAdd, Nat.reduceSub]
  rw [e]
  exact fitP b (.int _)
-- with _law_pick
abbrev N__law_pick : List Str := ["seed", "many"]
abbrev P__law_pick : List Str := ["seed", "many"]
theorem sc__law_pick : FnScope N__law_pick P__law_pick (defScope Hd.s__law_pick) := ⟨rfl, rfl, rfl, by decide +kernel, rfl, by decide +kernel, by decide +kernel⟩
theorem b__law_pick {K : Frg} {mg : Str → Option Value} (t : Hd.Tx K mg) : Binds K t.f__law_pick P__law_pick [] := FunD.bindsN t.D__law_pick fun _ _ _ _ _ _ us hl => match us, hl with | [_, _], _ => rfl
def q__law_pick (K : Frg) : GS :=
  gRet (gOp vMod (gOp vFdiv (gVar 0) (gC (.int 97))) (gVar 1))
theorem sb__law_pick {P : Program} {w : World} {K : Frg} {mg : Str → Option Value} {base : Heap} (t : Hd.Tx K mg)  {cdv : Value} {A : Around} {outer : List Env} {s : Shared} {H : Hp} {E : XK} (hr : Rm 0 (A.deeper (envOfC "_law_pick" (defScope Hd.s__law_pick) s.heap.objs.size (He.ga K "_law_pick") cdv))) :
    SB (cxOf (L2.CX P w) P w K mg base N__law_pick "_law_pick" (defScope Hd.s__law_pick) (He.ga K "_law_pick") cdv A outer s H E) (tbs K) (fun c d _ H2 => E c d H2) (defBody Hd.s__law_pick) (q__law_pick K ) := by
  have nd : N__law_pick.Nodup := sc__law_pick.nd
  have hp := passes_of (X := cxOf (L2.CX P w) P w K mg base N__law_pick "_law_pick" (defScope Hd.s__law_pick) (He.ga K "_law_pick") cdv A outer s H E) (K := fun e s2 => L2.CX P w outer H s E e s2) (E₁ := fun e s2 => L2.CX P w outer H s E e s2) rfl
  have tk : Takes (cxOf (L2.CX P w) P w K mg base N__law_pick "_law_pick" (defScope Hd.s__law_pick) (He.ga K "_law_pick") cdv A outer s H E) (fun c d _ H2 => E c d H2) := takes_of rfl rfl rfl rfl
  exact (sb_one (ss_ret (se_op os_mod (se_op os_fdiv (se_var' (pv 0)) se_int) (se_var' (pv 1)))))

theorem ok__law_pick (t : Hd.Tx K mg) : FnR P w K mg base 1 (He.ga K "_law_pick") t.f__law_pick P__law_pick (spF K (tbs K) (F__law_pick K)) := by
  refine fnF t.D__law_pick sc__law_pick (fun l S h => by unfold F__law_pick at h; split at h <;> first | rfl | exact absurd rfl h) (q__law_pick K) (fun cdv A outer s H E hr => sb__law_pick t hr) fun l S b bl h => ?_
  unfold F__law_pick at h ⊢
  split at h
  rotate_left
  · exact absurd rfl h
  rename_i s m
  by_cases hk : 0 < m
  rotate_left
  · exact absurd (if_neg hk) h
  rw [if_pos hk]
  have e : q__law_pick K (startR N__law_pick.length [.int s, .int m]) S = .ret (.int (pickOf s m)) S := by
    have m1 : ∀ S, vFdiv (.int s) (.int 97) S = .ok (.int (s / 97)) S := fun S => vFdiv_pos _ _ _ (by decide)
    have m2 : ∀ S, vMod (.int (s / 97)) (.int m) S = .ok (.int (s / 97 % m)) S := fun S => vMod_pos _ _ _ hk
    simp only [q__law_pick, gVar, gC, gOp, gUn, gAnd, gOr, gNot, gIf, gNil, gCons, gTup, gLst, gCB, gChain, gSet, gExpr, gRet, gRetN, gPass, gBrk, gCt, gRaise, gIfS, gSeq, nName, nTup, setAll, gAsg, gCall, gTru, gNotT, gIsi, RE.bind_ok, RE.bind_exc, RE.bind_stuck, RE.bindA_ok, RE.bindS_ok, RE.bindS_exc, RE.bindT_ok, RE.bindTS_ok, RA.bind_ok, RA.bindA_ok, RE.nox_ok, RS.seq_nx, RS.seq_ret, RS.seq_exc, RS.seq_brk, RS.seq_ct, RS.seq_stuck, RE.bindA_exc, RE.bindA_stuck, RE.bindS_stuck, RE.bindT_exc, RE.bindT_stuck, RE.bindTS_exc, RE.bindTS_stuck, RA.bind_exc, RA.bind_stuck, RA.bindA_exc, RA.bindA_stuck, RE.nox_stuck, bind_ite, bindA_ite, bindS_ite, bindT_ite, bindTS_ite, nox_ite, seq_ite, startR, tyA_non, tyA_bl, tyA_int, tyA_str, tyA_tup, List.map_cons, List.map_nil, List.length_cons, List.length_nil, List.cons_append, List.nil_append, List.append_nil, List.getElem?_cons_zero, List.getElem?_cons_succ, List.set_cons_zero, List.set_cons_succ, vIx_t0, vIx_t1, vIx_t2, vIx_t3, vIx_t4, vIx_t5, vEq_ss, vEq_ii, vEq_bb, vNe_ss, vNe_ii, vNe_bb, vLen_tup, truA_tup, truA_bl, vLe_ii, vLt_ii, vGt_ii, vGe_ii, vSub_ii, vAdd_ii, vAddI_ii, vNeg_i, isT_ss, isT_tt, isT_ii, isT_bi, isT_bb, isT_ib, m1, m2, pickOf, List.replicate, Nat.reduceAdd, Nat.reduceSub]
  rw [e]
  exact fitP b (.int _)
-- with _law_word
def q__law_word_0 (K : Frg) : GS :=
  gSet 1 (gC (.str "abcdefghijklmnopqrstuvwxyz"))
def q__law_word_1 (K : Frg) : GS :=
  gIfS (gOp vGt (gOp vMod (gOp vFdiv (gVar 0) (gC (.int 5))) (gC (.int 6))) (gC (.int 0))) (gRet (gOp vIx (gLst (gCons (gC (.str "a")) (gCons (gC (.str "b")) (gCons (gC (.str "c")) (gCons (gC (.str "news")) (gCons (gC (.str "log")) (gNil))))))) (gCall (F__law_pick K) (gCons (gVar 0) (gCons (gC (.int 5)) (gNil)))))) (gPass)
def q__law_word_2 (K : Frg) : GS :=
  gRet (gMt "str" vJoin (gC (.str "")) (gCons (gLc (gIR1 (gCons (gOp vAdd (gC (.int 1)) (gOp vMod (gOp vFdiv (gVar 0) (gC (.int 7))) (gC (.int 6)))) (gNil))) (nName 2) (gYes) (gOp vIx (gVar 1) (gCall (F__law_pick K) (gCons (gCall (F__law_seed K) (gCons (gVar 0) (gCons (gVar 2) (gNil)))) (gCons (gC (.int 26)) (gNil))))) [2]) (gNil)))
abbrev N__law_word : List Str := ["seed", "letters", "k"]
abbrev P__law_word : List Str := ["seed"]
theorem sc__law_word : FnScope N__law_word P__law_word (defScope Hd.s__law_word) := ⟨rfl, rfl, rfl, by decide +kernel, rfl, by decide +kernel, by decide +kernel⟩
theorem b__law_word {K : Frg} {mg : Str → Option Value} (t : Hd.Tx K mg) : Binds K t.f__law_word P__law_word [] := FunD.bindsN t.D__law_word fun _ _ _ _ _ _ us hl => match us, hl with | [_], _ => rfl
def q__law_word (K : Frg) : GS :=
  gSeq (q__law_word_0 K ) (gSeq (q__law_word_1 K ) (q__law_word_2 K ))
theorem sb__law_word {P : Program} {w : World} {K : Frg} {mg : Str → Option Value} {base : Heap} (t : Hd.Tx K mg)  {cdv : Value} {A : Around} {outer : List Env} {s : Shared} {H : Hp} {E : XK} (hr : Rm 1 (A.deeper (envOfC "_law_word" (defScope Hd.s__law_word) s.heap.objs.size (He.ga K "_law_word") cdv))) :
    SB (cxOf (L2.CX P w) P w K mg base N__law_word "_law_word" (defScope Hd.s__law_word) (He.ga K "_law_word") cdv A outer s H E) (tbs K) (fun c d _ H2 => E c d H2) (defBody Hd.s__law_word) (q__law_word K ) := by
  have nd : N__law_word.Nodup := sc__law_word.nd
  have hp := passes_of (X := cxOf (L2.CX P w) P w K mg base N__law_word "_law_word" (defScope Hd.s__law_word) (He.ga K "_law_word") cdv A outer s H E) (K := fun e s2 => L2.CX P w outer H s E e s2) (E₁ := fun e s2 => L2.CX P w outer H s E e s2) rfl
  have tk : Takes (cxOf (L2.CX P w) P w K mg base N__law_word "_law_word" (defScope Hd.s__law_word) (He.ga K "_law_word") cdv A outer s H E) (fun c d _ H2 => E c d H2) := takes_of rfl rfl rfl rfl
  exact (sb_cons (ss_set (i := 1) nd rfl (Or.inr rfl) se_str)
  (sb_cons (ss_if (st_cmp os_gt (se_op os_mod (se_op os_fdiv (se_var' (pv 0)) se_int) se_int) se_int (nomark _)) (sb_one (ss_ret (se_ix is_ix (se_lst (sa_cons se_str (sa_cons se_str (sa_cons se_str (sa_cons se_str (sa_cons se_str sa_nil)))))) (se_call (ok__law_pick t) (hr.mono (by omega)) t.m__law_pick t.D__law_pick.kp (b__law_pick t) tk (sa_cons (se_var' (pv 0)) (sa_cons se_int sa_nil))) (fun _ _ => rfl)))) sb_nil)
  (sb_one (ss_ret (se_bm PySem.F.plainAttrs_str PySem.F.slot_str_join PySem.F.type_str_join ms_join se_str (sa_cons (se_lc (own := [("k", 2)]) rfl nd (si_range1 t.n_range (sa_cons (se_op os_add se_int (se_op os_mod (se_op os_fdiv (se_var' (pv 0)) se_int) se_int)) sa_nil)) (blkOk_by (own := [("k", 2)]) (N := N__law_word) (sc := defScope Hd.s__law_word) (by decide +kernel)) (tg_name (by decide)) (fun _ _ _ _ _ => (pg_name (i := 2) nd rfl (Or.inl rfl))) (fun _ _ _ _ _ => sts_nil) (fun _ _ _ _ _ => (se_ix is_ix (se_var' (pv 1)) (se_call (ok__law_pick t) (hr.mono (by omega)) t.m__law_pick t.D__law_pick.kp (b__law_pick t) takes0 (sa_cons (se_call (ok__law_seed t) (hr.mono (by omega)) t.m__law_seed t.D__law_seed.kp (b__law_seed t) takes0 (sa_cons (se_var' (pv 0)) (sa_cons (se_var' (pv 2)) sa_nil))) (sa_cons se_int sa_nil))) (fun _ _ => rfl)))) sa_nil))))))

theorem ok__law_word (t : Hd.Tx K mg) : FnR P w K mg base 2 (He.ga K "_law_word") t.f__law_word P__law_word (spF K (tbs K) (F__law_word K)) := by
  refine fnF t.D__law_word sc__law_word (fun l S h => by unfold F__law_word at h; split at h <;> first | rfl | exact absurd rfl h) (q__law_word K) (fun cdv A outer s H E hr => sb__law_word t hr) fun l S b bl h => ?_
  unfold F__law_word at h ⊢
  split at h
  rotate_left
  · exact absurd rfl h
  rename_i s
  have m1 : ∀ S, vFdiv (.int s) (.int 5) S = .ok (.int (s / 5)) S := fun S => vFdiv_pos _ _ _ (by decide)
  have m2 : ∀ S, vFdiv (.int s) (.int 7) S = .ok (.int (s / 7)) S := fun S => vFdiv_pos _ _ _ (by decide)
  have m3 : ∀ a S, vMod (.int a) (.int 6) S = .ok (.int (a % 6)) S := fun a S => vMod_pos _ _ _ (by decide)
  have p1 : ∀ S, F__law_pick K [.int s, .int 5] S = .ok (.int (pickOf s 5)) S := fun S => pick_at (by decide)
  have p2 : ∀ a S, F__law_pick K [.int a, .int 26] S = .ok (.int (pickOf a 26)) S := fun a S => pick_at (by decide)
  obtain ⟨E, e⟩ : ∃ E, q__law_word K (startR N__law_word.length [.int s]) S = .ret (.str (wordOf s)) (S ++ E) := by
    by_cases h0 : 0 < s / 5 % 6
    · refine ⟨[.lst [.str "a", .str "b", .str "c", .str "news", .str "log"]], ?_⟩
      obtain ⟨h1, h2⟩ := pick_lt s (m := 5) (by decide)
      have e2 : L2.atI ([.str "a", .str "b", .str "c", .str "news", .str "log"] : List A) (pickOf s 5) = some (.str (wordOf s)) := by
        rw [atI_getD (.str "a") h1 (by simpa using h2), wordOf, if_pos h0]
        have h5 : (pickOf s 5).toNat < 5 := by omega
        generalize (pickOf s 5).toNat = k at h5
        match k, h5 with
        | 0, _ => rfl
        | 1, _ => rfl
        | 2, _ => rfl
        | 3, _ => rfl
        | 4, _ => rfl
      simp only [q__law_word, q__law_word_0, q__law_word_1, gVar, gC, gOp, gUn, gAnd, gOr, gNot, gIf, gNil, gCons, gTup, gLst, gCB, gChain, gSet, gExpr, gRet, gRetN, gPass, gBrk, gCt, gRaise, gIfS, gSeq, nName, nTup, setAll, gAsg, gCall, gTru, gNotT, gIsi, RE.bind_ok, RE.bind_exc, RE.bind_stuck, RE.bindA_ok, RE.bindS_ok, RE.bindS_exc, RE.bindT_ok, RE.bindTS_ok, RA.bind_ok, RA.bindA_ok, RE.nox_ok, RS.seq_nx, RS.seq_ret, RS.seq_exc, RS.seq_brk, RS.seq_ct, RS.seq_stuck, RE.bindA_exc, RE.bindA_stuck, RE.bindS_stuck, RE.bindT_exc, RE.bindT_stuck, RE.bindTS_exc, RE.bindTS_stuck, RA.bind_exc, RA.bind_stuck, RA.bindA_exc, RA.bindA_stuck, RE.nox_stuck, bind_ite, bindA_ite, bindS_ite, bindT_ite, bindTS_ite, nox_ite, seq_ite, startR, tyA_non, tyA_bl, tyA_int, tyA_str, tyA_tup, List.map_cons, List.map_nil, List.length_cons, List.length_nil, List.cons_append, List.nil_append, List.append_nil, List.getElem?_cons_zero, List.getElem?_cons_succ, List.set_cons_zero, List.set_cons_succ, vIx_t0, vIx_t1, vIx_t2, vIx_t3, vIx_t4, vIx_t5, vEq_ss, vEq_ii, vEq_bb, vNe_ss, vNe_ii, vNe_bb, vLen_tup, truA_tup, truA_bl, vLe_ii, vLt_ii, vGt_ii, vGe_ii, vSub_ii, vAdd_ii, vAddI_ii, vNeg_i, isT_ss, isT_tt, isT_ii, isT_bi, isT_bb, isT_ib, List.replicate, Nat.reduceAdd, Nat.reduceSub, m1, m3, h0, decide_true, ↓reduceIte, Nat.reduceLeDiff, p1, vIx_obE, items_off0, itemsAt_c0, items_lst, e2]
    · obtain ⟨h1, h2⟩ := emod_lt' (a := s / 7) (b := 6) (by decide)
      have lc := lc_eq (chk := fun _ => true) (gg := nName 2) (gt := gYes) (ge := gOp vIx (gVar 1) (gCall (F__law_pick K) (gCons (gCall (F__law_seed K) (gCons (gVar 0) (gCons (gVar 2) (gNil)))) (gCons (gC (.int 26)) (gNil))))) (ρ0 := [some (.int s), some (.str smallS), none]) (S0 := S) (fun _ => true) (fun a => match a with
        | .int k => .str ⟨#[letterOf (pickOf (seedOf s k) 26)]⟩
        | _ => .non) (fun _ => rfl) (rngA 0 (1 + s / 7 % 6).toNat) [] (fun a ha => by
          obtain ⟨k, hk, rfl⟩ := List.mem_map.mp ha
          refine ⟨[some (.int s), some (.str smallS), some (.int (0 + (k : Int)))], fun _ => rfl, fun l => ⟨rfl, fun _ => ?_⟩⟩
          obtain ⟨q1, q2⟩ := pick_lt (seedOf s (0 + (k : Int))) (m := 26) (by decide)
          have e2 : L2.atI smallS.cps.toList (pickOf (seedOf s (0 + (k : Int))) 26) = some (letterOf (pickOf (seedOf s (0 + (k : Int))) 26)) := atI_getD 97 q1 (by
            have : smallS.cps.toList.length = 26 := by decide +kernel
            omega)
          have e3 : smallS.length ≤ 100000 := by decide +kernel
          simp only [gVar, gC, gOp, gUn, gAnd, gOr, gNot, gIf, gNil, gCons, gTup, gLst, gCB, gChain, gSet, gExpr, gRet, gRetN, gPass, gBrk, gCt, gRaise, gIfS, gSeq, nName, nTup, setAll, gAsg, gCall, gTru, gNotT, gIsi, RE.bind_ok, RE.bind_exc, RE.bind_stuck, RE.bindA_ok, RE.bindS_ok, RE.bindS_exc, RE.bindT_ok, RE.bindTS_ok, RA.bind_ok, RA.bindA_ok, RE.nox_ok, RS.seq_nx, RS.seq_ret, RS.seq_exc, RS.seq_brk, RS.seq_ct, RS.seq_stuck, RE.bindA_exc, RE.bindA_stuck, RE.bindS_stuck, RE.bindT_exc, RE.bindT_stuck, RE.bindTS_exc, RE.bindTS_stuck, RA.bind_exc, RA.bind_stuck, RA.bindA_exc, RA.bindA_stuck, RE.nox_stuck, bind_ite, bindA_ite, bindS_ite, bindT_ite, bindTS_ite, nox_ite, seq_ite, startR, tyA_non, tyA_bl, tyA_int, tyA_str, tyA_tup, List.map_cons, List.map_nil, List.length_cons, List.length_nil, List.cons_append, List.nil_append, List.append_nil, List.getElem?_cons_zero, List.getElem?_cons_succ, List.set_cons_zero, List.set_cons_succ, vIx_t0, vIx_t1, vIx_t2, vIx_t3, vIx_t4, vIx_t5, vEq_ss, vEq_ii, vEq_bb, vNe_ss, vNe_ii, vNe_bb, vLen_tup, truA_tup, truA_bl, vLe_ii, vLt_ii, vGt_ii, vGe_ii, vSub_ii, vAdd_ii, vAddI_ii, vNeg_i, isT_ss, isT_tt, isT_ii, isT_bi, isT_bb, isT_ib, F__law_seed, p2, vIx_strE, e2, e3, ↓reduceIte]) (by simp [rngA]; omega)
      have e4 : (rngA 0 (1 + s / 7 % 6).toNat).map (fun a => match a with
        | .int k => A.str ⟨#[letterOf (pickOf (seedOf s k) 26)]⟩
        | _ => .non) = ((List.range (1 + s / 7 % 6).toNat).map fun (k : Nat) => (⟨#[letterOf (pickOf (seedOf s (k : Int)) 26)]⟩ : Str)).map A.str := by
        unfold rngA
        rw [List.map_map, List.map_map]
        refine List.map_congr_left fun k hk => ?_
        show A.str ⟨#[letterOf (pickOf (seedOf s (0 + (k : Int))) 26)]⟩ = _
        rw [Int.zero_add]
        rfl
      rw [List.filter_eq_self.mpr (fun _ _ => rfl), e4, List.nil_append] at lc
      refine ⟨[.lst (((List.range (1 + s / 7 % 6).toNat).map fun (k : Nat) => (⟨#[letterOf (pickOf (seedOf s (k : Int)) 26)]⟩ : Str)).map A.str)], ?_⟩
      have hj : joinFit "" ((List.range (1 + s / 7 % 6).toNat).map fun (k : Nat) => (⟨#[letterOf (pickOf (seedOf s (k : Int)) 26)]⟩ : Str)) = true := by
        unfold joinFit
        have : ((List.range (1 + s / 7 % 6).toNat).map fun (k : Nat) => (⟨#[letterOf (pickOf (seedOf s (k : Int)) 26)]⟩ : Str)).map (·.length) = (List.range (1 + s / 7 % 6).toNat).map fun _ => 1 := by
          rw [List.map_map]; rfl
        rw [this, decide_eq_true_eq]
        have e0 : ("" : Str).length = 0 := by decide +kernel
        rw [e0, Nat.mul_zero]
        rw [sum_ones]
        omega
      have b3 : (1 + s / 7 % 6) < 1000000 ∧ -1000000 < (1 + s / 7 % 6) := by omega
      simp only [q__law_word, q__law_word_0, q__law_word_1, q__law_word_2, gVar, gC, gOp, gUn, gAnd, gOr, gNot, gIf, gNil, gCons, gTup, gLst, gCB, gChain, gSet, gExpr, gRet, gRetN, gPass, gBrk, gCt, gRaise, gIfS, gSeq, nName, nTup, setAll, gAsg, gCall, gTru, gNotT, gIsi, RE.bind_ok, RE.bind_exc, RE.bind_stuck, RE.bindA_ok, RE.bindS_ok, RE.bindS_exc, RE.bindT_ok, RE.bindTS_ok, RA.bind_ok, RA.bindA_ok, RE.nox_ok, RS.seq_nx, RS.seq_ret, RS.seq_exc, RS.seq_brk, RS.seq_ct, RS.seq_stuck, RE.bindA_exc, RE.bindA_stuck, RE.bindS_stuck, RE.bindT_exc, RE.bindT_stuck, RE.bindTS_exc, RE.bindTS_stuck, RA.bind_exc, RA.bind_stuck, RA.bindA_exc, RA.bindA_stuck, RE.nox_stuck, bind_ite, bindA_ite, bindS_ite, bindT_ite, bindTS_ite, nox_ite, seq_ite, startR, tyA_non, tyA_bl, tyA_int, tyA_str, tyA_tup, List.map_cons, List.map_nil, List.length_cons, List.length_nil, List.cons_append, List.nil_append, List.append_nil, List.getElem?_cons_zero, List.getElem?_cons_succ, List.set_cons_zero, List.set_cons_succ, vIx_t0, vIx_t1, vIx_t2, vIx_t3, vIx_t4, vIx_t5, vEq_ss, vEq_ii, vEq_bb, vNe_ss, vNe_ii, vNe_bb, vLen_tup, truA_tup, truA_bl, vLe_ii, vLt_ii, vGt_ii, vGe_ii, vSub_ii, vAdd_ii, vAddI_ii, vNeg_i, isT_ss, isT_tt, isT_ii, isT_bi, isT_bb, isT_ib, List.replicate, Nat.reduceAdd, Nat.reduceSub, m1, m2, m3, h0, decide_false, Bool.false_eq_true, ↓reduceIte, gMt, tyB, beq_self_eq_true, gLc, gIR1, b3, and_self, wipeR, lc, vJoin, seqOf, items_off0, itemsAt_c0, items_lst, Option.bind_some, strsOf_map, hj, word_long h0]
  rw [e]
  exact fitPE b (.str _)
-- with _law_hearer _law_deed
abbrev N__law_hearer : List Str := ["seed", "deep", "some", "test", "deeds", "how", "k"]
abbrev P__law_hearer : List Str := ["seed", "deep"]
theorem sc__law_hearer : FnScope N__law_hearer P__law_hearer (defScope Hd.s__law_hearer) := ⟨rfl, rfl, rfl, by decide +kernel, rfl, by decide +kernel, by decide +kernel⟩
theorem b__law_hearer {K : Frg} {mg : Str → Option Value} (t : Hd.Tx K mg) : Binds K t.f__law_hearer P__law_hearer [] := FunD.bindsN t.D__law_hearer fun _ _ _ _ _ _ us hl => match us, hl with | [_, _], _ => rfl
abbrev N__law_deed : List Str := ["seed", "deep", "pick"]
abbrev P__law_deed : List Str := ["seed", "deep"]
theorem sc__law_deed : FnScope N__law_deed P__law_deed (defScope Hd.s__law_deed) := ⟨rfl, rfl, rfl, by decide +kernel, rfl, by decide +kernel, by decide +kernel⟩
theorem b__law_deed {K : Frg} {mg : Str → Option Value} (t : Hd.Tx K mg) : Binds K t.f__law_deed P__law_deed [] := FunD.bindsN t.D__law_deed fun _ _ _ _ _ _ us hl => match us, hl with | [_, _], _ => rfl
def q__law_deed_0 (K : Frg) (Fh : List A → Sto → RE) : GS :=
  gSet 2 (gCall (F__law_pick K) (gCons (gVar 0) (gCons (gC (.int 9)) (gNil))))
def q__law_deed_1 (K : Frg) (Fh : List A → Sto → RE) : GS :=
  gIfS (gOp vLt (gVar 2) (gC (.int 4))) (gRet (gTup (gCons (gC (.str "tell")) (gCons (gCall (F__law_word K) (gCons (gCall (F__law_seed K) (gCons (gVar 0) (gCons (gC (.int 1)) (gNil)))) (gNil))) (gCons (gOp vIx (gLst (gCons (gC (.int 0)) (gCons (gC (.int 1)) (gCons (gOp vMod (gOp vFdiv (gVar 0) (gC (.int 7))) (gC (.int 10000))) (gNil))))) (gOp vMod (gOp vFdiv (gVar 0) (gC (.int 11))) (gC (.int 3)))) (gNil)))))) (gPass)
def q__law_deed_2 (K : Frg) (Fh : List A → Sto → RE) : GS :=
  gIfS (gAnd (gOp vLt (gVar 2) (gC (.int 6))) (gOp vGt (gVar 1) (gC (.int 1)))) (gRet (gTup (gCons (gC (.str "join")) (gCons (gCall (Fh) (gCons (gCall (F__law_seed K) (gCons (gVar 0) (gCons (gC (.int 2)) (gNil)))) (gCons (gOp vSub (gVar 1) (gC (.int 1))) (gNil)))) (gNil))))) (gPass)
def q__law_deed_3 (K : Frg) (Fh : List A → Sto → RE) : GS :=
  gRet (gOp vIx (gLst (gCons (gTup (gCons (gC (.str "leave")) (gCons (gCall (F__law_word K) (gCons (gCall (F__law_seed K) (gCons (gVar 0) (gCons (gC (.int 3)) (gNil)))) (gNil))) (gNil)))) (gCons (gTup (gCons (gC (.str "stop")) (gNil))) (gCons (gTup (gCons (gC (.str "done")) (gNil))) (gNil))))) (gOp vMod (gVar 2) (gC (.int 3))))
def q__law_deed (K : Frg) (Fh : List A → Sto → RE) : GS :=
  gSeq (q__law_deed_0 K Fh) (gSeq (q__law_deed_1 K Fh) (gSeq (q__law_deed_2 K Fh) (q__law_deed_3 K Fh)))
theorem sb__law_deed {P : Program} {w : World} {K : Frg} {mg : Str → Option Value} {base : Heap} (t : Hd.Tx K mg) {d dh : Nat} {Fh : List A → Sto → RE} (okh : FnR P w K mg base dh (He.ga K "_law_hearer") t.f__law_hearer P__law_hearer (spF K (tbs K) Fh)) (hd : 2 ≤ d) (hdh : dh ≤ d) {cdv : Value} {A : Around} {outer : List Env} {s : Shared} {H : Hp} {E : XK} (hr : Rm d (A.deeper (envOfC "_law_deed" (defScope Hd.s__law_deed) s.heap.objs.size (He.ga K "_law_deed") cdv))) :
    SB (cxOf (L2.CX P w) P w K mg base N__law_deed "_law_deed" (defScope Hd.s__law_deed) (He.ga K "_law_deed") cdv A outer s H E) (tbs K) (fun c d _ H2 => E c d H2) (defBody Hd.s__law_deed) (q__law_deed K Fh) := by
  have nd : N__law_deed.Nodup := sc__law_deed.nd
  have hp := passes_of (X := cxOf (L2.CX P w) P w K mg base N__law_deed "_law_deed" (defScope Hd.s__law_deed) (He.ga K "_law_deed") cdv A outer s H E) (K := fun e s2 => L2.CX P w outer H s E e s2) (E₁ := fun e s2 => L2.CX P w outer H s E e s2) rfl
  have tk : Takes (cxOf (L2.CX P w) P w K mg base N__law_deed "_law_deed" (defScope Hd.s__law_deed) (He.ga K "_law_deed") cdv A outer s H E) (fun c d _ H2 => E c d H2) := takes_of rfl rfl rfl rfl
  exact (sb_cons (ss_set (i := 2) nd rfl (Or.inl rfl) (se_call (ok__law_pick t) (hr.mono (by omega)) t.m__law_pick t.D__law_pick.kp (b__law_pick t) tk (sa_cons (se_var' (pv 0)) (sa_cons se_int sa_nil))))
  (sb_cons (ss_if (st_cmp os_lt (se_var' (pv 2)) se_int (nomark _)) (sb_one (ss_ret (se_tup (sa_cons se_str (sa_cons (se_call (ok__law_word t) (hr.mono (by omega)) t.m__law_word t.D__law_word.kp (b__law_word t) tk (sa_cons (se_call (ok__law_seed t) (hr.mono (by omega)) t.m__law_seed t.D__law_seed.kp (b__law_seed t) tk (sa_cons (se_var' (pv 0)) (sa_cons se_int sa_nil))) sa_nil)) (sa_cons (se_ix is_ix (se_lst (sa_cons se_int (sa_cons se_int (sa_cons (se_op os_mod (se_op os_fdiv (se_var' (pv 0)) se_int) se_int) sa_nil)))) (se_op os_mod (se_op os_fdiv (se_var' (pv 0)) se_int) se_int) (fun _ _ => rfl)) sa_nil)))))) sb_nil)
  (sb_cons (ss_if (st_w (sw_and (st_cmp os_lt (se_var' (pv 2)) se_int (nomark _)) (sw_and1 (st_cmp os_gt (se_var' (pv 1)) se_int (nomark _))))) (sb_one (ss_ret (se_tup (sa_cons se_str (sa_cons (se_call (okh) (hr.mono (by omega)) t.m__law_hearer t.D__law_hearer.kp (b__law_hearer t) tk (sa_cons (se_call (ok__law_seed t) (hr.mono (by omega)) t.m__law_seed t.D__law_seed.kp (b__law_seed t) tk (sa_cons (se_var' (pv 0)) (sa_cons se_int sa_nil))) (sa_cons (se_op os_sub (se_var' (pv 1)) se_int) sa_nil))) sa_nil))))) sb_nil)
  (sb_one (ss_ret (se_ix is_ix (se_lst (sa_cons (se_tup (sa_cons se_str (sa_cons (se_call (ok__law_word t) (hr.mono (by omega)) t.m__law_word t.D__law_word.kp (b__law_word t) tk (sa_cons (se_call (ok__law_seed t) (hr.mono (by omega)) t.m__law_seed t.D__law_seed.kp (b__law_seed t) tk (sa_cons (se_var' (pv 0)) (sa_cons se_int sa_nil))) sa_nil)) sa_nil))) (sa_cons (se_tup (sa_cons se_str sa_nil)) (sa_cons (se_tup (sa_cons se_str sa_nil)) sa_nil)))) (se_op os_mod (se_var' (pv 2)) se_int) (fun _ _ => rfl)))))))

theorem e__law_deed {s deep : Int} {S : Sto} {h : Int → A} {Fh : List A → Sto → RE} (hF : 1 < deep → ∀ s S, Fh [.int s, .int (deep - 1)] S = .ok (h s) S) : ∃ E, q__law_deed K Fh (startR N__law_deed.length [.int s, .int deep]) S = .ret (deedW deep h s) (S ++ E) := by
  have p1 : ∀ S, F__law_pick K [.int s, .int 9] S = .ok (.int (pickOf s 9)) S := fun S => pick_at (by decide)
  have m1 : ∀ S, vFdiv (.int s) (.int 7) S = .ok (.int (s / 7)) S := fun S => vFdiv_pos _ _ _ (by decide)
  have m2 : ∀ S, vFdiv (.int s) (.int 11) S = .ok (.int (s / 11)) S := fun S => vFdiv_pos _ _ _ (by decide)
  have m3 : ∀ a S, vMod (.int a) (.int 10000) S = .ok (.int (a % 10000)) S := fun a S => vMod_pos _ _ _ (by decide)
  have m4 : ∀ a S, vMod (.int a) (.int 3) S = .ok (.int (a % 3)) S := fun a S => vMod_pos _ _ _ (by decide)
  unfold deedW
  by_cases h1 : pickOf s 9 < 4
  · obtain ⟨k1, k2⟩ := emod_lt' (a := s / 11) (b := 3) (by decide)
    have e2 : L2.atI ([.int 0, .int 1, .int (s / 7 % 10000)] : List A) (s / 11 % 3) = some (.int (tellVal s)) := by
      rw [atI_getD (.int 0) k1 (by simpa using k2)]
      unfold tellVal
      by_cases z0 : s / 11 % 3 = 0
      · rw [z0, if_pos rfl]; rfl
      · by_cases z1 : s / 11 % 3 = 1
        · rw [z1, if_neg (by decide), if_pos rfl]; rfl
        · have z2 : s / 11 % 3 = 2 := by omega
          rw [z2, if_neg (by decide), if_neg (by decide)]; rfl
    refine ⟨[.lst [.int 0, .int 1, .int (s / 7 % 10000)]], ?_⟩
    simp only [q__law_deed, q__law_deed_0, q__law_deed_1, gVar, gC, gOp, gUn, gAnd, gOr, gNot, gIf, gNil, gCons, gTup, gLst, gCB, gChain, gSet, gExpr, gRet, gRetN, gPass, gBrk, gCt, gRaise, gIfS, gSeq, nName, nTup, setAll, gAsg, gCall, gTru, gNotT, gIsi, RE.bind_ok, RE.bind_exc, RE.bind_stuck, RE.bindA_ok, RE.bindS_ok, RE.bindS_exc, RE.bindT_ok, RE.bindTS_ok, RA.bind_ok, RA.bindA_ok, RE.nox_ok, RS.seq_nx, RS.seq_ret, RS.seq_exc, RS.seq_brk, RS.seq_ct, RS.seq_stuck, RE.bindA_exc, RE.bindA_stuck, RE.bindS_stuck, RE.bindT_exc, RE.bindT_stuck, RE.bindTS_exc, RE.bindTS_stuck, RA.bind_exc, RA.bind_stuck, RA.bindA_exc, RA.bindA_stuck, RE.nox_stuck, bind_ite, bindA_ite, bindS_ite, bindT_ite, bindTS_ite, nox_ite, seq_ite, startR, tyA_non, tyA_bl, tyA_int, tyA_str, tyA_tup, List.map_cons, List.map_nil, List.length_cons, List.length_nil, List.cons_append, List.nil_append, List.append_nil, List.getElem?_cons_zero, List.getElem?_cons_succ, List.set_cons_zero, List.set_cons_succ, vIx_t0, vIx_t1, vIx_t2, vIx_t3, vIx_t4, vIx_t5, vEq_ss, vEq_ii, vEq_bb, vNe_ss, vNe_ii, vNe_bb, vLen_tup, truA_tup, truA_bl, vLe_ii, vLt_ii, vGt_ii, vGe_ii, vSub_ii, vAdd_ii, vAddI_ii, vNeg_i, isT_ss, isT_tt, isT_ii, isT_bi, isT_bb, isT_ib, List.replicate, Nat.reduceAdd, Nat.reduceSub, p1, h1, decide_true, ↓reduceIte, F__law_seed, F__law_word, m1, m2, m3, m4, Nat.reduceLeDiff, vIx_obE, items_off0, itemsAt_c0, items_lst, e2]
  · rw [if_neg h1]
    by_cases h2 : pickOf s 9 < 6 ∧ 1 < deep
    · rw [if_pos h2]
      refine ⟨[], ?_⟩
      simp only [q__law_deed, q__law_deed_0, q__law_deed_1, q__law_deed_2, gVar, gC, gOp, gUn, gAnd, gOr, gNot, gIf, gNil, gCons, gTup, gLst, gCB, gChain, gSet, gExpr, gRet, gRetN, gPass, gBrk, gCt, gRaise, gIfS, gSeq, nName, nTup, setAll, gAsg, gCall, gTru, gNotT, gIsi, RE.bind_ok, RE.bind_exc, RE.bind_stuck, RE.bindA_ok, RE.bindS_ok, RE.bindS_exc, RE.bindT_ok, RE.bindTS_ok, RA.bind_ok, RA.bindA_ok, RE.nox_ok, RS.seq_nx, RS.seq_ret, RS.seq_exc, RS.seq_brk, RS.seq_ct, RS.seq_stuck, RE.bindA_exc, RE.bindA_stuck, RE.bindS_stuck, RE.bindT_exc, RE.bindT_stuck, RE.bindTS_exc, RE.bindTS_stuck, RA.bind_exc, RA.bind_stuck, RA.bindA_exc, RA.bindA_stuck, RE.nox_stuck, bind_ite, bindA_ite, bindS_ite, bindT_ite, bindTS_ite, nox_ite, seq_ite, startR, tyA_non, tyA_bl, tyA_int, tyA_str, tyA_tup, List.map_cons, List.map_nil, List.length_cons, List.length_nil, List.cons_append, List.nil_append, List.append_nil, List.getElem?_cons_zero, List.getElem?_cons_succ, List.set_cons_zero, List.set_cons_succ, vIx_t0, vIx_t1, vIx_t2, vIx_t3, vIx_t4, vIx_t5, vEq_ss, vEq_ii, vEq_bb, vNe_ss, vNe_ii, vNe_bb, vLen_tup, truA_tup, truA_bl, vLe_ii, vLt_ii, vGt_ii, vGe_ii, vSub_ii, vAdd_ii, vAddI_ii, vNeg_i, isT_ss, isT_tt, isT_ii, isT_bi, isT_bb, isT_ib, List.replicate, Nat.reduceAdd, Nat.reduceSub, p1, h1, h2.1, h2.2, decide_true, decide_false, Bool.false_eq_true, ↓reduceIte, F__law_seed, hF h2.2, Nat.reduceLeDiff]
    · rw [if_neg h2]
      obtain ⟨k1, k2⟩ := emod_lt' (a := pickOf s 9) (b := 3) (by decide)
      have e2 : L2.atI ([.tup [.str "leave", .str (wordOf (seedOf s 3))], .tup [.str "stop"], .tup [.str "done"]] : List A) (pickOf s 9 % 3) = some (lastDeed s) := by
        rw [atI_getD (.int 0) k1 (by simpa using k2)]
        unfold lastDeed
        by_cases z0 : pickOf s 9 % 3 = 0
        · rw [z0, if_pos rfl]; rfl
        · by_cases z1 : pickOf s 9 % 3 = 1
          · rw [z1, if_neg (by decide), if_pos rfl]; rfl
          · have z2 : pickOf s 9 % 3 = 2 := by omega
            rw [z2, if_neg (by decide), if_neg (by decide)]; rfl
      refine ⟨[.lst [.tup [.str "leave", .str (wordOf (seedOf s 3))], .tup [.str "stop"], .tup [.str "done"]]], ?_⟩
      have s2 : q__law_deed_2 K Fh [some (.int s), some (.int deep), some (.int (pickOf s 9))] S = .nx [some (.int s), some (.int deep), some (.int (pickOf s 9))] S := by
        by_cases h3 : pickOf s 9 < 6
        · have h4 : ¬ 1 < deep := fun z => h2 ⟨h3, z⟩
          simp only [q__law_deed_2, gVar, gC, gOp, gUn, gAnd, gOr, gNot, gIf, gNil, gCons, gTup, gLst, gCB, gChain, gSet, gExpr, gRet, gRetN, gPass, gBrk, gCt, gRaise, gIfS, gSeq, nName, nTup, setAll, gAsg, gCall, gTru, gNotT, gIsi, RE.bind_ok, RE.bind_exc, RE.bind_stuck, RE.bindA_ok, RE.bindS_ok, RE.bindS_exc, RE.bindT_ok, RE.bindTS_ok, RA.bind_ok, RA.bindA_ok, RE.nox_ok, RS.seq_nx, RS.seq_ret, RS.seq_exc, RS.seq_brk, RS.seq_ct, RS.seq_stuck, RE.bindA_exc, RE.bindA_stuck, RE.bindS_stuck, RE.bindT_exc, RE.bindT_stuck, RE.bindTS_exc, RE.bindTS_stuck, RA.bind_exc, RA.bind_stuck, RA.bindA_exc, RA.bindA_stuck, RE.nox_stuck, bind_ite, bindA_ite, bindS_ite, bindT_ite, bindTS_ite, nox_ite, seq_ite, startR, tyA_non, tyA_bl, tyA_int, tyA_str, tyA_tup, List.map_cons, List.map_nil, List.length_cons, List.length_nil, List.cons_append, List.nil_append, List.append_nil, List.getElem?_cons_zero, List.getElem?_cons_succ, List.set_cons_zero, List.set_cons_succ, vIx_t0, vIx_t1, vIx_t2, vIx_t3, vIx_t4, vIx_t5, vEq_ss, vEq_ii, vEq_bb, vNe_ss, vNe_ii, vNe_bb, vLen_tup, truA_tup, truA_bl, vLe_ii, vLt_ii, vGt_ii, vGe_ii, vSub_ii, vAdd_ii, vAddI_ii, vNeg_i, isT_ss, isT_tt, isT_ii, isT_bi, isT_bb, isT_ib, h3, h4, decide_true, decide_false, Bool.false_eq_true, ↓reduceIte]
        · simp only [q__law_deed_2, gVar, gC, gOp, gUn, gAnd, gOr, gNot, gIf, gNil, gCons, gTup, gLst, gCB, gChain, gSet, gExpr, gRet, gRetN, gPass, gBrk, gCt, gRaise, gIfS, gSeq, nName, nTup, setAll, gAsg, gCall, gTru, gNotT, gIsi, RE.bind_ok, RE.bind_exc, RE.bind_stuck, RE.bindA_ok, RE.bindS_ok, RE.bindS_exc, RE.bindT_ok, RE.bindTS_ok, RA.bind_ok, RA.bindA_ok, RE.nox_ok, RS.seq_nx, RS.seq_ret, RS.seq_exc, RS.seq_brk, RS.seq_ct, RS.seq_stuck, RE.bindA_exc, RE.bindA_stuck, RE.bindS_stuck, RE.bindT_exc, RE.bindT_stuck, RE.bindTS_exc, RE.bindTS_stuck, RA.bind_exc, RA.bind_stuck, RA.bindA_exc, RA.bindA_stuck, RE.nox_stuck, bind_ite, bindA_ite, bindS_ite, bindT_ite, bindTS_ite, nox_ite, seq_ite, startR, tyA_non, tyA_bl, tyA_int, tyA_str, tyA_tup, List.map_cons, List.map_nil, List.length_cons, List.length_nil, List.cons_append, List.nil_append, List.append_nil, List.getElem?_cons_zero, List.getElem?_cons_succ, List.set_cons_zero, List.set_cons_succ, vIx_t0, vIx_t1, vIx_t2, vIx_t3, vIx_t4, vIx_t5, vEq_ss, vEq_ii, vEq_bb, vNe_ss, vNe_ii, vNe_bb, vLen_tup, truA_tup, truA_bl, vLe_ii, vLt_ii, vGt_ii, vGe_ii, vSub_ii, vAdd_ii, vAddI_ii, vNeg_i, isT_ss, isT_tt, isT_ii, isT_bi, isT_bb, isT_ib, h3, decide_true, decide_false, Bool.false_eq_true, ↓reduceIte]
      simp only [q__law_deed, q__law_deed_0, q__law_deed_1, q__law_deed_3, gVar, gC, gOp, gUn, gAnd, gOr, gNot, gIf, gNil, gCons, gTup, gLst, gCB, gChain, gSet, gExpr, gRet, gRetN, gPass, gBrk, gCt, gRaise, gIfS, gSeq, nName, nTup, setAll, gAsg, gCall, gTru, gNotT, gIsi, RE.bind_ok, RE.bind_exc, RE.bind_stuck, RE.bindA_ok, RE.bindS_ok, RE.bindS_exc, RE.bindT_ok, RE.bindTS_ok, RA.bind_ok, RA.bindA_ok, RE.nox_ok, RS.seq_nx, RS.seq_ret, RS.seq_exc, RS.seq_brk, RS.seq_ct, RS.seq_stuck, RE.bindA_exc, RE.bindA_stuck, RE.bindS_stuck, RE.bindT_exc, RE.bindT_stuck, RE.bindTS_exc, RE.bindTS_stuck, RA.bind_exc, RA.bind_stuck, RA.bindA_exc, RA.bindA_stuck, RE.nox_stuck, bind_ite, bindA_ite, bindS_ite, bindT_ite, bindTS_ite, nox_ite, seq_ite, startR, tyA_non, tyA_bl, tyA_int, tyA_str, tyA_tup, List.map_cons, List.map_nil, List.length_cons, List.length_nil, List.cons_append, List.nil_append, List.append_nil, List.getElem?_cons_zero, List.getElem?_cons_succ, List.set_cons_zero, List.set_cons_succ, vIx_t0, vIx_t1, vIx_t2, vIx_t3, vIx_t4, vIx_t5, vEq_ss, vEq_ii, vEq_bb, vNe_ss, vNe_ii, vNe_bb, vLen_tup, truA_tup, truA_bl, vLe_ii, vLt_ii, vGt_ii, vGe_ii, vSub_ii, vAdd_ii, vAddI_ii, vNeg_i, isT_ss, isT_tt, isT_ii, isT_bi, isT_bb, isT_ib, List.replicate, Nat.reduceAdd, Nat.reduceSub, p1, h1, s2, decide_false, Bool.false_eq_true, ↓reduceIte, F__law_seed, F__law_word, m4, Nat.reduceLeDiff, vIx_obE, items_off0, itemsAt_c0, items_lst, e2]
def q__law_hearer_0 (K : Frg) (Fd : List A → Sto → RE) : GS :=
  gSet 2 (gLc (gIR1 (gCons (gC (.int 8)) (gNil))) (nName 6) (gYes) (gCall (F__law_seed K) (gCons (gVar 0) (gCons (gVar 6) (gNil)))) [6])
def q__law_hearer_1 (K : Frg) (Fd : List A → Sto → RE) : GS :=
  gSet 3 (gOp vIx (gLst (gCons (gTup (gCons (gC (.str "any")) (gNil))) (gCons (gTup (gCons (gC (.str "any")) (gNil))) (gCons (gTup (gCons (gC (.str "over")) (gCons (gOp vMod (gOp vFdiv (gOp vIx (gVar 2) (gC (.int 4))) (gC (.int 7))) (gC (.int 10000))) (gNil)))) (gCons (gTup (gCons (gC (.str "under")) (gCons (gOp vMod (gOp vFdiv (gOp vIx (gVar 2) (gC (.int 4))) (gC (.int 7))) (gC (.int 10000))) (gNil)))) (gNil)))))) (gCall (F__law_pick K) (gCons (gOp vIx (gVar 2) (gC (.int 3))) (gCons (gC (.int 4)) (gNil)))))
def q__law_hearer_2 (K : Frg) (Fd : List A → Sto → RE) : GS :=
  gSet 4 (gCB vTuple (gCons (gLc (gIR1 (gCons (gOp vIx (gLst (gCons (gC (.int 0)) (gCons (gC (.int 1)) (gCons (gC (.int 2)) (gCons (gC (.int 3)) (gCons (gC (.int 1)) (gNil))))))) (gCall (F__law_pick K) (gCons (gOp vIx (gVar 2) (gC (.int 5))) (gCons (gC (.int 5)) (gNil))))) (gNil))) (nName 6) (gYes) (gCall (Fd) (gCons (gCall (F__law_seed K) (gCons (gVar 0) (gCons (gOp vAdd (gC (.int 10)) (gVar 6)) (gNil)))) (gCons (gVar 1) (gNil)))) [6]) (gNil)))
def q__law_hearer_3 (K : Frg) (Fd : List A → Sto → RE) : GS :=
  gSet 5 (gOp vIx (gLst (gCons (gC (.str "always")) (gCons (gC (.str "always")) (gCons (gC (.str "once")) (gNil))))) (gCall (F__law_pick K) (gCons (gOp vIx (gVar 2) (gC (.int 6))) (gCons (gC (.int 3)) (gNil)))))
def q__law_hearer_4 (K : Frg) (Fd : List A → Sto → RE) : GS :=
  gRet (gTup (gCons (gCall (F__law_word K) (gCons (gOp vIx (gVar 2) (gC (.int 0))) (gNil))) (gCons (gCall (F__law_word K) (gCons (gOp vIx (gVar 2) (gC (.int 1))) (gNil))) (gCons (gOp vIx (gLst (gCons (gOp vMod (gOp vFdiv (gOp vIx (gVar 2) (gC (.int 2))) (gC (.int 7))) (gC (.int 10))) (gCons (gC (.int 3)) (gCons (gC (.int 3)) (gNil))))) (gCall (F__law_pick K) (gCons (gOp vIx (gVar 2) (gC (.int 7))) (gCons (gC (.int 3)) (gNil))))) (gCons (gVar 5) (gCons (gVar 3) (gCons (gVar 4) (gNil))))))))
def q__law_hearer (K : Frg) (Fd : List A → Sto → RE) : GS :=
  gSeq (q__law_hearer_0 K Fd) (gSeq (q__law_hearer_1 K Fd) (gSeq (q__law_hearer_2 K Fd) (gSeq (q__law_hearer_3 K Fd) (q__law_hearer_4 K Fd))))
theorem sb__law_hearer {P : Program} {w : World} {K : Frg} {mg : Str → Option Value} {base : Heap} (t : Hd.Tx K mg) {d dd : Nat} {Fd : List A → Sto → RE} (okd : FnR P w K mg base dd (He.ga K "_law_deed") t.f__law_deed P__law_deed (spF K (tbs K) Fd)) (hd : 2 ≤ d) (hdd : dd ≤ d) {cdv : Value} {A : Around} {outer : List Env} {s : Shared} {H : Hp} {E : XK} (hr : Rm d (A.deeper (envOfC "_law_hearer" (defScope Hd.s__law_hearer) s.heap.objs.size (He.ga K "_law_hearer") cdv))) :
    SB (cxOf (L2.CX P w) P w K mg base N__law_hearer "_law_hearer" (defScope Hd.s__law_hearer) (He.ga K "_law_hearer") cdv A outer s H E) (tbs K) (fun c d _ H2 => E c d H2) (defBody Hd.s__law_hearer) (q__law_hearer K Fd) := by
  have nd : N__law_hearer.Nodup := sc__law_hearer.nd
  have hp := passes_of (X := cxOf (L2.CX P w) P w K mg base N__law_hearer "_law_hearer" (defScope Hd.s__law_hearer) (He.ga K "_law_hearer") cdv A outer s H E) (K := fun e s2 => L2.CX P w outer H s E e s2) (E₁ := fun e s2 => L2.CX P w outer H s E e s2) rfl
  have tk : Takes (cxOf (L2.CX P w) P w K mg base N__law_hearer "_law_hearer" (defScope Hd.s__law_hearer) (He.ga K "_law_hearer") cdv A outer s H E) (fun c d _ H2 => E c d H2) := takes_of rfl rfl rfl rfl
  exact (sb_cons (ss_setLc (i := 2) (own := [("k", 6)]) rfl nd rfl rfl (sw_true rfl rfl rfl (by decide +kernel)) (si_range1 t.n_range (sa_cons se_int sa_nil)) (blkOk_by (own := [("k", 6)]) (N := N__law_hearer) (sc := defScope Hd.s__law_hearer) (by decide +kernel)) (tg_name (by decide)) (fun _ _ _ _ _ => (pg_name (i := 6) nd rfl (Or.inl rfl))) (fun _ _ _ _ _ => sts_nil) (fun _ _ _ _ _ => (se_call (ok__law_seed t) (hr.mono (by omega)) t.m__law_seed t.D__law_seed.kp (b__law_seed t) takes0 (sa_cons (se_var' (pv 0)) (sa_cons (se_var' (pv 6)) sa_nil)))))
  (sb_cons (ss_set (i := 3) nd rfl (Or.inl rfl) (se_ix is_ix (se_lst (sa_cons (se_tup (sa_cons se_str sa_nil)) (sa_cons (se_tup (sa_cons se_str sa_nil)) (sa_cons (se_tup (sa_cons se_str (sa_cons (se_op os_mod (se_op os_fdiv (se_ix is_ix (se_var' (pv 2)) se_int (fun _ _ => rfl)) se_int) se_int) sa_nil))) (sa_cons (se_tup (sa_cons se_str (sa_cons (se_op os_mod (se_op os_fdiv (se_ix is_ix (se_var' (pv 2)) se_int (fun _ _ => rfl)) se_int) se_int) sa_nil))) sa_nil))))) (se_call (ok__law_pick t) (hr.mono (by omega)) t.m__law_pick t.D__law_pick.kp (b__law_pick t) tk (sa_cons (se_ix is_ix (se_var' (pv 2)) se_int (fun _ _ => rfl)) (sa_cons se_int sa_nil))) (fun _ _ => rfl)))
  (sb_cons (ss_set (i := 4) nd rfl (Or.inl rfl) (se_callTy cs_tuple (by rfl) t.n_tuple (by decide +kernel) (sa_cons (se_lc (own := [("k", 6)]) rfl nd (si_range1 t.n_range (sa_cons (se_ix is_ix (se_lst (sa_cons se_int (sa_cons se_int (sa_cons se_int (sa_cons se_int (sa_cons se_int sa_nil)))))) (se_call (ok__law_pick t) (hr.mono (by omega)) t.m__law_pick t.D__law_pick.kp (b__law_pick t) tk (sa_cons (se_ix is_ix (se_var' (pv 2)) se_int (fun _ _ => rfl)) (sa_cons se_int sa_nil))) (fun _ _ => rfl)) sa_nil)) (blkOk_by (own := [("k", 6)]) (N := N__law_hearer) (sc := defScope Hd.s__law_hearer) (by decide +kernel)) (tg_name (by decide)) (fun _ _ _ _ _ => (pg_name (i := 6) nd rfl (Or.inl rfl))) (fun _ _ _ _ _ => sts_nil) (fun _ _ _ _ _ => (se_call (okd) (hr.mono (by omega)) t.m__law_deed t.D__law_deed.kp (b__law_deed t) takes0 (sa_cons (se_call (ok__law_seed t) (hr.mono (by omega)) t.m__law_seed t.D__law_seed.kp (b__law_seed t) takes0 (sa_cons (se_var' (pv 0)) (sa_cons (se_op os_add se_int (se_var' (pv 6))) sa_nil))) (sa_cons (se_var' (pv 1)) sa_nil))))) sa_nil)))
  (sb_cons (ss_set (i := 5) nd rfl (Or.inl rfl) (se_ix is_ix (se_lst (sa_cons se_str (sa_cons se_str (sa_cons se_str sa_nil)))) (se_call (ok__law_pick t) (hr.mono (by omega)) t.m__law_pick t.D__law_pick.kp (b__law_pick t) tk (sa_cons (se_ix is_ix (se_var' (pv 2)) se_int (fun _ _ => rfl)) (sa_cons se_int sa_nil))) (fun _ _ => rfl)))
  (sb_one (ss_ret (se_tup (sa_cons (se_call (ok__law_word t) (hr.mono (by omega)) t.m__law_word t.D__law_word.kp (b__law_word t) tk (sa_cons (se_ix is_ix (se_var' (pv 2)) se_int (fun _ _ => rfl)) sa_nil)) (sa_cons (se_call (ok__law_word t) (hr.mono (by omega)) t.m__law_word t.D__law_word.kp (b__law_word t) tk (sa_cons (se_ix is_ix (se_var' (pv 2)) se_int (fun _ _ => rfl)) sa_nil)) (sa_cons (se_ix is_ix (se_lst (sa_cons (se_op os_mod (se_op os_fdiv (se_ix is_ix (se_var' (pv 2)) se_int (fun _ _ => rfl)) se_int) se_int) (sa_cons se_int (sa_cons se_int sa_nil)))) (se_call (ok__law_pick t) (hr.mono (by omega)) t.m__law_pick t.D__law_pick.kp (b__law_pick t) tk (sa_cons (se_ix is_ix (se_var' (pv 2)) se_int (fun _ _ => rfl)) (sa_cons se_int sa_nil))) (fun _ _ => rfl)) (sa_cons (se_var' (pv 5)) (sa_cons (se_var' (pv 3)) (sa_cons (se_var' (pv 4)) sa_nil)))))))))))))

theorem e__law_hearer {s deep : Int} {S : Sto} {dd : Int → A} {Fd : List A → Sto → RE} (hF : ∀ s S, Fd [.int s, .int deep] S = .ok (dd s) S) : ∃ E, q__law_hearer K Fd (startR N__law_hearer.length [.int s, .int deep]) S = .ret (hrW dd s) (S ++ E) := by
  have m1 : ∀ a S, vFdiv (.int a) (.int 7) S = .ok (.int (a / 7)) S := fun a S => vFdiv_pos _ _ _ (by decide)
  have m3 : ∀ a S, vMod (.int a) (.int 10000) S = .ok (.int (a % 10000)) S := fun a S => vMod_pos _ _ _ (by decide)
  have m4 : ∀ a S, vMod (.int a) (.int 10) S = .ok (.int (a % 10)) S := fun a S => vMod_pos _ _ _ (by decide)
  have s0 : q__law_hearer_0 K Fd [some (.int s), some (.int deep), none, none, none, none, none] S = .nx [some (.int s), some (.int deep), some (.ob S.length), none, none, none, none] (S ++ [.lst (sds s)]) := by
    have lc := lc_eq (chk := fun _ => true) (gg := nName 6) (gt := gYes) (ge := gCall (F__law_seed K) (gCons (gVar 0) (gCons (gVar 6) (gNil)))) (ρ0 := [some (.int s), some (.int deep), none, none, none, none, none]) (S0 := S) (fun _ => true) (fun a => match a with
        | .int k => .int (seedOf s k)
        | _ => .non) (fun _ => rfl) (rngA 0 (Int.toNat 8)) [] (fun a ha => by
          obtain ⟨k, hk, rfl⟩ := List.mem_map.mp ha
          refine ⟨[some (.int s), some (.int deep), none, none, none, none, some (.int (0 + (k : Int)))], fun _ => rfl, fun l => ⟨rfl, fun _ => ?_⟩⟩
          simp only [gVar, gC, gOp, gUn, gAnd, gOr, gNot, gIf, gNil, gCons, gTup, gLst, gCB, gChain, gSet, gExpr, gRet, gRetN, gPass, gBrk, gCt, gRaise, gIfS, gSeq, nName, nTup, setAll, gAsg, gCall, gTru, gNotT, gIsi, RE.bind_ok, RE.bind_exc, RE.bind_stuck, RE.bindA_ok, RE.bindS_ok, RE.bindS_exc, RE.bindT_ok, RE.bindTS_ok, RA.bind_ok, RA.bindA_ok, RE.nox_ok, RS.seq_nx, RS.seq_ret, RS.seq_exc, RS.seq_brk, RS.seq_ct, RS.seq_stuck, RE.bindA_exc, RE.bindA_stuck, RE.bindS_stuck, RE.bindT_exc, RE.bindT_stuck, RE.bindTS_exc, RE.bindTS_stuck, RA.bind_exc, RA.bind_stuck, RA.bindA_exc, RA.bindA_stuck, RE.nox_stuck, bind_ite, bindA_ite, bindS_ite, bindT_ite, bindTS_ite, nox_ite, seq_ite, startR, tyA_non, tyA_bl, tyA_int, tyA_str, tyA_tup, List.map_cons, List.map_nil, List.length_cons, List.length_nil, List.cons_append, List.nil_append, List.append_nil, List.getElem?_cons_zero, List.getElem?_cons_succ, List.set_cons_zero, List.set_cons_succ, vIx_t0, vIx_t1, vIx_t2, vIx_t3, vIx_t4, vIx_t5, vEq_ss, vEq_ii, vEq_bb, vNe_ss, vNe_ii, vNe_bb, vLen_tup, truA_tup, truA_bl, vLe_ii, vLt_ii, vGt_ii, vGe_ii, vSub_ii, vAdd_ii, vAddI_ii, vNeg_i, isT_ss, isT_tt, isT_ii, isT_bi, isT_bb, isT_ib, F__law_seed]) (by decide +kernel)
    rw [List.filter_eq_self.mpr (fun _ _ => rfl), List.nil_append] at lc
    have b3 : (8 : Int) < 1000000 ∧ (-1000000 : Int) < 8 := by decide
    simp only [q__law_hearer_0, gVar, gC, gOp, gUn, gAnd, gOr, gNot, gIf, gNil, gCons, gTup, gLst, gCB, gChain, gSet, gExpr, gRet, gRetN, gPass, gBrk, gCt, gRaise, gIfS, gSeq, nName, nTup, setAll, gAsg, gCall, gTru, gNotT, gIsi, RE.bind_ok, RE.bind_exc, RE.bind_stuck, RE.bindA_ok, RE.bindS_ok, RE.bindS_exc, RE.bindT_ok, RE.bindTS_ok, RA.bind_ok, RA.bindA_ok, RE.nox_ok, RS.seq_nx, RS.seq_ret, RS.seq_exc, RS.seq_brk, RS.seq_ct, RS.seq_stuck, RE.bindA_exc, RE.bindA_stuck, RE.bindS_stuck, RE.bindT_exc, RE.bindT_stuck, RE.bindTS_exc, RE.bindTS_stuck, RA.bind_exc, RA.bind_stuck, RA.bindA_exc, RA.bindA_stuck, RE.nox_stuck, bind_ite, bindA_ite, bindS_ite, bindT_ite, bindTS_ite, nox_ite, seq_ite, startR, tyA_non, tyA_bl, tyA_int, tyA_str, tyA_tup, List.map_cons, List.map_nil, List.length_cons, List.length_nil, List.cons_append, List.nil_append, List.append_nil, List.getElem?_cons_zero, List.getElem?_cons_succ, List.set_cons_zero, List.set_cons_succ, vIx_t0, vIx_t1, vIx_t2, vIx_t3, vIx_t4, vIx_t5, vEq_ss, vEq_ii, vEq_bb, vNe_ss, vNe_ii, vNe_bb, vLen_tup, truA_tup, truA_bl, vLe_ii, vLt_ii, vGt_ii, vGe_ii, vSub_ii, vAdd_ii, vAddI_ii, vNeg_i, isT_ss, isT_tt, isT_ii, isT_bi, isT_bb, isT_ib, gLc, gIR1, b3, and_self, ↓reduceIte, wipeR, lc]
    rfl
  have e4 : L2.atI ([.tup [.str "any"], .tup [.str "any"], .tup [.str "over", .int (seedOf s 4 / 7 % 10000)], .tup [.str "under", .int (seedOf s 4 / 7 % 10000)]] : List A) (pickOf (seedOf s 3) 4) = some (testOf s) := by
    obtain ⟨k1, k2⟩ := pick_lt (seedOf s 3) (m := 4) (by decide)
    rw [atI_getD A.non k1 (by simpa using k2)]
    rfl
  have p1 : ∀ a S, F__law_pick K [.int a, .int 4] S = .ok (.int (pickOf a 4)) S := fun a S => pick_at (by decide)
  have p2 : ∀ a S, F__law_pick K [.int a, .int 5] S = .ok (.int (pickOf a 5)) S := fun a S => pick_at (by decide)
  have p3 : ∀ a S, F__law_pick K [.int a, .int 3] S = .ok (.int (pickOf a 3)) S := fun a S => pick_at (by decide)
  have s1 : q__law_hearer_1 K Fd [some (.int s), some (.int deep), some (.ob S.length), none, none, none, none] (S ++ [.lst (sds s)]) = .nx [some (.int s), some (.int deep), some (.ob S.length), some (testOf s), none, none, none] (S ++ [.lst (sds s), .lst [.tup [.str "any"], .tup [.str "any"], .tup [.str "over", .int (seedOf s 4 / 7 % 10000)], .tup [.str "under", .int (seedOf s 4 / 7 % 10000)]]]) := by
    simp only [q__law_hearer_1, gVar, gC, gOp, gUn, gAnd, gOr, gNot, gIf, gNil, gCons, gTup, gLst, gCB, gChain, gSet, gExpr, gRet, gRetN, gPass, gBrk, gCt, gRaise, gIfS, gSeq, nName, nTup, setAll, gAsg, gCall, gTru, gNotT, gIsi, RE.bind_ok, RE.bind_exc, RE.bind_stuck, RE.bindA_ok, RE.bindS_ok, RE.bindS_exc, RE.bindT_ok, RE.bindTS_ok, RA.bind_ok, RA.bindA_ok, RE.nox_ok, RS.seq_nx, RS.seq_ret, RS.seq_exc, RS.seq_brk, RS.seq_ct, RS.seq_stuck, RE.bindA_exc, RE.bindA_stuck, RE.bindS_stuck, RE.bindT_exc, RE.bindT_stuck, RE.bindTS_exc, RE.bindTS_stuck, RA.bind_exc, RA.bind_stuck, RA.bindA_exc, RA.bindA_stuck, RE.nox_stuck, bind_ite, bindA_ite, bindS_ite, bindT_ite, bindTS_ite, nox_ite, seq_ite, startR, tyA_non, tyA_bl, tyA_int, tyA_str, tyA_tup, List.map_cons, List.map_nil, List.length_cons, List.length_nil, List.cons_append, List.nil_append, List.append_nil, List.getElem?_cons_zero, List.getElem?_cons_succ, List.set_cons_zero, List.set_cons_succ, vIx_t0, vIx_t1, vIx_t2, vIx_t3, vIx_t4, vIx_t5, vEq_ss, vEq_ii, vEq_bb, vNe_ss, vNe_ii, vNe_bb, vLen_tup, truA_tup, truA_bl, vLe_ii, vLt_ii, vGt_ii, vGe_ii, vSub_ii, vAdd_ii, vAddI_ii, vNeg_i, isT_ss, isT_tt, isT_ii, isT_bi, isT_bb, isT_ib, Nat.reduceAdd, Nat.reduceLeDiff, ↓reduceIte, vIx_obE, items_off0, items_off, itemsAt_c0, itemsAt_cs, items_lst, sds, at3, at4, m1, m3, List.append_assoc, List.length_append, p1, e4]
  have e5 : L2.atI ([.int 0, .int 1, .int 2, .int 3, .int 1] : List A) (pickOf (seedOf s 5) 5) = some (.int (manyOf s)) := by
    obtain ⟨k1, k2⟩ := pick_lt (seedOf s 5) (m := 5) (by decide)
    rw [atI_getD .non k1 (by simpa using k2), manyOf]
    have h5 : (pickOf (seedOf s 5) 5).toNat < 5 := by omega
    generalize (pickOf (seedOf s 5) 5).toNat = k at h5
    match k, h5 with
    | 0, _ => rfl
    | 1, _ => rfl
    | 2, _ => rfl
    | 3, _ => rfl
    | 4, _ => rfl
  obtain ⟨n1, n2⟩ := many_ok s
  have s2 : q__law_hearer_2 K Fd [some (.int s), some (.int deep), some (.ob S.length), some (testOf s), none, none, none] (S ++ [.lst (sds s), .lst [.tup [.str "any"], .tup [.str "any"], .tup [.str "over", .int (seedOf s 4 / 7 % 10000)], .tup [.str "under", .int (seedOf s 4 / 7 % 10000)]]]) = .nx [some (.int s), some (.int deep), some (.ob S.length), some (testOf s), some (.tup ((List.range (manyOf s).toNat).map fun k => dd (seedOf s (10 + (k : Nat))))), none, none] (S ++ [.lst (sds s), .lst [.tup [.str "any"], .tup [.str "any"], .tup [.str "over", .int (seedOf s 4 / 7 % 10000)], .tup [.str "under", .int (seedOf s 4 / 7 % 10000)]], .lst [.int 0, .int 1, .int 2, .int 3, .int 1], .lst ((List.range (manyOf s).toNat).map fun k => dd (seedOf s (10 + (k : Nat))))]) := by
    have lc := lc_eq (chk := fun _ => true) (gg := nName 6) (gt := gYes) (ge := gCall (Fd) (gCons (gCall (F__law_seed K) (gCons (gVar 0) (gCons (gOp vAdd (gC (.int 10)) (gVar 6)) (gNil)))) (gCons (gVar 1) (gNil)))) (ρ0 := [some (.int s), some (.int deep), some (.ob S.length), some (testOf s), none, none, none]) (S0 := S ++ [.lst (sds s), .lst [.tup [.str "any"], .tup [.str "any"], .tup [.str "over", .int (seedOf s 4 / 7 % 10000)], .tup [.str "under", .int (seedOf s 4 / 7 % 10000)]], .lst [.int 0, .int 1, .int 2, .int 3, .int 1]]) (fun _ => true) (fun a => match a with
        | .int k => dd (seedOf s (10 + k))
        | _ => .non) (fun _ => rfl) (rngA 0 (manyOf s).toNat) [] (fun a ha => by
          obtain ⟨k, hk, rfl⟩ := List.mem_map.mp ha
          refine ⟨[some (.int s), some (.int deep), some (.ob S.length), some (testOf s), none, none, some (.int (0 + (k : Int)))], fun _ => rfl, fun l => ⟨rfl, fun _ => ?_⟩⟩
          simp only [gVar, gC, gOp, gUn, gAnd, gOr, gNot, gIf, gNil, gCons, gTup, gLst, gCB, gChain, gSet, gExpr, gRet, gRetN, gPass, gBrk, gCt, gRaise, gIfS, gSeq, nName, nTup, setAll, gAsg, gCall, gTru, gNotT, gIsi, RE.bind_ok, RE.bind_exc, RE.bind_stuck, RE.bindA_ok, RE.bindS_ok, RE.bindS_exc, RE.bindT_ok, RE.bindTS_ok, RA.bind_ok, RA.bindA_ok, RE.nox_ok, RS.seq_nx, RS.seq_ret, RS.seq_exc, RS.seq_brk, RS.seq_ct, RS.seq_stuck, RE.bindA_exc, RE.bindA_stuck, RE.bindS_stuck, RE.bindT_exc, RE.bindT_stuck, RE.bindTS_exc, RE.bindTS_stuck, RA.bind_exc, RA.bind_stuck, RA.bindA_exc, RA.bindA_stuck, RE.nox_stuck, bind_ite, bindA_ite, bindS_ite, bindT_ite, bindTS_ite, nox_ite, seq_ite, startR, tyA_non, tyA_bl, tyA_int, tyA_str, tyA_tup, List.map_cons, List.map_nil, List.length_cons, List.length_nil, List.cons_append, List.nil_append, List.append_nil, List.getElem?_cons_zero, List.getElem?_cons_succ, List.set_cons_zero, List.set_cons_succ, vIx_t0, vIx_t1, vIx_t2, vIx_t3, vIx_t4, vIx_t5, vEq_ss, vEq_ii, vEq_bb, vNe_ss, vNe_ii, vNe_bb, vLen_tup, truA_tup, truA_bl, vLe_ii, vLt_ii, vGt_ii, vGe_ii, vSub_ii, vAdd_ii, vAddI_ii, vNeg_i, isT_ss, isT_tt, isT_ii, isT_bi, isT_bb, isT_ib, F__law_seed, hF]) (by simp [rngA]; omega)
    have e6 : (rngA 0 (manyOf s).toNat).map (fun a => match a with
        | .int k => dd (seedOf s (10 + k))
        | _ => .non) = (List.range (manyOf s).toNat).map fun k => dd (seedOf s (10 + (k : Nat))) := by
      unfold rngA
      rw [List.map_map]
      refine List.map_congr_left fun k hk => ?_
      show dd (seedOf s (10 + (0 + (k : Int)))) = _
      rw [Int.zero_add]
    rw [List.filter_eq_self.mpr (fun _ _ => rfl), List.nil_append, e6] at lc
    simp only [List.append_assoc, List.cons_append, List.nil_append, List.length_append, List.length_cons, List.length_nil, Nat.reduceAdd] at lc
    have b3 : manyOf s < 1000000 ∧ -1000000 < manyOf s := by omega
    simp only [q__law_hearer_2, gVar, gC, gOp, gUn, gAnd, gOr, gNot, gIf, gNil, gCons, gTup, gLst, gCB, gChain, gSet, gExpr, gRet, gRetN, gPass, gBrk, gCt, gRaise, gIfS, gSeq, nName, nTup, setAll, gAsg, gCall, gTru, gNotT, gIsi, RE.bind_ok, RE.bind_exc, RE.bind_stuck, RE.bindA_ok, RE.bindS_ok, RE.bindS_exc, RE.bindT_ok, RE.bindTS_ok, RA.bind_ok, RA.bindA_ok, RE.nox_ok, RS.seq_nx, RS.seq_ret, RS.seq_exc, RS.seq_brk, RS.seq_ct, RS.seq_stuck, RE.bindA_exc, RE.bindA_stuck, RE.bindS_stuck, RE.bindT_exc, RE.bindT_stuck, RE.bindTS_exc, RE.bindTS_stuck, RA.bind_exc, RA.bind_stuck, RA.bindA_exc, RA.bindA_stuck, RE.nox_stuck, bind_ite, bindA_ite, bindS_ite, bindT_ite, bindTS_ite, nox_ite, seq_ite, startR, tyA_non, tyA_bl, tyA_int, tyA_str, tyA_tup, List.map_cons, List.map_nil, List.length_cons, List.length_nil, List.cons_append, List.nil_append, List.append_nil, List.getElem?_cons_zero, List.getElem?_cons_succ, List.set_cons_zero, List.set_cons_succ, vIx_t0, vIx_t1, vIx_t2, vIx_t3, vIx_t4, vIx_t5, vEq_ss, vEq_ii, vEq_bb, vNe_ss, vNe_ii, vNe_bb, vLen_tup, truA_tup, truA_bl, vLe_ii, vLt_ii, vGt_ii, vGe_ii, vSub_ii, vAdd_ii, vAddI_ii, vNeg_i, isT_ss, isT_tt, isT_ii, isT_bi, isT_bb, isT_ib, gLc, gIR1, Nat.reduceAdd, Nat.reduceLeDiff, ↓reduceIte, vIx_obE, items_off0, items_off, itemsAt_c0, itemsAt_cs, items_lst, sds, at5, List.append_assoc, List.length_append, p2, e5, b3, and_self, wipeR, lc, vTuple, seqOf]
    simp only [sds] at lc
    simp only [lc, gVar, gC, gOp, gUn, gAnd, gOr, gNot, gIf, gNil, gCons, gTup, gLst, gCB, gChain, gSet, gExpr, gRet, gRetN, gPass, gBrk, gCt, gRaise, gIfS, gSeq, nName, nTup, setAll, gAsg, gCall, gTru, gNotT, gIsi, RE.bind_ok, RE.bind_exc, RE.bind_stuck, RE.bindA_ok, RE.bindS_ok, RE.bindS_exc, RE.bindT_ok, RE.bindTS_ok, RA.bind_ok, RA.bindA_ok, RE.nox_ok, RS.seq_nx, RS.seq_ret, RS.seq_exc, RS.seq_brk, RS.seq_ct, RS.seq_stuck, RE.bindA_exc, RE.bindA_stuck, RE.bindS_stuck, RE.bindT_exc, RE.bindT_stuck, RE.bindTS_exc, RE.bindTS_stuck, RA.bind_exc, RA.bind_stuck, RA.bindA_exc, RA.bindA_stuck, RE.nox_stuck, bind_ite, bindA_ite, bindS_ite, bindT_ite, bindTS_ite, nox_ite, seq_ite, startR, tyA_non, tyA_bl, tyA_int, tyA_str, tyA_tup, List.map_cons, List.map_nil, List.length_cons, List.length_nil, List.cons_append, List.nil_append, List.append_nil, List.getElem?_cons_zero, List.getElem?_cons_succ, List.set_cons_zero, List.set_cons_succ, vIx_t0, vIx_t1, vIx_t2, vIx_t3, vIx_t4, vIx_t5, vEq_ss, vEq_ii, vEq_bb, vNe_ss, vNe_ii, vNe_bb, vLen_tup, truA_tup, truA_bl, vLe_ii, vLt_ii, vGt_ii, vGe_ii, vSub_ii, vAdd_ii, vAddI_ii, vNeg_i, isT_ss, isT_tt, isT_ii, isT_bi, isT_bb, isT_ib, vTuple, seqOf, items_off, itemsAt_c0, itemsAt_cs, items_lst]
  have e7 : L2.atI ([.str "always", .str "always", .str "once"] : List A) (pickOf (seedOf s 6) 3) = some (.str (howOf s)) := by
    obtain ⟨k1, k2⟩ := pick_lt (seedOf s 6) (m := 3) (by decide)
    rw [atI_getD A.non k1 (by simpa using k2)]
    unfold howOf
    by_cases z2 : pickOf (seedOf s 6) 3 = 2
    · rw [z2, if_pos rfl]; rfl
    · rw [if_neg z2]
      by_cases z0 : pickOf (seedOf s 6) 3 = 0
      · rw [z0]; rfl
      · have z1 : pickOf (seedOf s 6) 3 = 1 := by omega
        rw [z1]; rfl
  have e8 : L2.atI ([.int (seedOf s 2 / 7 % 10), .int 3, .int 3] : List A) (pickOf (seedOf s 7) 3) = some (.int (rankOf s)) := by
    obtain ⟨k1, k2⟩ := pick_lt (seedOf s 7) (m := 3) (by decide)
    rw [atI_getD A.non k1 (by simpa using k2)]
    unfold rankOf
    by_cases z0 : pickOf (seedOf s 7) 3 = 0
    · rw [z0, if_pos rfl]; rfl
    · rw [if_neg z0]
      by_cases z2 : pickOf (seedOf s 7) 3 = 2
      · rw [z2]; rfl
      · have z1 : pickOf (seedOf s 7) 3 = 1 := by omega
        rw [z1]; rfl
  refine ⟨[.lst (sds s), .lst [.tup [.str "any"], .tup [.str "any"], .tup [.str "over", .int (seedOf s 4 / 7 % 10000)], .tup [.str "under", .int (seedOf s 4 / 7 % 10000)]], .lst [.int 0, .int 1, .int 2, .int 3, .int 1], .lst ((List.range (manyOf s).toNat).map fun k => dd (seedOf s (10 + (k : Nat)))), .lst [.str "always", .str "always", .str "once"], .lst [.int (seedOf s 2 / 7 % 10), .int 3, .int 3]], ?_⟩
  have st : startR N__law_hearer.length [.int s, .int deep] = [some (.int s), some (.int deep), none, none, none, none, none] := rfl
  rw [st]
  unfold q__law_hearer
  simp only [gSeq, s0, s1, s2, RS.seq_nx]
  simp only [q__law_hearer_3, q__law_hearer_4, gVar, gC, gOp, gUn, gAnd, gOr, gNot, gIf, gNil, gCons, gTup, gLst, gCB, gChain, gSet, gExpr, gRet, gRetN, gPass, gBrk, gCt, gRaise, gIfS, gSeq, nName, nTup, setAll, gAsg, gCall, gTru, gNotT, gIsi, RE.bind_ok, RE.bind_exc, RE.bind_stuck, RE.bindA_ok, RE.bindS_ok, RE.bindS_exc, RE.bindT_ok, RE.bindTS_ok, RA.bind_ok, RA.bindA_ok, RE.nox_ok, RS.seq_nx, RS.seq_ret, RS.seq_exc, RS.seq_brk, RS.seq_ct, RS.seq_stuck, RE.bindA_exc, RE.bindA_stuck, RE.bindS_stuck, RE.bindT_exc, RE.bindT_stuck, RE.bindTS_exc, RE.bindTS_stuck, RA.bind_exc, RA.bind_stuck, RA.bindA_exc, RA.bindA_stuck, RE.nox_stuck, bind_ite, bindA_ite, bindS_ite, bindT_ite, bindTS_ite, nox_ite, seq_ite, startR, tyA_non, tyA_bl, tyA_int, tyA_str, tyA_tup, List.map_cons, List.map_nil, List.length_cons, List.length_nil, List.cons_append, List.nil_append, List.append_nil, List.getElem?_cons_zero, List.getElem?_cons_succ, List.set_cons_zero, List.set_cons_succ, vIx_t0, vIx_t1, vIx_t2, vIx_t3, vIx_t4, vIx_t5, vEq_ss, vEq_ii, vEq_bb, vNe_ss, vNe_ii, vNe_bb, vLen_tup, truA_tup, truA_bl, vLe_ii, vLt_ii, vGt_ii, vGe_ii, vSub_ii, vAdd_ii, vAddI_ii, vNeg_i, isT_ss, isT_tt, isT_ii, isT_bi, isT_bb, isT_ib, Nat.reduceAdd, Nat.reduceLeDiff, ↓reduceIte, vIx_obE, items_off0, items_off, itemsAt_c0, itemsAt_cs, items_lst, sds, at0, at1, at2, at6, at7, List.append_assoc, List.length_append, p3, e7, e8, m1, m4, F__law_word, hrW]
theorem ok__law_deed_of (t : Hd.Tx K mg) {n d : Nat} {Fh : List A → Sto → RE} (hd : 2 ≤ d) (okh : FnR P w K mg base d (He.ga K "_law_hearer") t.f__law_hearer P__law_hearer (spF K (tbs K) Fh)) (hF : ∀ deep : Int, 1 ≤ deep → deep < (n : Int) → ∀ s S, Fh [.int s, .int deep] S = .ok (hrG deep.toNat s) S) : FnR P w K mg base (d + 1) (He.ga K "_law_deed") t.f__law_deed P__law_deed (spF K (tbs K) (F__law_deed n K)) := by
  refine fnF t.D__law_deed sc__law_deed (fun l S h => by unfold F__law_deed at h; split at h <;> first | rfl | exact absurd rfl h) (q__law_deed K Fh) (fun cdv A outer s H E hr => sb__law_deed t okh hd (Nat.le_refl d) hr) fun l S b bl h => ?_
  unfold F__law_deed at h ⊢
  split at h
  rotate_left
  · exact absurd rfl h
  rename_i s deep
  by_cases hk : 1 ≤ deep ∧ deep ≤ (n : Int)
  rotate_left
  · exact absurd (if_neg hk) h
  rw [if_pos hk]
  obtain ⟨E, e⟩ := e__law_deed (K := K) (Fh := Fh) (s := s) (S := S) (deep := deep) (h := hrG (deep - 1).toNat) (fun h1 s S => hF (deep - 1) (by omega) (by omega) s S)
  rw [e]
  have en : ((deep.toNat : Nat) : Int) = deep := by omega
  refine fitPE b (nice_bel (n := 10 + 3 * deep.toNat) ?_ _)
  have := nice_deed (n := 9 + 3 * deep.toNat) (hf := isHr (deep - 1).toNat) (fun a ha => nice_mono (nice_hr ha) _ (by omega)) (deed_ok (n := deep.toNat) (h := hrG (deep - 1).toNat) (hf := isHr (deep - 1).toNat) (fun h1 s => hr_ok _ (by omega) s) s)
  rw [en] at this
  exact (show 9 + 3 * deep.toNat + 1 = 10 + 3 * deep.toNat by omega) ▸ this
theorem ok__law_hearer_of (t : Hd.Tx K mg) {n d : Nat} (hd : 2 ≤ d) (okd : FnR P w K mg base d (He.ga K "_law_deed") t.f__law_deed P__law_deed (spF K (tbs K) (F__law_deed n K))) : FnR P w K mg base (d + 1) (He.ga K "_law_hearer") t.f__law_hearer P__law_hearer (spF K (tbs K) (F__law_hearer n K)) := by
  refine fnF t.D__law_hearer sc__law_hearer (fun l S h => by unfold F__law_hearer at h; split at h <;> first | rfl | exact absurd rfl h) (q__law_hearer K (F__law_deed n K)) (fun cdv A outer s H E hr => sb__law_hearer t okd hd (Nat.le_refl d) hr) fun l S b bl h => ?_
  unfold F__law_hearer at h ⊢
  split at h
  rotate_left
  · exact absurd rfl h
  rename_i s deep
  by_cases hk : 1 ≤ deep ∧ deep ≤ (n : Int)
  rotate_left
  · exact absurd (if_neg hk) h
  rw [if_pos hk]
  obtain ⟨E, e⟩ := e__law_hearer (K := K) (Fd := F__law_deed n K) (s := s) (S := S) (deep := deep) (dd := deedW deep (hrG (deep - 1).toNat)) (fun s S => if_pos hk)
  rw [e]
  obtain ⟨m, em⟩ : ∃ m : Nat, deep = ((m + 1 : Nat) : Int) := ⟨(deep - 1).toNat, by omega⟩
  subst em
  have e1 : (((m + 1 : Nat) : Int) - 1).toNat = m := by omega
  have e2 : ((m + 1 : Nat) : Int).toNat = m + 1 := by omega
  rw [e1, e2]
  exact fitPE b (hr_bel (by omega) s _)
theorem ok__law_hearer (t : Hd.Tx K mg) : ∀ n : Nat, FnR P w K mg base (4 + 2 * n) (He.ga K "_law_hearer") t.f__law_hearer P__law_hearer (spF K (tbs K) (F__law_hearer (n + 1) K))
  | 0 => ok__law_hearer_of t (d := 3) (by omega) (ok__law_deed_of t (d := 2) (Nat.le_refl _) fnr_stuck fun deep h1 h2 => absurd h2 (by omega))
  | n + 1 => ok__law_hearer_of t (d := 4 + 2 * n + 1) (by omega) (ok__law_deed_of t (by omega) (ok__law_hearer t n) fun deep h1 h2 s S => if_pos ⟨h1, by omega⟩)
end
end Sx.My

set_option Elab.async false
set_option linter.all false
set_option maxRecDepth 100000
set_option maxHeartbeats 4000000
namespace Sx.My
open PySem PySem.Spec PyProof.Rows L2
def q_law_0 (K : Frg) : GS :=
  gSet 1 (gCall (F__law_hearer 3 K) (gCons (gCall (F__law_seed K) (gCons (gCall (F__law_cell K) (gCons (gVar 0) (gCons (gC (.int 0)) (gNil)))) (gCons (gC (.int 0)) (gNil)))) (gCons (gC (.int 3)) (gNil))))
def q_law_1 (K : Frg) : GS :=
  gIfS (gOp vNe (gCall (F_checked K) (gCons (gVar 1) (gNil))) (gVar 1)) (gRet (gC (.bl false))) (gPass)
def q_law_2 (K : Frg) : GS :=
  gAsg (gVar 1) (nTup [11, 12, 13, 14, 15, 16])
def q_law_3 (K : Frg) : GS :=
  gSet 2 (gLst (gCons (gTup (gCons (gC (.str "A")) (gCons (gVar 12) (gCons (gVar 13) (gCons (gVar 14) (gCons (gVar 15) (gCons (gVar 16) (gNil)))))))) (gCons (gTup (gCons (gVar 11) (gCons (gC (.str "")) (gCons (gVar 13) (gCons (gVar 14) (gCons (gVar 15) (gCons (gVar 16) (gNil)))))))) (gNil))))
def q_law_4 (K : Frg) : GS :=
  gExpr (gMt "list" vAppend (gVar 2) (gCons (gTup (gCons (gVar 11) (gCons (gC (.str "sevenab")) (gCons (gVar 13) (gCons (gVar 14) (gCons (gVar 15) (gCons (gTup (gNil)) (gNil)))))))) (gNil)))
def q_law_5 (K : Frg) : GS :=
  gSet 2 (gOp vAdd (gVar 2) (gLst (gCons (gTup (gCons (gVar 11) (gCons (gVar 12) (gCons (gC (.int 10)) (gCons (gVar 14) (gCons (gVar 15) (gCons (gVar 16) (gNil)))))))) (gCons (gTup (gCons (gVar 11) (gCons (gVar 12) (gCons (gC (.bl true)) (gCons (gVar 14) (gCons (gVar 15) (gCons (gVar 16) (gNil)))))))) (gNil)))))
def q_law_6 (K : Frg) : GS :=
  gSet 2 (gOp vAdd (gVar 2) (gLst (gCons (gTup (gCons (gVar 11) (gCons (gVar 12) (gCons (gVar 13) (gCons (gC (.str "never")) (gCons (gVar 15) (gCons (gVar 16) (gNil)))))))) (gCons (gTup (gCons (gVar 11) (gCons (gVar 12) (gCons (gVar 13) (gCons (gVar 14) (gCons (gTup (gCons (gC (.str "over")) (gNil))) (gCons (gVar 16) (gNil)))))))) (gNil)))))
def q_law_7 (K : Frg) : GS :=
  gSet 2 (gOp vAdd (gVar 2) (gLst (gCons (gTup (gCons (gVar 11) (gCons (gVar 12) (gCons (gVar 13) (gCons (gVar 14) (gCons (gTup (gCons (gC (.str "any")) (gCons (gC (.int 1)) (gNil)))) (gCons (gVar 16) (gNil)))))))) (gCons (gTup (gCons (gVar 11) (gCons (gVar 12) (gCons (gVar 13) (gCons (gVar 14) (gCons (gTup (gCons (gC (.str "over")) (gCons (gC (.int 10000)) (gNil)))) (gCons (gVar 16) (gNil)))))))) (gNil)))))
def q_law_8 (K : Frg) : GS :=
  gSet 2 (gOp vAdd (gVar 2) (gLst (gCons (gTup (gCons (gVar 11) (gCons (gVar 12) (gCons (gVar 13) (gCons (gVar 14) (gCons (gVar 15) (gCons (gCB vList (gCons (gVar 16) (gNil))) (gNil)))))))) (gCons (gTup (gCons (gVar 11) (gCons (gVar 12) (gCons (gVar 13) (gCons (gVar 14) (gCons (gVar 15) (gCons (gOp vMul (gTup (gCons (gTup (gCons (gC (.str "stop")) (gNil))) (gNil))) (gC (.int 4))) (gNil)))))))) (gNil)))))
def q_law_9 (K : Frg) : GS :=
  gSet 3 (gTup (gCons (gC (.str "x")) (gCons (gC (.str "y")) (gCons (gC (.int 0)) (gCons (gVar 14) (gCons (gVar 15) (gNil)))))))
def q_law_10 (K : Frg) : GS :=
  gFor (gIL (gLst (gCons (gTup (gCons (gC (.str "tell")) (gCons (gC (.str "b")) (gNil)))) (gCons (gTup (gCons (gC (.str "tell")) (gCons (gC (.str "b")) (gCons (gUn vNeg (gC (.int 1))) (gNil))))) (gCons (gTup (gCons (gC (.str "leave")) (gCons (gC (.int 3)) (gNil)))) (gCons (gTup (gCons (gC (.str "stop")) (gCons (gC (.int 1)) (gNil)))) (gCons (gTup (gCons (gC (.str "go")) (gNil))) (gCons (gTup (gCons (gC (.str "join")) (gCons (gVar 3) (gNil)))) (gNil))))))))) (nName 4)
  (gExpr (gMt "list" vAppend (gVar 2) (gCons (gTup (gCons (gVar 11) (gCons (gVar 12) (gCons (gVar 13) (gCons (gVar 14) (gCons (gVar 15) (gCons (gTup (gCons (gVar 4) (gNil))) (gNil)))))))) (gNil))))
def q_law_11 (K : Frg) : GS :=
  gSet 5 (gTup (gCons (gC (.str "x")) (gCons (gC (.str "y")) (gCons (gC (.int 0)) (gCons (gC (.str "once")) (gCons (gTup (gCons (gC (.str "any")) (gNil))) (gCons (gTup (gNil)) (gNil))))))))
def q_law_12 (K : Frg) : GS :=
  gSet 6 (gVar 5)
def q_law_13 (K : Frg) : GS :=
  gFor (gIR1 (gCons (gC (.int 3)) (gNil))) (nName 7)
  (gSet 6 (gTup (gCons (gC (.str "x")) (gCons (gC (.str "y")) (gCons (gC (.int 0)) (gCons (gC (.str "once")) (gCons (gTup (gCons (gC (.str "any")) (gNil))) (gCons (gTup (gCons (gTup (gCons (gC (.str "join")) (gCons (gVar 6) (gNil)))) (gNil))) (gNil)))))))))
def q_law_14 (K : Frg) : GS :=
  gExpr (gMt "list" vAppend (gVar 2) (gCons (gVar 6) (gNil)))
def q_law_15 (K : Frg) : GS :=
  gSet 8 (gOp vIx (gVar 2) (gOp vMod (gCall (F__law_cell K) (gCons (gVar 0) (gCons (gC (.int 1)) (gNil)))) (gC (.int 18))))
def q_law_16 (K : Frg) : GS :=
  gIfS (gOp vEq (gOp vMod (gCall (F__law_cell K) (gCons (gVar 0) (gCons (gC (.int 2)) (gNil)))) (gC (.int 3))) (gC (.int 0))) (gSet 8 (gTup (gCons (gC (.str "x")) (gCons (gC (.str "y")) (gCons (gC (.int 0)) (gCons (gC (.str "once")) (gCons (gTup (gCons (gC (.str "any")) (gNil))) (gCons (gTup (gCons (gTup (gCons (gC (.str "join")) (gCons (gVar 8) (gNil)))) (gNil))) (gNil))))))))) (gPass)
def q_law_17 (K : Frg) : GS :=
  gSet 9 (gC (.int 0))
def q_law_18 (K : Frg) : GS :=
  gFor (gIT (gTup (gCons (gVar 8) (gCons (gOp vIx (gLst (gCons (gCB vList (gCons (gVar 1) (gNil))) (gCons (gC .non) (gCons (gSlice (gVar 1) (pNone) (pSome (gC (.int 5)))) (gCons (gOp vAdd (gVar 1) (gTup (gCons (gC (.int 0)) (gNil)))) (gCons (gC (.str "a")) (gNil))))))) (gOp vMod (gCall (F__law_cell K) (gCons (gVar 0) (gCons (gC (.int 3)) (gNil)))) (gC (.int 5)))) (gNil))))) (nName 10)
  (gTry K (gExpr (gCall (F_checked K) (gCons (gVar 10) (gNil)))) [(.ref (He.ga K "BadHearer"), gAug 9 vAddI (gC (.int 1)))])
def q_law_19 (K : Frg) : GS :=
  gRet (gOp vEq (gVar 9) (gC (.int 2)))
abbrev N_law : List Str := ["script", "hearer", "some", "short", "deed", "plain_one", "deep", "k", "bad", "caught", "thing", "owner", "topic", "rank", "how", "test", "deeds"]
abbrev P_law : List Str := ["script"]
theorem sc_law : FnScope N_law P_law (defScope Hd.s_law) := ⟨rfl, rfl, rfl, by decide +kernel, rfl, by decide +kernel, by decide +kernel⟩
theorem b_law {K : Frg} {mg : Str → Option Value} (t : Hd.Tx K mg) : Binds K t.f_law P_law [] := FunD.bindsN t.D_law fun _ _ _ _ _ _ us hl => match us, hl with | [_], _ => rfl
def q_law (K : Frg) : GS :=
  gSeq (q_law_0 K ) (gSeq (q_law_1 K ) (gSeq (q_law_2 K ) (gSeq (q_law_3 K ) (gSeq (q_law_4 K ) (gSeq (q_law_5 K ) (gSeq (q_law_6 K ) (gSeq (q_law_7 K ) (gSeq (q_law_8 K ) (gSeq (q_law_9 K ) (gSeq (q_law_10 K ) (gSeq (q_law_11 K ) (gSeq (q_law_12 K ) (gSeq (q_law_13 K ) (gSeq (q_law_14 K ) (gSeq (q_law_15 K ) (gSeq (q_law_16 K ) (gSeq (q_law_17 K ) (gSeq (q_law_18 K ) (q_law_19 K )))))))))))))))))))
theorem sb_law {P : Program} {w : World} {K : Frg} {mg : Str → Option Value} {base : Heap} (t : Hd.Tx K mg)  {cdv : Value} {A : Around} {outer : List Env} {s : Shared} {H : Hp} {E : XK} (hr : Rm 12 (A.deeper (envOfC "law" (defScope Hd.s_law) s.heap.objs.size (He.ga K "law") cdv))) :
    SB (cxOf (L2.CX P w) P w K mg base N_law "law" (defScope Hd.s_law) (He.ga K "law") cdv A outer s H E) (tbs K) (fun c d _ H2 => E c d H2) (defBody Hd.s_law) (q_law K ) := by
  have nd : N_law.Nodup := sc_law.nd
  have hp := passes_of (X := cxOf (L2.CX P w) P w K mg base N_law "law" (defScope Hd.s_law) (He.ga K "law") cdv A outer s H E) (K := fun e s2 => L2.CX P w outer H s E e s2) (E₁ := fun e s2 => L2.CX P w outer H s E e s2) rfl
  have tk : Takes (cxOf (L2.CX P w) P w K mg base N_law "law" (defScope Hd.s_law) (He.ga K "law") cdv A outer s H E) (fun c d _ H2 => E c d H2) := takes_of rfl rfl rfl rfl
  exact (sb_cons (ss_set (i := 1) nd rfl (Or.inl rfl) (se_call (ok__law_hearer t 2) (hr.mono (by omega)) t.m__law_hearer t.D__law_hearer.kp (b__law_hearer t) tk (sa_cons (se_call (ok__law_seed t) (hr.mono (by omega)) t.m__law_seed t.D__law_seed.kp (b__law_seed t) tk (sa_cons (se_call (ok__law_cell t) (hr.mono (by omega)) t.m__law_cell t.D__law_cell.kp (b__law_cell t) tk (sa_cons (se_var' (pv 0)) (sa_cons se_int sa_nil))) (sa_cons se_int sa_nil))) (sa_cons se_int sa_nil))))
  (sb_cons (ss_if (st_cmp (os_ne hr.units) (se_call (ok_checked t) (hr.mono (by omega)) t.m_checked t.D_checked.kp (b_checked t) tk (sa_cons (se_var' (pv 1)) sa_nil)) (se_var' (pv 1)) (nomark _)) (sb_one (ss_ret se_bl)) sb_nil)
  (sb_cons (ss_asg (se_var' (pv 1)) (sg_tup rfl (sgs_cons (i := 11) nd rfl (Or.inl rfl) (sgs_cons (i := 12) nd rfl (Or.inl rfl) (sgs_cons (i := 13) nd rfl (Or.inl rfl) (sgs_cons (i := 14) nd rfl (Or.inl rfl) (sgs_cons (i := 15) nd rfl (Or.inl rfl) (sgs_cons (i := 16) nd rfl (Or.inl rfl) sgs_nil))))))))
  (sb_cons (ss_set (i := 2) nd rfl (Or.inl rfl) (se_lst (sa_cons (se_tup (sa_cons se_str (sa_cons (se_var' (pv 12)) (sa_cons (se_var' (pv 13)) (sa_cons (se_var' (pv 14)) (sa_cons (se_var' (pv 15)) (sa_cons (se_var' (pv 16)) sa_nil))))))) (sa_cons (se_tup (sa_cons (se_var' (pv 11)) (sa_cons se_str (sa_cons (se_var' (pv 13)) (sa_cons (se_var' (pv 14)) (sa_cons (se_var' (pv 15)) (sa_cons (se_var' (pv 16)) sa_nil))))))) sa_nil))))
  (sb_cons (ss_expr (se_bm PySem.F.plainAttrs_list PySem.F.slot_list_append PySem.F.type_list_append ms_append (se_var' (pv 2)) (sa_cons (se_tup (sa_cons (se_var' (pv 11)) (sa_cons se_str (sa_cons (se_var' (pv 13)) (sa_cons (se_var' (pv 14)) (sa_cons (se_var' (pv 15)) (sa_cons (se_tup sa_nil) sa_nil))))))) sa_nil)))
  (sb_cons (ss_set (i := 2) nd rfl (Or.inl rfl) (se_op os_add (se_var' (pv 2)) (se_lst (sa_cons (se_tup (sa_cons (se_var' (pv 11)) (sa_cons (se_var' (pv 12)) (sa_cons se_int (sa_cons (se_var' (pv 14)) (sa_cons (se_var' (pv 15)) (sa_cons (se_var' (pv 16)) sa_nil))))))) (sa_cons (se_tup (sa_cons (se_var' (pv 11)) (sa_cons (se_var' (pv 12)) (sa_cons se_bl (sa_cons (se_var' (pv 14)) (sa_cons (se_var' (pv 15)) (sa_cons (se_var' (pv 16)) sa_nil))))))) sa_nil)))))
  (sb_cons (ss_set (i := 2) nd rfl (Or.inl rfl) (se_op os_add (se_var' (pv 2)) (se_lst (sa_cons (se_tup (sa_cons (se_var' (pv 11)) (sa_cons (se_var' (pv 12)) (sa_cons (se_var' (pv 13)) (sa_cons se_str (sa_cons (se_var' (pv 15)) (sa_cons (se_var' (pv 16)) sa_nil))))))) (sa_cons (se_tup (sa_cons (se_var' (pv 11)) (sa_cons (se_var' (pv 12)) (sa_cons (se_var' (pv 13)) (sa_cons (se_var' (pv 14)) (sa_cons (se_tup (sa_cons se_str sa_nil)) (sa_cons (se_var' (pv 16)) sa_nil))))))) sa_nil)))))
  (sb_cons (ss_set (i := 2) nd rfl (Or.inl rfl) (se_op os_add (se_var' (pv 2)) (se_lst (sa_cons (se_tup (sa_cons (se_var' (pv 11)) (sa_cons (se_var' (pv 12)) (sa_cons (se_var' (pv 13)) (sa_cons (se_var' (pv 14)) (sa_cons (se_tup (sa_cons se_str (sa_cons se_int sa_nil))) (sa_cons (se_var' (pv 16)) sa_nil))))))) (sa_cons (se_tup (sa_cons (se_var' (pv 11)) (sa_cons (se_var' (pv 12)) (sa_cons (se_var' (pv 13)) (sa_cons (se_var' (pv 14)) (sa_cons (se_tup (sa_cons se_str (sa_cons se_int sa_nil))) (sa_cons (se_var' (pv 16)) sa_nil))))))) sa_nil)))))
  (sb_cons (ss_set (i := 2) nd rfl (Or.inl rfl) (se_op os_add (se_var' (pv 2)) (se_lst (sa_cons (se_tup (sa_cons (se_var' (pv 11)) (sa_cons (se_var' (pv 12)) (sa_cons (se_var' (pv 13)) (sa_cons (se_var' (pv 14)) (sa_cons (se_var' (pv 15)) (sa_cons (se_callTy cs_list (by rfl) t.n_list (by decide +kernel) (sa_cons (se_var' (pv 16)) sa_nil)) sa_nil))))))) (sa_cons (se_tup (sa_cons (se_var' (pv 11)) (sa_cons (se_var' (pv 12)) (sa_cons (se_var' (pv 13)) (sa_cons (se_var' (pv 14)) (sa_cons (se_var' (pv 15)) (sa_cons (se_op os_mul (se_tup (sa_cons (se_tup (sa_cons se_str sa_nil)) sa_nil)) se_int) sa_nil))))))) sa_nil)))))
  (sb_cons (ss_set (i := 3) nd rfl (Or.inl rfl) (se_tup (sa_cons se_str (sa_cons se_str (sa_cons se_int (sa_cons (se_var' (pv 14)) (sa_cons (se_var' (pv 15)) sa_nil)))))))
  (sb_cons (ss_for hp rfl (si_list (se_lst (sa_cons (se_tup (sa_cons se_str (sa_cons se_str sa_nil))) (sa_cons (se_tup (sa_cons se_str (sa_cons se_str (sa_cons (se_un us_neg se_int) sa_nil)))) (sa_cons (se_tup (sa_cons se_str (sa_cons se_int sa_nil))) (sa_cons (se_tup (sa_cons se_str (sa_cons se_int sa_nil))) (sa_cons (se_tup (sa_cons se_str sa_nil)) (sa_cons (se_tup (sa_cons se_str (sa_cons (se_var' (pv 3)) sa_nil))) sa_nil)))))))) (sg_name (i := 4) nd rfl (Or.inl rfl))
  (sb_one (ss_expr (se_bm PySem.F.plainAttrs_list PySem.F.slot_list_append PySem.F.type_list_append ms_append (se_var' (pv 2)) (sa_cons (se_tup (sa_cons (se_var' (pv 11)) (sa_cons (se_var' (pv 12)) (sa_cons (se_var' (pv 13)) (sa_cons (se_var' (pv 14)) (sa_cons (se_var' (pv 15)) (sa_cons (se_tup (sa_cons (se_var' (pv 4)) sa_nil)) sa_nil))))))) sa_nil)))))
  (sb_cons (ss_set (i := 5) nd rfl (Or.inl rfl) (se_tup (sa_cons se_str (sa_cons se_str (sa_cons se_int (sa_cons se_str (sa_cons (se_tup (sa_cons se_str sa_nil)) (sa_cons (se_tup sa_nil) sa_nil))))))))
  (sb_cons (ss_set (i := 6) nd rfl (Or.inl rfl) (se_var' (pv 5)))
  (sb_cons (ss_for hp rfl (si_range1 t.n_range (sa_cons se_int sa_nil)) (sg_name (i := 7) nd rfl (Or.inl rfl))
  (sb_one (ss_set (i := 6) nd rfl (Or.inl rfl) (se_tup (sa_cons se_str (sa_cons se_str (sa_cons se_int (sa_cons se_str (sa_cons (se_tup (sa_cons se_str sa_nil)) (sa_cons (se_tup (sa_cons (se_tup (sa_cons se_str (sa_cons (se_var' (pv 6)) sa_nil))) sa_nil)) sa_nil))))))))))
  (sb_cons (ss_expr (se_bm PySem.F.plainAttrs_list PySem.F.slot_list_append PySem.F.type_list_append ms_append (se_var' (pv 2)) (sa_cons (se_var' (pv 6)) sa_nil)))
  (sb_cons (ss_set (i := 8) nd rfl (Or.inl rfl) (se_ix is_ix (se_var' (pv 2)) (se_op os_mod (se_call (ok__law_cell t) (hr.mono (by omega)) t.m__law_cell t.D__law_cell.kp (b__law_cell t) tk (sa_cons (se_var' (pv 0)) (sa_cons se_int sa_nil))) se_int) (fun _ _ => rfl)))
  (sb_cons (ss_if (st_cmp (os_eq hr.units) (se_op os_mod (se_call (ok__law_cell t) (hr.mono (by omega)) t.m__law_cell t.D__law_cell.kp (b__law_cell t) tk (sa_cons (se_var' (pv 0)) (sa_cons se_int sa_nil))) se_int) se_int (nomark _)) (sb_one (ss_set (i := 8) nd rfl (Or.inl rfl) (se_tup (sa_cons se_str (sa_cons se_str (sa_cons se_int (sa_cons se_str (sa_cons (se_tup (sa_cons se_str sa_nil)) (sa_cons (se_tup (sa_cons (se_tup (sa_cons se_str (sa_cons (se_var' (pv 8)) sa_nil))) sa_nil)) sa_nil))))))))) sb_nil)
  (sb_cons (ss_set (i := 9) nd rfl (Or.inl rfl) se_int)
  (sb_cons (ss_for hp rfl (si_tup (se_tup (sa_cons (se_var' (pv 8)) (sa_cons (se_ix is_ix (se_lst (sa_cons (se_callTy cs_list (by rfl) t.n_list (by decide +kernel) (sa_cons (se_var' (pv 1)) sa_nil)) (sa_cons se_non (sa_cons (se_slice (se_var' (pv 1)) so_none (so_some se_int)) (sa_cons (se_op os_add (se_var' (pv 1)) (se_tup (sa_cons se_int sa_nil))) (sa_cons se_str sa_nil)))))) (se_op os_mod (se_call (ok__law_cell t) (hr.mono (by omega)) t.m__law_cell t.D__law_cell.kp (b__law_cell t) tk (sa_cons (se_var' (pv 0)) (sa_cons se_int sa_nil))) se_int) (fun _ _ => rfl)) sa_nil)))) (sg_name (i := 10) nd rfl (Or.inl rfl))
  (sb_one (ss_try tk (fun _ _ _ tk' hp' => (sb_one (ss_expr (se_call (ok_checked t) (hr.mono (by omega)) t.m_checked t.D_checked.kp (b_checked t) tk' (sa_cons (se_var' (pv 10)) sa_nil))))) (.cons ⟨rfl, by decide, .inl t.m_BadHearer⟩ (fun _ _ => (sb_one (ss_aug (i := 9) nd rfl (Or.inl rfl) se_int ipAdd))) .nil))))
  (sb_one (ss_ret (se_cmp (os_eq hr.units) (se_var' (pv 9)) se_int (nomark _)))))))))))))))))))))))

theorem vNe_same {a : A} {n : Nat} (h : nice n a = true) (hn : n ≤ 60) (S : Sto) : vNe a a S = .ok (.bl false) S := by
  unfold vNe
  rw [vEq_same h hn S]
  rfl
theorem vMul_t4 (a : A) (S : Sto) : vMul (.tup [a]) (.int 4) S = .ok (.tup [a, a, a, a]) S := rfl
theorem okAt_at {n : Nat} {xs : List A} {S : Sto} : okAt n xs S = (match itemsAt S n with
  | some ys => A.beqL ys xs
  | none => false) := rfl
section
variable {K : Frg} {e : O} {ns : List Int}

theorem s_1 {o tp r w ts : A} {ds : List A} (gd : good [e] (.tup [o, tp, r, w, ts, .tup ds]) = true) (hh : isHr 3 (.tup [o, tp, r, w, ts, .tup ds]) = true) (hn : nice 9 (.tup [o, tp, r, w, ts, .tup ds]) = true) : q_law_1 K [some (.ob 0), some (.tup [o, tp, r, w, ts, .tup ds]), none, none, none, none, none, none, none, none, none, none, none, none, none, none, none] [e] = .nx [some (.ob 0), some (.tup [o, tp, r, w, ts, .tup ds]), none, none, none, none, none, none, none, none, none, none, none, none, none, none, none] [e] := by
  simp only [q_law_1, gVar, gC, gOp, gUn, gAnd, gOr, gNot, gIf, gNil, gCons, gTup, gLst, gCB, gChain, gSet, gExpr, gRet, gRetN, gPass, gBrk, gCt, gRaise, gIfS, gSeq, nName, nTup, setAll, gAsg, gCall, gTru, gNotT, gIsi, RE.bind_ok, RE.bind_exc, RE.bind_stuck, RE.bindA_ok, RE.bindS_ok, RE.bindS_exc, RE.bindT_ok, RE.bindTS_ok, RA.bind_ok, RA.bindA_ok, RE.nox_ok, RS.seq_nx, RS.seq_ret, RS.seq_exc, RS.seq_brk, RS.seq_ct, RS.seq_stuck, RE.bindA_exc, RE.bindA_stuck, RE.bindS_stuck, RE.bindT_exc, RE.bindT_stuck, RE.bindTS_exc, RE.bindTS_stuck, RA.bind_exc, RA.bind_stuck, RA.bindA_exc, RA.bindA_stuck, RE.nox_stuck, bind_ite, bindA_ite, bindS_ite, bindT_ite, bindTS_ite, nox_ite, seq_ite, startR, tyA_non, tyA_bl, tyA_int, tyA_str, tyA_tup, List.map_cons, List.map_nil, List.length_cons, List.length_nil, List.cons_append, List.nil_append, List.append_nil, List.getElem?_cons_zero, List.getElem?_cons_succ, List.set_cons_zero, List.set_cons_succ, vIx_t0, vIx_t1, vIx_t2, vIx_t3, vIx_t4, vIx_t5, vEq_ss, vEq_ii, vEq_bb, vNe_ss, vNe_ii, vNe_bb, vLen_tup, truA_tup, truA_bl, vLe_ii, vLt_ii, vGt_ii, vGe_ii, vSub_ii, vAdd_ii, vAddI_ii, vNeg_i, isT_ss, isT_tt, isT_ii, isT_bi, isT_bb, isT_ib, F_checked, gd, hh, ↓reduceIte, vNe_same hn (by decide), Bool.not_true, Bool.false_eq_true]
theorem s_2 {o tp r w ts : A} {ds : List A} : q_law_2 K [some (.ob 0), some (.tup [o, tp, r, w, ts, .tup ds]), none, none, none, none, none, none, none, none, none, none, none, none, none, none, none] [e] = .nx [some (.ob 0), some (.tup [o, tp, r, w, ts, .tup ds]), none, none, none, none, none, none, none, none, none, some (o), some (tp), some (r), some (w), some (ts), some (.tup ds)] [e] := by
  simp only [q_law_2, gVar, gC, gOp, gUn, gAnd, gOr, gNot, gIf, gNil, gCons, gTup, gLst, gCB, gChain, gSet, gExpr, gRet, gRetN, gPass, gBrk, gCt, gRaise, gIfS, gSeq, nName, nTup, setAll, gAsg, gCall, gTru, gNotT, gIsi, RE.bind_ok, RE.bind_exc, RE.bind_stuck, RE.bindA_ok, RE.bindS_ok, RE.bindS_exc, RE.bindT_ok, RE.bindTS_ok, RA.bind_ok, RA.bindA_ok, RE.nox_ok, RS.seq_nx, RS.seq_ret, RS.seq_exc, RS.seq_brk, RS.seq_ct, RS.seq_stuck, RE.bindA_exc, RE.bindA_stuck, RE.bindS_stuck, RE.bindT_exc, RE.bindT_stuck, RE.bindTS_exc, RE.bindTS_stuck, RA.bind_exc, RA.bind_stuck, RA.bindA_exc, RA.bindA_stuck, RE.nox_stuck, bind_ite, bindA_ite, bindS_ite, bindT_ite, bindTS_ite, nox_ite, seq_ite, startR, tyA_non, tyA_bl, tyA_int, tyA_str, tyA_tup, List.map_cons, List.map_nil, List.length_cons, List.length_nil, List.cons_append, List.nil_append, List.append_nil, List.getElem?_cons_zero, List.getElem?_cons_succ, List.set_cons_zero, List.set_cons_succ, vIx_t0, vIx_t1, vIx_t2, vIx_t3, vIx_t4, vIx_t5, vEq_ss, vEq_ii, vEq_bb, vNe_ss, vNe_ii, vNe_bb, vLen_tup, truA_tup, truA_bl, vLe_ii, vLt_ii, vGt_ii, vGe_ii, vSub_ii, vAdd_ii, vAddI_ii, vNeg_i, isT_ss, isT_tt, isT_ii, isT_bi, isT_bb, isT_ib, Nat.reduceAdd, Nat.reduceLeDiff, Nat.reduceLT, ↓reduceIte]
theorem s_3 {o tp r w ts : A} {ds : List A} : q_law_3 K [some (.ob 0), some (.tup [o, tp, r, w, ts, .tup ds]), none, none, none, none, none, none, none, none, none, some (o), some (tp), some (r), some (w), some (ts), some (.tup ds)] [e] = .nx [some (.ob 0), some (.tup [o, tp, r, w, ts, .tup ds]), some (.ob 1), none, none, none, none, none, none, none, none, some (o), some (tp), some (r), some (w), some (ts), some (.tup ds)] [e, .lst [.tup [.str "A", tp, r, w, ts, .tup ds], .tup [o, .str "", r, w, ts, .tup ds]]] := by
  simp only [q_law_3, gVar, gC, gOp, gUn, gAnd, gOr, gNot, gIf, gNil, gCons, gTup, gLst, gCB, gChain, gSet, gExpr, gRet, gRetN, gPass, gBrk, gCt, gRaise, gIfS, gSeq, nName, nTup, setAll, gAsg, gCall, gTru, gNotT, gIsi, RE.bind_ok, RE.bind_exc, RE.bind_stuck, RE.bindA_ok, RE.bindS_ok, RE.bindS_exc, RE.bindT_ok, RE.bindTS_ok, RA.bind_ok, RA.bindA_ok, RE.nox_ok, RS.seq_nx, RS.seq_ret, RS.seq_exc, RS.seq_brk, RS.seq_ct, RS.seq_stuck, RE.bindA_exc, RE.bindA_stuck, RE.bindS_stuck, RE.bindT_exc, RE.bindT_stuck, RE.bindTS_exc, RE.bindTS_stuck, RA.bind_exc, RA.bind_stuck, RA.bindA_exc, RA.bindA_stuck, RE.nox_stuck, bind_ite, bindA_ite, bindS_ite, bindT_ite, bindTS_ite, nox_ite, seq_ite, startR, tyA_non, tyA_bl, tyA_int, tyA_str, tyA_tup, List.map_cons, List.map_nil, List.length_cons, List.length_nil, List.cons_append, List.nil_append, List.append_nil, List.getElem?_cons_zero, List.getElem?_cons_succ, List.set_cons_zero, List.set_cons_succ, vIx_t0, vIx_t1, vIx_t2, vIx_t3, vIx_t4, vIx_t5, vEq_ss, vEq_ii, vEq_bb, vNe_ss, vNe_ii, vNe_bb, vLen_tup, truA_tup, truA_bl, vLe_ii, vLt_ii, vGt_ii, vGe_ii, vSub_ii, vAdd_ii, vAddI_ii, vNeg_i, isT_ss, isT_tt, isT_ii, isT_bi, isT_bb, isT_ib, Nat.reduceAdd, Nat.reduceLeDiff, Nat.reduceLT, ↓reduceIte]
theorem s_4 {o tp r w ts : A} {ds : List A} : q_law_4 K [some (.ob 0), some (.tup [o, tp, r, w, ts, .tup ds]), some (.ob 1), none, none, none, none, none, none, none, none, some (o), some (tp), some (r), some (w), some (ts), some (.tup ds)] [e, .lst [.tup [.str "A", tp, r, w, ts, .tup ds], .tup [o, .str "", r, w, ts, .tup ds]]] = .nx [some (.ob 0), some (.tup [o, tp, r, w, ts, .tup ds]), some (.ob 1), none, none, none, none, none, none, none, none, some (o), some (tp), some (r), some (w), some (ts), some (.tup ds)] [e, .lst [.tup [.str "A", tp, r, w, ts, .tup ds], .tup [o, .str "", r, w, ts, .tup ds], .tup [o, .str "sevenab", r, w, ts, .tup []]]] := by
  simp only [q_law_4, gVar, gC, gOp, gUn, gAnd, gOr, gNot, gIf, gNil, gCons, gTup, gLst, gCB, gChain, gSet, gExpr, gRet, gRetN, gPass, gBrk, gCt, gRaise, gIfS, gSeq, nName, nTup, setAll, gAsg, gCall, gTru, gNotT, gIsi, RE.bind_ok, RE.bind_exc, RE.bind_stuck, RE.bindA_ok, RE.bindS_ok, RE.bindS_exc, RE.bindT_ok, RE.bindTS_ok, RA.bind_ok, RA.bindA_ok, RE.nox_ok, RS.seq_nx, RS.seq_ret, RS.seq_exc, RS.seq_brk, RS.seq_ct, RS.seq_stuck, RE.bindA_exc, RE.bindA_stuck, RE.bindS_stuck, RE.bindT_exc, RE.bindT_stuck, RE.bindTS_exc, RE.bindTS_stuck, RA.bind_exc, RA.bind_stuck, RA.bindA_exc, RA.bindA_stuck, RE.nox_stuck, bind_ite, bindA_ite, bindS_ite, bindT_ite, bindTS_ite, nox_ite, seq_ite, startR, tyA_non, tyA_bl, tyA_int, tyA_str, tyA_tup, List.map_cons, List.map_nil, List.length_cons, List.length_nil, List.cons_append, List.nil_append, List.append_nil, List.getElem?_cons_zero, List.getElem?_cons_succ, List.set_cons_zero, List.set_cons_succ, vIx_t0, vIx_t1, vIx_t2, vIx_t3, vIx_t4, vIx_t5, vEq_ss, vEq_ii, vEq_bb, vNe_ss, vNe_ii, vNe_bb, vLen_tup, truA_tup, truA_bl, vLe_ii, vLt_ii, vGt_ii, vGe_ii, vSub_ii, vAdd_ii, vAddI_ii, vNeg_i, isT_ss, isT_tt, isT_ii, isT_bi, isT_bb, isT_ib, Nat.reduceAdd, Nat.reduceLeDiff, Nat.reduceLT, ↓reduceIte, gMt, tyB, beq_self_eq_true, vAppend]
theorem s_5 {o tp r w ts : A} {ds : List A} : q_law_5 K [some (.ob 0), some (.tup [o, tp, r, w, ts, .tup ds]), some (.ob 1), none, none, none, none, none, none, none, none, some (o), some (tp), some (r), some (w), some (ts), some (.tup ds)] [e, .lst [.tup [.str "A", tp, r, w, ts, .tup ds], .tup [o, .str "", r, w, ts, .tup ds], .tup [o, .str "sevenab", r, w, ts, .tup []]]] = .nx [some (.ob 0), some (.tup [o, tp, r, w, ts, .tup ds]), some (.ob 3), none, none, none, none, none, none, none, none, some (o), some (tp), some (r), some (w), some (ts), some (.tup ds)] [e, .lst [.tup [.str "A", tp, r, w, ts, .tup ds], .tup [o, .str "", r, w, ts, .tup ds], .tup [o, .str "sevenab", r, w, ts, .tup []]], .lst [.tup [o, tp, .int 10, w, ts, .tup ds], .tup [o, tp, .bl true, w, ts, .tup ds]], .lst [.tup [.str "A", tp, r, w, ts, .tup ds], .tup [o, .str "", r, w, ts, .tup ds], .tup [o, .str "sevenab", r, w, ts, .tup []], .tup [o, tp, .int 10, w, ts, .tup ds], .tup [o, tp, .bl true, w, ts, .tup ds]]] := by
  simp only [q_law_5, gVar, gC, gOp, gUn, gAnd, gOr, gNot, gIf, gNil, gCons, gTup, gLst, gCB, gChain, gSet, gExpr, gRet, gRetN, gPass, gBrk, gCt, gRaise, gIfS, gSeq, nName, nTup, setAll, gAsg, gCall, gTru, gNotT, gIsi, RE.bind_ok, RE.bind_exc, RE.bind_stuck, RE.bindA_ok, RE.bindS_ok, RE.bindS_exc, RE.bindT_ok, RE.bindTS_ok, RA.bind_ok, RA.bindA_ok, RE.nox_ok, RS.seq_nx, RS.seq_ret, RS.seq_exc, RS.seq_brk, RS.seq_ct, RS.seq_stuck, RE.bindA_exc, RE.bindA_stuck, RE.bindS_stuck, RE.bindT_exc, RE.bindT_stuck, RE.bindTS_exc, RE.bindTS_stuck, RA.bind_exc, RA.bind_stuck, RA.bindA_exc, RA.bindA_stuck, RE.nox_stuck, bind_ite, bindA_ite, bindS_ite, bindT_ite, bindTS_ite, nox_ite, seq_ite, startR, tyA_non, tyA_bl, tyA_int, tyA_str, tyA_tup, List.map_cons, List.map_nil, List.length_cons, List.length_nil, List.cons_append, List.nil_append, List.append_nil, List.getElem?_cons_zero, List.getElem?_cons_succ, List.set_cons_zero, List.set_cons_succ, vIx_t0, vIx_t1, vIx_t2, vIx_t3, vIx_t4, vIx_t5, vEq_ss, vEq_ii, vEq_bb, vNe_ss, vNe_ii, vNe_bb, vLen_tup, truA_tup, truA_bl, vLe_ii, vLt_ii, vGt_ii, vGe_ii, vSub_ii, vAdd_ii, vAddI_ii, vNeg_i, isT_ss, isT_tt, isT_ii, isT_bi, isT_bb, isT_ib, Nat.reduceAdd, Nat.reduceLeDiff, Nat.reduceLT, ↓reduceIte, vAdd]
theorem s_6 {o tp r w ts : A} {ds : List A} : q_law_6 K [some (.ob 0), some (.tup [o, tp, r, w, ts, .tup ds]), some (.ob 3), none, none, none, none, none, none, none, none, some (o), some (tp), some (r), some (w), some (ts), some (.tup ds)] [e, .lst [.tup [.str "A", tp, r, w, ts, .tup ds], .tup [o, .str "", r, w, ts, .tup ds], .tup [o, .str "sevenab", r, w, ts, .tup []]], .lst [.tup [o, tp, .int 10, w, ts, .tup ds], .tup [o, tp, .bl true, w, ts, .tup ds]], .lst [.tup [.str "A", tp, r, w, ts, .tup ds], .tup [o, .str "", r, w, ts, .tup ds], .tup [o, .str "sevenab", r, w, ts, .tup []], .tup [o, tp, .int 10, w, ts, .tup ds], .tup [o, tp, .bl true, w, ts, .tup ds]]] = .nx [some (.ob 0), some (.tup [o, tp, r, w, ts, .tup ds]), some (.ob 5), none, none, none, none, none, none, none, none, some (o), some (tp), some (r), some (w), some (ts), some (.tup ds)] [e, .lst [.tup [.str "A", tp, r, w, ts, .tup ds], .tup [o, .str "", r, w, ts, .tup ds], .tup [o, .str "sevenab", r, w, ts, .tup []]], .lst [.tup [o, tp, .int 10, w, ts, .tup ds], .tup [o, tp, .bl true, w, ts, .tup ds]], .lst [.tup [.str "A", tp, r, w, ts, .tup ds], .tup [o, .str "", r, w, ts, .tup ds], .tup [o, .str "sevenab", r, w, ts, .tup []], .tup [o, tp, .int 10, w, ts, .tup ds], .tup [o, tp, .bl true, w, ts, .tup ds]], .lst [.tup [o, tp, r, .str "never", ts, .tup ds], .tup [o, tp, r, w, .tup [.str "over"], .tup ds]], .lst [.tup [.str "A", tp, r, w, ts, .tup ds], .tup [o, .str "", r, w, ts, .tup ds], .tup [o, .str "sevenab", r, w, ts, .tup []], .tup [o, tp, .int 10, w, ts, .tup ds], .tup [o, tp, .bl true, w, ts, .tup ds], .tup [o, tp, r, .str "never", ts, .tup ds], .tup [o, tp, r, w, .tup [.str "over"], .tup ds]]] := by
  simp only [q_law_6, gVar, gC, gOp, gUn, gAnd, gOr, gNot, gIf, gNil, gCons, gTup, gLst, gCB, gChain, gSet, gExpr, gRet, gRetN, gPass, gBrk, gCt, gRaise, gIfS, gSeq, nName, nTup, setAll, gAsg, gCall, gTru, gNotT, gIsi, RE.bind_ok, RE.bind_exc, RE.bind_stuck, RE.bindA_ok, RE.bindS_ok, RE.bindS_exc, RE.bindT_ok, RE.bindTS_ok, RA.bind_ok, RA.bindA_ok, RE.nox_ok, RS.seq_nx, RS.seq_ret, RS.seq_exc, RS.seq_brk, RS.seq_ct, RS.seq_stuck, RE.bindA_exc, RE.bindA_stuck, RE.bindS_stuck, RE.bindT_exc, RE.bindT_stuck, RE.bindTS_exc, RE.bindTS_stuck, RA.bind_exc, RA.bind_stuck, RA.bindA_exc, RA.bindA_stuck, RE.nox_stuck, bind_ite, bindA_ite, bindS_ite, bindT_ite, bindTS_ite, nox_ite, seq_ite, startR, tyA_non, tyA_bl, tyA_int, tyA_str, tyA_tup, List.map_cons, List.map_nil, List.length_cons, List.length_nil, List.cons_append, List.nil_append, List.append_nil, List.getElem?_cons_zero, List.getElem?_cons_succ, List.set_cons_zero, List.set_cons_succ, vIx_t0, vIx_t1, vIx_t2, vIx_t3, vIx_t4, vIx_t5, vEq_ss, vEq_ii, vEq_bb, vNe_ss, vNe_ii, vNe_bb, vLen_tup, truA_tup, truA_bl, vLe_ii, vLt_ii, vGt_ii, vGe_ii, vSub_ii, vAdd_ii, vAddI_ii, vNeg_i, isT_ss, isT_tt, isT_ii, isT_bi, isT_bb, isT_ib, Nat.reduceAdd, Nat.reduceLeDiff, Nat.reduceLT, ↓reduceIte, vAdd]
theorem s_7 {o tp r w ts : A} {ds : List A} : q_law_7 K [some (.ob 0), some (.tup [o, tp, r, w, ts, .tup ds]), some (.ob 5), none, none, none, none, none, none, none, none, some (o), some (tp), some (r), some (w), some (ts), some (.tup ds)] [e, .lst [.tup [.str "A", tp, r, w, ts, .tup ds], .tup [o, .str "", r, w, ts, .tup ds], .tup [o, .str "sevenab", r, w, ts, .tup []]], .lst [.tup [o, tp, .int 10, w, ts, .tup ds], .tup [o, tp, .bl true, w, ts, .tup ds]], .lst [.tup [.str "A", tp, r, w, ts, .tup ds], .tup [o, .str "", r, w, ts, .tup ds], .tup [o, .str "sevenab", r, w, ts, .tup []], .tup [o, tp, .int 10, w, ts, .tup ds], .tup [o, tp, .bl true, w, ts, .tup ds]], .lst [.tup [o, tp, r, .str "never", ts, .tup ds], .tup [o, tp, r, w, .tup [.str "over"], .tup ds]], .lst [.tup [.str "A", tp, r, w, ts, .tup ds], .tup [o, .str "", r, w, ts, .tup ds], .tup [o, .str "sevenab", r, w, ts, .tup []], .tup [o, tp, .int 10, w, ts, .tup ds], .tup [o, tp, .bl true, w, ts, .tup ds], .tup [o, tp, r, .str "never", ts, .tup ds], .tup [o, tp, r, w, .tup [.str "over"], .tup ds]]] = .nx [some (.ob 0), some (.tup [o, tp, r, w, ts, .tup ds]), some (.ob 7), none, none, none, none, none, none, none, none, some (o), some (tp), some (r), some (w), some (ts), some (.tup ds)] [e, .lst [.tup [.str "A", tp, r, w, ts, .tup ds], .tup [o, .str "", r, w, ts, .tup ds], .tup [o, .str "sevenab", r, w, ts, .tup []]], .lst [.tup [o, tp, .int 10, w, ts, .tup ds], .tup [o, tp, .bl true, w, ts, .tup ds]], .lst [.tup [.str "A", tp, r, w, ts, .tup ds], .tup [o, .str "", r, w, ts, .tup ds], .tup [o, .str "sevenab", r, w, ts, .tup []], .tup [o, tp, .int 10, w, ts, .tup ds], .tup [o, tp, .bl true, w, ts, .tup ds]], .lst [.tup [o, tp, r, .str "never", ts, .tup ds], .tup [o, tp, r, w, .tup [.str "over"], .tup ds]], .lst [.tup [.str "A", tp, r, w, ts, .tup ds], .tup [o, .str "", r, w, ts, .tup ds], .tup [o, .str "sevenab", r, w, ts, .tup []], .tup [o, tp, .int 10, w, ts, .tup ds], .tup [o, tp, .bl true, w, ts, .tup ds], .tup [o, tp, r, .str "never", ts, .tup ds], .tup [o, tp, r, w, .tup [.str "over"], .tup ds]], .lst [.tup [o, tp, r, w, .tup [.str "any", .int 1], .tup ds], .tup [o, tp, r, w, .tup [.str "over", .int 10000], .tup ds]], .lst [.tup [.str "A", tp, r, w, ts, .tup ds], .tup [o, .str "", r, w, ts, .tup ds], .tup [o, .str "sevenab", r, w, ts, .tup []], .tup [o, tp, .int 10, w, ts, .tup ds], .tup [o, tp, .bl true, w, ts, .tup ds], .tup [o, tp, r, .str "never", ts, .tup ds], .tup [o, tp, r, w, .tup [.str "over"], .tup ds], .tup [o, tp, r, w, .tup [.str "any", .int 1], .tup ds], .tup [o, tp, r, w, .tup [.str "over", .int 10000], .tup ds]]] := by
  simp only [q_law_7, gVar, gC, gOp, gUn, gAnd, gOr, gNot, gIf, gNil, gCons, gTup, gLst, gCB, gChain, gSet, gExpr, gRet, gRetN, gPass, gBrk, gCt, gRaise, gIfS, gSeq, nName, nTup, setAll, gAsg, gCall, gTru, gNotT, gIsi, RE.bind_ok, RE.bind_exc, RE.bind_stuck, RE.bindA_ok, RE.bindS_ok, RE.bindS_exc, RE.bindT_ok, RE.bindTS_ok, RA.bind_ok, RA.bindA_ok, RE.nox_ok, RS.seq_nx, RS.seq_ret, RS.seq_exc, RS.seq_brk, RS.seq_ct, RS.seq_stuck, RE.bindA_exc, RE.bindA_stuck, RE.bindS_stuck, RE.bindT_exc, RE.bindT_stuck, RE.bindTS_exc, RE.bindTS_stuck, RA.bind_exc, RA.bind_stuck, RA.bindA_exc, RA.bindA_stuck, RE.nox_stuck, bind_ite, bindA_ite, bindS_ite, bindT_ite, bindTS_ite, nox_ite, seq_ite, startR, tyA_non, tyA_bl, tyA_int, tyA_str, tyA_tup, List.map_cons, List.map_nil, List.length_cons, List.length_nil, List.cons_append, List.nil_append, List.append_nil, List.getElem?_cons_zero, List.getElem?_cons_succ, List.set_cons_zero, List.set_cons_succ, vIx_t0, vIx_t1, vIx_t2, vIx_t3, vIx_t4, vIx_t5, vEq_ss, vEq_ii, vEq_bb, vNe_ss, vNe_ii, vNe_bb, vLen_tup, truA_tup, truA_bl, vLe_ii, vLt_ii, vGt_ii, vGe_ii, vSub_ii, vAdd_ii, vAddI_ii, vNeg_i, isT_ss, isT_tt, isT_ii, isT_bi, isT_bb, isT_ib, Nat.reduceAdd, Nat.reduceLeDiff, Nat.reduceLT, ↓reduceIte, vAdd]
theorem s_8 {o tp r w ts : A} {ds : List A} (hl : ds.length ≤ 3) : q_law_8 K [some (.ob 0), some (.tup [o, tp, r, w, ts, .tup ds]), some (.ob 7), none, none, none, none, none, none, none, none, some (o), some (tp), some (r), some (w), some (ts), some (.tup ds)] [e, .lst [.tup [.str "A", tp, r, w, ts, .tup ds], .tup [o, .str "", r, w, ts, .tup ds], .tup [o, .str "sevenab", r, w, ts, .tup []]], .lst [.tup [o, tp, .int 10, w, ts, .tup ds], .tup [o, tp, .bl true, w, ts, .tup ds]], .lst [.tup [.str "A", tp, r, w, ts, .tup ds], .tup [o, .str "", r, w, ts, .tup ds], .tup [o, .str "sevenab", r, w, ts, .tup []], .tup [o, tp, .int 10, w, ts, .tup ds], .tup [o, tp, .bl true, w, ts, .tup ds]], .lst [.tup [o, tp, r, .str "never", ts, .tup ds], .tup [o, tp, r, w, .tup [.str "over"], .tup ds]], .lst [.tup [.str "A", tp, r, w, ts, .tup ds], .tup [o, .str "", r, w, ts, .tup ds], .tup [o, .str "sevenab", r, w, ts, .tup []], .tup [o, tp, .int 10, w, ts, .tup ds], .tup [o, tp, .bl true, w, ts, .tup ds], .tup [o, tp, r, .str "never", ts, .tup ds], .tup [o, tp, r, w, .tup [.str "over"], .tup ds]], .lst [.tup [o, tp, r, w, .tup [.str "any", .int 1], .tup ds], .tup [o, tp, r, w, .tup [.str "over", .int 10000], .tup ds]], .lst [.tup [.str "A", tp, r, w, ts, .tup ds], .tup [o, .str "", r, w, ts, .tup ds], .tup [o, .str "sevenab", r, w, ts, .tup []], .tup [o, tp, .int 10, w, ts, .tup ds], .tup [o, tp, .bl true, w, ts, .tup ds], .tup [o, tp, r, .str "never", ts, .tup ds], .tup [o, tp, r, w, .tup [.str "over"], .tup ds], .tup [o, tp, r, w, .tup [.str "any", .int 1], .tup ds], .tup [o, tp, r, w, .tup [.str "over", .int 10000], .tup ds]]] = .nx [some (.ob 0), some (.tup [o, tp, r, w, ts, .tup ds]), some (.ob 10), none, none, none, none, none, none, none, none, some (o), some (tp), some (r), some (w), some (ts), some (.tup ds)] [e, .lst [.tup [.str "A", tp, r, w, ts, .tup ds], .tup [o, .str "", r, w, ts, .tup ds], .tup [o, .str "sevenab", r, w, ts, .tup []]], .lst [.tup [o, tp, .int 10, w, ts, .tup ds], .tup [o, tp, .bl true, w, ts, .tup ds]], .lst [.tup [.str "A", tp, r, w, ts, .tup ds], .tup [o, .str "", r, w, ts, .tup ds], .tup [o, .str "sevenab", r, w, ts, .tup []], .tup [o, tp, .int 10, w, ts, .tup ds], .tup [o, tp, .bl true, w, ts, .tup ds]], .lst [.tup [o, tp, r, .str "never", ts, .tup ds], .tup [o, tp, r, w, .tup [.str "over"], .tup ds]], .lst [.tup [.str "A", tp, r, w, ts, .tup ds], .tup [o, .str "", r, w, ts, .tup ds], .tup [o, .str "sevenab", r, w, ts, .tup []], .tup [o, tp, .int 10, w, ts, .tup ds], .tup [o, tp, .bl true, w, ts, .tup ds], .tup [o, tp, r, .str "never", ts, .tup ds], .tup [o, tp, r, w, .tup [.str "over"], .tup ds]], .lst [.tup [o, tp, r, w, .tup [.str "any", .int 1], .tup ds], .tup [o, tp, r, w, .tup [.str "over", .int 10000], .tup ds]], .lst [.tup [.str "A", tp, r, w, ts, .tup ds], .tup [o, .str "", r, w, ts, .tup ds], .tup [o, .str "sevenab", r, w, ts, .tup []], .tup [o, tp, .int 10, w, ts, .tup ds], .tup [o, tp, .bl true, w, ts, .tup ds], .tup [o, tp, r, .str "never", ts, .tup ds], .tup [o, tp, r, w, .tup [.str "over"], .tup ds], .tup [o, tp, r, w, .tup [.str "any", .int 1], .tup ds], .tup [o, tp, r, w, .tup [.str "over", .int 10000], .tup ds]], .lst ds, .lst [.tup [o, tp, r, w, ts, .ob 8], .tup [o, tp, r, w, ts, .tup [.tup [.str "stop"], .tup [.str "stop"], .tup [.str "stop"], .tup [.str "stop"]]]], .lst [.tup [.str "A", tp, r, w, ts, .tup ds], .tup [o, .str "", r, w, ts, .tup ds], .tup [o, .str "sevenab", r, w, ts, .tup []], .tup [o, tp, .int 10, w, ts, .tup ds], .tup [o, tp, .bl true, w, ts, .tup ds], .tup [o, tp, r, .str "never", ts, .tup ds], .tup [o, tp, r, w, .tup [.str "over"], .tup ds], .tup [o, tp, r, w, .tup [.str "any", .int 1], .tup ds], .tup [o, tp, r, w, .tup [.str "over", .int 10000], .tup ds], .tup [o, tp, r, w, ts, .ob 8], .tup [o, tp, r, w, ts, .tup [.tup [.str "stop"], .tup [.str "stop"], .tup [.str "stop"], .tup [.str "stop"]]]]] := by
  simp only [q_law_8, gVar, gC, gOp, gUn, gAnd, gOr, gNot, gIf, gNil, gCons, gTup, gLst, gCB, gChain, gSet, gExpr, gRet, gRetN, gPass, gBrk, gCt, gRaise, gIfS, gSeq, nName, nTup, setAll, gAsg, gCall, gTru, gNotT, gIsi, RE.bind_ok, RE.bind_exc, RE.bind_stuck, RE.bindA_ok, RE.bindS_ok, RE.bindS_exc, RE.bindT_ok, RE.bindTS_ok, RA.bind_ok, RA.bindA_ok, RE.nox_ok, RS.seq_nx, RS.seq_ret, RS.seq_exc, RS.seq_brk, RS.seq_ct, RS.seq_stuck, RE.bindA_exc, RE.bindA_stuck, RE.bindS_stuck, RE.bindT_exc, RE.bindT_stuck, RE.bindTS_exc, RE.bindTS_stuck, RA.bind_exc, RA.bind_stuck, RA.bindA_exc, RA.bindA_stuck, RE.nox_stuck, bind_ite, bindA_ite, bindS_ite, bindT_ite, bindTS_ite, nox_ite, seq_ite, startR, tyA_non, tyA_bl, tyA_int, tyA_str, tyA_tup, List.map_cons, List.map_nil, List.length_cons, List.length_nil, List.cons_append, List.nil_append, List.append_nil, List.getElem?_cons_zero, List.getElem?_cons_succ, List.set_cons_zero, List.set_cons_succ, vIx_t0, vIx_t1, vIx_t2, vIx_t3, vIx_t4, vIx_t5, vEq_ss, vEq_ii, vEq_bb, vNe_ss, vNe_ii, vNe_bb, vLen_tup, truA_tup, truA_bl, vLe_ii, vLt_ii, vGt_ii, vGe_ii, vSub_ii, vAdd_ii, vAddI_ii, vNeg_i, isT_ss, isT_tt, isT_ii, isT_bi, isT_bb, isT_ib, Nat.reduceAdd, Nat.reduceLeDiff, Nat.reduceLT, ↓reduceIte, vAdd, vList, seqOf, vMul_t4]
theorem s_9 {o tp r w ts : A} {ds : List A} : q_law_9 K [some (.ob 0), some (.tup [o, tp, r, w, ts, .tup ds]), some (.ob 10), none, none, none, none, none, none, none, none, some (o), some (tp), some (r), some (w), some (ts), some (.tup ds)] [e, .lst [.tup [.str "A", tp, r, w, ts, .tup ds], .tup [o, .str "", r, w, ts, .tup ds], .tup [o, .str "sevenab", r, w, ts, .tup []]], .lst [.tup [o, tp, .int 10, w, ts, .tup ds], .tup [o, tp, .bl true, w, ts, .tup ds]], .lst [.tup [.str "A", tp, r, w, ts, .tup ds], .tup [o, .str "", r, w, ts, .tup ds], .tup [o, .str "sevenab", r, w, ts, .tup []], .tup [o, tp, .int 10, w, ts, .tup ds], .tup [o, tp, .bl true, w, ts, .tup ds]], .lst [.tup [o, tp, r, .str "never", ts, .tup ds], .tup [o, tp, r, w, .tup [.str "over"], .tup ds]], .lst [.tup [.str "A", tp, r, w, ts, .tup ds], .tup [o, .str "", r, w, ts, .tup ds], .tup [o, .str "sevenab", r, w, ts, .tup []], .tup [o, tp, .int 10, w, ts, .tup ds], .tup [o, tp, .bl true, w, ts, .tup ds], .tup [o, tp, r, .str "never", ts, .tup ds], .tup [o, tp, r, w, .tup [.str "over"], .tup ds]], .lst [.tup [o, tp, r, w, .tup [.str "any", .int 1], .tup ds], .tup [o, tp, r, w, .tup [.str "over", .int 10000], .tup ds]], .lst [.tup [.str "A", tp, r, w, ts, .tup ds], .tup [o, .str "", r, w, ts, .tup ds], .tup [o, .str "sevenab", r, w, ts, .tup []], .tup [o, tp, .int 10, w, ts, .tup ds], .tup [o, tp, .bl true, w, ts, .tup ds], .tup [o, tp, r, .str "never", ts, .tup ds], .tup [o, tp, r, w, .tup [.str "over"], .tup ds], .tup [o, tp, r, w, .tup [.str "any", .int 1], .tup ds], .tup [o, tp, r, w, .tup [.str "over", .int 10000], .tup ds]], .lst ds, .lst [.tup [o, tp, r, w, ts, .ob 8], .tup [o, tp, r, w, ts, .tup [.tup [.str "stop"], .tup [.str "stop"], .tup [.str "stop"], .tup [.str "stop"]]]], .lst [.tup [.str "A", tp, r, w, ts, .tup ds], .tup [o, .str "", r, w, ts, .tup ds], .tup [o, .str "sevenab", r, w, ts, .tup []], .tup [o, tp, .int 10, w, ts, .tup ds], .tup [o, tp, .bl true, w, ts, .tup ds], .tup [o, tp, r, .str "never", ts, .tup ds], .tup [o, tp, r, w, .tup [.str "over"], .tup ds], .tup [o, tp, r, w, .tup [.str "any", .int 1], .tup ds], .tup [o, tp, r, w, .tup [.str "over", .int 10000], .tup ds], .tup [o, tp, r, w, ts, .ob 8], .tup [o, tp, r, w, ts, .tup [.tup [.str "stop"], .tup [.str "stop"], .tup [.str "stop"], .tup [.str "stop"]]]]] = .nx [some (.ob 0), some (.tup [o, tp, r, w, ts, .tup ds]), some (.ob 10), some (.tup [.str "x", .str "y", .int 0, w, ts]), none, none, none, none, none, none, none, some (o), some (tp), some (r), some (w), some (ts), some (.tup ds)] [e, .lst [.tup [.str "A", tp, r, w, ts, .tup ds], .tup [o, .str "", r, w, ts, .tup ds], .tup [o, .str "sevenab", r, w, ts, .tup []]], .lst [.tup [o, tp, .int 10, w, ts, .tup ds], .tup [o, tp, .bl true, w, ts, .tup ds]], .lst [.tup [.str "A", tp, r, w, ts, .tup ds], .tup [o, .str "", r, w, ts, .tup ds], .tup [o, .str "sevenab", r, w, ts, .tup []], .tup [o, tp, .int 10, w, ts, .tup ds], .tup [o, tp, .bl true, w, ts, .tup ds]], .lst [.tup [o, tp, r, .str "never", ts, .tup ds], .tup [o, tp, r, w, .tup [.str "over"], .tup ds]], .lst [.tup [.str "A", tp, r, w, ts, .tup ds], .tup [o, .str "", r, w, ts, .tup ds], .tup [o, .str "sevenab", r, w, ts, .tup []], .tup [o, tp, .int 10, w, ts, .tup ds], .tup [o, tp, .bl true, w, ts, .tup ds], .tup [o, tp, r, .str "never", ts, .tup ds], .tup [o, tp, r, w, .tup [.str "over"], .tup ds]], .lst [.tup [o, tp, r, w, .tup [.str "any", .int 1], .tup ds], .tup [o, tp, r, w, .tup [.str "over", .int 10000], .tup ds]], .lst [.tup [.str "A", tp, r, w, ts, .tup ds], .tup [o, .str "", r, w, ts, .tup ds], .tup [o, .str "sevenab", r, w, ts, .tup []], .tup [o, tp, .int 10, w, ts, .tup ds], .tup [o, tp, .bl true, w, ts, .tup ds], .tup [o, tp, r, .str "never", ts, .tup ds], .tup [o, tp, r, w, .tup [.str "over"], .tup ds], .tup [o, tp, r, w, .tup [.str "any", .int 1], .tup ds], .tup [o, tp, r, w, .tup [.str "over", .int 10000], .tup ds]], .lst ds, .lst [.tup [o, tp, r, w, ts, .ob 8], .tup [o, tp, r, w, ts, .tup [.tup [.str "stop"], .tup [.str "stop"], .tup [.str "stop"], .tup [.str "stop"]]]], .lst [.tup [.str "A", tp, r, w, ts, .tup ds], .tup [o, .str "", r, w, ts, .tup ds], .tup [o, .str "sevenab", r, w, ts, .tup []], .tup [o, tp, .int 10, w, ts, .tup ds], .tup [o, tp, .bl true, w, ts, .tup ds], .tup [o, tp, r, .str "never", ts, .tup ds], .tup [o, tp, r, w, .tup [.str "over"], .tup ds], .tup [o, tp, r, w, .tup [.str "any", .int 1], .tup ds], .tup [o, tp, r, w, .tup [.str "over", .int 10000], .tup ds], .tup [o, tp, r, w, ts, .ob 8], .tup [o, tp, r, w, ts, .tup [.tup [.str "stop"], .tup [.str "stop"], .tup [.str "stop"], .tup [.str "stop"]]]]] := by
  simp only [q_law_9, gVar, gC, gOp, gUn, gAnd, gOr, gNot, gIf, gNil, gCons, gTup, gLst, gCB, gChain, gSet, gExpr, gRet, gRetN, gPass, gBrk, gCt, gRaise, gIfS, gSeq, nName, nTup, setAll, gAsg, gCall, gTru, gNotT, gIsi, RE.bind_ok, RE.bind_exc, RE.bind_stuck, RE.bindA_ok, RE.bindS_ok, RE.bindS_exc, RE.bindT_ok, RE.bindTS_ok, RA.bind_ok, RA.bindA_ok, RE.nox_ok, RS.seq_nx, RS.seq_ret, RS.seq_exc, RS.seq_brk, RS.seq_ct, RS.seq_stuck, RE.bindA_exc, RE.bindA_stuck, RE.bindS_stuck, RE.bindT_exc, RE.bindT_stuck, RE.bindTS_exc, RE.bindTS_stuck, RA.bind_exc, RA.bind_stuck, RA.bindA_exc, RA.bindA_stuck, RE.nox_stuck, bind_ite, bindA_ite, bindS_ite, bindT_ite, bindTS_ite, nox_ite, seq_ite, startR, tyA_non, tyA_bl, tyA_int, tyA_str, tyA_tup, List.map_cons, List.map_nil, List.length_cons, List.length_nil, List.cons_append, List.nil_append, List.append_nil, List.getElem?_cons_zero, List.getElem?_cons_succ, List.set_cons_zero, List.set_cons_succ, vIx_t0, vIx_t1, vIx_t2, vIx_t3, vIx_t4, vIx_t5, vEq_ss, vEq_ii, vEq_bb, vNe_ss, vNe_ii, vNe_bb, vLen_tup, truA_tup, truA_bl, vLe_ii, vLt_ii, vGt_ii, vGe_ii, vSub_ii, vAdd_ii, vAddI_ii, vNeg_i, isT_ss, isT_tt, isT_ii, isT_bi, isT_bb, isT_ib, Nat.reduceAdd, Nat.reduceLeDiff, Nat.reduceLT, ↓reduceIte]
theorem s_10 {o tp r w ts : A} {ds : List A} : q_law_10 K [some (.ob 0), some (.tup [o, tp, r, w, ts, .tup ds]), some (.ob 10), some (.tup [.str "x", .str "y", .int 0, w, ts]), none, none, none, none, none, none, none, some (o), some (tp), some (r), some (w), some (ts), some (.tup ds)] [e, .lst [.tup [.str "A", tp, r, w, ts, .tup ds], .tup [o, .str "", r, w, ts, .tup ds], .tup [o, .str "sevenab", r, w, ts, .tup []]], .lst [.tup [o, tp, .int 10, w, ts, .tup ds], .tup [o, tp, .bl true, w, ts, .tup ds]], .lst [.tup [.str "A", tp, r, w, ts, .tup ds], .tup [o, .str "", r, w, ts, .tup ds], .tup [o, .str "sevenab", r, w, ts, .tup []], .tup [o, tp, .int 10, w, ts, .tup ds], .tup [o, tp, .bl true, w, ts, .tup ds]], .lst [.tup [o, tp, r, .str "never", ts, .tup ds], .tup [o, tp, r, w, .tup [.str "over"], .tup ds]], .lst [.tup [.str "A", tp, r, w, ts, .tup ds], .tup [o, .str "", r, w, ts, .tup ds], .tup [o, .str "sevenab", r, w, ts, .tup []], .tup [o, tp, .int 10, w, ts, .tup ds], .tup [o, tp, .bl true, w, ts, .tup ds], .tup [o, tp, r, .str "never", ts, .tup ds], .tup [o, tp, r, w, .tup [.str "over"], .tup ds]], .lst [.tup [o, tp, r, w, .tup [.str "any", .int 1], .tup ds], .tup [o, tp, r, w, .tup [.str "over", .int 10000], .tup ds]], .lst [.tup [.str "A", tp, r, w, ts, .tup ds], .tup [o, .str "", r, w, ts, .tup ds], .tup [o, .str "sevenab", r, w, ts, .tup []], .tup [o, tp, .int 10, w, ts, .tup ds], .tup [o, tp, .bl true, w, ts, .tup ds], .tup [o, tp, r, .str "never", ts, .tup ds], .tup [o, tp, r, w, .tup [.str "over"], .tup ds], .tup [o, tp, r, w, .tup [.str "any", .int 1], .tup ds], .tup [o, tp, r, w, .tup [.str "over", .int 10000], .tup ds]], .lst ds, .lst [.tup [o, tp, r, w, ts, .ob 8], .tup [o, tp, r, w, ts, .tup [.tup [.str "stop"], .tup [.str "stop"], .tup [.str "stop"], .tup [.str "stop"]]]], .lst [.tup [.str "A", tp, r, w, ts, .tup ds], .tup [o, .str "", r, w, ts, .tup ds], .tup [o, .str "sevenab", r, w, ts, .tup []], .tup [o, tp, .int 10, w, ts, .tup ds], .tup [o, tp, .bl true, w, ts, .tup ds], .tup [o, tp, r, .str "never", ts, .tup ds], .tup [o, tp, r, w, .tup [.str "over"], .tup ds], .tup [o, tp, r, w, .tup [.str "any", .int 1], .tup ds], .tup [o, tp, r, w, .tup [.str "over", .int 10000], .tup ds], .tup [o, tp, r, w, ts, .ob 8], .tup [o, tp, r, w, ts, .tup [.tup [.str "stop"], .tup [.str "stop"], .tup [.str "stop"], .tup [.str "stop"]]]]] = .nx [some (.ob 0), some (.tup [o, tp, r, w, ts, .tup ds]), some (.ob 10), some (.tup [.str "x", .str "y", .int 0, w, ts]), some (.tup [.str "join", .tup [.str "x", .str "y", .int 0, w, ts]]), none, none, none, none, none, none, some (o), some (tp), some (r), some (w), some (ts), some (.tup ds)] [e, .lst [.tup [.str "A", tp, r, w, ts, .tup ds], .tup [o, .str "", r, w, ts, .tup ds], .tup [o, .str "sevenab", r, w, ts, .tup []]], .lst [.tup [o, tp, .int 10, w, ts, .tup ds], .tup [o, tp, .bl true, w, ts, .tup ds]], .lst [.tup [.str "A", tp, r, w, ts, .tup ds], .tup [o, .str "", r, w, ts, .tup ds], .tup [o, .str "sevenab", r, w, ts, .tup []], .tup [o, tp, .int 10, w, ts, .tup ds], .tup [o, tp, .bl true, w, ts, .tup ds]], .lst [.tup [o, tp, r, .str "never", ts, .tup ds], .tup [o, tp, r, w, .tup [.str "over"], .tup ds]], .lst [.tup [.str "A", tp, r, w, ts, .tup ds], .tup [o, .str "", r, w, ts, .tup ds], .tup [o, .str "sevenab", r, w, ts, .tup []], .tup [o, tp, .int 10, w, ts, .tup ds], .tup [o, tp, .bl true, w, ts, .tup ds], .tup [o, tp, r, .str "never", ts, .tup ds], .tup [o, tp, r, w, .tup [.str "over"], .tup ds]], .lst [.tup [o, tp, r, w, .tup [.str "any", .int 1], .tup ds], .tup [o, tp, r, w, .tup [.str "over", .int 10000], .tup ds]], .lst [.tup [.str "A", tp, r, w, ts, .tup ds], .tup [o, .str "", r, w, ts, .tup ds], .tup [o, .str "sevenab", r, w, ts, .tup []], .tup [o, tp, .int 10, w, ts, .tup ds], .tup [o, tp, .bl true, w, ts, .tup ds], .tup [o, tp, r, .str "never", ts, .tup ds], .tup [o, tp, r, w, .tup [.str "over"], .tup ds], .tup [o, tp, r, w, .tup [.str "any", .int 1], .tup ds], .tup [o, tp, r, w, .tup [.str "over", .int 10000], .tup ds]], .lst ds, .lst [.tup [o, tp, r, w, ts, .ob 8], .tup [o, tp, r, w, ts, .tup [.tup [.str "stop"], .tup [.str "stop"], .tup [.str "stop"], .tup [.str "stop"]]]], .lst [.tup [.str "A", tp, r, w, ts, .tup ds], .tup [o, .str "", r, w, ts, .tup ds], .tup [o, .str "sevenab", r, w, ts, .tup []], .tup [o, tp, .int 10, w, ts, .tup ds], .tup [o, tp, .bl true, w, ts, .tup ds], .tup [o, tp, r, .str "never", ts, .tup ds], .tup [o, tp, r, w, .tup [.str "over"], .tup ds], .tup [o, tp, r, w, .tup [.str "any", .int 1], .tup ds], .tup [o, tp, r, w, .tup [.str "over", .int 10000], .tup ds], .tup [o, tp, r, w, ts, .ob 8], .tup [o, tp, r, w, ts, .tup [.tup [.str "stop"], .tup [.str "stop"], .tup [.str "stop"], .tup [.str "stop"]]], .tup [o, tp, r, w, ts, .tup [.tup [.str "tell", .str "b"]]], .tup [o, tp, r, w, ts, .tup [.tup [.str "tell", .str "b", .int (-1)]]], .tup [o, tp, r, w, ts, .tup [.tup [.str "leave", .int 3]]], .tup [o, tp, r, w, ts, .tup [.tup [.str "stop", .int 1]]], .tup [o, tp, r, w, ts, .tup [.tup [.str "go"]]], .tup [o, tp, r, w, ts, .tup [.tup [.str "join", .tup [.str "x", .str "y", .int 0, w, ts]]]]], .lst [.tup [.str "tell", .str "b"], .tup [.str "tell", .str "b", .int (-1)], .tup [.str "leave", .int 3], .tup [.str "stop", .int 1], .tup [.str "go"], .tup [.str "join", .tup [.str "x", .str "y", .int 0, w, ts]]]] := by
  simp only [q_law_10, gFor, gIL, gVar, gC, gOp, gUn, gAnd, gOr, gNot, gIf, gNil, gCons, gTup, gLst, gCB, gChain, gSet, gExpr, gRet, gRetN, gPass, gBrk, gCt, gRaise, gIfS, gSeq, nName, nTup, setAll, gAsg, gCall, gTru, gNotT, gIsi, RE.bind_ok, RE.bind_exc, RE.bind_stuck, RE.bindA_ok, RE.bindS_ok, RE.bindS_exc, RE.bindT_ok, RE.bindTS_ok, RA.bind_ok, RA.bindA_ok, RE.nox_ok, RS.seq_nx, RS.seq_ret, RS.seq_exc, RS.seq_brk, RS.seq_ct, RS.seq_stuck, RE.bindA_exc, RE.bindA_stuck, RE.bindS_stuck, RE.bindT_exc, RE.bindT_stuck, RE.bindTS_exc, RE.bindTS_stuck, RA.bind_exc, RA.bind_stuck, RA.bindA_exc, RA.bindA_stuck, RE.nox_stuck, bind_ite, bindA_ite, bindS_ite, bindT_ite, bindTS_ite, nox_ite, seq_ite, startR, tyA_non, tyA_bl, tyA_int, tyA_str, tyA_tup, List.map_cons, List.map_nil, List.length_cons, List.length_nil, List.cons_append, List.nil_append, List.append_nil, List.getElem?_cons_zero, List.getElem?_cons_succ, List.set_cons_zero, List.set_cons_succ, vIx_t0, vIx_t1, vIx_t2, vIx_t3, vIx_t4, vIx_t5, vEq_ss, vEq_ii, vEq_bb, vNe_ss, vNe_ii, vNe_bb, vLen_tup, truA_tup, truA_bl, vLe_ii, vLt_ii, vGt_ii, vGe_ii, vSub_ii, vAdd_ii, vAddI_ii, vNeg_i, isT_ss, isT_tt, isT_ii, isT_bi, isT_bb, isT_ib, Nat.reduceAdd, Nat.reduceLeDiff, Nat.reduceLT, ↓reduceIte, forGo, okAt_at, A.beqL_refl, itemsAt_c0, itemsAt_cs, items_lst, gMt, tyB, beq_self_eq_true, vAppend, Int.reduceNeg]
theorem s_11 {o tp r w ts : A} {ds : List A} : q_law_11 K [some (.ob 0), some (.tup [o, tp, r, w, ts, .tup ds]), some (.ob 10), some (.tup [.str "x", .str "y", .int 0, w, ts]), some (.tup [.str "join", .tup [.str "x", .str "y", .int 0, w, ts]]), none, none, none, none, none, none, some (o), some (tp), some (r), some (w), some (ts), some (.tup ds)] [e, .lst [.tup [.str "A", tp, r, w, ts, .tup ds], .tup [o, .str "", r, w, ts, .tup ds], .tup [o, .str "sevenab", r, w, ts, .tup []]], .lst [.tup [o, tp, .int 10, w, ts, .tup ds], .tup [o, tp, .bl true, w, ts, .tup ds]], .lst [.tup [.str "A", tp, r, w, ts, .tup ds], .tup [o, .str "", r, w, ts, .tup ds], .tup [o, .str "sevenab", r, w, ts, .tup []], .tup [o, tp, .int 10, w, ts, .tup ds], .tup [o, tp, .bl true, w, ts, .tup ds]], .lst [.tup [o, tp, r, .str "never", ts, .tup ds], .tup [o, tp, r, w, .tup [.str "over"], .tup ds]], .lst [.tup [.str "A", tp, r, w, ts, .tup ds], .tup [o, .str "", r, w, ts, .tup ds], .tup [o, .str "sevenab", r, w, ts, .tup []], .tup [o, tp, .int 10, w, ts, .tup ds], .tup [o, tp, .bl true, w, ts, .tup ds], .tup [o, tp, r, .str "never", ts, .tup ds], .tup [o, tp, r, w, .tup [.str "over"], .tup ds]], .lst [.tup [o, tp, r, w, .tup [.str "any", .int 1], .tup ds], .tup [o, tp, r, w, .tup [.str "over", .int 10000], .tup ds]], .lst [.tup [.str "A", tp, r, w, ts, .tup ds], .tup [o, .str "", r, w, ts, .tup ds], .tup [o, .str "sevenab", r, w, ts, .tup []], .tup [o, tp, .int 10, w, ts, .tup ds], .tup [o, tp, .bl true, w, ts, .tup ds], .tup [o, tp, r, .str "never", ts, .tup ds], .tup [o, tp, r, w, .tup [.str "over"], .tup ds], .tup [o, tp, r, w, .tup [.str "any", .int 1], .tup ds], .tup [o, tp, r, w, .tup [.str "over", .int 10000], .tup ds]], .lst ds, .lst [.tup [o, tp, r, w, ts, .ob 8], .tup [o, tp, r, w, ts, .tup [.tup [.str "stop"], .tup [.str "stop"], .tup [.str "stop"], .tup [.str "stop"]]]], .lst [.tup [.str "A", tp, r, w, ts, .tup ds], .tup [o, .str "", r, w, ts, .tup ds], .tup [o, .str "sevenab", r, w, ts, .tup []], .tup [o, tp, .int 10, w, ts, .tup ds], .tup [o, tp, .bl true, w, ts, .tup ds], .tup [o, tp, r, .str "never", ts, .tup ds], .tup [o, tp, r, w, .tup [.str "over"], .tup ds], .tup [o, tp, r, w, .tup [.str "any", .int 1], .tup ds], .tup [o, tp, r, w, .tup [.str "over", .int 10000], .tup ds], .tup [o, tp, r, w, ts, .ob 8], .tup [o, tp, r, w, ts, .tup [.tup [.str "stop"], .tup [.str "stop"], .tup [.str "stop"], .tup [.str "stop"]]], .tup [o, tp, r, w, ts, .tup [.tup [.str "tell", .str "b"]]], .tup [o, tp, r, w, ts, .tup [.tup [.str "tell", .str "b", .int (-1)]]], .tup [o, tp, r, w, ts, .tup [.tup [.str "leave", .int 3]]], .tup [o, tp, r, w, ts, .tup [.tup [.str "stop", .int 1]]], .tup [o, tp, r, w, ts, .tup [.tup [.str "go"]]], .tup [o, tp, r, w, ts, .tup [.tup [.str "join", .tup [.str "x", .str "y", .int 0, w, ts]]]]], .lst [.tup [.str "tell", .str "b"], .tup [.str "tell", .str "b", .int (-1)], .tup [.str "leave", .int 3], .tup [.str "stop", .int 1], .tup [.str "go"], .tup [.str "join", .tup [.str "x", .str "y", .int 0, w, ts]]]] = .nx [some (.ob 0), some (.tup [o, tp, r, w, ts, .tup ds]), some (.ob 10), some (.tup [.str "x", .str "y", .int 0, w, ts]), some (.tup [.str "join", .tup [.str "x", .str "y", .int 0, w, ts]]), some (.tup [.str "x", .str "y", .int 0, .str "once", .tup [.str "any"], .tup []]), none, none, none, none, none, some (o), some (tp), some (r), some (w), some (ts), some (.tup ds)] [e, .lst [.tup [.str "A", tp, r, w, ts, .tup ds], .tup [o, .str "", r, w, ts, .tup ds], .tup [o, .str "sevenab", r, w, ts, .tup []]], .lst [.tup [o, tp, .int 10, w, ts, .tup ds], .tup [o, tp, .bl true, w, ts, .tup ds]], .lst [.tup [.str "A", tp, r, w, ts, .tup ds], .tup [o, .str "", r, w, ts, .tup ds], .tup [o, .str "sevenab", r, w, ts, .tup []], .tup [o, tp, .int 10, w, ts, .tup ds], .tup [o, tp, .bl true, w, ts, .tup ds]], .lst [.tup [o, tp, r, .str "never", ts, .tup ds], .tup [o, tp, r, w, .tup [.str "over"], .tup ds]], .lst [.tup [.str "A", tp, r, w, ts, .tup ds], .tup [o, .str "", r, w, ts, .tup ds], .tup [o, .str "sevenab", r, w, ts, .tup []], .tup [o, tp, .int 10, w, ts, .tup ds], .tup [o, tp, .bl true, w, ts, .tup ds], .tup [o, tp, r, .str "never", ts, .tup ds], .tup [o, tp, r, w, .tup [.str "over"], .tup ds]], .lst [.tup [o, tp, r, w, .tup [.str "any", .int 1], .tup ds], .tup [o, tp, r, w, .tup [.str "over", .int 10000], .tup ds]], .lst [.tup [.str "A", tp, r, w, ts, .tup ds], .tup [o, .str "", r, w, ts, .tup ds], .tup [o, .str "sevenab", r, w, ts, .tup []], .tup [o, tp, .int 10, w, ts, .tup ds], .tup [o, tp, .bl true, w, ts, .tup ds], .tup [o, tp, r, .str "never", ts, .tup ds], .tup [o, tp, r, w, .tup [.str "over"], .tup ds], .tup [o, tp, r, w, .tup [.str "any", .int 1], .tup ds], .tup [o, tp, r, w, .tup [.str "over", .int 10000], .tup ds]], .lst ds, .lst [.tup [o, tp, r, w, ts, .ob 8], .tup [o, tp, r, w, ts, .tup [.tup [.str "stop"], .tup [.str "stop"], .tup [.str "stop"], .tup [.str "stop"]]]], .lst [.tup [.str "A", tp, r, w, ts, .tup ds], .tup [o, .str "", r, w, ts, .tup ds], .tup [o, .str "sevenab", r, w, ts, .tup []], .tup [o, tp, .int 10, w, ts, .tup ds], .tup [o, tp, .bl true, w, ts, .tup ds], .tup [o, tp, r, .str "never", ts, .tup ds], .tup [o, tp, r, w, .tup [.str "over"], .tup ds], .tup [o, tp, r, w, .tup [.str "any", .int 1], .tup ds], .tup [o, tp, r, w, .tup [.str "over", .int 10000], .tup ds], .tup [o, tp, r, w, ts, .ob 8], .tup [o, tp, r, w, ts, .tup [.tup [.str "stop"], .tup [.str "stop"], .tup [.str "stop"], .tup [.str "stop"]]], .tup [o, tp, r, w, ts, .tup [.tup [.str "tell", .str "b"]]], .tup [o, tp, r, w, ts, .tup [.tup [.str "tell", .str "b", .int (-1)]]], .tup [o, tp, r, w, ts, .tup [.tup [.str "leave", .int 3]]], .tup [o, tp, r, w, ts, .tup [.tup [.str "stop", .int 1]]], .tup [o, tp, r, w, ts, .tup [.tup [.str "go"]]], .tup [o, tp, r, w, ts, .tup [.tup [.str "join", .tup [.str "x", .str "y", .int 0, w, ts]]]]], .lst [.tup [.str "tell", .str "b"], .tup [.str "tell", .str "b", .int (-1)], .tup [.str "leave", .int 3], .tup [.str "stop", .int 1], .tup [.str "go"], .tup [.str "join", .tup [.str "x", .str "y", .int 0, w, ts]]]] := by
  simp only [q_law_11, gVar, gC, gOp, gUn, gAnd, gOr, gNot, gIf, gNil, gCons, gTup, gLst, gCB, gChain, gSet, gExpr, gRet, gRetN, gPass, gBrk, gCt, gRaise, gIfS, gSeq, nName, nTup, setAll, gAsg, gCall, gTru, gNotT, gIsi, RE.bind_ok, RE.bind_exc, RE.bind_stuck, RE.bindA_ok, RE.bindS_ok, RE.bindS_exc, RE.bindT_ok, RE.bindTS_ok, RA.bind_ok, RA.bindA_ok, RE.nox_ok, RS.seq_nx, RS.seq_ret, RS.seq_exc, RS.seq_brk, RS.seq_ct, RS.seq_stuck, RE.bindA_exc, RE.bindA_stuck, RE.bindS_stuck, RE.bindT_exc, RE.bindT_stuck, RE.bindTS_exc, RE.bindTS_stuck, RA.bind_exc, RA.bind_stuck, RA.bindA_exc, RA.bindA_stuck, RE.nox_stuck, bind_ite, bindA_ite, bindS_ite, bindT_ite, bindTS_ite, nox_ite, seq_ite, startR, tyA_non, tyA_bl, tyA_int, tyA_str, tyA_tup, List.map_cons, List.map_nil, List.length_cons, List.length_nil, List.cons_append, List.nil_append, List.append_nil, List.getElem?_cons_zero, List.getElem?_cons_succ, List.set_cons_zero, List.set_cons_succ, vIx_t0, vIx_t1, vIx_t2, vIx_t3, vIx_t4, vIx_t5, vEq_ss, vEq_ii, vEq_bb, vNe_ss, vNe_ii, vNe_bb, vLen_tup, truA_tup, truA_bl, vLe_ii, vLt_ii, vGt_ii, vGe_ii, vSub_ii, vAdd_ii, vAddI_ii, vNeg_i, isT_ss, isT_tt, isT_ii, isT_bi, isT_bb, isT_ib, Nat.reduceAdd, Nat.reduceLeDiff, Nat.reduceLT, ↓reduceIte]
theorem s_12 {o tp r w ts : A} {ds : List A} : q_law_12 K [some (.ob 0), some (.tup [o, tp, r, w, ts, .tup ds]), some (.ob 10), some (.tup [.str "x", .str "y", .int 0, w, ts]), some (.tup [.str "join", .tup [.str "x", .str "y", .int 0, w, ts]]), some (.tup [.str "x", .str "y", .int 0, .str "once", .tup [.str "any"], .tup []]), none, none, none, none, none, some (o), some (tp), some (r), some (w), some (ts), some (.tup ds)] [e, .lst [.tup [.str "A", tp, r, w, ts, .tup ds], .tup [o, .str "", r, w, ts, .tup ds], .tup [o, .str "sevenab", r, w, ts, .tup []]], .lst [.tup [o, tp, .int 10, w, ts, .tup ds], .tup [o, tp, .bl true, w, ts, .tup ds]], .lst [.tup [.str "A", tp, r, w, ts, .tup ds], .tup [o, .str "", r, w, ts, .tup ds], .tup [o, .str "sevenab", r, w, ts, .tup []], .tup [o, tp, .int 10, w, ts, .tup ds], .tup [o, tp, .bl true, w, ts, .tup ds]], .lst [.tup [o, tp, r, .str "never", ts, .tup ds], .tup [o, tp, r, w, .tup [.str "over"], .tup ds]], .lst [.tup [.str "A", tp, r, w, ts, .tup ds], .tup [o, .str "", r, w, ts, .tup ds], .tup [o, .str "sevenab", r, w, ts, .tup []], .tup [o, tp, .int 10, w, ts, .tup ds], .tup [o, tp, .bl true, w, ts, .tup ds], .tup [o, tp, r, .str "never", ts, .tup ds], .tup [o, tp, r, w, .tup [.str "over"], .tup ds]], .lst [.tup [o, tp, r, w, .tup [.str "any", .int 1], .tup ds], .tup [o, tp, r, w, .tup [.str "over", .int 10000], .tup ds]], .lst [.tup [.str "A", tp, r, w, ts, .tup ds], .tup [o, .str "", r, w, ts, .tup ds], .tup [o, .str "sevenab", r, w, ts, .tup []], .tup [o, tp, .int 10, w, ts, .tup ds], .tup [o, tp, .bl true, w, ts, .tup ds], .tup [o, tp, r, .str "never", ts, .tup ds], .tup [o, tp, r, w, .tup [.str "over"], .tup ds], .tup [o, tp, r, w, .tup [.str "any", .int 1], .tup ds], .tup [o, tp, r, w, .tup [.str "over", .int 10000], .tup ds]], .lst ds, .lst [.tup [o, tp, r, w, ts, .ob 8], .tup [o, tp, r, w, ts, .tup [.tup [.str "stop"], .tup [.str "stop"], .tup [.str "stop"], .tup [.str "stop"]]]], .lst [.tup [.str "A", tp, r, w, ts, .tup ds], .tup [o, .str "", r, w, ts, .tup ds], .tup [o, .str "sevenab", r, w, ts, .tup []], .tup [o, tp, .int 10, w, ts, .tup ds], .tup [o, tp, .bl true, w, ts, .tup ds], .tup [o, tp, r, .str "never", ts, .tup ds], .tup [o, tp, r, w, .tup [.str "over"], .tup ds], .tup [o, tp, r, w, .tup [.str "any", .int 1], .tup ds], .tup [o, tp, r, w, .tup [.str "over", .int 10000], .tup ds], .tup [o, tp, r, w, ts, .ob 8], .tup [o, tp, r, w, ts, .tup [.tup [.str "stop"], .tup [.str "stop"], .tup [.str "stop"], .tup [.str "stop"]]], .tup [o, tp, r, w, ts, .tup [.tup [.str "tell", .str "b"]]], .tup [o, tp, r, w, ts, .tup [.tup [.str "tell", .str "b", .int (-1)]]], .tup [o, tp, r, w, ts, .tup [.tup [.str "leave", .int 3]]], .tup [o, tp, r, w, ts, .tup [.tup [.str "stop", .int 1]]], .tup [o, tp, r, w, ts, .tup [.tup [.str "go"]]], .tup [o, tp, r, w, ts, .tup [.tup [.str "join", .tup [.str "x", .str "y", .int 0, w, ts]]]]], .lst [.tup [.str "tell", .str "b"], .tup [.str "tell", .str "b", .int (-1)], .tup [.str "leave", .int 3], .tup [.str "stop", .int 1], .tup [.str "go"], .tup [.str "join", .tup [.str "x", .str "y", .int 0, w, ts]]]] = .nx [some (.ob 0), some (.tup [o, tp, r, w, ts, .tup ds]), some (.ob 10), some (.tup [.str "x", .str "y", .int 0, w, ts]), some (.tup [.str "join", .tup [.str "x", .str "y", .int 0, w, ts]]), some (.tup [.str "x", .str "y", .int 0, .str "once", .tup [.str "any"], .tup []]), some (.tup [.str "x", .str "y", .int 0, .str "once", .tup [.str "any"], .tup []]), none, none, none, none, some (o), some (tp), some (r), some (w), some (ts), some (.tup ds)] [e, .lst [.tup [.str "A", tp, r, w, ts, .tup ds], .tup [o, .str "", r, w, ts, .tup ds], .tup [o, .str "sevenab", r, w, ts, .tup []]], .lst [.tup [o, tp, .int 10, w, ts, .tup ds], .tup [o, tp, .bl true, w, ts, .tup ds]], .lst [.tup [.str "A", tp, r, w, ts, .tup ds], .tup [o, .str "", r, w, ts, .tup ds], .tup [o, .str "sevenab", r, w, ts, .tup []], .tup [o, tp, .int 10, w, ts, .tup ds], .tup [o, tp, .bl true, w, ts, .tup ds]], .lst [.tup [o, tp, r, .str "never", ts, .tup ds], .tup [o, tp, r, w, .tup [.str "over"], .tup ds]], .lst [.tup [.str "A", tp, r, w, ts, .tup ds], .tup [o, .str "", r, w, ts, .tup ds], .tup [o, .str "sevenab", r, w, ts, .tup []], .tup [o, tp, .int 10, w, ts, .tup ds], .tup [o, tp, .bl true, w, ts, .tup ds], .tup [o, tp, r, .str "never", ts, .tup ds], .tup [o, tp, r, w, .tup [.str "over"], .tup ds]], .lst [.tup [o, tp, r, w, .tup [.str "any", .int 1], .tup ds], .tup [o, tp, r, w, .tup [.str "over", .int 10000], .tup ds]], .lst [.tup [.str "A", tp, r, w, ts, .tup ds], .tup [o, .str "", r, w, ts, .tup ds], .tup [o, .str "sevenab", r, w, ts, .tup []], .tup [o, tp, .int 10, w, ts, .tup ds], .tup [o, tp, .bl true, w, ts, .tup ds], .tup [o, tp, r, .str "never", ts, .tup ds], .tup [o, tp, r, w, .tup [.str "over"], .tup ds], .tup [o, tp, r, w, .tup [.str "any", .int 1], .tup ds], .tup [o, tp, r, w, .tup [.str "over", .int 10000], .tup ds]], .lst ds, .lst [.tup [o, tp, r, w, ts, .ob 8], .tup [o, tp, r, w, ts, .tup [.tup [.str "stop"], .tup [.str "stop"], .tup [.str "stop"], .tup [.str "stop"]]]], .lst [.tup [.str "A", tp, r, w, ts, .tup ds], .tup [o, .str "", r, w, ts, .tup ds], .tup [o, .str "sevenab", r, w, ts, .tup []], .tup [o, tp, .int 10, w, ts, .tup ds], .tup [o, tp, .bl true, w, ts, .tup ds], .tup [o, tp, r, .str "never", ts, .tup ds], .tup [o, tp, r, w, .tup [.str "over"], .tup ds], .tup [o, tp, r, w, .tup [.str "any", .int 1], .tup ds], .tup [o, tp, r, w, .tup [.str "over", .int 10000], .tup ds], .tup [o, tp, r, w, ts, .ob 8], .tup [o, tp, r, w, ts, .tup [.tup [.str "stop"], .tup [.str "stop"], .tup [.str "stop"], .tup [.str "stop"]]], .tup [o, tp, r, w, ts, .tup [.tup [.str "tell", .str "b"]]], .tup [o, tp, r, w, ts, .tup [.tup [.str "tell", .str "b", .int (-1)]]], .tup [o, tp, r, w, ts, .tup [.tup [.str "leave", .int 3]]], .tup [o, tp, r, w, ts, .tup [.tup [.str "stop", .int 1]]], .tup [o, tp, r, w, ts, .tup [.tup [.str "go"]]], .tup [o, tp, r, w, ts, .tup [.tup [.str "join", .tup [.str "x", .str "y", .int 0, w, ts]]]]], .lst [.tup [.str "tell", .str "b"], .tup [.str "tell", .str "b", .int (-1)], .tup [.str "leave", .int 3], .tup [.str "stop", .int 1], .tup [.str "go"], .tup [.str "join", .tup [.str "x", .str "y", .int 0, w, ts]]]] := by
  simp only [q_law_12, gVar, gC, gOp, gUn, gAnd, gOr, gNot, gIf, gNil, gCons, gTup, gLst, gCB, gChain, gSet, gExpr, gRet, gRetN, gPass, gBrk, gCt, gRaise, gIfS, gSeq, nName, nTup, setAll, gAsg, gCall, gTru, gNotT, gIsi, RE.bind_ok, RE.bind_exc, RE.bind_stuck, RE.bindA_ok, RE.bindS_ok, RE.bindS_exc, RE.bindT_ok, RE.bindTS_ok, RA.bind_ok, RA.bindA_ok, RE.nox_ok, RS.seq_nx, RS.seq_ret, RS.seq_exc, RS.seq_brk, RS.seq_ct, RS.seq_stuck, RE.bindA_exc, RE.bindA_stuck, RE.bindS_stuck, RE.bindT_exc, RE.bindT_stuck, RE.bindTS_exc, RE.bindTS_stuck, RA.bind_exc, RA.bind_stuck, RA.bindA_exc, RA.bindA_stuck, RE.nox_stuck, bind_ite, bindA_ite, bindS_ite, bindT_ite, bindTS_ite, nox_ite, seq_ite, startR, tyA_non, tyA_bl, tyA_int, tyA_str, tyA_tup, List.map_cons, List.map_nil, List.length_cons, List.length_nil, List.cons_append, List.nil_append, List.append_nil, List.getElem?_cons_zero, List.getElem?_cons_succ, List.set_cons_zero, List.set_cons_succ, vIx_t0, vIx_t1, vIx_t2, vIx_t3, vIx_t4, vIx_t5, vEq_ss, vEq_ii, vEq_bb, vNe_ss, vNe_ii, vNe_bb, vLen_tup, truA_tup, truA_bl, vLe_ii, vLt_ii, vGt_ii, vGe_ii, vSub_ii, vAdd_ii, vAddI_ii, vNeg_i, isT_ss, isT_tt, isT_ii, isT_bi, isT_bb, isT_ib, Nat.reduceAdd, Nat.reduceLeDiff, Nat.reduceLT, ↓reduceIte]
theorem s_13 {o tp r w ts : A} {ds : List A} : q_law_13 K [some (.ob 0), some (.tup [o, tp, r, w, ts, .tup ds]), some (.ob 10), some (.tup [.str "x", .str "y", .int 0, w, ts]), some (.tup [.str "join", .tup [.str "x", .str "y", .int 0, w, ts]]), some (.tup [.str "x", .str "y", .int 0, .str "once", .tup [.str "any"], .tup []]), some (.tup [.str "x", .str "y", .int 0, .str "once", .tup [.str "any"], .tup []]), none, none, none, none, some (o), some (tp), some (r), some (w), some (ts), some (.tup ds)] [e, .lst [.tup [.str "A", tp, r, w, ts, .tup ds], .tup [o, .str "", r, w, ts, .tup ds], .tup [o, .str "sevenab", r, w, ts, .tup []]], .lst [.tup [o, tp, .int 10, w, ts, .tup ds], .tup [o, tp, .bl true, w, ts, .tup ds]], .lst [.tup [.str "A", tp, r, w, ts, .tup ds], .tup [o, .str "", r, w, ts, .tup ds], .tup [o, .str "sevenab", r, w, ts, .tup []], .tup [o, tp, .int 10, w, ts, .tup ds], .tup [o, tp, .bl true, w, ts, .tup ds]], .lst [.tup [o, tp, r, .str "never", ts, .tup ds], .tup [o, tp, r, w, .tup [.str "over"], .tup ds]], .lst [.tup [.str "A", tp, r, w, ts, .tup ds], .tup [o, .str "", r, w, ts, .tup ds], .tup [o, .str "sevenab", r, w, ts, .tup []], .tup [o, tp, .int 10, w, ts, .tup ds], .tup [o, tp, .bl true, w, ts, .tup ds], .tup [o, tp, r, .str "never", ts, .tup ds], .tup [o, tp, r, w, .tup [.str "over"], .tup ds]], .lst [.tup [o, tp, r, w, .tup [.str "any", .int 1], .tup ds], .tup [o, tp, r, w, .tup [.str "over", .int 10000], .tup ds]], .lst [.tup [.str "A", tp, r, w, ts, .tup ds], .tup [o, .str "", r, w, ts, .tup ds], .tup [o, .str "sevenab", r, w, ts, .tup []], .tup [o, tp, .int 10, w, ts, .tup ds], .tup [o, tp, .bl true, w, ts, .tup ds], .tup [o, tp, r, .str "never", ts, .tup ds], .tup [o, tp, r, w, .tup [.str "over"], .tup ds], .tup [o, tp, r, w, .tup [.str "any", .int 1], .tup ds], .tup [o, tp, r, w, .tup [.str "over", .int 10000], .tup ds]], .lst ds, .lst [.tup [o, tp, r, w, ts, .ob 8], .tup [o, tp, r, w, ts, .tup [.tup [.str "stop"], .tup [.str "stop"], .tup [.str "stop"], .tup [.str "stop"]]]], .lst [.tup [.str "A", tp, r, w, ts, .tup ds], .tup [o, .str "", r, w, ts, .tup ds], .tup [o, .str "sevenab", r, w, ts, .tup []], .tup [o, tp, .int 10, w, ts, .tup ds], .tup [o, tp, .bl true, w, ts, .tup ds], .tup [o, tp, r, .str "never", ts, .tup ds], .tup [o, tp, r, w, .tup [.str "over"], .tup ds], .tup [o, tp, r, w, .tup [.str "any", .int 1], .tup ds], .tup [o, tp, r, w, .tup [.str "over", .int 10000], .tup ds], .tup [o, tp, r, w, ts, .ob 8], .tup [o, tp, r, w, ts, .tup [.tup [.str "stop"], .tup [.str "stop"], .tup [.str "stop"], .tup [.str "stop"]]], .tup [o, tp, r, w, ts, .tup [.tup [.str "tell", .str "b"]]], .tup [o, tp, r, w, ts, .tup [.tup [.str "tell", .str "b", .int (-1)]]], .tup [o, tp, r, w, ts, .tup [.tup [.str "leave", .int 3]]], .tup [o, tp, r, w, ts, .tup [.tup [.str "stop", .int 1]]], .tup [o, tp, r, w, ts, .tup [.tup [.str "go"]]], .tup [o, tp, r, w, ts, .tup [.tup [.str "join", .tup [.str "x", .str "y", .int 0, w, ts]]]]], .lst [.tup [.str "tell", .str "b"], .tup [.str "tell", .str "b", .int (-1)], .tup [.str "leave", .int 3], .tup [.str "stop", .int 1], .tup [.str "go"], .tup [.str "join", .tup [.str "x", .str "y", .int 0, w, ts]]]] = .nx [some (.ob 0), some (.tup [o, tp, r, w, ts, .tup ds]), some (.ob 10), some (.tup [.str "x", .str "y", .int 0, w, ts]), some (.tup [.str "join", .tup [.str "x", .str "y", .int 0, w, ts]]), some (.tup [.str "x", .str "y", .int 0, .str "once", .tup [.str "any"], .tup []]), some (.tup [.str "x", .str "y", .int 0, .str "once", .tup [.str "any"], .tup [.tup [.str "join", .tup [.str "x", .str "y", .int 0, .str "once", .tup [.str "any"], .tup [.tup [.str "join", .tup [.str "x", .str "y", .int 0, .str "once", .tup [.str "any"], .tup [.tup [.str "join", .tup [.str "x", .str "y", .int 0, .str "once", .tup [.str "any"], .tup []]]]]]]]]]]), some (.int 2), none, none, none, some (o), some (tp), some (r), some (w), some (ts), some (.tup ds)] [e, .lst [.tup [.str "A", tp, r, w, ts, .tup ds], .tup [o, .str "", r, w, ts, .tup ds], .tup [o, .str "sevenab", r, w, ts, .tup []]], .lst [.tup [o, tp, .int 10, w, ts, .tup ds], .tup [o, tp, .bl true, w, ts, .tup ds]], .lst [.tup [.str "A", tp, r, w, ts, .tup ds], .tup [o, .str "", r, w, ts, .tup ds], .tup [o, .str "sevenab", r, w, ts, .tup []], .tup [o, tp, .int 10, w, ts, .tup ds], .tup [o, tp, .bl true, w, ts, .tup ds]], .lst [.tup [o, tp, r, .str "never", ts, .tup ds], .tup [o, tp, r, w, .tup [.str "over"], .tup ds]], .lst [.tup [.str "A", tp, r, w, ts, .tup ds], .tup [o, .str "", r, w, ts, .tup ds], .tup [o, .str "sevenab", r, w, ts, .tup []], .tup [o, tp, .int 10, w, ts, .tup ds], .tup [o, tp, .bl true, w, ts, .tup ds], .tup [o, tp, r, .str "never", ts, .tup ds], .tup [o, tp, r, w, .tup [.str "over"], .tup ds]], .lst [.tup [o, tp, r, w, .tup [.str "any", .int 1], .tup ds], .tup [o, tp, r, w, .tup [.str "over", .int 10000], .tup ds]], .lst [.tup [.str "A", tp, r, w, ts, .tup ds], .tup [o, .str "", r, w, ts, .tup ds], .tup [o, .str "sevenab", r, w, ts, .tup []], .tup [o, tp, .int 10, w, ts, .tup ds], .tup [o, tp, .bl true, w, ts, .tup ds], .tup [o, tp, r, .str "never", ts, .tup ds], .tup [o, tp, r, w, .tup [.str "over"], .tup ds], .tup [o, tp, r, w, .tup [.str "any", .int 1], .tup ds], .tup [o, tp, r, w, .tup [.str "over", .int 10000], .tup ds]], .lst ds, .lst [.tup [o, tp, r, w, ts, .ob 8], .tup [o, tp, r, w, ts, .tup [.tup [.str "stop"], .tup [.str "stop"], .tup [.str "stop"], .tup [.str "stop"]]]], .lst [.tup [.str "A", tp, r, w, ts, .tup ds], .tup [o, .str "", r, w, ts, .tup ds], .tup [o, .str "sevenab", r, w, ts, .tup []], .tup [o, tp, .int 10, w, ts, .tup ds], .tup [o, tp, .bl true, w, ts, .tup ds], .tup [o, tp, r, .str "never", ts, .tup ds], .tup [o, tp, r, w, .tup [.str "over"], .tup ds], .tup [o, tp, r, w, .tup [.str "any", .int 1], .tup ds], .tup [o, tp, r, w, .tup [.str "over", .int 10000], .tup ds], .tup [o, tp, r, w, ts, .ob 8], .tup [o, tp, r, w, ts, .tup [.tup [.str "stop"], .tup [.str "stop"], .tup [.str "stop"], .tup [.str "stop"]]], .tup [o, tp, r, w, ts, .tup [.tup [.str "tell", .str "b"]]], .tup [o, tp, r, w, ts, .tup [.tup [.str "tell", .str "b", .int (-1)]]], .tup [o, tp, r, w, ts, .tup [.tup [.str "leave", .int 3]]], .tup [o, tp, r, w, ts, .tup [.tup [.str "stop", .int 1]]], .tup [o, tp, r, w, ts, .tup [.tup [.str "go"]]], .tup [o, tp, r, w, ts, .tup [.tup [.str "join", .tup [.str "x", .str "y", .int 0, w, ts]]]]], .lst [.tup [.str "tell", .str "b"], .tup [.str "tell", .str "b", .int (-1)], .tup [.str "leave", .int 3], .tup [.str "stop", .int 1], .tup [.str "go"], .tup [.str "join", .tup [.str "x", .str "y", .int 0, w, ts]]]] := by
  have r3 : rngA 0 (Int.toNat 3) = [.int 0, .int 1, .int 2] := rfl
  have b3 : (3 : Int) < 1000000 ∧ (-1000000 : Int) < 3 := by decide
  simp only [q_law_13, gFor, gIR1, gVar, gC, gOp, gUn, gAnd, gOr, gNot, gIf, gNil, gCons, gTup, gLst, gCB, gChain, gSet, gExpr, gRet, gRetN, gPass, gBrk, gCt, gRaise, gIfS, gSeq, nName, nTup, setAll, gAsg, gCall, gTru, gNotT, gIsi, RE.bind_ok, RE.bind_exc, RE.bind_stuck, RE.bindA_ok, RE.bindS_ok, RE.bindS_exc, RE.bindT_ok, RE.bindTS_ok, RA.bind_ok, RA.bindA_ok, RE.nox_ok, RS.seq_nx, RS.seq_ret, RS.seq_exc, RS.seq_brk, RS.seq_ct, RS.seq_stuck, RE.bindA_exc, RE.bindA_stuck, RE.bindS_stuck, RE.bindT_exc, RE.bindT_stuck, RE.bindTS_exc, RE.bindTS_stuck, RA.bind_exc, RA.bind_stuck, RA.bindA_exc, RA.bindA_stuck, RE.nox_stuck, bind_ite, bindA_ite, bindS_ite, bindT_ite, bindTS_ite, nox_ite, seq_ite, startR, tyA_non, tyA_bl, tyA_int, tyA_str, tyA_tup, List.map_cons, List.map_nil, List.length_cons, List.length_nil, List.cons_append, List.nil_append, List.append_nil, List.getElem?_cons_zero, List.getElem?_cons_succ, List.set_cons_zero, List.set_cons_succ, vIx_t0, vIx_t1, vIx_t2, vIx_t3, vIx_t4, vIx_t5, vEq_ss, vEq_ii, vEq_bb, vNe_ss, vNe_ii, vNe_bb, vLen_tup, truA_tup, truA_bl, vLe_ii, vLt_ii, vGt_ii, vGe_ii, vSub_ii, vAdd_ii, vAddI_ii, vNeg_i, isT_ss, isT_tt, isT_ii, isT_bi, isT_bb, isT_ib, Nat.reduceAdd, Nat.reduceLeDiff, ↓reduceIte, b3, r3, forGo, and_self]
theorem s_14 {o tp r w ts : A} {ds : List A} : q_law_14 K [some (.ob 0), some (.tup [o, tp, r, w, ts, .tup ds]), some (.ob 10), some (.tup [.str "x", .str "y", .int 0, w, ts]), some (.tup [.str "join", .tup [.str "x", .str "y", .int 0, w, ts]]), some (.tup [.str "x", .str "y", .int 0, .str "once", .tup [.str "any"], .tup []]), some (.tup [.str "x", .str "y", .int 0, .str "once", .tup [.str "any"], .tup [.tup [.str "join", .tup [.str "x", .str "y", .int 0, .str "once", .tup [.str "any"], .tup [.tup [.str "join", .tup [.str "x", .str "y", .int 0, .str "once", .tup [.str "any"], .tup [.tup [.str "join", .tup [.str "x", .str "y", .int 0, .str "once", .tup [.str "any"], .tup []]]]]]]]]]]), some (.int 2), none, none, none, some (o), some (tp), some (r), some (w), some (ts), some (.tup ds)] [e, .lst [.tup [.str "A", tp, r, w, ts, .tup ds], .tup [o, .str "", r, w, ts, .tup ds], .tup [o, .str "sevenab", r, w, ts, .tup []]], .lst [.tup [o, tp, .int 10, w, ts, .tup ds], .tup [o, tp, .bl true, w, ts, .tup ds]], .lst [.tup [.str "A", tp, r, w, ts, .tup ds], .tup [o, .str "", r, w, ts, .tup ds], .tup [o, .str "sevenab", r, w, ts, .tup []], .tup [o, tp, .int 10, w, ts, .tup ds], .tup [o, tp, .bl true, w, ts, .tup ds]], .lst [.tup [o, tp, r, .str "never", ts, .tup ds], .tup [o, tp, r, w, .tup [.str "over"], .tup ds]], .lst [.tup [.str "A", tp, r, w, ts, .tup ds], .tup [o, .str "", r, w, ts, .tup ds], .tup [o, .str "sevenab", r, w, ts, .tup []], .tup [o, tp, .int 10, w, ts, .tup ds], .tup [o, tp, .bl true, w, ts, .tup ds], .tup [o, tp, r, .str "never", ts, .tup ds], .tup [o, tp, r, w, .tup [.str "over"], .tup ds]], .lst [.tup [o, tp, r, w, .tup [.str "any", .int 1], .tup ds], .tup [o, tp, r, w, .tup [.str "over", .int 10000], .tup ds]], .lst [.tup [.str "A", tp, r, w, ts, .tup ds], .tup [o, .str "", r, w, ts, .tup ds], .tup [o, .str "sevenab", r, w, ts, .tup []], .tup [o, tp, .int 10, w, ts, .tup ds], .tup [o, tp, .bl true, w, ts, .tup ds], .tup [o, tp, r, .str "never", ts, .tup ds], .tup [o, tp, r, w, .tup [.str "over"], .tup ds], .tup [o, tp, r, w, .tup [.str "any", .int 1], .tup ds], .tup [o, tp, r, w, .tup [.str "over", .int 10000], .tup ds]], .lst ds, .lst [.tup [o, tp, r, w, ts, .ob 8], .tup [o, tp, r, w, ts, .tup [.tup [.str "stop"], .tup [.str "stop"], .tup [.str "stop"], .tup [.str "stop"]]]], .lst [.tup [.str "A", tp, r, w, ts, .tup ds], .tup [o, .str "", r, w, ts, .tup ds], .tup [o, .str "sevenab", r, w, ts, .tup []], .tup [o, tp, .int 10, w, ts, .tup ds], .tup [o, tp, .bl true, w, ts, .tup ds], .tup [o, tp, r, .str "never", ts, .tup ds], .tup [o, tp, r, w, .tup [.str "over"], .tup ds], .tup [o, tp, r, w, .tup [.str "any", .int 1], .tup ds], .tup [o, tp, r, w, .tup [.str "over", .int 10000], .tup ds], .tup [o, tp, r, w, ts, .ob 8], .tup [o, tp, r, w, ts, .tup [.tup [.str "stop"], .tup [.str "stop"], .tup [.str "stop"], .tup [.str "stop"]]], .tup [o, tp, r, w, ts, .tup [.tup [.str "tell", .str "b"]]], .tup [o, tp, r, w, ts, .tup [.tup [.str "tell", .str "b", .int (-1)]]], .tup [o, tp, r, w, ts, .tup [.tup [.str "leave", .int 3]]], .tup [o, tp, r, w, ts, .tup [.tup [.str "stop", .int 1]]], .tup [o, tp, r, w, ts, .tup [.tup [.str "go"]]], .tup [o, tp, r, w, ts, .tup [.tup [.str "join", .tup [.str "x", .str "y", .int 0, w, ts]]]]], .lst [.tup [.str "tell", .str "b"], .tup [.str "tell", .str "b", .int (-1)], .tup [.str "leave", .int 3], .tup [.str "stop", .int 1], .tup [.str "go"], .tup [.str "join", .tup [.str "x", .str "y", .int 0, w, ts]]]] = .nx [some (.ob 0), some (.tup [o, tp, r, w, ts, .tup ds]), some (.ob 10), some (.tup [.str "x", .str "y", .int 0, w, ts]), some (.tup [.str "join", .tup [.str "x", .str "y", .int 0, w, ts]]), some (.tup [.str "x", .str "y", .int 0, .str "once", .tup [.str "any"], .tup []]), some (.tup [.str "x", .str "y", .int 0, .str "once", .tup [.str "any"], .tup [.tup [.str "join", .tup [.str "x", .str "y", .int 0, .str "once", .tup [.str "any"], .tup [.tup [.str "join", .tup [.str "x", .str "y", .int 0, .str "once", .tup [.str "any"], .tup [.tup [.str "join", .tup [.str "x", .str "y", .int 0, .str "once", .tup [.str "any"], .tup []]]]]]]]]]]), some (.int 2), none, none, none, some (o), some (tp), some (r), some (w), some (ts), some (.tup ds)] [e, .lst [.tup [.str "A", tp, r, w, ts, .tup ds], .tup [o, .str "", r, w, ts, .tup ds], .tup [o, .str "sevenab", r, w, ts, .tup []]], .lst [.tup [o, tp, .int 10, w, ts, .tup ds], .tup [o, tp, .bl true, w, ts, .tup ds]], .lst [.tup [.str "A", tp, r, w, ts, .tup ds], .tup [o, .str "", r, w, ts, .tup ds], .tup [o, .str "sevenab", r, w, ts, .tup []], .tup [o, tp, .int 10, w, ts, .tup ds], .tup [o, tp, .bl true, w, ts, .tup ds]], .lst [.tup [o, tp, r, .str "never", ts, .tup ds], .tup [o, tp, r, w, .tup [.str "over"], .tup ds]], .lst [.tup [.str "A", tp, r, w, ts, .tup ds], .tup [o, .str "", r, w, ts, .tup ds], .tup [o, .str "sevenab", r, w, ts, .tup []], .tup [o, tp, .int 10, w, ts, .tup ds], .tup [o, tp, .bl true, w, ts, .tup ds], .tup [o, tp, r, .str "never", ts, .tup ds], .tup [o, tp, r, w, .tup [.str "over"], .tup ds]], .lst [.tup [o, tp, r, w, .tup [.str "any", .int 1], .tup ds], .tup [o, tp, r, w, .tup [.str "over", .int 10000], .tup ds]], .lst [.tup [.str "A", tp, r, w, ts, .tup ds], .tup [o, .str "", r, w, ts, .tup ds], .tup [o, .str "sevenab", r, w, ts, .tup []], .tup [o, tp, .int 10, w, ts, .tup ds], .tup [o, tp, .bl true, w, ts, .tup ds], .tup [o, tp, r, .str "never", ts, .tup ds], .tup [o, tp, r, w, .tup [.str "over"], .tup ds], .tup [o, tp, r, w, .tup [.str "any", .int 1], .tup ds], .tup [o, tp, r, w, .tup [.str "over", .int 10000], .tup ds]], .lst ds, .lst [.tup [o, tp, r, w, ts, .ob 8], .tup [o, tp, r, w, ts, .tup [.tup [.str "stop"], .tup [.str "stop"], .tup [.str "stop"], .tup [.str "stop"]]]], .lst [.tup [.str "A", tp, r, w, ts, .tup ds], .tup [o, .str "", r, w, ts, .tup ds], .tup [o, .str "sevenab", r, w, ts, .tup []], .tup [o, tp, .int 10, w, ts, .tup ds], .tup [o, tp, .bl true, w, ts, .tup ds], .tup [o, tp, r, .str "never", ts, .tup ds], .tup [o, tp, r, w, .tup [.str "over"], .tup ds], .tup [o, tp, r, w, .tup [.str "any", .int 1], .tup ds], .tup [o, tp, r, w, .tup [.str "over", .int 10000], .tup ds], .tup [o, tp, r, w, ts, .ob 8], .tup [o, tp, r, w, ts, .tup [.tup [.str "stop"], .tup [.str "stop"], .tup [.str "stop"], .tup [.str "stop"]]], .tup [o, tp, r, w, ts, .tup [.tup [.str "tell", .str "b"]]], .tup [o, tp, r, w, ts, .tup [.tup [.str "tell", .str "b", .int (-1)]]], .tup [o, tp, r, w, ts, .tup [.tup [.str "leave", .int 3]]], .tup [o, tp, r, w, ts, .tup [.tup [.str "stop", .int 1]]], .tup [o, tp, r, w, ts, .tup [.tup [.str "go"]]], .tup [o, tp, r, w, ts, .tup [.tup [.str "join", .tup [.str "x", .str "y", .int 0, w, ts]]]], .tup [.str "x", .str "y", .int 0, .str "once", .tup [.str "any"], .tup [.tup [.str "join", .tup [.str "x", .str "y", .int 0, .str "once", .tup [.str "any"], .tup [.tup [.str "join", .tup [.str "x", .str "y", .int 0, .str "once", .tup [.str "any"], .tup [.tup [.str "join", .tup [.str "x", .str "y", .int 0, .str "once", .tup [.str "any"], .tup []]]]]]]]]]]], .lst [.tup [.str "tell", .str "b"], .tup [.str "tell", .str "b", .int (-1)], .tup [.str "leave", .int 3], .tup [.str "stop", .int 1], .tup [.str "go"], .tup [.str "join", .tup [.str "x", .str "y", .int 0, w, ts]]]] := by
  simp only [q_law_14, gVar, gC, gOp, gUn, gAnd, gOr, gNot, gIf, gNil, gCons, gTup, gLst, gCB, gChain, gSet, gExpr, gRet, gRetN, gPass, gBrk, gCt, gRaise, gIfS, gSeq, nName, nTup, setAll, gAsg, gCall, gTru, gNotT, gIsi, RE.bind_ok, RE.bind_exc, RE.bind_stuck, RE.bindA_ok, RE.bindS_ok, RE.bindS_exc, RE.bindT_ok, RE.bindTS_ok, RA.bind_ok, RA.bindA_ok, RE.nox_ok, RS.seq_nx, RS.seq_ret, RS.seq_exc, RS.seq_brk, RS.seq_ct, RS.seq_stuck, RE.bindA_exc, RE.bindA_stuck, RE.bindS_stuck, RE.bindT_exc, RE.bindT_stuck, RE.bindTS_exc, RE.bindTS_stuck, RA.bind_exc, RA.bind_stuck, RA.bindA_exc, RA.bindA_stuck, RE.nox_stuck, bind_ite, bindA_ite, bindS_ite, bindT_ite, bindTS_ite, nox_ite, seq_ite, startR, tyA_non, tyA_bl, tyA_int, tyA_str, tyA_tup, List.map_cons, List.map_nil, List.length_cons, List.length_nil, List.cons_append, List.nil_append, List.append_nil, List.getElem?_cons_zero, List.getElem?_cons_succ, List.set_cons_zero, List.set_cons_succ, vIx_t0, vIx_t1, vIx_t2, vIx_t3, vIx_t4, vIx_t5, vEq_ss, vEq_ii, vEq_bb, vNe_ss, vNe_ii, vNe_bb, vLen_tup, truA_tup, truA_bl, vLe_ii, vLt_ii, vGt_ii, vGe_ii, vSub_ii, vAdd_ii, vAddI_ii, vNeg_i, isT_ss, isT_tt, isT_ii, isT_bi, isT_bb, isT_ib, Nat.reduceAdd, Nat.reduceLeDiff, Nat.reduceLT, ↓reduceIte, gMt, tyB, beq_self_eq_true, vAppend]
end
def T18 (o tp r w ts : A) (ds : List A) : List A := [.tup [.str "A", tp, r, w, ts, .tup ds], .tup [o, .str "", r, w, ts, .tup ds], .tup [o, .str "sevenab", r, w, ts, .tup []], .tup [o, tp, .int 10, w, ts, .tup ds], .tup [o, tp, .bl true, w, ts, .tup ds], .tup [o, tp, r, .str "never", ts, .tup ds], .tup [o, tp, r, w, .tup [.str "over"], .tup ds], .tup [o, tp, r, w, .tup [.str "any", .int 1], .tup ds], .tup [o, tp, r, w, .tup [.str "over", .int 10000], .tup ds], .tup [o, tp, r, w, ts, .ob 8], .tup [o, tp, r, w, ts, .tup [.tup [.str "stop"], .tup [.str "stop"], .tup [.str "stop"], .tup [.str "stop"]]], .tup [o, tp, r, w, ts, .tup [.tup [.str "tell", .str "b"]]], .tup [o, tp, r, w, ts, .tup [.tup [.str "tell", .str "b", .int (-1)]]], .tup [o, tp, r, w, ts, .tup [.tup [.str "leave", .int 3]]], .tup [o, tp, r, w, ts, .tup [.tup [.str "stop", .int 1]]], .tup [o, tp, r, w, ts, .tup [.tup [.str "go"]]], .tup [o, tp, r, w, ts, .tup [.tup [.str "join", .tup [.str "x", .str "y", .int 0, w, ts]]]], .tup [.str "x", .str "y", .int 0, .str "once", .tup [.str "any"], .tup [.tup [.str "join", .tup [.str "x", .str "y", .int 0, .str "once", .tup [.str "any"], .tup [.tup [.str "join", .tup [.str "x", .str "y", .int 0, .str "once", .tup [.str "any"], .tup [.tup [.str "join", .tup [.str "x", .str "y", .int 0, .str "once", .tup [.str "any"], .tup []]]]]]]]]]]]
section
variable {K : Frg} {e : O} {ns : List Int} {o tp r w ts : A} {ds : List A}
theorem hr_0 {n : Nat} (h : isWord o = false) : isHr n (.tup [o, tp, r, w, ts, .tup ds]) = false := by
  cases n
  · rfl
  · show isHrW _ _ = false
    simp [isHrW, h]
theorem hr_1 {n : Nat} (h : isWord tp = false) : isHr n (.tup [o, tp, r, w, ts, .tup ds]) = false := by
  cases n
  · rfl
  · show isHrW _ _ = false
    simp [isHrW, h]
theorem hr_2 {n : Nat} (h : isIn r 0 9 = false) : isHr n (.tup [o, tp, r, w, ts, .tup ds]) = false := by
  cases n
  · rfl
  · show isHrW _ _ = false
    simp [isHrW, h]
theorem hr_3 {n : Nat} (h : isHow w = false) : isHr n (.tup [o, tp, r, w, ts, .tup ds]) = false := by
  cases n
  · rfl
  · show isHrW _ _ = false
    simp [isHrW, h]
theorem hr_4 {n : Nat} (h : isTest ts = false) : isHr n (.tup [o, tp, r, w, ts, .tup ds]) = false := by
  cases n
  · rfl
  · show isHrW _ _ = false
    simp [isHrW, h]
theorem hr_5 {n : Nat} {x : A} (h : ∀ m, m + 1 = n → isDeedW (isHr m) x = false) : isHr n (.tup [o, tp, r, w, ts, .tup [x]]) = false := by
  cases n
  · rfl
  · show isHrW _ _ = false
    simp [isHrW, h _ rfl]
theorem hr_len {n : Nat} {l : List A} (h : l.length ≠ 6) : isHr n (.tup l) = false := isHr_six h
theorem dd_join {f : A → Bool} {x : A} : isDeedW f (.tup [.str "join", x]) = f x := by
  have e2 : ¬ (("join" : Str) = "stop" ∨ ("join" : Str) = "done") := by decide
  have e3 : ¬ (("join" : Str) = "tell") := by decide
  have e4 : ¬ (("join" : Str) = "leave") := by decide
  unfold isDeedW
  dsimp only
  rw [if_neg e2, if_neg e3, if_neg e4]
  rfl
theorem bad_18 (k : Nat) (hk : k < 18) (n : Nat) (hn : n ≤ 3) : isHr n ((T18 o tp r w ts ds).getD k .non) = false := by
  match k, hk with
  | 0, _ => exact hr_0 (by decide +kernel)
  | 1, _ => exact hr_1 (by decide +kernel)
  | 2, _ => exact hr_1 (by decide +kernel)
  | 3, _ => exact hr_2 (by decide +kernel)
  | 4, _ => exact hr_2 (by decide +kernel)
  | 5, _ => exact hr_3 (by decide +kernel)
  | 6, _ => exact hr_4 (by decide +kernel)
  | 7, _ => exact hr_4 (by decide +kernel)
  | 8, _ => exact hr_4 (by decide +kernel)
  | 9, _ => cases n <;> rfl
  | 10, _ =>
    cases n
    · rfl
    · show isHrW _ _ = false
      simp [T18, isHrW]
  | 11, _ => exact hr_5 fun m _ => rfl
  | 12, _ =>
    refine hr_5 fun m _ => ?_
    show isDeedW _ (.tup [.str "tell", .str "b", .int (-1)]) = false
    unfold isDeedW
    dsimp only
    rw [if_neg (by decide), if_pos rfl]
    have e : isIn (.int (-1)) 0 9999 = false := by decide
    rw [e, Bool.and_false]
  | 13, _ => exact hr_5 fun m _ => rfl
  | 14, _ => exact hr_5 fun m _ => rfl
  | 15, _ => exact hr_5 fun m _ => rfl
  | 16, _ => exact hr_5 fun m _ => dd_join.trans (hr_len (by simp))
  | 17, _ =>
    refine hr_5 fun m hm => dd_join.trans (hr_5 fun m2 hm2 => dd_join.trans (hr_5 fun m3 hm3 => dd_join.trans ?_))
    have : m3 = 0 := by omega
    subst this
    rfl
  | k + 18, h => exact absurd h (by omega)
theorem wrap_bad {x : A} (h : isHr 2 x = false) : isHr 3 (.tup [.str "x", .str "y", .int 0, .str "once", .tup [.str "any"], .tup [.tup [.str "join", x]]]) = false := hr_5 fun m hm => by
  have : m = 2 := by omega
  subst this
  exact dd_join.trans h

theorem good_18 {S : Sto} (h8 : kn S (.ob 8) = true) (g1 : good S o = true) (g2 : good S tp = true) (g3 : good S r = true) (g4 : good S w = true) (g5 : good S ts = true) (g6 : good S (.tup ds) = true) (k : Nat) (hk : k < 18) : good S ((T18 o tp r w ts ds).getD k .non) = true := by
  have e : ∀ x ∈ T18 o tp r w ts ds, good S x = true := by
    have z : ∀ x : Str, x.length ≤ 10 → good S (.str x) = true := fun x hx => by simp [good]; omega
    have z1 := z "A" (by decide +kernel)
    have z2 := z "" (by decide +kernel)
    have z3 := z "sevenab" (by decide +kernel)
    have z4 := z "never" (by decide +kernel)
    have z5 := z "over" (by decide +kernel)
    have z6 := z "any" (by decide +kernel)
    have z7 := z "stop" (by decide +kernel)
    have z8 := z "tell" (by decide +kernel)
    have z9 := z "b" (by decide +kernel)
    have z10 := z "leave" (by decide +kernel)
    have z11 := z "go" (by decide +kernel)
    have z12 := z "join" (by decide +kernel)
    have z13 := z "x" (by decide +kernel)
    have z14 := z "y" (by decide +kernel)
    have z15 := z "once" (by decide +kernel)
    have zi : ∀ i : Int, good S (.int i) = true := fun i => by simp [good]
    have zb : ∀ i : Bool, good S (.bl i) = true := fun i => by simp [good]
    have zo : good S (.ob 8) = true := by simpa [good] using h8
    have gt : ∀ l : List A, good S (.tup l) = goodL S l := fun l => by simp [good]
    have g6' := g6
    rw [gt] at g6'
    have gn : goodL S [] = true := by simp [goodL]
    have gc : ∀ a l, goodL S (a :: l) = (good S a && goodL S l) := fun a l => by simp [goodL]
    intro x hx
    simp only [T18, List.mem_cons, List.not_mem_nil, or_false] at hx
    rcases hx with hx | hx | hx | hx | hx | hx | hx | hx | hx | hx | hx | hx | hx | hx | hx | hx | hx | hx <;> subst hx <;>
      simp only [gt, gc, gn, g1, g2, g3, g4, g5, g6', z1, z2, z3, z4, z5, z6, z7, z8, z9, z10, z11, z12, z13, z14, z15, zi, zb, zo, Bool.and_self]
  rw [List.getD_eq_getElem?_getD, List.getElem?_eq_getElem (show k < (T18 o tp r w ts ds).length from hk)]
  exact e _ (List.getElem_mem _)

theorem s_15 {k : Int} (he : e.items = some (ns.map A.int)) (hk : k = cellOf ns 1 % 18) : q_law_15 K [some (.ob 0), some (.tup [o, tp, r, w, ts, .tup ds]), some (.ob 10), some (.tup [.str "x", .str "y", .int 0, w, ts]), some (.tup [.str "join", .tup [.str "x", .str "y", .int 0, w, ts]]), some (.tup [.str "x", .str "y", .int 0, .str "once", .tup [.str "any"], .tup []]), some (.tup [.str "x", .str "y", .int 0, .str "once", .tup [.str "any"], .tup [.tup [.str "join", .tup [.str "x", .str "y", .int 0, .str "once", .tup [.str "any"], .tup [.tup [.str "join", .tup [.str "x", .str "y", .int 0, .str "once", .tup [.str "any"], .tup [.tup [.str "join", .tup [.str "x", .str "y", .int 0, .str "once", .tup [.str "any"], .tup []]]]]]]]]]]), some (.int 2), none, none, none, some (o), some (tp), some (r), some (w), some (ts), some (.tup ds)] [e, .lst [.tup [.str "A", tp, r, w, ts, .tup ds], .tup [o, .str "", r, w, ts, .tup ds], .tup [o, .str "sevenab", r, w, ts, .tup []]], .lst [.tup [o, tp, .int 10, w, ts, .tup ds], .tup [o, tp, .bl true, w, ts, .tup ds]], .lst [.tup [.str "A", tp, r, w, ts, .tup ds], .tup [o, .str "", r, w, ts, .tup ds], .tup [o, .str "sevenab", r, w, ts, .tup []], .tup [o, tp, .int 10, w, ts, .tup ds], .tup [o, tp, .bl true, w, ts, .tup ds]], .lst [.tup [o, tp, r, .str "never", ts, .tup ds], .tup [o, tp, r, w, .tup [.str "over"], .tup ds]], .lst [.tup [.str "A", tp, r, w, ts, .tup ds], .tup [o, .str "", r, w, ts, .tup ds], .tup [o, .str "sevenab", r, w, ts, .tup []], .tup [o, tp, .int 10, w, ts, .tup ds], .tup [o, tp, .bl true, w, ts, .tup ds], .tup [o, tp, r, .str "never", ts, .tup ds], .tup [o, tp, r, w, .tup [.str "over"], .tup ds]], .lst [.tup [o, tp, r, w, .tup [.str "any", .int 1], .tup ds], .tup [o, tp, r, w, .tup [.str "over", .int 10000], .tup ds]], .lst [.tup [.str "A", tp, r, w, ts, .tup ds], .tup [o, .str "", r, w, ts, .tup ds], .tup [o, .str "sevenab", r, w, ts, .tup []], .tup [o, tp, .int 10, w, ts, .tup ds], .tup [o, tp, .bl true, w, ts, .tup ds], .tup [o, tp, r, .str "never", ts, .tup ds], .tup [o, tp, r, w, .tup [.str "over"], .tup ds], .tup [o, tp, r, w, .tup [.str "any", .int 1], .tup ds], .tup [o, tp, r, w, .tup [.str "over", .int 10000], .tup ds]], .lst ds, .lst [.tup [o, tp, r, w, ts, .ob 8], .tup [o, tp, r, w, ts, .tup [.tup [.str "stop"], .tup [.str "stop"], .tup [.str "stop"], .tup [.str "stop"]]]], .lst [.tup [.str "A", tp, r, w, ts, .tup ds], .tup [o, .str "", r, w, ts, .tup ds], .tup [o, .str "sevenab", r, w, ts, .tup []], .tup [o, tp, .int 10, w, ts, .tup ds], .tup [o, tp, .bl true, w, ts, .tup ds], .tup [o, tp, r, .str "never", ts, .tup ds], .tup [o, tp, r, w, .tup [.str "over"], .tup ds], .tup [o, tp, r, w, .tup [.str "any", .int 1], .tup ds], .tup [o, tp, r, w, .tup [.str "over", .int 10000], .tup ds], .tup [o, tp, r, w, ts, .ob 8], .tup [o, tp, r, w, ts, .tup [.tup [.str "stop"], .tup [.str "stop"], .tup [.str "stop"], .tup [.str "stop"]]], .tup [o, tp, r, w, ts, .tup [.tup [.str "tell", .str "b"]]], .tup [o, tp, r, w, ts, .tup [.tup [.str "tell", .str "b", .int (-1)]]], .tup [o, tp, r, w, ts, .tup [.tup [.str "leave", .int 3]]], .tup [o, tp, r, w, ts, .tup [.tup [.str "stop", .int 1]]], .tup [o, tp, r, w, ts, .tup [.tup [.str "go"]]], .tup [o, tp, r, w, ts, .tup [.tup [.str "join", .tup [.str "x", .str "y", .int 0, w, ts]]]], .tup [.str "x", .str "y", .int 0, .str "once", .tup [.str "any"], .tup [.tup [.str "join", .tup [.str "x", .str "y", .int 0, .str "once", .tup [.str "any"], .tup [.tup [.str "join", .tup [.str "x", .str "y", .int 0, .str "once", .tup [.str "any"], .tup [.tup [.str "join", .tup [.str "x", .str "y", .int 0, .str "once", .tup [.str "any"], .tup []]]]]]]]]]]], .lst [.tup [.str "tell", .str "b"], .tup [.str "tell", .str "b", .int (-1)], .tup [.str "leave", .int 3], .tup [.str "stop", .int 1], .tup [.str "go"], .tup [.str "join", .tup [.str "x", .str "y", .int 0, w, ts]]]] = .nx [some (.ob 0), some (.tup [o, tp, r, w, ts, .tup ds]), some (.ob 10), some (.tup [.str "x", .str "y", .int 0, w, ts]), some (.tup [.str "join", .tup [.str "x", .str "y", .int 0, w, ts]]), some (.tup [.str "x", .str "y", .int 0, .str "once", .tup [.str "any"], .tup []]), some (.tup [.str "x", .str "y", .int 0, .str "once", .tup [.str "any"], .tup [.tup [.str "join", .tup [.str "x", .str "y", .int 0, .str "once", .tup [.str "any"], .tup [.tup [.str "join", .tup [.str "x", .str "y", .int 0, .str "once", .tup [.str "any"], .tup [.tup [.str "join", .tup [.str "x", .str "y", .int 0, .str "once", .tup [.str "any"], .tup []]]]]]]]]]]), some (.int 2), some ((T18 o tp r w ts ds).getD k.toNat .non), none, none, some (o), some (tp), some (r), some (w), some (ts), some (.tup ds)] [e, .lst [.tup [.str "A", tp, r, w, ts, .tup ds], .tup [o, .str "", r, w, ts, .tup ds], .tup [o, .str "sevenab", r, w, ts, .tup []]], .lst [.tup [o, tp, .int 10, w, ts, .tup ds], .tup [o, tp, .bl true, w, ts, .tup ds]], .lst [.tup [.str "A", tp, r, w, ts, .tup ds], .tup [o, .str "", r, w, ts, .tup ds], .tup [o, .str "sevenab", r, w, ts, .tup []], .tup [o, tp, .int 10, w, ts, .tup ds], .tup [o, tp, .bl true, w, ts, .tup ds]], .lst [.tup [o, tp, r, .str "never", ts, .tup ds], .tup [o, tp, r, w, .tup [.str "over"], .tup ds]], .lst [.tup [.str "A", tp, r, w, ts, .tup ds], .tup [o, .str "", r, w, ts, .tup ds], .tup [o, .str "sevenab", r, w, ts, .tup []], .tup [o, tp, .int 10, w, ts, .tup ds], .tup [o, tp, .bl true, w, ts, .tup ds], .tup [o, tp, r, .str "never", ts, .tup ds], .tup [o, tp, r, w, .tup [.str "over"], .tup ds]], .lst [.tup [o, tp, r, w, .tup [.str "any", .int 1], .tup ds], .tup [o, tp, r, w, .tup [.str "over", .int 10000], .tup ds]], .lst [.tup [.str "A", tp, r, w, ts, .tup ds], .tup [o, .str "", r, w, ts, .tup ds], .tup [o, .str "sevenab", r, w, ts, .tup []], .tup [o, tp, .int 10, w, ts, .tup ds], .tup [o, tp, .bl true, w, ts, .tup ds], .tup [o, tp, r, .str "never", ts, .tup ds], .tup [o, tp, r, w, .tup [.str "over"], .tup ds], .tup [o, tp, r, w, .tup [.str "any", .int 1], .tup ds], .tup [o, tp, r, w, .tup [.str "over", .int 10000], .tup ds]], .lst ds, .lst [.tup [o, tp, r, w, ts, .ob 8], .tup [o, tp, r, w, ts, .tup [.tup [.str "stop"], .tup [.str "stop"], .tup [.str "stop"], .tup [.str "stop"]]]], .lst [.tup [.str "A", tp, r, w, ts, .tup ds], .tup [o, .str "", r, w, ts, .tup ds], .tup [o, .str "sevenab", r, w, ts, .tup []], .tup [o, tp, .int 10, w, ts, .tup ds], .tup [o, tp, .bl true, w, ts, .tup ds], .tup [o, tp, r, .str "never", ts, .tup ds], .tup [o, tp, r, w, .tup [.str "over"], .tup ds], .tup [o, tp, r, w, .tup [.str "any", .int 1], .tup ds], .tup [o, tp, r, w, .tup [.str "over", .int 10000], .tup ds], .tup [o, tp, r, w, ts, .ob 8], .tup [o, tp, r, w, ts, .tup [.tup [.str "stop"], .tup [.str "stop"], .tup [.str "stop"], .tup [.str "stop"]]], .tup [o, tp, r, w, ts, .tup [.tup [.str "tell", .str "b"]]], .tup [o, tp, r, w, ts, .tup [.tup [.str "tell", .str "b", .int (-1)]]], .tup [o, tp, r, w, ts, .tup [.tup [.str "leave", .int 3]]], .tup [o, tp, r, w, ts, .tup [.tup [.str "stop", .int 1]]], .tup [o, tp, r, w, ts, .tup [.tup [.str "go"]]], .tup [o, tp, r, w, ts, .tup [.tup [.str "join", .tup [.str "x", .str "y", .int 0, w, ts]]]], .tup [.str "x", .str "y", .int 0, .str "once", .tup [.str "any"], .tup [.tup [.str "join", .tup [.str "x", .str "y", .int 0, .str "once", .tup [.str "any"], .tup [.tup [.str "join", .tup [.str "x", .str "y", .int 0, .str "once", .tup [.str "any"], .tup [.tup [.str "join", .tup [.str "x", .str "y", .int 0, .str "once", .tup [.str "any"], .tup []]]]]]]]]]]], .lst [.tup [.str "tell", .str "b"], .tup [.str "tell", .str "b", .int (-1)], .tup [.str "leave", .int 3], .tup [.str "stop", .int 1], .tup [.str "go"], .tup [.str "join", .tup [.str "x", .str "y", .int 0, w, ts]]]] := by
  have hc : ∀ S : Sto, F__law_cell K [.ob 0, .int 1] (e :: S) = .ok (.int (cellOf ns 1)) (e :: S) := fun S => F__law_cell_at he (by decide)
  have m : ∀ a S, vMod (.int a) (.int 18) S = .ok (.int (a % 18)) S := fun a S => vMod_pos _ _ _ (by decide)
  obtain ⟨k1, k2⟩ := emod_lt' (a := cellOf ns 1) (b := 18) (by decide)
  have ea : L2.atI ([.tup [.str "A", tp, r, w, ts, .tup ds], .tup [o, .str "", r, w, ts, .tup ds], .tup [o, .str "sevenab", r, w, ts, .tup []], .tup [o, tp, .int 10, w, ts, .tup ds], .tup [o, tp, .bl true, w, ts, .tup ds], .tup [o, tp, r, .str "never", ts, .tup ds], .tup [o, tp, r, w, .tup [.str "over"], .tup ds], .tup [o, tp, r, w, .tup [.str "any", .int 1], .tup ds], .tup [o, tp, r, w, .tup [.str "over", .int 10000], .tup ds], .tup [o, tp, r, w, ts, .ob 8], .tup [o, tp, r, w, ts, .tup [.tup [.str "stop"], .tup [.str "stop"], .tup [.str "stop"], .tup [.str "stop"]]], .tup [o, tp, r, w, ts, .tup [.tup [.str "tell", .str "b"]]], .tup [o, tp, r, w, ts, .tup [.tup [.str "tell", .str "b", .int (-1)]]], .tup [o, tp, r, w, ts, .tup [.tup [.str "leave", .int 3]]], .tup [o, tp, r, w, ts, .tup [.tup [.str "stop", .int 1]]], .tup [o, tp, r, w, ts, .tup [.tup [.str "go"]]], .tup [o, tp, r, w, ts, .tup [.tup [.str "join", .tup [.str "x", .str "y", .int 0, w, ts]]]], .tup [.str "x", .str "y", .int 0, .str "once", .tup [.str "any"], .tup [.tup [.str "join", .tup [.str "x", .str "y", .int 0, .str "once", .tup [.str "any"], .tup [.tup [.str "join", .tup [.str "x", .str "y", .int 0, .str "once", .tup [.str "any"], .tup [.tup [.str "join", .tup [.str "x", .str "y", .int 0, .str "once", .tup [.str "any"], .tup []]]]]]]]]]]] : List A) (cellOf ns 1 % 18) = some ((T18 o tp r w ts ds).getD k.toNat .non) := by
    subst hk
    exact atI_getD (xs := T18 o tp r w ts ds) A.non k1 k2
  simp only [q_law_15, gVar, gC, gOp, gUn, gAnd, gOr, gNot, gIf, gNil, gCons, gTup, gLst, gCB, gChain, gSet, gExpr, gRet, gRetN, gPass, gBrk, gCt, gRaise, gIfS, gSeq, nName, nTup, setAll, gAsg, gCall, gTru, gNotT, gIsi, RE.bind_ok, RE.bind_exc, RE.bind_stuck, RE.bindA_ok, RE.bindS_ok, RE.bindS_exc, RE.bindT_ok, RE.bindTS_ok, RA.bind_ok, RA.bindA_ok, RE.nox_ok, RS.seq_nx, RS.seq_ret, RS.seq_exc, RS.seq_brk, RS.seq_ct, RS.seq_stuck, RE.bindA_exc, RE.bindA_stuck, RE.bindS_stuck, RE.bindT_exc, RE.bindT_stuck, RE.bindTS_exc, RE.bindTS_stuck, RA.bind_exc, RA.bind_stuck, RA.bindA_exc, RA.bindA_stuck, RE.nox_stuck, bind_ite, bindA_ite, bindS_ite, bindT_ite, bindTS_ite, nox_ite, seq_ite, startR, tyA_non, tyA_bl, tyA_int, tyA_str, tyA_tup, List.map_cons, List.map_nil, List.length_cons, List.length_nil, List.cons_append, List.nil_append, List.append_nil, List.getElem?_cons_zero, List.getElem?_cons_succ, List.set_cons_zero, List.set_cons_succ, vIx_t0, vIx_t1, vIx_t2, vIx_t3, vIx_t4, vIx_t5, vEq_ss, vEq_ii, vEq_bb, vNe_ss, vNe_ii, vNe_bb, vLen_tup, truA_tup, truA_bl, vLe_ii, vLt_ii, vGt_ii, vGe_ii, vSub_ii, vAdd_ii, vAddI_ii, vNeg_i, isT_ss, isT_tt, isT_ii, isT_bi, isT_bb, isT_ib, hc, m, vIx_obE, itemsAt_c0, itemsAt_cs, items_lst, ea]
theorem s_16 {b : A} (he : e.items = some (ns.map A.int)) : q_law_16 K [some (.ob 0), some (.tup [o, tp, r, w, ts, .tup ds]), some (.ob 10), some (.tup [.str "x", .str "y", .int 0, w, ts]), some (.tup [.str "join", .tup [.str "x", .str "y", .int 0, w, ts]]), some (.tup [.str "x", .str "y", .int 0, .str "once", .tup [.str "any"], .tup []]), some (.tup [.str "x", .str "y", .int 0, .str "once", .tup [.str "any"], .tup [.tup [.str "join", .tup [.str "x", .str "y", .int 0, .str "once", .tup [.str "any"], .tup [.tup [.str "join", .tup [.str "x", .str "y", .int 0, .str "once", .tup [.str "any"], .tup [.tup [.str "join", .tup [.str "x", .str "y", .int 0, .str "once", .tup [.str "any"], .tup []]]]]]]]]]]), some (.int 2), some (b), none, none, some (o), some (tp), some (r), some (w), some (ts), some (.tup ds)] [e, .lst [.tup [.str "A", tp, r, w, ts, .tup ds], .tup [o, .str "", r, w, ts, .tup ds], .tup [o, .str "sevenab", r, w, ts, .tup []]], .lst [.tup [o, tp, .int 10, w, ts, .tup ds], .tup [o, tp, .bl true, w, ts, .tup ds]], .lst [.tup [.str "A", tp, r, w, ts, .tup ds], .tup [o, .str "", r, w, ts, .tup ds], .tup [o, .str "sevenab", r, w, ts, .tup []], .tup [o, tp, .int 10, w, ts, .tup ds], .tup [o, tp, .bl true, w, ts, .tup ds]], .lst [.tup [o, tp, r, .str "never", ts, .tup ds], .tup [o, tp, r, w, .tup [.str "over"], .tup ds]], .lst [.tup [.str "A", tp, r, w, ts, .tup ds], .tup [o, .str "", r, w, ts, .tup ds], .tup [o, .str "sevenab", r, w, ts, .tup []], .tup [o, tp, .int 10, w, ts, .tup ds], .tup [o, tp, .bl true, w, ts, .tup ds], .tup [o, tp, r, .str "never", ts, .tup ds], .tup [o, tp, r, w, .tup [.str "over"], .tup ds]], .lst [.tup [o, tp, r, w, .tup [.str "any", .int 1], .tup ds], .tup [o, tp, r, w, .tup [.str "over", .int 10000], .tup ds]], .lst [.tup [.str "A", tp, r, w, ts, .tup ds], .tup [o, .str "", r, w, ts, .tup ds], .tup [o, .str "sevenab", r, w, ts, .tup []], .tup [o, tp, .int 10, w, ts, .tup ds], .tup [o, tp, .bl true, w, ts, .tup ds], .tup [o, tp, r, .str "never", ts, .tup ds], .tup [o, tp, r, w, .tup [.str "over"], .tup ds], .tup [o, tp, r, w, .tup [.str "any", .int 1], .tup ds], .tup [o, tp, r, w, .tup [.str "over", .int 10000], .tup ds]], .lst ds, .lst [.tup [o, tp, r, w, ts, .ob 8], .tup [o, tp, r, w, ts, .tup [.tup [.str "stop"], .tup [.str "stop"], .tup [.str "stop"], .tup [.str "stop"]]]], .lst [.tup [.str "A", tp, r, w, ts, .tup ds], .tup [o, .str "", r, w, ts, .tup ds], .tup [o, .str "sevenab", r, w, ts, .tup []], .tup [o, tp, .int 10, w, ts, .tup ds], .tup [o, tp, .bl true, w, ts, .tup ds], .tup [o, tp, r, .str "never", ts, .tup ds], .tup [o, tp, r, w, .tup [.str "over"], .tup ds], .tup [o, tp, r, w, .tup [.str "any", .int 1], .tup ds], .tup [o, tp, r, w, .tup [.str "over", .int 10000], .tup ds], .tup [o, tp, r, w, ts, .ob 8], .tup [o, tp, r, w, ts, .tup [.tup [.str "stop"], .tup [.str "stop"], .tup [.str "stop"], .tup [.str "stop"]]], .tup [o, tp, r, w, ts, .tup [.tup [.str "tell", .str "b"]]], .tup [o, tp, r, w, ts, .tup [.tup [.str "tell", .str "b", .int (-1)]]], .tup [o, tp, r, w, ts, .tup [.tup [.str "leave", .int 3]]], .tup [o, tp, r, w, ts, .tup [.tup [.str "stop", .int 1]]], .tup [o, tp, r, w, ts, .tup [.tup [.str "go"]]], .tup [o, tp, r, w, ts, .tup [.tup [.str "join", .tup [.str "x", .str "y", .int 0, w, ts]]]], .tup [.str "x", .str "y", .int 0, .str "once", .tup [.str "any"], .tup [.tup [.str "join", .tup [.str "x", .str "y", .int 0, .str "once", .tup [.str "any"], .tup [.tup [.str "join", .tup [.str "x", .str "y", .int 0, .str "once", .tup [.str "any"], .tup [.tup [.str "join", .tup [.str "x", .str "y", .int 0, .str "once", .tup [.str "any"], .tup []]]]]]]]]]]], .lst [.tup [.str "tell", .str "b"], .tup [.str "tell", .str "b", .int (-1)], .tup [.str "leave", .int 3], .tup [.str "stop", .int 1], .tup [.str "go"], .tup [.str "join", .tup [.str "x", .str "y", .int 0, w, ts]]]] = .nx [some (.ob 0), some (.tup [o, tp, r, w, ts, .tup ds]), some (.ob 10), some (.tup [.str "x", .str "y", .int 0, w, ts]), some (.tup [.str "join", .tup [.str "x", .str "y", .int 0, w, ts]]), some (.tup [.str "x", .str "y", .int 0, .str "once", .tup [.str "any"], .tup []]), some (.tup [.str "x", .str "y", .int 0, .str "once", .tup [.str "any"], .tup [.tup [.str "join", .tup [.str "x", .str "y", .int 0, .str "once", .tup [.str "any"], .tup [.tup [.str "join", .tup [.str "x", .str "y", .int 0, .str "once", .tup [.str "any"], .tup [.tup [.str "join", .tup [.str "x", .str "y", .int 0, .str "once", .tup [.str "any"], .tup []]]]]]]]]]]), some (.int 2), some (if cellOf ns 2 % 3 = 0 then .tup [.str "x", .str "y", .int 0, .str "once", .tup [.str "any"], .tup [.tup [.str "join", b]]] else b), none, none, some (o), some (tp), some (r), some (w), some (ts), some (.tup ds)] [e, .lst [.tup [.str "A", tp, r, w, ts, .tup ds], .tup [o, .str "", r, w, ts, .tup ds], .tup [o, .str "sevenab", r, w, ts, .tup []]], .lst [.tup [o, tp, .int 10, w, ts, .tup ds], .tup [o, tp, .bl true, w, ts, .tup ds]], .lst [.tup [.str "A", tp, r, w, ts, .tup ds], .tup [o, .str "", r, w, ts, .tup ds], .tup [o, .str "sevenab", r, w, ts, .tup []], .tup [o, tp, .int 10, w, ts, .tup ds], .tup [o, tp, .bl true, w, ts, .tup ds]], .lst [.tup [o, tp, r, .str "never", ts, .tup ds], .tup [o, tp, r, w, .tup [.str "over"], .tup ds]], .lst [.tup [.str "A", tp, r, w, ts, .tup ds], .tup [o, .str "", r, w, ts, .tup ds], .tup [o, .str "sevenab", r, w, ts, .tup []], .tup [o, tp, .int 10, w, ts, .tup ds], .tup [o, tp, .bl true, w, ts, .tup ds], .tup [o, tp, r, .str "never", ts, .tup ds], .tup [o, tp, r, w, .tup [.str "over"], .tup ds]], .lst [.tup [o, tp, r, w, .tup [.str "any", .int 1], .tup ds], .tup [o, tp, r, w, .tup [.str "over", .int 10000], .tup ds]], .lst [.tup [.str "A", tp, r, w, ts, .tup ds], .tup [o, .str "", r, w, ts, .tup ds], .tup [o, .str "sevenab", r, w, ts, .tup []], .tup [o, tp, .int 10, w, ts, .tup ds], .tup [o, tp, .bl true, w, ts, .tup ds], .tup [o, tp, r, .str "never", ts, .tup ds], .tup [o, tp, r, w, .tup [.str "over"], .tup ds], .tup [o, tp, r, w, .tup [.str "any", .int 1], .tup ds], .tup [o, tp, r, w, .tup [.str "over", .int 10000], .tup ds]], .lst ds, .lst [.tup [o, tp, r, w, ts, .ob 8], .tup [o, tp, r, w, ts, .tup [.tup [.str "stop"], .tup [.str "stop"], .tup [.str "stop"], .tup [.str "stop"]]]], .lst [.tup [.str "A", tp, r, w, ts, .tup ds], .tup [o, .str "", r, w, ts, .tup ds], .tup [o, .str "sevenab", r, w, ts, .tup []], .tup [o, tp, .int 10, w, ts, .tup ds], .tup [o, tp, .bl true, w, ts, .tup ds], .tup [o, tp, r, .str "never", ts, .tup ds], .tup [o, tp, r, w, .tup [.str "over"], .tup ds], .tup [o, tp, r, w, .tup [.str "any", .int 1], .tup ds], .tup [o, tp, r, w, .tup [.str "over", .int 10000], .tup ds], .tup [o, tp, r, w, ts, .ob 8], .tup [o, tp, r, w, ts, .tup [.tup [.str "stop"], .tup [.str "stop"], .tup [.str "stop"], .tup [.str "stop"]]], .tup [o, tp, r, w, ts, .tup [.tup [.str "tell", .str "b"]]], .tup [o, tp, r, w, ts, .tup [.tup [.str "tell", .str "b", .int (-1)]]], .tup [o, tp, r, w, ts, .tup [.tup [.str "leave", .int 3]]], .tup [o, tp, r, w, ts, .tup [.tup [.str "stop", .int 1]]], .tup [o, tp, r, w, ts, .tup [.tup [.str "go"]]], .tup [o, tp, r, w, ts, .tup [.tup [.str "join", .tup [.str "x", .str "y", .int 0, w, ts]]]], .tup [.str "x", .str "y", .int 0, .str "once", .tup [.str "any"], .tup [.tup [.str "join", .tup [.str "x", .str "y", .int 0, .str "once", .tup [.str "any"], .tup [.tup [.str "join", .tup [.str "x", .str "y", .int 0, .str "once", .tup [.str "any"], .tup [.tup [.str "join", .tup [.str "x", .str "y", .int 0, .str "once", .tup [.str "any"], .tup []]]]]]]]]]]], .lst [.tup [.str "tell", .str "b"], .tup [.str "tell", .str "b", .int (-1)], .tup [.str "leave", .int 3], .tup [.str "stop", .int 1], .tup [.str "go"], .tup [.str "join", .tup [.str "x", .str "y", .int 0, w, ts]]]] := by
  have hc : ∀ S : Sto, F__law_cell K [.ob 0, .int 2] (e :: S) = .ok (.int (cellOf ns 2)) (e :: S) := fun S => F__law_cell_at he (by decide)
  have m : ∀ a S, vMod (.int a) (.int 3) S = .ok (.int (a % 3)) S := fun a S => vMod_pos _ _ _ (by decide)
  by_cases h : cellOf ns 2 % 3 = 0
  · simp only [q_law_16, gVar, gC, gOp, gUn, gAnd, gOr, gNot, gIf, gNil, gCons, gTup, gLst, gCB, gChain, gSet, gExpr, gRet, gRetN, gPass, gBrk, gCt, gRaise, gIfS, gSeq, nName, nTup, setAll, gAsg, gCall, gTru, gNotT, gIsi, RE.bind_ok, RE.bind_exc, RE.bind_stuck, RE.bindA_ok, RE.bindS_ok, RE.bindS_exc, RE.bindT_ok, RE.bindTS_ok, RA.bind_ok, RA.bindA_ok, RE.nox_ok, RS.seq_nx, RS.seq_ret, RS.seq_exc, RS.seq_brk, RS.seq_ct, RS.seq_stuck, RE.bindA_exc, RE.bindA_stuck, RE.bindS_stuck, RE.bindT_exc, RE.bindT_stuck, RE.bindTS_exc, RE.bindTS_stuck, RA.bind_exc, RA.bind_stuck, RA.bindA_exc, RA.bindA_stuck, RE.nox_stuck, bind_ite, bindA_ite, bindS_ite, bindT_ite, bindTS_ite, nox_ite, seq_ite, startR, tyA_non, tyA_bl, tyA_int, tyA_str, tyA_tup, List.map_cons, List.map_nil, List.length_cons, List.length_nil, List.cons_append, List.nil_append, List.append_nil, List.getElem?_cons_zero, List.getElem?_cons_succ, List.set_cons_zero, List.set_cons_succ, vIx_t0, vIx_t1, vIx_t2, vIx_t3, vIx_t4, vIx_t5, vEq_ss, vEq_ii, vEq_bb, vNe_ss, vNe_ii, vNe_bb, vLen_tup, truA_tup, truA_bl, vLe_ii, vLt_ii, vGt_ii, vGe_ii, vSub_ii, vAdd_ii, vAddI_ii, vNeg_i, isT_ss, isT_tt, isT_ii, isT_bi, isT_bb, isT_ib, hc, m, h, decide_true, ↓reduceIte, Nat.reduceAdd, Nat.reduceLeDiff]
  · simp only [q_law_16, gVar, gC, gOp, gUn, gAnd, gOr, gNot, gIf, gNil, gCons, gTup, gLst, gCB, gChain, gSet, gExpr, gRet, gRetN, gPass, gBrk, gCt, gRaise, gIfS, gSeq, nName, nTup, setAll, gAsg, gCall, gTru, gNotT, gIsi, RE.bind_ok, RE.bind_exc, RE.bind_stuck, RE.bindA_ok, RE.bindS_ok, RE.bindS_exc, RE.bindT_ok, RE.bindTS_ok, RA.bind_ok, RA.bindA_ok, RE.nox_ok, RS.seq_nx, RS.seq_ret, RS.seq_exc, RS.seq_brk, RS.seq_ct, RS.seq_stuck, RE.bindA_exc, RE.bindA_stuck, RE.bindS_stuck, RE.bindT_exc, RE.bindT_stuck, RE.bindTS_exc, RE.bindTS_stuck, RA.bind_exc, RA.bind_stuck, RA.bindA_exc, RA.bindA_stuck, RE.nox_stuck, bind_ite, bindA_ite, bindS_ite, bindT_ite, bindTS_ite, nox_ite, seq_ite, startR, tyA_non, tyA_bl, tyA_int, tyA_str, tyA_tup, List.map_cons, List.map_nil, List.length_cons, List.length_nil, List.cons_append, List.nil_append, List.append_nil, List.getElem?_cons_zero, List.getElem?_cons_succ, List.set_cons_zero, List.set_cons_succ, vIx_t0, vIx_t1, vIx_t2, vIx_t3, vIx_t4, vIx_t5, vEq_ss, vEq_ii, vEq_bb, vNe_ss, vNe_ii, vNe_bb, vLen_tup, truA_tup, truA_bl, vLe_ii, vLt_ii, vGt_ii, vGe_ii, vSub_ii, vAdd_ii, vAddI_ii, vNeg_i, isT_ss, isT_tt, isT_ii, isT_bi, isT_bb, isT_ib, hc, m, h, decide_false, Bool.false_eq_true, ↓reduceIte, Nat.reduceAdd, Nat.reduceLeDiff]
theorem s_17 {b : A} : q_law_17 K [some (.ob 0), some (.tup [o, tp, r, w, ts, .tup ds]), some (.ob 10), some (.tup [.str "x", .str "y", .int 0, w, ts]), some (.tup [.str "join", .tup [.str "x", .str "y", .int 0, w, ts]]), some (.tup [.str "x", .str "y", .int 0, .str "once", .tup [.str "any"], .tup []]), some (.tup [.str "x", .str "y", .int 0, .str "once", .tup [.str "any"], .tup [.tup [.str "join", .tup [.str "x", .str "y", .int 0, .str "once", .tup [.str "any"], .tup [.tup [.str "join", .tup [.str "x", .str "y", .int 0, .str "once", .tup [.str "any"], .tup [.tup [.str "join", .tup [.str "x", .str "y", .int 0, .str "once", .tup [.str "any"], .tup []]]]]]]]]]]), some (.int 2), some (b), none, none, some (o), some (tp), some (r), some (w), some (ts), some (.tup ds)] [e, .lst [.tup [.str "A", tp, r, w, ts, .tup ds], .tup [o, .str "", r, w, ts, .tup ds], .tup [o, .str "sevenab", r, w, ts, .tup []]], .lst [.tup [o, tp, .int 10, w, ts, .tup ds], .tup [o, tp, .bl true, w, ts, .tup ds]], .lst [.tup [.str "A", tp, r, w, ts, .tup ds], .tup [o, .str "", r, w, ts, .tup ds], .tup [o, .str "sevenab", r, w, ts, .tup []], .tup [o, tp, .int 10, w, ts, .tup ds], .tup [o, tp, .bl true, w, ts, .tup ds]], .lst [.tup [o, tp, r, .str "never", ts, .tup ds], .tup [o, tp, r, w, .tup [.str "over"], .tup ds]], .lst [.tup [.str "A", tp, r, w, ts, .tup ds], .tup [o, .str "", r, w, ts, .tup ds], .tup [o, .str "sevenab", r, w, ts, .tup []], .tup [o, tp, .int 10, w, ts, .tup ds], .tup [o, tp, .bl true, w, ts, .tup ds], .tup [o, tp, r, .str "never", ts, .tup ds], .tup [o, tp, r, w, .tup [.str "over"], .tup ds]], .lst [.tup [o, tp, r, w, .tup [.str "any", .int 1], .tup ds], .tup [o, tp, r, w, .tup [.str "over", .int 10000], .tup ds]], .lst [.tup [.str "A", tp, r, w, ts, .tup ds], .tup [o, .str "", r, w, ts, .tup ds], .tup [o, .str "sevenab", r, w, ts, .tup []], .tup [o, tp, .int 10, w, ts, .tup ds], .tup [o, tp, .bl true, w, ts, .tup ds], .tup [o, tp, r, .str "never", ts, .tup ds], .tup [o, tp, r, w, .tup [.str "over"], .tup ds], .tup [o, tp, r, w, .tup [.str "any", .int 1], .tup ds], .tup [o, tp, r, w, .tup [.str "over", .int 10000], .tup ds]], .lst ds, .lst [.tup [o, tp, r, w, ts, .ob 8], .tup [o, tp, r, w, ts, .tup [.tup [.str "stop"], .tup [.str "stop"], .tup [.str "stop"], .tup [.str "stop"]]]], .lst [.tup [.str "A", tp, r, w, ts, .tup ds], .tup [o, .str "", r, w, ts, .tup ds], .tup [o, .str "sevenab", r, w, ts, .tup []], .tup [o, tp, .int 10, w, ts, .tup ds], .tup [o, tp, .bl true, w, ts, .tup ds], .tup [o, tp, r, .str "never", ts, .tup ds], .tup [o, tp, r, w, .tup [.str "over"], .tup ds], .tup [o, tp, r, w, .tup [.str "any", .int 1], .tup ds], .tup [o, tp, r, w, .tup [.str "over", .int 10000], .tup ds], .tup [o, tp, r, w, ts, .ob 8], .tup [o, tp, r, w, ts, .tup [.tup [.str "stop"], .tup [.str "stop"], .tup [.str "stop"], .tup [.str "stop"]]], .tup [o, tp, r, w, ts, .tup [.tup [.str "tell", .str "b"]]], .tup [o, tp, r, w, ts, .tup [.tup [.str "tell", .str "b", .int (-1)]]], .tup [o, tp, r, w, ts, .tup [.tup [.str "leave", .int 3]]], .tup [o, tp, r, w, ts, .tup [.tup [.str "stop", .int 1]]], .tup [o, tp, r, w, ts, .tup [.tup [.str "go"]]], .tup [o, tp, r, w, ts, .tup [.tup [.str "join", .tup [.str "x", .str "y", .int 0, w, ts]]]], .tup [.str "x", .str "y", .int 0, .str "once", .tup [.str "any"], .tup [.tup [.str "join", .tup [.str "x", .str "y", .int 0, .str "once", .tup [.str "any"], .tup [.tup [.str "join", .tup [.str "x", .str "y", .int 0, .str "once", .tup [.str "any"], .tup [.tup [.str "join", .tup [.str "x", .str "y", .int 0, .str "once", .tup [.str "any"], .tup []]]]]]]]]]]], .lst [.tup [.str "tell", .str "b"], .tup [.str "tell", .str "b", .int (-1)], .tup [.str "leave", .int 3], .tup [.str "stop", .int 1], .tup [.str "go"], .tup [.str "join", .tup [.str "x", .str "y", .int 0, w, ts]]]] = .nx [some (.ob 0), some (.tup [o, tp, r, w, ts, .tup ds]), some (.ob 10), some (.tup [.str "x", .str "y", .int 0, w, ts]), some (.tup [.str "join", .tup [.str "x", .str "y", .int 0, w, ts]]), some (.tup [.str "x", .str "y", .int 0, .str "once", .tup [.str "any"], .tup []]), some (.tup [.str "x", .str "y", .int 0, .str "once", .tup [.str "any"], .tup [.tup [.str "join", .tup [.str "x", .str "y", .int 0, .str "once", .tup [.str "any"], .tup [.tup [.str "join", .tup [.str "x", .str "y", .int 0, .str "once", .tup [.str "any"], .tup [.tup [.str "join", .tup [.str "x", .str "y", .int 0, .str "once", .tup [.str "any"], .tup []]]]]]]]]]]), some (.int 2), some (b), some (.int 0), none, some (o), some (tp), some (r), some (w), some (ts), some (.tup ds)] [e, .lst [.tup [.str "A", tp, r, w, ts, .tup ds], .tup [o, .str "", r, w, ts, .tup ds], .tup [o, .str "sevenab", r, w, ts, .tup []]], .lst [.tup [o, tp, .int 10, w, ts, .tup ds], .tup [o, tp, .bl true, w, ts, .tup ds]], .lst [.tup [.str "A", tp, r, w, ts, .tup ds], .tup [o, .str "", r, w, ts, .tup ds], .tup [o, .str "sevenab", r, w, ts, .tup []], .tup [o, tp, .int 10, w, ts, .tup ds], .tup [o, tp, .bl true, w, ts, .tup ds]], .lst [.tup [o, tp, r, .str "never", ts, .tup ds], .tup [o, tp, r, w, .tup [.str "over"], .tup ds]], .lst [.tup [.str "A", tp, r, w, ts, .tup ds], .tup [o, .str "", r, w, ts, .tup ds], .tup [o, .str "sevenab", r, w, ts, .tup []], .tup [o, tp, .int 10, w, ts, .tup ds], .tup [o, tp, .bl true, w, ts, .tup ds], .tup [o, tp, r, .str "never", ts, .tup ds], .tup [o, tp, r, w, .tup [.str "over"], .tup ds]], .lst [.tup [o, tp, r, w, .tup [.str "any", .int 1], .tup ds], .tup [o, tp, r, w, .tup [.str "over", .int 10000], .tup ds]], .lst [.tup [.str "A", tp, r, w, ts, .tup ds], .tup [o, .str "", r, w, ts, .tup ds], .tup [o, .str "sevenab", r, w, ts, .tup []], .tup [o, tp, .int 10, w, ts, .tup ds], .tup [o, tp, .bl true, w, ts, .tup ds], .tup [o, tp, r, .str "never", ts, .tup ds], .tup [o, tp, r, w, .tup [.str "over"], .tup ds], .tup [o, tp, r, w, .tup [.str "any", .int 1], .tup ds], .tup [o, tp, r, w, .tup [.str "over", .int 10000], .tup ds]], .lst ds, .lst [.tup [o, tp, r, w, ts, .ob 8], .tup [o, tp, r, w, ts, .tup [.tup [.str "stop"], .tup [.str "stop"], .tup [.str "stop"], .tup [.str "stop"]]]], .lst [.tup [.str "A", tp, r, w, ts, .tup ds], .tup [o, .str "", r, w, ts, .tup ds], .tup [o, .str "sevenab", r, w, ts, .tup []], .tup [o, tp, .int 10, w, ts, .tup ds], .tup [o, tp, .bl true, w, ts, .tup ds], .tup [o, tp, r, .str "never", ts, .tup ds], .tup [o, tp, r, w, .tup [.str "over"], .tup ds], .tup [o, tp, r, w, .tup [.str "any", .int 1], .tup ds], .tup [o, tp, r, w, .tup [.str "over", .int 10000], .tup ds], .tup [o, tp, r, w, ts, .ob 8], .tup [o, tp, r, w, ts, .tup [.tup [.str "stop"], .tup [.str "stop"], .tup [.str "stop"], .tup [.str "stop"]]], .tup [o, tp, r, w, ts, .tup [.tup [.str "tell", .str "b"]]], .tup [o, tp, r, w, ts, .tup [.tup [.str "tell", .str "b", .int (-1)]]], .tup [o, tp, r, w, ts, .tup [.tup [.str "leave", .int 3]]], .tup [o, tp, r, w, ts, .tup [.tup [.str "stop", .int 1]]], .tup [o, tp, r, w, ts, .tup [.tup [.str "go"]]], .tup [o, tp, r, w, ts, .tup [.tup [.str "join", .tup [.str "x", .str "y", .int 0, w, ts]]]], .tup [.str "x", .str "y", .int 0, .str "once", .tup [.str "any"], .tup [.tup [.str "join", .tup [.str "x", .str "y", .int 0, .str "once", .tup [.str "any"], .tup [.tup [.str "join", .tup [.str "x", .str "y", .int 0, .str "once", .tup [.str "any"], .tup [.tup [.str "join", .tup [.str "x", .str "y", .int 0, .str "once", .tup [.str "any"], .tup []]]]]]]]]]]], .lst [.tup [.str "tell", .str "b"], .tup [.str "tell", .str "b", .int (-1)], .tup [.str "leave", .int 3], .tup [.str "stop", .int 1], .tup [.str "go"], .tup [.str "join", .tup [.str "x", .str "y", .int 0, w, ts]]]] := by
  simp only [q_law_17, gVar, gC, gOp, gUn, gAnd, gOr, gNot, gIf, gNil, gCons, gTup, gLst, gCB, gChain, gSet, gExpr, gRet, gRetN, gPass, gBrk, gCt, gRaise, gIfS, gSeq, nName, nTup, setAll, gAsg, gCall, gTru, gNotT, gIsi, RE.bind_ok, RE.bind_exc, RE.bind_stuck, RE.bindA_ok, RE.bindS_ok, RE.bindS_exc, RE.bindT_ok, RE.bindTS_ok, RA.bind_ok, RA.bindA_ok, RE.nox_ok, RS.seq_nx, RS.seq_ret, RS.seq_exc, RS.seq_brk, RS.seq_ct, RS.seq_stuck, RE.bindA_exc, RE.bindA_stuck, RE.bindS_stuck, RE.bindT_exc, RE.bindT_stuck, RE.bindTS_exc, RE.bindTS_stuck, RA.bind_exc, RA.bind_stuck, RA.bindA_exc, RA.bindA_stuck, RE.nox_stuck, bind_ite, bindA_ite, bindS_ite, bindT_ite, bindTS_ite, nox_ite, seq_ite, startR, tyA_non, tyA_bl, tyA_int, tyA_str, tyA_tup, List.map_cons, List.map_nil, List.length_cons, List.length_nil, List.cons_append, List.nil_append, List.append_nil, List.getElem?_cons_zero, List.getElem?_cons_succ, List.set_cons_zero, List.set_cons_succ, vIx_t0, vIx_t1, vIx_t2, vIx_t3, vIx_t4, vIx_t5, vEq_ss, vEq_ii, vEq_bb, vNe_ss, vNe_ii, vNe_bb, vLen_tup, truA_tup, truA_bl, vLe_ii, vLt_ii, vGt_ii, vGe_ii, vSub_ii, vAdd_ii, vAddI_ii, vNeg_i, isT_ss, isT_tt, isT_ii, isT_bi, isT_bb, isT_ib]

theorem cut5 {a b c d f g : A} : cutA [a, b, c, d, f, g] none (some 5) = [a, b, c, d, f] := rfl
theorem turn {ρ : Ro} {x : A} {c : Int} {S : Sto} (t : PySem.W.exmOne K (cBadHearer K) (cBadHearer K) = some true) (h10 : ρ[10]? = some (some x)) (h9 : ρ[9]? = some (some (.int c))) (g : good S x = true) (h : isHr 3 x = false) :
    gTry K (gExpr (gCall (F_checked K) (gCons (gVar 10) (gNil)))) [(.ref (He.ga K "BadHearer"), gAug 9 vAddI (gC (.int 1)))] ρ S = .nx (ρ.set 9 (some (.int (c + 1)))) S := by
  simp only [gTry, gVar, gC, gOp, gUn, gAnd, gOr, gNot, gIf, gNil, gCons, gTup, gLst, gCB, gChain, gSet, gExpr, gRet, gRetN, gPass, gBrk, gCt, gRaise, gIfS, gSeq, nName, nTup, setAll, gAsg, gCall, gTru, gNotT, gIsi, RE.bind_ok, RE.bind_exc, RE.bind_stuck, RE.bindA_ok, RE.bindS_ok, RE.bindS_exc, RE.bindT_ok, RE.bindTS_ok, RA.bind_ok, RA.bindA_ok, RE.nox_ok, RS.seq_nx, RS.seq_ret, RS.seq_exc, RS.seq_brk, RS.seq_ct, RS.seq_stuck, RE.bindA_exc, RE.bindA_stuck, RE.bindS_stuck, RE.bindT_exc, RE.bindT_stuck, RE.bindTS_exc, RE.bindTS_stuck, RA.bind_exc, RA.bind_stuck, RA.bindA_exc, RA.bindA_stuck, RE.nox_stuck, bind_ite, bindA_ite, bindS_ite, bindT_ite, bindTS_ite, nox_ite, seq_ite, startR, tyA_non, tyA_bl, tyA_int, tyA_str, tyA_tup, List.map_cons, List.map_nil, List.length_cons, List.length_nil, List.cons_append, List.nil_append, List.append_nil, List.getElem?_cons_zero, List.getElem?_cons_succ, List.set_cons_zero, List.set_cons_succ, vIx_t0, vIx_t1, vIx_t2, vIx_t3, vIx_t4, vIx_t5, vEq_ss, vEq_ii, vEq_bb, vNe_ss, vNe_ii, vNe_bb, vLen_tup, truA_tup, truA_bl, vLe_ii, vLt_ii, vGt_ii, vGe_ii, vSub_ii, vAdd_ii, vAddI_ii, vNeg_i, isT_ss, isT_tt, isT_ii, isT_bi, isT_bb, isT_ib, h10, F_checked, g, h, ↓reduceIte, Bool.false_eq_true, hand, t, gAug, h9]
theorem s_18 {b : A} (t : PySem.W.exmOne K (cBadHearer K) (cBadHearer K) = some true) (he : e.items = some (ns.map A.int)) (hb : isHr 3 b = false) (gb : good [e, .lst [.tup [.str "A", tp, r, w, ts, .tup ds], .tup [o, .str "", r, w, ts, .tup ds], .tup [o, .str "sevenab", r, w, ts, .tup []]], .lst [.tup [o, tp, .int 10, w, ts, .tup ds], .tup [o, tp, .bl true, w, ts, .tup ds]], .lst [.tup [.str "A", tp, r, w, ts, .tup ds], .tup [o, .str "", r, w, ts, .tup ds], .tup [o, .str "sevenab", r, w, ts, .tup []], .tup [o, tp, .int 10, w, ts, .tup ds], .tup [o, tp, .bl true, w, ts, .tup ds]], .lst [.tup [o, tp, r, .str "never", ts, .tup ds], .tup [o, tp, r, w, .tup [.str "over"], .tup ds]], .lst [.tup [.str "A", tp, r, w, ts, .tup ds], .tup [o, .str "", r, w, ts, .tup ds], .tup [o, .str "sevenab", r, w, ts, .tup []], .tup [o, tp, .int 10, w, ts, .tup ds], .tup [o, tp, .bl true, w, ts, .tup ds], .tup [o, tp, r, .str "never", ts, .tup ds], .tup [o, tp, r, w, .tup [.str "over"], .tup ds]], .lst [.tup [o, tp, r, w, .tup [.str "any", .int 1], .tup ds], .tup [o, tp, r, w, .tup [.str "over", .int 10000], .tup ds]], .lst [.tup [.str "A", tp, r, w, ts, .tup ds], .tup [o, .str "", r, w, ts, .tup ds], .tup [o, .str "sevenab", r, w, ts, .tup []], .tup [o, tp, .int 10, w, ts, .tup ds], .tup [o, tp, .bl true, w, ts, .tup ds], .tup [o, tp, r, .str "never", ts, .tup ds], .tup [o, tp, r, w, .tup [.str "over"], .tup ds], .tup [o, tp, r, w, .tup [.str "any", .int 1], .tup ds], .tup [o, tp, r, w, .tup [.str "over", .int 10000], .tup ds]], .lst ds, .lst [.tup [o, tp, r, w, ts, .ob 8], .tup [o, tp, r, w, ts, .tup [.tup [.str "stop"], .tup [.str "stop"], .tup [.str "stop"], .tup [.str "stop"]]]], .lst [.tup [.str "A", tp, r, w, ts, .tup ds], .tup [o, .str "", r, w, ts, .tup ds], .tup [o, .str "sevenab", r, w, ts, .tup []], .tup [o, tp, .int 10, w, ts, .tup ds], .tup [o, tp, .bl true, w, ts, .tup ds], .tup [o, tp, r, .str "never", ts, .tup ds], .tup [o, tp, r, w, .tup [.str "over"], .tup ds], .tup [o, tp, r, w, .tup [.str "any", .int 1], .tup ds], .tup [o, tp, r, w, .tup [.str "over", .int 10000], .tup ds], .tup [o, tp, r, w, ts, .ob 8], .tup [o, tp, r, w, ts, .tup [.tup [.str "stop"], .tup [.str "stop"], .tup [.str "stop"], .tup [.str "stop"]]], .tup [o, tp, r, w, ts, .tup [.tup [.str "tell", .str "b"]]], .tup [o, tp, r, w, ts, .tup [.tup [.str "tell", .str "b", .int (-1)]]], .tup [o, tp, r, w, ts, .tup [.tup [.str "leave", .int 3]]], .tup [o, tp, r, w, ts, .tup [.tup [.str "stop", .int 1]]], .tup [o, tp, r, w, ts, .tup [.tup [.str "go"]]], .tup [o, tp, r, w, ts, .tup [.tup [.str "join", .tup [.str "x", .str "y", .int 0, w, ts]]]], .tup [.str "x", .str "y", .int 0, .str "once", .tup [.str "any"], .tup [.tup [.str "join", .tup [.str "x", .str "y", .int 0, .str "once", .tup [.str "any"], .tup [.tup [.str "join", .tup [.str "x", .str "y", .int 0, .str "once", .tup [.str "any"], .tup [.tup [.str "join", .tup [.str "x", .str "y", .int 0, .str "once", .tup [.str "any"], .tup []]]]]]]]]]]], .lst [.tup [.str "tell", .str "b"], .tup [.str "tell", .str "b", .int (-1)], .tup [.str "leave", .int 3], .tup [.str "stop", .int 1], .tup [.str "go"], .tup [.str "join", .tup [.str "x", .str "y", .int 0, w, ts]]], .lst [o, tp, r, w, ts, .tup ds], .lst [.ob 12, .non, .tup [o, tp, r, w, ts], .tup [o, tp, r, w, ts, .tup ds, .int 0], .str "a"]] b = true) (gh : good [e, .lst [.tup [.str "A", tp, r, w, ts, .tup ds], .tup [o, .str "", r, w, ts, .tup ds], .tup [o, .str "sevenab", r, w, ts, .tup []]], .lst [.tup [o, tp, .int 10, w, ts, .tup ds], .tup [o, tp, .bl true, w, ts, .tup ds]], .lst [.tup [.str "A", tp, r, w, ts, .tup ds], .tup [o, .str "", r, w, ts, .tup ds], .tup [o, .str "sevenab", r, w, ts, .tup []], .tup [o, tp, .int 10, w, ts, .tup ds], .tup [o, tp, .bl true, w, ts, .tup ds]], .lst [.tup [o, tp, r, .str "never", ts, .tup ds], .tup [o, tp, r, w, .tup [.str "over"], .tup ds]], .lst [.tup [.str "A", tp, r, w, ts, .tup ds], .tup [o, .str "", r, w, ts, .tup ds], .tup [o, .str "sevenab", r, w, ts, .tup []], .tup [o, tp, .int 10, w, ts, .tup ds], .tup [o, tp, .bl true, w, ts, .tup ds], .tup [o, tp, r, .str "never", ts, .tup ds], .tup [o, tp, r, w, .tup [.str "over"], .tup ds]], .lst [.tup [o, tp, r, w, .tup [.str "any", .int 1], .tup ds], .tup [o, tp, r, w, .tup [.str "over", .int 10000], .tup ds]], .lst [.tup [.str "A", tp, r, w, ts, .tup ds], .tup [o, .str "", r, w, ts, .tup ds], .tup [o, .str "sevenab", r, w, ts, .tup []], .tup [o, tp, .int 10, w, ts, .tup ds], .tup [o, tp, .bl true, w, ts, .tup ds], .tup [o, tp, r, .str "never", ts, .tup ds], .tup [o, tp, r, w, .tup [.str "over"], .tup ds], .tup [o, tp, r, w, .tup [.str "any", .int 1], .tup ds], .tup [o, tp, r, w, .tup [.str "over", .int 10000], .tup ds]], .lst ds, .lst [.tup [o, tp, r, w, ts, .ob 8], .tup [o, tp, r, w, ts, .tup [.tup [.str "stop"], .tup [.str "stop"], .tup [.str "stop"], .tup [.str "stop"]]]], .lst [.tup [.str "A", tp, r, w, ts, .tup ds], .tup [o, .str "", r, w, ts, .tup ds], .tup [o, .str "sevenab", r, w, ts, .tup []], .tup [o, tp, .int 10, w, ts, .tup ds], .tup [o, tp, .bl true, w, ts, .tup ds], .tup [o, tp, r, .str "never", ts, .tup ds], .tup [o, tp, r, w, .tup [.str "over"], .tup ds], .tup [o, tp, r, w, .tup [.str "any", .int 1], .tup ds], .tup [o, tp, r, w, .tup [.str "over", .int 10000], .tup ds], .tup [o, tp, r, w, ts, .ob 8], .tup [o, tp, r, w, ts, .tup [.tup [.str "stop"], .tup [.str "stop"], .tup [.str "stop"], .tup [.str "stop"]]], .tup [o, tp, r, w, ts, .tup [.tup [.str "tell", .str "b"]]], .tup [o, tp, r, w, ts, .tup [.tup [.str "tell", .str "b", .int (-1)]]], .tup [o, tp, r, w, ts, .tup [.tup [.str "leave", .int 3]]], .tup [o, tp, r, w, ts, .tup [.tup [.str "stop", .int 1]]], .tup [o, tp, r, w, ts, .tup [.tup [.str "go"]]], .tup [o, tp, r, w, ts, .tup [.tup [.str "join", .tup [.str "x", .str "y", .int 0, w, ts]]]], .tup [.str "x", .str "y", .int 0, .str "once", .tup [.str "any"], .tup [.tup [.str "join", .tup [.str "x", .str "y", .int 0, .str "once", .tup [.str "any"], .tup [.tup [.str "join", .tup [.str "x", .str "y", .int 0, .str "once", .tup [.str "any"], .tup [.tup [.str "join", .tup [.str "x", .str "y", .int 0, .str "once", .tup [.str "any"], .tup []]]]]]]]]]]], .lst [.tup [.str "tell", .str "b"], .tup [.str "tell", .str "b", .int (-1)], .tup [.str "leave", .int 3], .tup [.str "stop", .int 1], .tup [.str "go"], .tup [.str "join", .tup [.str "x", .str "y", .int 0, w, ts]]], .lst [o, tp, r, w, ts, .tup ds], .lst [.ob 12, .non, .tup [o, tp, r, w, ts], .tup [o, tp, r, w, ts, .tup ds, .int 0], .str "a"]] (.tup [o, tp, r, w, ts, .tup ds]) = true) : ∃ x, q_law_18 K [some (.ob 0), some (.tup [o, tp, r, w, ts, .tup ds]), some (.ob 10), some (.tup [.str "x", .str "y", .int 0, w, ts]), some (.tup [.str "join", .tup [.str "x", .str "y", .int 0, w, ts]]), some (.tup [.str "x", .str "y", .int 0, .str "once", .tup [.str "any"], .tup []]), some (.tup [.str "x", .str "y", .int 0, .str "once", .tup [.str "any"], .tup [.tup [.str "join", .tup [.str "x", .str "y", .int 0, .str "once", .tup [.str "any"], .tup [.tup [.str "join", .tup [.str "x", .str "y", .int 0, .str "once", .tup [.str "any"], .tup [.tup [.str "join", .tup [.str "x", .str "y", .int 0, .str "once", .tup [.str "any"], .tup []]]]]]]]]]]), some (.int 2), some (b), some (.int 0), none, some (o), some (tp), some (r), some (w), some (ts), some (.tup ds)] [e, .lst [.tup [.str "A", tp, r, w, ts, .tup ds], .tup [o, .str "", r, w, ts, .tup ds], .tup [o, .str "sevenab", r, w, ts, .tup []]], .lst [.tup [o, tp, .int 10, w, ts, .tup ds], .tup [o, tp, .bl true, w, ts, .tup ds]], .lst [.tup [.str "A", tp, r, w, ts, .tup ds], .tup [o, .str "", r, w, ts, .tup ds], .tup [o, .str "sevenab", r, w, ts, .tup []], .tup [o, tp, .int 10, w, ts, .tup ds], .tup [o, tp, .bl true, w, ts, .tup ds]], .lst [.tup [o, tp, r, .str "never", ts, .tup ds], .tup [o, tp, r, w, .tup [.str "over"], .tup ds]], .lst [.tup [.str "A", tp, r, w, ts, .tup ds], .tup [o, .str "", r, w, ts, .tup ds], .tup [o, .str "sevenab", r, w, ts, .tup []], .tup [o, tp, .int 10, w, ts, .tup ds], .tup [o, tp, .bl true, w, ts, .tup ds], .tup [o, tp, r, .str "never", ts, .tup ds], .tup [o, tp, r, w, .tup [.str "over"], .tup ds]], .lst [.tup [o, tp, r, w, .tup [.str "any", .int 1], .tup ds], .tup [o, tp, r, w, .tup [.str "over", .int 10000], .tup ds]], .lst [.tup [.str "A", tp, r, w, ts, .tup ds], .tup [o, .str "", r, w, ts, .tup ds], .tup [o, .str "sevenab", r, w, ts, .tup []], .tup [o, tp, .int 10, w, ts, .tup ds], .tup [o, tp, .bl true, w, ts, .tup ds], .tup [o, tp, r, .str "never", ts, .tup ds], .tup [o, tp, r, w, .tup [.str "over"], .tup ds], .tup [o, tp, r, w, .tup [.str "any", .int 1], .tup ds], .tup [o, tp, r, w, .tup [.str "over", .int 10000], .tup ds]], .lst ds, .lst [.tup [o, tp, r, w, ts, .ob 8], .tup [o, tp, r, w, ts, .tup [.tup [.str "stop"], .tup [.str "stop"], .tup [.str "stop"], .tup [.str "stop"]]]], .lst [.tup [.str "A", tp, r, w, ts, .tup ds], .tup [o, .str "", r, w, ts, .tup ds], .tup [o, .str "sevenab", r, w, ts, .tup []], .tup [o, tp, .int 10, w, ts, .tup ds], .tup [o, tp, .bl true, w, ts, .tup ds], .tup [o, tp, r, .str "never", ts, .tup ds], .tup [o, tp, r, w, .tup [.str "over"], .tup ds], .tup [o, tp, r, w, .tup [.str "any", .int 1], .tup ds], .tup [o, tp, r, w, .tup [.str "over", .int 10000], .tup ds], .tup [o, tp, r, w, ts, .ob 8], .tup [o, tp, r, w, ts, .tup [.tup [.str "stop"], .tup [.str "stop"], .tup [.str "stop"], .tup [.str "stop"]]], .tup [o, tp, r, w, ts, .tup [.tup [.str "tell", .str "b"]]], .tup [o, tp, r, w, ts, .tup [.tup [.str "tell", .str "b", .int (-1)]]], .tup [o, tp, r, w, ts, .tup [.tup [.str "leave", .int 3]]], .tup [o, tp, r, w, ts, .tup [.tup [.str "stop", .int 1]]], .tup [o, tp, r, w, ts, .tup [.tup [.str "go"]]], .tup [o, tp, r, w, ts, .tup [.tup [.str "join", .tup [.str "x", .str "y", .int 0, w, ts]]]], .tup [.str "x", .str "y", .int 0, .str "once", .tup [.str "any"], .tup [.tup [.str "join", .tup [.str "x", .str "y", .int 0, .str "once", .tup [.str "any"], .tup [.tup [.str "join", .tup [.str "x", .str "y", .int 0, .str "once", .tup [.str "any"], .tup [.tup [.str "join", .tup [.str "x", .str "y", .int 0, .str "once", .tup [.str "any"], .tup []]]]]]]]]]]], .lst [.tup [.str "tell", .str "b"], .tup [.str "tell", .str "b", .int (-1)], .tup [.str "leave", .int 3], .tup [.str "stop", .int 1], .tup [.str "go"], .tup [.str "join", .tup [.str "x", .str "y", .int 0, w, ts]]]] = .nx [some (.ob 0), some (.tup [o, tp, r, w, ts, .tup ds]), some (.ob 10), some (.tup [.str "x", .str "y", .int 0, w, ts]), some (.tup [.str "join", .tup [.str "x", .str "y", .int 0, w, ts]]), some (.tup [.str "x", .str "y", .int 0, .str "once", .tup [.str "any"], .tup []]), some (.tup [.str "x", .str "y", .int 0, .str "once", .tup [.str "any"], .tup [.tup [.str "join", .tup [.str "x", .str "y", .int 0, .str "once", .tup [.str "any"], .tup [.tup [.str "join", .tup [.str "x", .str "y", .int 0, .str "once", .tup [.str "any"], .tup [.tup [.str "join", .tup [.str "x", .str "y", .int 0, .str "once", .tup [.str "any"], .tup []]]]]]]]]]]), some (.int 2), some (b), some (.int 2), some (x), some (o), some (tp), some (r), some (w), some (ts), some (.tup ds)] [e, .lst [.tup [.str "A", tp, r, w, ts, .tup ds], .tup [o, .str "", r, w, ts, .tup ds], .tup [o, .str "sevenab", r, w, ts, .tup []]], .lst [.tup [o, tp, .int 10, w, ts, .tup ds], .tup [o, tp, .bl true, w, ts, .tup ds]], .lst [.tup [.str "A", tp, r, w, ts, .tup ds], .tup [o, .str "", r, w, ts, .tup ds], .tup [o, .str "sevenab", r, w, ts, .tup []], .tup [o, tp, .int 10, w, ts, .tup ds], .tup [o, tp, .bl true, w, ts, .tup ds]], .lst [.tup [o, tp, r, .str "never", ts, .tup ds], .tup [o, tp, r, w, .tup [.str "over"], .tup ds]], .lst [.tup [.str "A", tp, r, w, ts, .tup ds], .tup [o, .str "", r, w, ts, .tup ds], .tup [o, .str "sevenab", r, w, ts, .tup []], .tup [o, tp, .int 10, w, ts, .tup ds], .tup [o, tp, .bl true, w, ts, .tup ds], .tup [o, tp, r, .str "never", ts, .tup ds], .tup [o, tp, r, w, .tup [.str "over"], .tup ds]], .lst [.tup [o, tp, r, w, .tup [.str "any", .int 1], .tup ds], .tup [o, tp, r, w, .tup [.str "over", .int 10000], .tup ds]], .lst [.tup [.str "A", tp, r, w, ts, .tup ds], .tup [o, .str "", r, w, ts, .tup ds], .tup [o, .str "sevenab", r, w, ts, .tup []], .tup [o, tp, .int 10, w, ts, .tup ds], .tup [o, tp, .bl true, w, ts, .tup ds], .tup [o, tp, r, .str "never", ts, .tup ds], .tup [o, tp, r, w, .tup [.str "over"], .tup ds], .tup [o, tp, r, w, .tup [.str "any", .int 1], .tup ds], .tup [o, tp, r, w, .tup [.str "over", .int 10000], .tup ds]], .lst ds, .lst [.tup [o, tp, r, w, ts, .ob 8], .tup [o, tp, r, w, ts, .tup [.tup [.str "stop"], .tup [.str "stop"], .tup [.str "stop"], .tup [.str "stop"]]]], .lst [.tup [.str "A", tp, r, w, ts, .tup ds], .tup [o, .str "", r, w, ts, .tup ds], .tup [o, .str "sevenab", r, w, ts, .tup []], .tup [o, tp, .int 10, w, ts, .tup ds], .tup [o, tp, .bl true, w, ts, .tup ds], .tup [o, tp, r, .str "never", ts, .tup ds], .tup [o, tp, r, w, .tup [.str "over"], .tup ds], .tup [o, tp, r, w, .tup [.str "any", .int 1], .tup ds], .tup [o, tp, r, w, .tup [.str "over", .int 10000], .tup ds], .tup [o, tp, r, w, ts, .ob 8], .tup [o, tp, r, w, ts, .tup [.tup [.str "stop"], .tup [.str "stop"], .tup [.str "stop"], .tup [.str "stop"]]], .tup [o, tp, r, w, ts, .tup [.tup [.str "tell", .str "b"]]], .tup [o, tp, r, w, ts, .tup [.tup [.str "tell", .str "b", .int (-1)]]], .tup [o, tp, r, w, ts, .tup [.tup [.str "leave", .int 3]]], .tup [o, tp, r, w, ts, .tup [.tup [.str "stop", .int 1]]], .tup [o, tp, r, w, ts, .tup [.tup [.str "go"]]], .tup [o, tp, r, w, ts, .tup [.tup [.str "join", .tup [.str "x", .str "y", .int 0, w, ts]]]], .tup [.str "x", .str "y", .int 0, .str "once", .tup [.str "any"], .tup [.tup [.str "join", .tup [.str "x", .str "y", .int 0, .str "once", .tup [.str "any"], .tup [.tup [.str "join", .tup [.str "x", .str "y", .int 0, .str "once", .tup [.str "any"], .tup [.tup [.str "join", .tup [.str "x", .str "y", .int 0, .str "once", .tup [.str "any"], .tup []]]]]]]]]]]], .lst [.tup [.str "tell", .str "b"], .tup [.str "tell", .str "b", .int (-1)], .tup [.str "leave", .int 3], .tup [.str "stop", .int 1], .tup [.str "go"], .tup [.str "join", .tup [.str "x", .str "y", .int 0, w, ts]]], .lst [o, tp, r, w, ts, .tup ds], .lst [.ob 12, .non, .tup [o, tp, r, w, ts], .tup [o, tp, r, w, ts, .tup ds, .int 0], .str "a"]] := by
  have hc : ∀ S : Sto, F__law_cell K [.ob 0, .int 3] (e :: S) = .ok (.int (cellOf ns 3)) (e :: S) := fun S => F__law_cell_at he (by decide)
  have m : ∀ a S, vMod (.int a) (.int 5) S = .ok (.int (a % 5)) S := fun a S => vMod_pos _ _ _ (by decide)
  obtain ⟨k1, k2⟩ := emod_lt' (a := cellOf ns 3) (b := 5) (by decide)
  have k3 : (cellOf ns 3 % 5).toNat < 5 := by omega
  have ea : L2.atI ([.ob 12, .non, .tup [o, tp, r, w, ts], .tup [o, tp, r, w, ts, .tup ds, .int 0], .str "a"] : List A) (cellOf ns 3 % 5) = some (([.ob 12, .non, .tup [o, tp, r, w, ts], .tup [o, tp, r, w, ts, .tup ds, .int 0], .str "a"] : List A).getD (cellOf ns 3 % 5).toNat .non) := atI_getD A.non k1 (by simpa using k2)
  generalize hx : ([.ob 12, .non, .tup [o, tp, r, w, ts], .tup [o, tp, r, w, ts, .tup ds, .int 0], .str "a"] : List A).getD (cellOf ns 3 % 5).toNat .non = x at ea
  have h3 : isHr 3 x = false := by
    subst hx
    generalize (cellOf ns 3 % 5).toNat = k at k3
    match k, k3 with
    | 0, _ => rfl
    | 1, _ => rfl
    | 2, _ => rfl
    | 3, _ => rfl
    | 4, _ => rfl
  have gx : good [e, .lst [.tup [.str "A", tp, r, w, ts, .tup ds], .tup [o, .str "", r, w, ts, .tup ds], .tup [o, .str "sevenab", r, w, ts, .tup []]], .lst [.tup [o, tp, .int 10, w, ts, .tup ds], .tup [o, tp, .bl true, w, ts, .tup ds]], .lst [.tup [.str "A", tp, r, w, ts, .tup ds], .tup [o, .str "", r, w, ts, .tup ds], .tup [o, .str "sevenab", r, w, ts, .tup []], .tup [o, tp, .int 10, w, ts, .tup ds], .tup [o, tp, .bl true, w, ts, .tup ds]], .lst [.tup [o, tp, r, .str "never", ts, .tup ds], .tup [o, tp, r, w, .tup [.str "over"], .tup ds]], .lst [.tup [.str "A", tp, r, w, ts, .tup ds], .tup [o, .str "", r, w, ts, .tup ds], .tup [o, .str "sevenab", r, w, ts, .tup []], .tup [o, tp, .int 10, w, ts, .tup ds], .tup [o, tp, .bl true, w, ts, .tup ds], .tup [o, tp, r, .str "never", ts, .tup ds], .tup [o, tp, r, w, .tup [.str "over"], .tup ds]], .lst [.tup [o, tp, r, w, .tup [.str "any", .int 1], .tup ds], .tup [o, tp, r, w, .tup [.str "over", .int 10000], .tup ds]], .lst [.tup [.str "A", tp, r, w, ts, .tup ds], .tup [o, .str "", r, w, ts, .tup ds], .tup [o, .str "sevenab", r, w, ts, .tup []], .tup [o, tp, .int 10, w, ts, .tup ds], .tup [o, tp, .bl true, w, ts, .tup ds], .tup [o, tp, r, .str "never", ts, .tup ds], .tup [o, tp, r, w, .tup [.str "over"], .tup ds], .tup [o, tp, r, w, .tup [.str "any", .int 1], .tup ds], .tup [o, tp, r, w, .tup [.str "over", .int 10000], .tup ds]], .lst ds, .lst [.tup [o, tp, r, w, ts, .ob 8], .tup [o, tp, r, w, ts, .tup [.tup [.str "stop"], .tup [.str "stop"], .tup [.str "stop"], .tup [.str "stop"]]]], .lst [.tup [.str "A", tp, r, w, ts, .tup ds], .tup [o, .str "", r, w, ts, .tup ds], .tup [o, .str "sevenab", r, w, ts, .tup []], .tup [o, tp, .int 10, w, ts, .tup ds], .tup [o, tp, .bl true, w, ts, .tup ds], .tup [o, tp, r, .str "never", ts, .tup ds], .tup [o, tp, r, w, .tup [.str "over"], .tup ds], .tup [o, tp, r, w, .tup [.str "any", .int 1], .tup ds], .tup [o, tp, r, w, .tup [.str "over", .int 10000], .tup ds], .tup [o, tp, r, w, ts, .ob 8], .tup [o, tp, r, w, ts, .tup [.tup [.str "stop"], .tup [.str "stop"], .tup [.str "stop"], .tup [.str "stop"]]], .tup [o, tp, r, w, ts, .tup [.tup [.str "tell", .str "b"]]], .tup [o, tp, r, w, ts, .tup [.tup [.str "tell", .str "b", .int (-1)]]], .tup [o, tp, r, w, ts, .tup [.tup [.str "leave", .int 3]]], .tup [o, tp, r, w, ts, .tup [.tup [.str "stop", .int 1]]], .tup [o, tp, r, w, ts, .tup [.tup [.str "go"]]], .tup [o, tp, r, w, ts, .tup [.tup [.str "join", .tup [.str "x", .str "y", .int 0, w, ts]]]], .tup [.str "x", .str "y", .int 0, .str "once", .tup [.str "any"], .tup [.tup [.str "join", .tup [.str "x", .str "y", .int 0, .str "once", .tup [.str "any"], .tup [.tup [.str "join", .tup [.str "x", .str "y", .int 0, .str "once", .tup [.str "any"], .tup [.tup [.str "join", .tup [.str "x", .str "y", .int 0, .str "once", .tup [.str "any"], .tup []]]]]]]]]]]], .lst [.tup [.str "tell", .str "b"], .tup [.str "tell", .str "b", .int (-1)], .tup [.str "leave", .int 3], .tup [.str "stop", .int 1], .tup [.str "go"], .tup [.str "join", .tup [.str "x", .str "y", .int 0, w, ts]]], .lst [o, tp, r, w, ts, .tup ds], .lst [.ob 12, .non, .tup [o, tp, r, w, ts], .tup [o, tp, r, w, ts, .tup ds, .int 0], .str "a"]] x = true := by
    subst hx
    rw [good_tup] at gh
    generalize (cellOf ns 3 % 5).toNat = k at k3
    match k, k3 with
    | 0, _ => simp [good, kn, tyA]
    | 1, _ => simp [good]
    | 2, _ => exact good_tup.mpr fun y hy => gh y (by simp at hy ⊢; rcases hy with h | h | h | h | h <;> simp [h])
    | 3, _ =>
      exact good_tup.mpr fun y hy => by
        simp only [List.mem_cons, List.not_mem_nil, or_false] at hy
        rcases hy with h | h | h | h | h | h | h
        · exact gh y (by simp [h])
        · exact gh y (by simp [h])
        · exact gh y (by simp [h])
        · exact gh y (by simp [h])
        · exact gh y (by simp [h])
        · exact gh y (by simp [h])
        · subst h; simp [good]
    | 4, _ =>
      show good _ (.str "a") = true
      simp only [good]
      decide +kernel
  refine ⟨x, ?_⟩
  simp only [q_law_18, gFor, gIT, gVar, gC, gOp, gUn, gAnd, gOr, gNot, gIf, gNil, gCons, gTup, gLst, gCB, gChain, gSet, gExpr, gRet, gRetN, gPass, gBrk, gCt, gRaise, gIfS, gSeq, nName, nTup, setAll, gAsg, gCall, gTru, gNotT, gIsi, RE.bind_ok, RE.bind_exc, RE.bind_stuck, RE.bindA_ok, RE.bindS_ok, RE.bindS_exc, RE.bindT_ok, RE.bindTS_ok, RA.bind_ok, RA.bindA_ok, RE.nox_ok, RS.seq_nx, RS.seq_ret, RS.seq_exc, RS.seq_brk, RS.seq_ct, RS.seq_stuck, RE.bindA_exc, RE.bindA_stuck, RE.bindS_stuck, RE.bindT_exc, RE.bindT_stuck, RE.bindTS_exc, RE.bindTS_stuck, RA.bind_exc, RA.bind_stuck, RA.bindA_exc, RA.bindA_stuck, RE.nox_stuck, bind_ite, bindA_ite, bindS_ite, bindT_ite, bindTS_ite, nox_ite, seq_ite, startR, tyA_non, tyA_bl, tyA_int, tyA_str, tyA_tup, List.map_cons, List.map_nil, List.length_cons, List.length_nil, List.cons_append, List.nil_append, List.append_nil, List.getElem?_cons_zero, List.getElem?_cons_succ, List.set_cons_zero, List.set_cons_succ, vIx_t0, vIx_t1, vIx_t2, vIx_t3, vIx_t4, vIx_t5, vEq_ss, vEq_ii, vEq_bb, vNe_ss, vNe_ii, vNe_bb, vLen_tup, truA_tup, truA_bl, vLe_ii, vLt_ii, vGt_ii, vGe_ii, vSub_ii, vAdd_ii, vAddI_ii, vNeg_i, isT_ss, isT_tt, isT_ii, isT_bi, isT_bb, isT_ib, Nat.reduceAdd, Nat.reduceLeDiff, ↓reduceIte, vList, seqOf, gSlice, pNone, pSome, partOf, vCut, cut5, vAdd, hc, m, vIx_obE, itemsAt_c0, itemsAt_cs, items_lst, ea, forGo]
  rw [turn (x := b) (c := 0) t rfl rfl gb hb]
  simp only [gVar, gC, gOp, gUn, gAnd, gOr, gNot, gIf, gNil, gCons, gTup, gLst, gCB, gChain, gSet, gExpr, gRet, gRetN, gPass, gBrk, gCt, gRaise, gIfS, gSeq, nName, nTup, setAll, gAsg, gCall, gTru, gNotT, gIsi, RE.bind_ok, RE.bind_exc, RE.bind_stuck, RE.bindA_ok, RE.bindS_ok, RE.bindS_exc, RE.bindT_ok, RE.bindTS_ok, RA.bind_ok, RA.bindA_ok, RE.nox_ok, RS.seq_nx, RS.seq_ret, RS.seq_exc, RS.seq_brk, RS.seq_ct, RS.seq_stuck, RE.bindA_exc, RE.bindA_stuck, RE.bindS_stuck, RE.bindT_exc, RE.bindT_stuck, RE.bindTS_exc, RE.bindTS_stuck, RA.bind_exc, RA.bind_stuck, RA.bindA_exc, RA.bindA_stuck, RE.nox_stuck, bind_ite, bindA_ite, bindS_ite, bindT_ite, bindTS_ite, nox_ite, seq_ite, startR, tyA_non, tyA_bl, tyA_int, tyA_str, tyA_tup, List.map_cons, List.map_nil, List.length_cons, List.length_nil, List.cons_append, List.nil_append, List.append_nil, List.getElem?_cons_zero, List.getElem?_cons_succ, List.set_cons_zero, List.set_cons_succ, vIx_t0, vIx_t1, vIx_t2, vIx_t3, vIx_t4, vIx_t5, vEq_ss, vEq_ii, vEq_bb, vNe_ss, vNe_ii, vNe_bb, vLen_tup, truA_tup, truA_bl, vLe_ii, vLt_ii, vGt_ii, vGe_ii, vSub_ii, vAdd_ii, vAddI_ii, vNeg_i, isT_ss, isT_tt, isT_ii, isT_bi, isT_bb, isT_ib]
  rw [turn (x := x) (c := 0 + 1) t rfl rfl gx h3]
  rfl

theorem law_true {mg : Str → Option Value} (t : Hd.Tx K mg) (he : e.items = some (ns.map A.int)) : ∃ E, q_law K (startR N_law.length [.ob 0]) [e] = .ret (.bl true) ([e] ++ E) := by
  have e0 : startR N_law.length [.ob 0] = [some (.ob 0), none, none, none, none, none, none, none, none, none, none, none, none, none, none, none, none] := rfl
  obtain ⟨a0, eq, hh⟩ := hr_made 2 (seedOf (cellOf ns 0) 0)
  obtain ⟨o, tp, r, w, ts, ds, eq2, h1, h2, h3, h4, h5, h6, h7⟩ := isHr_cases hh
  subst eq2
  have s0 : q_law_0 K [some (.ob 0), none, none, none, none, none, none, none, none, none, none, none, none, none, none, none, none] [e] = .nx [some (.ob 0), some (.tup [o, tp, r, w, ts, .tup ds]), none, none, none, none, none, none, none, none, none, none, none, none, none, none, none] [e] := by
    have hc : ∀ S : Sto, F__law_cell K [.ob 0, .int 0] (e :: S) = .ok (.int (cellOf ns 0)) (e :: S) := fun S => F__law_cell_at he (by decide)
    have hw : ∀ a S, F__law_hearer 3 K [.int a, .int 3] S = .ok (hrG 3 a) S := fun a S => law_hearer_at (by decide) (by decide)
    simp only [q_law_0, gVar, gC, gOp, gUn, gAnd, gOr, gNot, gIf, gNil, gCons, gTup, gLst, gCB, gChain, gSet, gExpr, gRet, gRetN, gPass, gBrk, gCt, gRaise, gIfS, gSeq, nName, nTup, setAll, gAsg, gCall, gTru, gNotT, gIsi, RE.bind_ok, RE.bind_exc, RE.bind_stuck, RE.bindA_ok, RE.bindS_ok, RE.bindS_exc, RE.bindT_ok, RE.bindTS_ok, RA.bind_ok, RA.bindA_ok, RE.nox_ok, RS.seq_nx, RS.seq_ret, RS.seq_exc, RS.seq_brk, RS.seq_ct, RS.seq_stuck, RE.bindA_exc, RE.bindA_stuck, RE.bindS_stuck, RE.bindT_exc, RE.bindT_stuck, RE.bindTS_exc, RE.bindTS_stuck, RA.bind_exc, RA.bind_stuck, RA.bindA_exc, RA.bindA_stuck, RE.nox_stuck, bind_ite, bindA_ite, bindS_ite, bindT_ite, bindTS_ite, nox_ite, seq_ite, startR, tyA_non, tyA_bl, tyA_int, tyA_str, tyA_tup, List.map_cons, List.map_nil, List.length_cons, List.length_nil, List.cons_append, List.nil_append, List.append_nil, List.getElem?_cons_zero, List.getElem?_cons_succ, List.set_cons_zero, List.set_cons_succ, vIx_t0, vIx_t1, vIx_t2, vIx_t3, vIx_t4, vIx_t5, vEq_ss, vEq_ii, vEq_bb, vNe_ss, vNe_ii, vNe_bb, vLen_tup, truA_tup, truA_bl, vLe_ii, vLt_ii, vGt_ii, vGe_ii, vSub_ii, vAdd_ii, vAddI_ii, vNeg_i, isT_ss, isT_tt, isT_ii, isT_bi, isT_bb, isT_ib, hc, F__law_seed, hw, eq]
  have hn : nice 9 (.tup [o, tp, r, w, ts, .tup ds]) = true := nice_hr hh
  have gd : ∀ S, good S (.tup [o, tp, r, w, ts, .tup ds]) = true := nice_good hn
  obtain ⟨k1, k2⟩ := emod_lt' (a := cellOf ns 1) (b := 18) (by decide)
  have k3 : (cellOf ns 1 % 18).toNat < 18 := by omega
  have gi : ∀ S : Sto, ∀ x ∈ [o, tp, r, w, ts, .tup ds], good S x = true := fun S => good_tup.mp (gd S)
  have b3 := bad_18 (o := o) (tp := tp) (r := r) (w := w) (ts := ts) (ds := ds) _ k3
  have g3 : good [e, .lst [.tup [.str "A", tp, r, w, ts, .tup ds], .tup [o, .str "", r, w, ts, .tup ds], .tup [o, .str "sevenab", r, w, ts, .tup []]], .lst [.tup [o, tp, .int 10, w, ts, .tup ds], .tup [o, tp, .bl true, w, ts, .tup ds]], .lst [.tup [.str "A", tp, r, w, ts, .tup ds], .tup [o, .str "", r, w, ts, .tup ds], .tup [o, .str "sevenab", r, w, ts, .tup []], .tup [o, tp, .int 10, w, ts, .tup ds], .tup [o, tp, .bl true, w, ts, .tup ds]], .lst [.tup [o, tp, r, .str "never", ts, .tup ds], .tup [o, tp, r, w, .tup [.str "over"], .tup ds]], .lst [.tup [.str "A", tp, r, w, ts, .tup ds], .tup [o, .str "", r, w, ts, .tup ds], .tup [o, .str "sevenab", r, w, ts, .tup []], .tup [o, tp, .int 10, w, ts, .tup ds], .tup [o, tp, .bl true, w, ts, .tup ds], .tup [o, tp, r, .str "never", ts, .tup ds], .tup [o, tp, r, w, .tup [.str "over"], .tup ds]], .lst [.tup [o, tp, r, w, .tup [.str "any", .int 1], .tup ds], .tup [o, tp, r, w, .tup [.str "over", .int 10000], .tup ds]], .lst [.tup [.str "A", tp, r, w, ts, .tup ds], .tup [o, .str "", r, w, ts, .tup ds], .tup [o, .str "sevenab", r, w, ts, .tup []], .tup [o, tp, .int 10, w, ts, .tup ds], .tup [o, tp, .bl true, w, ts, .tup ds], .tup [o, tp, r, .str "never", ts, .tup ds], .tup [o, tp, r, w, .tup [.str "over"], .tup ds], .tup [o, tp, r, w, .tup [.str "any", .int 1], .tup ds], .tup [o, tp, r, w, .tup [.str "over", .int 10000], .tup ds]], .lst ds, .lst [.tup [o, tp, r, w, ts, .ob 8], .tup [o, tp, r, w, ts, .tup [.tup [.str "stop"], .tup [.str "stop"], .tup [.str "stop"], .tup [.str "stop"]]]], .lst [.tup [.str "A", tp, r, w, ts, .tup ds], .tup [o, .str "", r, w, ts, .tup ds], .tup [o, .str "sevenab", r, w, ts, .tup []], .tup [o, tp, .int 10, w, ts, .tup ds], .tup [o, tp, .bl true, w, ts, .tup ds], .tup [o, tp, r, .str "never", ts, .tup ds], .tup [o, tp, r, w, .tup [.str "over"], .tup ds], .tup [o, tp, r, w, .tup [.str "any", .int 1], .tup ds], .tup [o, tp, r, w, .tup [.str "over", .int 10000], .tup ds], .tup [o, tp, r, w, ts, .ob 8], .tup [o, tp, r, w, ts, .tup [.tup [.str "stop"], .tup [.str "stop"], .tup [.str "stop"], .tup [.str "stop"]]], .tup [o, tp, r, w, ts, .tup [.tup [.str "tell", .str "b"]]], .tup [o, tp, r, w, ts, .tup [.tup [.str "tell", .str "b", .int (-1)]]], .tup [o, tp, r, w, ts, .tup [.tup [.str "leave", .int 3]]], .tup [o, tp, r, w, ts, .tup [.tup [.str "stop", .int 1]]], .tup [o, tp, r, w, ts, .tup [.tup [.str "go"]]], .tup [o, tp, r, w, ts, .tup [.tup [.str "join", .tup [.str "x", .str "y", .int 0, w, ts]]]], .tup [.str "x", .str "y", .int 0, .str "once", .tup [.str "any"], .tup [.tup [.str "join", .tup [.str "x", .str "y", .int 0, .str "once", .tup [.str "any"], .tup [.tup [.str "join", .tup [.str "x", .str "y", .int 0, .str "once", .tup [.str "any"], .tup [.tup [.str "join", .tup [.str "x", .str "y", .int 0, .str "once", .tup [.str "any"], .tup []]]]]]]]]]]], .lst [.tup [.str "tell", .str "b"], .tup [.str "tell", .str "b", .int (-1)], .tup [.str "leave", .int 3], .tup [.str "stop", .int 1], .tup [.str "go"], .tup [.str "join", .tup [.str "x", .str "y", .int 0, w, ts]]], .lst [o, tp, r, w, ts, .tup ds], .lst [.ob 12, .non, .tup [o, tp, r, w, ts], .tup [o, tp, r, w, ts, .tup ds, .int 0], .str "a"]] ((T18 o tp r w ts ds).getD (cellOf ns 1 % 18).toNat .non) = true := good_18 rfl (gi _ _ (by simp)) (gi _ _ (by simp)) (gi _ _ (by simp)) (gi _ _ (by simp)) (gi _ _ (by simp)) (gi _ _ (by simp)) _ k3
  have s15 := s_15 (K := K) (o := o) (tp := tp) (r := r) (w := w) (ts := ts) (ds := ds) he rfl
  generalize (T18 o tp r w ts ds).getD (cellOf ns 1 % 18).toNat .non = b at b3 g3 s15
  have s16 := s_16 (K := K) (o := o) (tp := tp) (r := r) (w := w) (ts := ts) (ds := ds) (b := b) he
  have b4 : isHr 3 (if cellOf ns 2 % 3 = 0 then .tup [.str "x", .str "y", .int 0, .str "once", .tup [.str "any"], .tup [.tup [.str "join", b]]] else b) = false := by
    split
    · exact wrap_bad (b3 2 (by decide))
    · exact b3 3 (by decide)
  have g4 : good [e, .lst [.tup [.str "A", tp, r, w, ts, .tup ds], .tup [o, .str "", r, w, ts, .tup ds], .tup [o, .str "sevenab", r, w, ts, .tup []]], .lst [.tup [o, tp, .int 10, w, ts, .tup ds], .tup [o, tp, .bl true, w, ts, .tup ds]], .lst [.tup [.str "A", tp, r, w, ts, .tup ds], .tup [o, .str "", r, w, ts, .tup ds], .tup [o, .str "sevenab", r, w, ts, .tup []], .tup [o, tp, .int 10, w, ts, .tup ds], .tup [o, tp, .bl true, w, ts, .tup ds]], .lst [.tup [o, tp, r, .str "never", ts, .tup ds], .tup [o, tp, r, w, .tup [.str "over"], .tup ds]], .lst [.tup [.str "A", tp, r, w, ts, .tup ds], .tup [o, .str "", r, w, ts, .tup ds], .tup [o, .str "sevenab", r, w, ts, .tup []], .tup [o, tp, .int 10, w, ts, .tup ds], .tup [o, tp, .bl true, w, ts, .tup ds], .tup [o, tp, r, .str "never", ts, .tup ds], .tup [o, tp, r, w, .tup [.str "over"], .tup ds]], .lst [.tup [o, tp, r, w, .tup [.str "any", .int 1], .tup ds], .tup [o, tp, r, w, .tup [.str "over", .int 10000], .tup ds]], .lst [.tup [.str "A", tp, r, w, ts, .tup ds], .tup [o, .str "", r, w, ts, .tup ds], .tup [o, .str "sevenab", r, w, ts, .tup []], .tup [o, tp, .int 10, w, ts, .tup ds], .tup [o, tp, .bl true, w, ts, .tup ds], .tup [o, tp, r, .str "never", ts, .tup ds], .tup [o, tp, r, w, .tup [.str "over"], .tup ds], .tup [o, tp, r, w, .tup [.str "any", .int 1], .tup ds], .tup [o, tp, r, w, .tup [.str "over", .int 10000], .tup ds]], .lst ds, .lst [.tup [o, tp, r, w, ts, .ob 8], .tup [o, tp, r, w, ts, .tup [.tup [.str "stop"], .tup [.str "stop"], .tup [.str "stop"], .tup [.str "stop"]]]], .lst [.tup [.str "A", tp, r, w, ts, .tup ds], .tup [o, .str "", r, w, ts, .tup ds], .tup [o, .str "sevenab", r, w, ts, .tup []], .tup [o, tp, .int 10, w, ts, .tup ds], .tup [o, tp, .bl true, w, ts, .tup ds], .tup [o, tp, r, .str "never", ts, .tup ds], .tup [o, tp, r, w, .tup [.str "over"], .tup ds], .tup [o, tp, r, w, .tup [.str "any", .int 1], .tup ds], .tup [o, tp, r, w, .tup [.str "over", .int 10000], .tup ds], .tup [o, tp, r, w, ts, .ob 8], .tup [o, tp, r, w, ts, .tup [.tup [.str "stop"], .tup [.str "stop"], .tup [.str "stop"], .tup [.str "stop"]]], .tup [o, tp, r, w, ts, .tup [.tup [.str "tell", .str "b"]]], .tup [o, tp, r, w, ts, .tup [.tup [.str "tell", .str "b", .int (-1)]]], .tup [o, tp, r, w, ts, .tup [.tup [.str "leave", .int 3]]], .tup [o, tp, r, w, ts, .tup [.tup [.str "stop", .int 1]]], .tup [o, tp, r, w, ts, .tup [.tup [.str "go"]]], .tup [o, tp, r, w, ts, .tup [.tup [.str "join", .tup [.str "x", .str "y", .int 0, w, ts]]]], .tup [.str "x", .str "y", .int 0, .str "once", .tup [.str "any"], .tup [.tup [.str "join", .tup [.str "x", .str "y", .int 0, .str "once", .tup [.str "any"], .tup [.tup [.str "join", .tup [.str "x", .str "y", .int 0, .str "once", .tup [.str "any"], .tup [.tup [.str "join", .tup [.str "x", .str "y", .int 0, .str "once", .tup [.str "any"], .tup []]]]]]]]]]]], .lst [.tup [.str "tell", .str "b"], .tup [.str "tell", .str "b", .int (-1)], .tup [.str "leave", .int 3], .tup [.str "stop", .int 1], .tup [.str "go"], .tup [.str "join", .tup [.str "x", .str "y", .int 0, w, ts]]], .lst [o, tp, r, w, ts, .tup ds], .lst [.ob 12, .non, .tup [o, tp, r, w, ts], .tup [o, tp, r, w, ts, .tup ds, .int 0], .str "a"]] (if cellOf ns 2 % 3 = 0 then .tup [.str "x", .str "y", .int 0, .str "once", .tup [.str "any"], .tup [.tup [.str "join", b]]] else b) = true := by
    split
    · have z : ∀ x : Str, x.length ≤ 10 → good [e, .lst [.tup [.str "A", tp, r, w, ts, .tup ds], .tup [o, .str "", r, w, ts, .tup ds], .tup [o, .str "sevenab", r, w, ts, .tup []]], .lst [.tup [o, tp, .int 10, w, ts, .tup ds], .tup [o, tp, .bl true, w, ts, .tup ds]], .lst [.tup [.str "A", tp, r, w, ts, .tup ds], .tup [o, .str "", r, w, ts, .tup ds], .tup [o, .str "sevenab", r, w, ts, .tup []], .tup [o, tp, .int 10, w, ts, .tup ds], .tup [o, tp, .bl true, w, ts, .tup ds]], .lst [.tup [o, tp, r, .str "never", ts, .tup ds], .tup [o, tp, r, w, .tup [.str "over"], .tup ds]], .lst [.tup [.str "A", tp, r, w, ts, .tup ds], .tup [o, .str "", r, w, ts, .tup ds], .tup [o, .str "sevenab", r, w, ts, .tup []], .tup [o, tp, .int 10, w, ts, .tup ds], .tup [o, tp, .bl true, w, ts, .tup ds], .tup [o, tp, r, .str "never", ts, .tup ds], .tup [o, tp, r, w, .tup [.str "over"], .tup ds]], .lst [.tup [o, tp, r, w, .tup [.str "any", .int 1], .tup ds], .tup [o, tp, r, w, .tup [.str "over", .int 10000], .tup ds]], .lst [.tup [.str "A", tp, r, w, ts, .tup ds], .tup [o, .str "", r, w, ts, .tup ds], .tup [o, .str "sevenab", r, w, ts, .tup []], .tup [o, tp, .int 10, w, ts, .tup ds], .tup [o, tp, .bl true, w, ts, .tup ds], .tup [o, tp, r, .str "never", ts, .tup ds], .tup [o, tp, r, w, .tup [.str "over"], .tup ds], .tup [o, tp, r, w, .tup [.str "any", .int 1], .tup ds], .tup [o, tp, r, w, .tup [.str "over", .int 10000], .tup ds]], .lst ds, .lst [.tup [o, tp, r, w, ts, .ob 8], .tup [o, tp, r, w, ts, .tup [.tup [.str "stop"], .tup [.str "stop"], .tup [.str "stop"], .tup [.str "stop"]]]], .lst [.tup [.str "A", tp, r, w, ts, .tup ds], .tup [o, .str "", r, w, ts, .tup ds], .tup [o, .str "sevenab", r, w, ts, .tup []], .tup [o, tp, .int 10, w, ts, .tup ds], .tup [o, tp, .bl true, w, ts, .tup ds], .tup [o, tp, r, .str "never", ts, .tup ds], .tup [o, tp, r, w, .tup [.str "over"], .tup ds], .tup [o, tp, r, w, .tup [.str "any", .int 1], .tup ds], .tup [o, tp, r, w, .tup [.str "over", .int 10000], .tup ds], .tup [o, tp, r, w, ts, .ob 8], .tup [o, tp, r, w, ts, .tup [.tup [.str "stop"], .tup [.str "stop"], .tup [.str "stop"], .tup [.str "stop"]]], .tup [o, tp, r, w, ts, .tup [.tup [.str "tell", .str "b"]]], .tup [o, tp, r, w, ts, .tup [.tup [.str "tell", .str "b", .int (-1)]]], .tup [o, tp, r, w, ts, .tup [.tup [.str "leave", .int 3]]], .tup [o, tp, r, w, ts, .tup [.tup [.str "stop", .int 1]]], .tup [o, tp, r, w, ts, .tup [.tup [.str "go"]]], .tup [o, tp, r, w, ts, .tup [.tup [.str "join", .tup [.str "x", .str "y", .int 0, w, ts]]]], .tup [.str "x", .str "y", .int 0, .str "once", .tup [.str "any"], .tup [.tup [.str "join", .tup [.str "x", .str "y", .int 0, .str "once", .tup [.str "any"], .tup [.tup [.str "join", .tup [.str "x", .str "y", .int 0, .str "once", .tup [.str "any"], .tup [.tup [.str "join", .tup [.str "x", .str "y", .int 0, .str "once", .tup [.str "any"], .tup []]]]]]]]]]]], .lst [.tup [.str "tell", .str "b"], .tup [.str "tell", .str "b", .int (-1)], .tup [.str "leave", .int 3], .tup [.str "stop", .int 1], .tup [.str "go"], .tup [.str "join", .tup [.str "x", .str "y", .int 0, w, ts]]], .lst [o, tp, r, w, ts, .tup ds], .lst [.ob 12, .non, .tup [o, tp, r, w, ts], .tup [o, tp, r, w, ts, .tup ds, .int 0], .str "a"]] (.str x) = true := fun x hx => by simp only [good, decide_eq_true_eq]; omega
      have zi : good [e, .lst [.tup [.str "A", tp, r, w, ts, .tup ds], .tup [o, .str "", r, w, ts, .tup ds], .tup [o, .str "sevenab", r, w, ts, .tup []]], .lst [.tup [o, tp, .int 10, w, ts, .tup ds], .tup [o, tp, .bl true, w, ts, .tup ds]], .lst [.tup [.str "A", tp, r, w, ts, .tup ds], .tup [o, .str "", r, w, ts, .tup ds], .tup [o, .str "sevenab", r, w, ts, .tup []], .tup [o, tp, .int 10, w, ts, .tup ds], .tup [o, tp, .bl true, w, ts, .tup ds]], .lst [.tup [o, tp, r, .str "never", ts, .tup ds], .tup [o, tp, r, w, .tup [.str "over"], .tup ds]], .lst [.tup [.str "A", tp, r, w, ts, .tup ds], .tup [o, .str "", r, w, ts, .tup ds], .tup [o, .str "sevenab", r, w, ts, .tup []], .tup [o, tp, .int 10, w, ts, .tup ds], .tup [o, tp, .bl true, w, ts, .tup ds], .tup [o, tp, r, .str "never", ts, .tup ds], .tup [o, tp, r, w, .tup [.str "over"], .tup ds]], .lst [.tup [o, tp, r, w, .tup [.str "any", .int 1], .tup ds], .tup [o, tp, r, w, .tup [.str "over", .int 10000], .tup ds]], .lst [.tup [.str "A", tp, r, w, ts, .tup ds], .tup [o, .str "", r, w, ts, .tup ds], .tup [o, .str "sevenab", r, w, ts, .tup []], .tup [o, tp, .int 10, w, ts, .tup ds], .tup [o, tp, .bl true, w, ts, .tup ds], .tup [o, tp, r, .str "never", ts, .tup ds], .tup [o, tp, r, w, .tup [.str "over"], .tup ds], .tup [o, tp, r, w, .tup [.str "any", .int 1], .tup ds], .tup [o, tp, r, w, .tup [.str "over", .int 10000], .tup ds]], .lst ds, .lst [.tup [o, tp, r, w, ts, .ob 8], .tup [o, tp, r, w, ts, .tup [.tup [.str "stop"], .tup [.str "stop"], .tup [.str "stop"], .tup [.str "stop"]]]], .lst [.tup [.str "A", tp, r, w, ts, .tup ds], .tup [o, .str "", r, w, ts, .tup ds], .tup [o, .str "sevenab", r, w, ts, .tup []], .tup [o, tp, .int 10, w, ts, .tup ds], .tup [o, tp, .bl true, w, ts, .tup ds], .tup [o, tp, r, .str "never", ts, .tup ds], .tup [o, tp, r, w, .tup [.str "over"], .tup ds], .tup [o, tp, r, w, .tup [.str "any", .int 1], .tup ds], .tup [o, tp, r, w, .tup [.str "over", .int 10000], .tup ds], .tup [o, tp, r, w, ts, .ob 8], .tup [o, tp, r, w, ts, .tup [.tup [.str "stop"], .tup [.str "stop"], .tup [.str "stop"], .tup [.str "stop"]]], .tup [o, tp, r, w, ts, .tup [.tup [.str "tell", .str "b"]]], .tup [o, tp, r, w, ts, .tup [.tup [.str "tell", .str "b", .int (-1)]]], .tup [o, tp, r, w, ts, .tup [.tup [.str "leave", .int 3]]], .tup [o, tp, r, w, ts, .tup [.tup [.str "stop", .int 1]]], .tup [o, tp, r, w, ts, .tup [.tup [.str "go"]]], .tup [o, tp, r, w, ts, .tup [.tup [.str "join", .tup [.str "x", .str "y", .int 0, w, ts]]]], .tup [.str "x", .str "y", .int 0, .str "once", .tup [.str "any"], .tup [.tup [.str "join", .tup [.str "x", .str "y", .int 0, .str "once", .tup [.str "any"], .tup [.tup [.str "join", .tup [.str "x", .str "y", .int 0, .str "once", .tup [.str "any"], .tup [.tup [.str "join", .tup [.str "x", .str "y", .int 0, .str "once", .tup [.str "any"], .tup []]]]]]]]]]]], .lst [.tup [.str "tell", .str "b"], .tup [.str "tell", .str "b", .int (-1)], .tup [.str "leave", .int 3], .tup [.str "stop", .int 1], .tup [.str "go"], .tup [.str "join", .tup [.str "x", .str "y", .int 0, w, ts]]], .lst [o, tp, r, w, ts, .tup ds], .lst [.ob 12, .non, .tup [o, tp, r, w, ts], .tup [o, tp, r, w, ts, .tup ds, .int 0], .str "a"]] (.int 0) = true := by simp only [good]
      refine good_tup.mpr fun y hy => ?_
      simp only [List.mem_cons, List.not_mem_nil, or_false] at hy
      rcases hy with h | h | h | h | h | h <;> subst h
      · exact z _ (by decide +kernel)
      · exact z _ (by decide +kernel)
      · exact zi
      · exact z _ (by decide +kernel)
      · refine good_tup.mpr fun y hy => ?_
        simp only [List.mem_cons, List.not_mem_nil, or_false] at hy
        subst hy
        exact z _ (by decide +kernel)
      · refine good_tup.mpr fun y hy => ?_
        simp only [List.mem_cons, List.not_mem_nil, or_false] at hy
        subst hy
        refine good_tup.mpr fun y hy => ?_
        simp only [List.mem_cons, List.not_mem_nil, or_false] at hy
        rcases hy with h | h <;> subst h
        · exact z _ (by decide +kernel)
        · exact g3
    · exact g3
  generalize (if cellOf ns 2 % 3 = 0 then .tup [.str "x", .str "y", .int 0, .str "once", .tup [.str "any"], .tup [.tup [.str "join", b]]] else b) = b2 at b4 g4 s16
  obtain ⟨x, s18⟩ := s_18 (K := K) (o := o) (tp := tp) (r := r) (w := w) (ts := ts) (ds := ds) (b := b2) t.e_BadHearer_BadHearer he b4 g4 (gd _)
  refine ⟨[.lst [.tup [.str "A", tp, r, w, ts, .tup ds], .tup [o, .str "", r, w, ts, .tup ds], .tup [o, .str "sevenab", r, w, ts, .tup []]], .lst [.tup [o, tp, .int 10, w, ts, .tup ds], .tup [o, tp, .bl true, w, ts, .tup ds]], .lst [.tup [.str "A", tp, r, w, ts, .tup ds], .tup [o, .str "", r, w, ts, .tup ds], .tup [o, .str "sevenab", r, w, ts, .tup []], .tup [o, tp, .int 10, w, ts, .tup ds], .tup [o, tp, .bl true, w, ts, .tup ds]], .lst [.tup [o, tp, r, .str "never", ts, .tup ds], .tup [o, tp, r, w, .tup [.str "over"], .tup ds]], .lst [.tup [.str "A", tp, r, w, ts, .tup ds], .tup [o, .str "", r, w, ts, .tup ds], .tup [o, .str "sevenab", r, w, ts, .tup []], .tup [o, tp, .int 10, w, ts, .tup ds], .tup [o, tp, .bl true, w, ts, .tup ds], .tup [o, tp, r, .str "never", ts, .tup ds], .tup [o, tp, r, w, .tup [.str "over"], .tup ds]], .lst [.tup [o, tp, r, w, .tup [.str "any", .int 1], .tup ds], .tup [o, tp, r, w, .tup [.str "over", .int 10000], .tup ds]], .lst [.tup [.str "A", tp, r, w, ts, .tup ds], .tup [o, .str "", r, w, ts, .tup ds], .tup [o, .str "sevenab", r, w, ts, .tup []], .tup [o, tp, .int 10, w, ts, .tup ds], .tup [o, tp, .bl true, w, ts, .tup ds], .tup [o, tp, r, .str "never", ts, .tup ds], .tup [o, tp, r, w, .tup [.str "over"], .tup ds], .tup [o, tp, r, w, .tup [.str "any", .int 1], .tup ds], .tup [o, tp, r, w, .tup [.str "over", .int 10000], .tup ds]], .lst ds, .lst [.tup [o, tp, r, w, ts, .ob 8], .tup [o, tp, r, w, ts, .tup [.tup [.str "stop"], .tup [.str "stop"], .tup [.str "stop"], .tup [.str "stop"]]]], .lst [.tup [.str "A", tp, r, w, ts, .tup ds], .tup [o, .str "", r, w, ts, .tup ds], .tup [o, .str "sevenab", r, w, ts, .tup []], .tup [o, tp, .int 10, w, ts, .tup ds], .tup [o, tp, .bl true, w, ts, .tup ds], .tup [o, tp, r, .str "never", ts, .tup ds], .tup [o, tp, r, w, .tup [.str "over"], .tup ds], .tup [o, tp, r, w, .tup [.str "any", .int 1], .tup ds], .tup [o, tp, r, w, .tup [.str "over", .int 10000], .tup ds], .tup [o, tp, r, w, ts, .ob 8], .tup [o, tp, r, w, ts, .tup [.tup [.str "stop"], .tup [.str "stop"], .tup [.str "stop"], .tup [.str "stop"]]], .tup [o, tp, r, w, ts, .tup [.tup [.str "tell", .str "b"]]], .tup [o, tp, r, w, ts, .tup [.tup [.str "tell", .str "b", .int (-1)]]], .tup [o, tp, r, w, ts, .tup [.tup [.str "leave", .int 3]]], .tup [o, tp, r, w, ts, .tup [.tup [.str "stop", .int 1]]], .tup [o, tp, r, w, ts, .tup [.tup [.str "go"]]], .tup [o, tp, r, w, ts, .tup [.tup [.str "join", .tup [.str "x", .str "y", .int 0, w, ts]]]], .tup [.str "x", .str "y", .int 0, .str "once", .tup [.str "any"], .tup [.tup [.str "join", .tup [.str "x", .str "y", .int 0, .str "once", .tup [.str "any"], .tup [.tup [.str "join", .tup [.str "x", .str "y", .int 0, .str "once", .tup [.str "any"], .tup [.tup [.str "join", .tup [.str "x", .str "y", .int 0, .str "once", .tup [.str "any"], .tup []]]]]]]]]]]], .lst [.tup [.str "tell", .str "b"], .tup [.str "tell", .str "b", .int (-1)], .tup [.str "leave", .int 3], .tup [.str "stop", .int 1], .tup [.str "go"], .tup [.str "join", .tup [.str "x", .str "y", .int 0, w, ts]]], .lst [o, tp, r, w, ts, .tup ds], .lst [.ob 12, .non, .tup [o, tp, r, w, ts], .tup [o, tp, r, w, ts, .tup ds, .int 0], .str "a"]], ?_⟩
  rw [e0]
  refine seq_step s0 (seq_step (s_1 (gd _) hh hn) (seq_step s_2 (seq_step s_3 (seq_step s_4 (seq_step s_5 (seq_step s_6 (seq_step s_7 (seq_step (s_8 h6) (seq_step s_9 (seq_step s_10 (seq_step s_11 (seq_step s_12 (seq_step s_13 (seq_step s_14 (seq_step s15 (seq_step s16 (seq_step s_17 (seq_step s18 ?_))))))))))))))))))
  simp only [q_law_19, gVar, gC, gOp, gUn, gAnd, gOr, gNot, gIf, gNil, gCons, gTup, gLst, gCB, gChain, gSet, gExpr, gRet, gRetN, gPass, gBrk, gCt, gRaise, gIfS, gSeq, nName, nTup, setAll, gAsg, gCall, gTru, gNotT, gIsi, RE.bind_ok, RE.bind_exc, RE.bind_stuck, RE.bindA_ok, RE.bindS_ok, RE.bindS_exc, RE.bindT_ok, RE.bindTS_ok, RA.bind_ok, RA.bindA_ok, RE.nox_ok, RS.seq_nx, RS.seq_ret, RS.seq_exc, RS.seq_brk, RS.seq_ct, RS.seq_stuck, RE.bindA_exc, RE.bindA_stuck, RE.bindS_stuck, RE.bindT_exc, RE.bindT_stuck, RE.bindTS_exc, RE.bindTS_stuck, RA.bind_exc, RA.bind_stuck, RA.bindA_exc, RA.bindA_stuck, RE.nox_stuck, bind_ite, bindA_ite, bindS_ite, bindT_ite, bindTS_ite, nox_ite, seq_ite, startR, tyA_non, tyA_bl, tyA_int, tyA_str, tyA_tup, List.map_cons, List.map_nil, List.length_cons, List.length_nil, List.cons_append, List.nil_append, List.append_nil, List.getElem?_cons_zero, List.getElem?_cons_succ, List.set_cons_zero, List.set_cons_succ, vIx_t0, vIx_t1, vIx_t2, vIx_t3, vIx_t4, vIx_t5, vEq_ss, vEq_ii, vEq_bb, vNe_ss, vNe_ii, vNe_bb, vLen_tup, truA_tup, truA_bl, vLe_ii, vLt_ii, vGt_ii, vGe_ii, vSub_ii, vAdd_ii, vAddI_ii, vNeg_i, isT_ss, isT_tt, isT_ii, isT_bi, isT_bb, isT_ib, decide_true]
end
section
variable {P : Program} {w : World} {K : Frg} {mg : Str → Option Value} {base : Heap}
theorem ok_law (t : Hd.Tx K mg) : FnR P w K mg base 13 (He.ga K "law") t.f_law P_law (spF K (tbs K) F_law) := by
  refine fnF t.D_law sc_law F_law_len (q_law K) (fun cdv A outer s H E hr => sb_law t hr) fun l S b bl h => ?_
  obtain ⟨ns, o, rfl, rfl, ho, hl, e⟩ := F_law_cases h
  rw [e]
  obtain ⟨E, e2⟩ := law_true t ho
  rw [e2]
  exact fitPE b (.bl _)
end
theorem law_at {w : World} {K : Frg} {mg : Str → Option Value} {fa : Addr} {h : Heap} (t : Hd.Tx K mg) (KX : K.In h) (c : He.SaysX Hd.fa Hd.fn [] Hd.tf Hd.ex w h K) (hmg : mg "law" = some (.ref fa)) : LamX.LawAtS PySem.Challenge.rw_hearlines_k01_hearers w K (L2.CX PySem.Challenge.rw_hearlines_k01_hearers.prog w) 200 63 "script" mg fa h := by
  have e := hmg.symm.trans t.m_law
  cases e
  exact law_end (d := 13) (tbs K) [] (fun p hp => nomatch hp) (fun p hp => nomatch hp) (fun p hp => nomatch hp) (fun H _ p hp => nomatch hp) (b_law t) KX
    (fun s u => FunD.bindsA (ps := P_law) t.D_law (fun _ _ _ _ _ _ us hl => match us, hl with | [_], _ => rfl) s [u] rfl) (by decide) (fun base _ _ _ => ok_law t)
end Sx.My
open PySem PySem.W PySem.Calls PyProof.Rows
set_option maxRecDepth 100000 in
set_option maxHeartbeats 0 in
theorem PySem.Challenge.cw_hearlines_k01_hearers_holds : PySem.Challenge.rw_hearlines_k01_hearers.Holds := by
  w_on; o_law
  refine HandSHeadRun.head_any (r := OpenLaw.row PySem.Challenge.rw_hearlines_k01_hearers) (q := view (OpenLaw.row PySem.Challenge.rw_hearlines_k01_hearers).prog [24]) (H := Hd.hk) (ob := Hd.ob) (M := 12000) (loose := Hd.lo) (d := HandSHeadRun.topDef (OpenLaw.row PySem.Challenge.rw_hearlines_k01_hearers).prog 24) (kwd := []) Hd.ob_eq
    (by kernel_rfl) (fun s => by kernel_rfl) Hd.run (by kernel_rfl) (by kernel_rfl) (by kernel_rfl) (by rfl) (by first | assumption | decide +kernel) (by decide +kernel) ⟨rfl, rfl, rfl, rfl, rfl, by decide +kernel⟩ ?hw ?hc
  case hw => w_witness2
  case hc =>
    refine LamX.walk_ofTsE (l := PySem.Challenge.rw_hearlines_k01_hearers) (n := 63) (k := 200) (x := "script") (CX := fun w => L2.CX (PySem.Challenge.rw_hearlines_k01_hearers).prog w) rfl (by decide) (by kernel_rfl) ⟨rfl, by decide, by decide⟩ ?F (fun _ _ _ _ _ z => Sx.noCX z)
    intro w mg fa h Y G hmg0
    obtain ⟨K, KX, c⟩ := Y
    have hmg : mg ("law" : PySem.Str) = some (.ref fa) := by
      have e : (HandSHeadRun.topDef (OpenLaw.row PySem.Challenge.rw_hearlines_k01_hearers).prog 24).name = ("law" : PySem.Str) := by kernel_rfl
      rw [← e]
      exact hmg0
    obtain ⟨t⟩ := Hd.tx_mk KX G c
    exact ⟨K, KX, Sx.My.law_at t KX c hmg⟩


