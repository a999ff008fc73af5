import PyProof.Rows.All
import Wide.All
import OpenK.AllK
import Wide.FinOn
import HandS.ForMost
import HandS.Exc
import HandS.ExcOwn
import HandS.TryOnly
import HandS.TryMany
import HandS.WordsExc
import HandS.CallSlots
import HandS.Defaults
import HandS.IsInst
import HandS.Flow
import HandS.Lambda
import HandS.TupAny
import HandS.TupMul
import HandS.RaiseMore
import HandS.EndTab
import HandS.HeadWalk
import KE.SortKeyHeap
import HandS.SortKw
import HandS.HeadHook4
import KE.SortData
import HandS.More
import KE.KStateDown
import HandS.Head0
import HandS.Head1
import HandS.Head2
import HandS.HeadEnd
import HandS.HeadHook1
import HandS.HeadHook2
import HandS.HeadHook3
import PySem.Challenge.RW_hearlines_k09_cut
set_option Elab.async false
set_option linter.all false
set_option maxRecDepth 100000
set_option maxHeartbeats 1000000
/-! Sx: a store semantics over the hand layer. Values with deep tuples, objects by number, results as plain functions. -/
namespace Sx
open PySem L2
abbrev Frg := PySem.W.Frag
abbrev Tbs := List (Addr × Str)

/-- a value: tuples deep, objects by their number in the store -/
inductive A where
  | non | bl (b : Bool) | int (i : Int) | str (x : Str) | tup (xs : List A) | ob (n : Nat)
  deriving Inhabited
/-- an object of the store: a list, a list that is only read, dicts, an instance -/
inductive O where
  | lst (xs : List A) | rol (xs : List A) | dic (kvs : List (Key × A)) | dit (kvs : List (List Key × A)) | ins (C : Addr) (fs : List (Str × A))
  deriving Inhabited
def O.mut : O → Bool
  | .rol _ => false
  | _ => true
abbrev Sto := List O
abbrev Ro := List (Option A)

mutual
inductive RelA (K : Frg) (H : Hp) (as : List Addr) : A → V → Prop
  | non : RelA K H as .non .non
  | bl (b : Bool) : RelA K H as (.bl b) (.bl b)
  | int (i : Int) : RelA K H as (.int i) (.int i)
  | str (x : Str) : RelA K H as (.str x) (.str x)
  | tup {xs : List A} {a : Addr} {vs : List V} : SqT K H a vs → RelL K H as xs vs → RelA K H as (.tup xs) (.ref a)
  | ob {n : Nat} {a : Addr} : as[n]? = some a → RelA K H as (.ob n) (.ref a)
inductive RelL (K : Frg) (H : Hp) (as : List Addr) : List A → List V → Prop
  | nil : RelL K H as [] []
  | cons {a : A} {v : V} {xs : List A} {vs : List V} : RelA K H as a v → RelL K H as xs vs → RelL K H as (a :: xs) (v :: vs)
end
inductive RelKV {κ : Type} (K : Frg) (H : Hp) (as : List Addr) : List (κ × A) → List (κ × V) → Prop
  | nil : RelKV K H as [] []
  | cons {k : κ} {a : A} {v : V} {l : List (κ × A)} {m : List (κ × V)} : RelA K H as a v → RelKV K H as l m → RelKV K H as ((k, a) :: l) ((k, v) :: m)
def RelO (K : Frg) (H : Hp) (as : List Addr) : O → Addr → Prop
  | .lst xs, a => ∃ vs, H a = some (.lst vs) ∧ RelL K H as xs vs
  | .rol xs, a => ∃ vs, ((∃ o, H a = some (.frz o (.lst vs))) ∨ (SqL K (fun _ => none) a vs)) ∧ RelL K H as xs vs
  | .dic kvs, a => ∃ kv, H a = some (.dK kv) ∧ RelKV K H as kvs kv
  | .dit kvs, a => ∃ kv, H a = some (.dT kv) ∧ RelKV K H as kvs kv
  | .ins C fs, a => ∃ dx gs, H a = some (.ins C dx gs) ∧ RelKV K H as fs gs
/-- what comes later: numbers keep their addresses, tuples stay -/
structure Le (K : Frg) (H : Hp) (as : List Addr) (H' : Hp) (as' : List Addr) : Prop where
  pre : ∀ (n : Nat) (a : Addr), as[n]? = some a → as'[n]? = some a
  tup : ∀ (a : Addr) (xs : List V), SqT K H a xs → SqT K H' a xs
structure Rel (K : Frg) (T : Tbs) (S : Sto) (as : List Addr) (H : Hp) : Prop where
  len : as.length = S.length
  inj : ∀ (n m : Nat) (a : Addr) (o u : O), as[n]? = some a → as[m]? = some a → S[n]? = some o → S[m]? = some u → o.mut = true → u.mut = true → n = m
  obj : ∀ (n : Nat) (o : O) (a : Addr), S[n]? = some o → as[n]? = some a → RelO K H as o a
  tab : LamX.Tabs T H
structure RelSt (K : Frg) (T : Tbs) (ρ : Ro) (S : Sto) (as : List Addr) (σ : St) (H : Hp) : Prop where
  rel : Rel K T S as H
  len : ρ.length = σ.length
  slot : ∀ (i : Nat) (a : A), ρ[i]? = some (some a) → ∃ v, σ[i]? = some (some v) ∧ RelA K H as a v

section
variable {K : Frg} {T : Tbs} {H H' H'' : Hp} {as as' as'' : List Addr} {S S' : Sto} {ρ ρ' : Ro} {σ : St}
theorem Le.refl : Le K H as H as := ⟨fun _ _ h => h, fun _ _ h => h⟩
theorem Le.trans (a : Le K H as H' as') (b : Le K H' as' H'' as'') : Le K H as H'' as'' := ⟨fun n x h => b.pre n x (a.pre n x h), fun x l h => b.tup x l (a.tup x l h)⟩
mutual
theorem RelA.mono {a : A} {v : V} (h : RelA K H as a v) (l : Le K H as H' as') : RelA K H' as' a v := by
  cases h with
  | non => exact .non
  | bl b => exact .bl b
  | int i => exact .int i
  | str x => exact .str x
  | tup hs hr => exact .tup (l.tup _ _ hs) (RelL.mono hr l)
  | ob e => exact .ob (l.pre _ _ e)
theorem RelL.mono {xs : List A} {vs : List V} (h : RelL K H as xs vs) (l : Le K H as H' as') : RelL K H' as' xs vs := by
  cases h with
  | nil => exact .nil
  | cons h1 h2 => exact .cons (RelA.mono h1 l) (RelL.mono h2 l)
end
theorem RelKV.mono {κ : Type} {x : List (κ × A)} {y : List (κ × V)} (h : RelKV K H as x y) (l : Le K H as H' as') : RelKV K H' as' x y := by
  induction h with
  | nil => exact .nil
  | cons h1 _ ih => exact .cons (h1.mono l) ih
theorem RelO.mono {o : O} {a : Addr} (h : RelO K H as o a) (l : Le K H as H' as') (k : ∀ u, H a = some u → H' a = some u) : RelO K H' as' o a := by
  cases o with
  | lst xs => obtain ⟨vs, h1, h2⟩ := h; exact ⟨vs, k _ h1, h2.mono l⟩
  | rol xs =>
    obtain ⟨vs, h1, h2⟩ := h
    refine ⟨vs, ?_, h2.mono l⟩
    rcases h1 with ⟨o, e⟩ | e
    · exact .inl ⟨o, k _ e⟩
    · exact .inr e
  | dic kvs => obtain ⟨kv, h1, h2⟩ := h; exact ⟨kv, k _ h1, h2.mono l⟩
  | dit kvs => obtain ⟨kv, h1, h2⟩ := h; exact ⟨kv, k _ h1, h2.mono l⟩
  | ins C fs => obtain ⟨dx, gs, h1, h2⟩ := h; exact ⟨dx, gs, k _ h1, h2.mono l⟩
theorem RelSt.mono (h : RelSt K T ρ S as σ H) (l : Le K H as H' as') (r : Rel K T S' as' H') : RelSt K T ρ S' as' σ H' :=
  ⟨r, h.len, fun i a e => let ⟨v, h1, h2⟩ := h.slot i a e; ⟨v, h1, h2.mono l⟩⟩
theorem RelL.length {xs : List A} {vs : List V} (h : RelL K H as xs vs) : xs.length = vs.length := by
  induction xs generalizing vs with
  | nil => cases h; rfl
  | cons a xs ih => cases h with
    | cons h1 h2 => rw [List.length_cons, List.length_cons, ih h2]
theorem RelL.get {xs : List A} {vs : List V} (h : RelL K H as xs vs) {i : Nat} {a : A} (e : xs[i]? = some a) : ∃ v, vs[i]? = some v ∧ RelA K H as a v := by
  induction xs generalizing vs i with
  | nil => simp at e
  | cons b xs ih =>
    cases h with
    | cons h1 h2 =>
      cases i with
      | zero => simp at e; subst e; exact ⟨_, rfl, h1⟩
      | succ i => simpa using ih h2 (i := i) (by simpa using e)
theorem RelL.append {xs ys : List A} {vs ws : List V} (h : RelL K H as xs vs) (g : RelL K H as ys ws) : RelL K H as (xs ++ ys) (vs ++ ws) := by
  induction xs generalizing vs with
  | nil => cases h; exact g
  | cons b xs ih => cases h with
    | cons h1 h2 => exact .cons h1 (ih h2)
theorem RelL.one {a : A} {v : V} (h : RelA K H as a v) : RelL K H as [a] [v] := .cons h .nil
theorem RelL.take {xs : List A} {vs : List V} (h : RelL K H as xs vs) (n : Nat) : RelL K H as (xs.take n) (vs.take n) := by
  induction xs generalizing vs n with
  | nil => cases h; simp; exact .nil
  | cons b xs ih => cases h with
    | cons h1 h2 => cases n with
      | zero => exact .nil
      | succ n => exact .cons h1 (ih h2 n)
theorem RelL.drop {xs : List A} {vs : List V} (h : RelL K H as xs vs) (n : Nat) : RelL K H as (xs.drop n) (vs.drop n) := by
  induction xs generalizing vs n with
  | nil => cases h; simp; exact .nil
  | cons b xs ih => cases h with
    | cons h1 h2 => cases n with
      | zero => exact .cons h1 h2
      | succ n => exact ih h2 n
theorem RelL.set {xs : List A} {vs : List V} {a : A} {v : V} (h : RelL K H as xs vs) (g : RelA K H as a v) (n : Nat) : RelL K H as (xs.set n a) (vs.set n v) := by
  induction xs generalizing vs n with
  | nil => cases h; exact .nil
  | cons b xs ih => cases h with
    | cons h1 h2 => cases n with
      | zero => exact .cons g h2
      | succ n => exact .cons h1 (ih h2 n)

/-! ### the heap grows, or an object of the store is written -/
def isMut : HO → Bool
  | .lst _ => true
  | .dK _ => true
  | .dT _ => true
  | .ins _ _ _ => true
  | _ => false
/-- all that is no list, dict, instance stays -/
def Kp (H H' : Hp) : Prop := ∀ b o, H b = some o → isMut o = false → H' b = some o
theorem Kp.refl (H : Hp) : Kp H H := fun _ _ h _ => h
theorem Kp.trans (a : Kp H H') (b : Kp H' H'') : Kp H H'' := fun x o h n => b x o (a x o h n) n
theorem Kp.new {p : Addr} {o : HO} (h : H p = none) : Kp H (upd H p o) := fun b u e _ => by rw [upd_ne (ne_of_none e h)]; exact e
theorem Kp.wr {p : Addr} {o u : HO} (h : H p = some u) (m : isMut u = true) : Kp H (upd H p o) := fun b w e n => by
  rw [upd_ne (ne_of e h (fun z => by rw [z, m] at n; cases n))]; exact e
theorem Kp.sqt (k : Kp H H') (a : Addr) (xs : List V) (h : SqT K H a xs) : SqT K H' a xs := by
  rcases h with (h | ⟨o, h⟩) | h
  · exact .inl (.inl (k _ _ h rfl))
  · exact .inl (.inr ⟨o, k _ _ h rfl⟩)
  · exact .inr h
theorem Kp.tabs (k : Kp H H') (h : LamX.Tabs T H) : LamX.Tabs T H' := fun p hp => by
  obtain ⟨ps, h1, h2, h3⟩ := h p hp
  refine ⟨ps, k _ _ h1 rfl, h2, fun pos cv hc => ?_⟩
  obtain ⟨c, e, hco⟩ := h3 pos cv hc
  exact ⟨c, e, k _ _ hco rfl⟩
theorem Kp.le (k : Kp H H') : Le K H as H' as := ⟨fun _ _ h => h, k.sqt⟩
theorem Kp.leA (k : Kp H H') (p : Addr) : Le K H as H' (as ++ [p]) := ⟨fun n a h => by
  rw [List.getElem?_append_left (List.getElem?_eq_some_iff.mp h).1]; exact h, k.sqt⟩
theorem RelO.at {o : O} {a : Addr} (h : RelO K H as o a) : (∃ u, H a = some u ∧ isMut u = o.mut) ∨ (o.mut = false ∧ ∃ vs xs, o = .rol xs ∧ SqL K (fun _ => none) a vs ∧ RelL K H as xs vs) := by
  cases o with
  | lst xs => obtain ⟨vs, h1, h2⟩ := h; exact .inl ⟨_, h1, rfl⟩
  | rol xs =>
    obtain ⟨vs, h1, h2⟩ := h
    rcases h1 with ⟨o, e⟩ | e
    · exact .inl ⟨_, e, rfl⟩
    · exact .inr ⟨rfl, vs, xs, rfl, e, h2⟩
  | dic kvs => obtain ⟨kv, h1, h2⟩ := h; exact .inl ⟨_, h1, rfl⟩
  | dit kvs => obtain ⟨kv, h1, h2⟩ := h; exact .inl ⟨_, h1, rfl⟩
  | ins C fs => obtain ⟨dx, gs, h1, h2⟩ := h; exact .inl ⟨_, h1, rfl⟩
/-- an object stays where the heap keeps its address -/
theorem RelO.stay {o : O} {a : Addr} (h : RelO K H as o a) (l : Le K H as H' as') (k : ∀ u, H a = some u → isMut u = o.mut → H' a = some u) : RelO K H' as' o a := by
  rcases h.at with ⟨u, hu, m⟩ | ⟨m, vs, xs, rfl, e, r⟩
  · refine h.mono l fun w hw => ?_
    rw [hu] at hw; cases hw
    exact k u hu m
  · exact ⟨vs, .inr e, r.mono l⟩
/-- a new thing that the store does not hold (a tuple, a code object) -/
theorem Rel.grow (r : Rel K T S as H) (k : ∀ b o, H b = some o → H' b = some o) (ht : LamX.Tabs T H') : Rel K T S as H' :=
  ⟨r.len, r.inj, fun n o a h1 h2 => (r.obj n o a h1 h2).mono ⟨fun _ _ h => h, Kp.sqt fun b u e _ => k b u e⟩ fun u e => k _ _ e, ht⟩
theorem Rel.tup {p : Addr} {vs : List V} (r : Rel K T S as H) (h : H p = none) : Rel K T S as (upd H p (.tup vs)) :=
  r.grow (fun b o e => by rw [upd_ne (ne_of_none e h)]; exact e) ((Kp.new h).tabs r.tab)
/-- a new object -/
theorem Rel.alloc {p : Addr} {ho : HO} {o : O} (r : Rel K T S as H) (h : H p = none) (ro : RelO K (upd H p ho) (as ++ [p]) o p) : Rel K T (S ++ [o]) (as ++ [p]) (upd H p ho) := by
  have keep : ∀ b u, H b = some u → upd H p ho b = some u := fun b u e => by rw [upd_ne (ne_of_none e h)]; exact e
  have l : Le K H as (upd H p ho) (as ++ [p]) := (Kp.new h).leA p
  have ltA : ∀ {n : Nat}, n < S.length → (as ++ [p])[n]? = as[n]? := fun {n} hn => List.getElem?_append_left (by rw [r.len]; exact hn)
  have ltS : ∀ {n : Nat}, n < S.length → (S ++ [o])[n]? = S[n]? := fun {n} hn => List.getElem?_append_left hn
  have geA : (as ++ [p])[S.length]? = some p := by rw [← r.len]; simp
  have geS : (S ++ [o])[S.length]? = some o := by simp
  have cs : ∀ {n : Nat} {u : O}, (S ++ [o])[n]? = some u → n < S.length ∨ n = S.length := fun {n u} e => by
    have := (List.getElem?_eq_some_iff.mp e).1
    simp at this; omega
  have old : ∀ {n : Nat} {u : O}, S[n]? = some u → u.mut = true → as[n]? ≠ some p := fun {n u} e m z => by
    rcases (r.obj n u p e z).at with ⟨w, hw, _⟩ | ⟨m', _⟩
    · rw [h] at hw; cases hw
    · rw [m] at m'; cases m'
  refine ⟨by simp [r.len], fun n m a u w h1 h2 h3 h4 m1 m2 => ?_, fun n u a h1 h2 => ?_, (Kp.new h).tabs r.tab⟩
  · rcases cs h3 with hn | hn <;> rcases cs h4 with hm | hm
    · rw [ltA hn] at h1; rw [ltA hm] at h2; rw [ltS hn] at h3; rw [ltS hm] at h4
      exact r.inj n m a u w h1 h2 h3 h4 m1 m2
    · rw [ltA hn] at h1; rw [ltS hn] at h3
      rw [hm, geA] at h2; cases h2
      exact absurd h1 (old h3 m1)
    · rw [ltA hm] at h2; rw [ltS hm] at h4
      rw [hn, geA] at h1; cases h1
      exact absurd h2 (old h4 m2)
    · rw [hn, hm]
  · rcases cs h1 with hn | hn
    · rw [ltA hn] at h2; rw [ltS hn] at h1
      exact (r.obj n u a h1 h2).mono l fun w e => keep _ _ e
    · rw [hn, geS] at h1; rw [hn, geA] at h2
      cases h1; cases h2
      exact ro
/-- an object written -/
theorem Rel.write {n : Nat} {a : Addr} {ho u : HO} {o o' : O} (r : Rel K T S as H) (hn : S[n]? = some o) (ha : as[n]? = some a) (hu : H a = some u) (mu : isMut u = true) (mo : o.mut = true) (ro : RelO K (upd H a ho) as o' a) :
    Rel K T (S.set n o') as (upd H a ho) := by
  have k : Kp H (upd H a ho) := Kp.wr hu mu
  have l : Le K H as (upd H a ho) as := k.le
  have hlt : n < S.length := (List.getElem?_eq_some_iff.mp hn).1
  refine ⟨by simp [r.len], fun i j b w z h1 h2 h3 h4 m1 m2 => ?_, fun i w b h1 h2 => ?_, k.tabs r.tab⟩
  · by_cases hi : i = n <;> by_cases hj : j = n
    · rw [hi, hj]
    · subst hi
      rw [ha] at h1; cases h1
      rw [List.getElem?_set_ne (Ne.symm hj)] at h4
      exact r.inj i j _ o z ha h2 hn h4 mo m2
    · subst hj
      rw [ha] at h2; cases h2
      rw [List.getElem?_set_ne (Ne.symm hi)] at h3
      exact (r.inj j i _ o w ha h1 hn h3 mo m1).symm
    · rw [List.getElem?_set_ne (Ne.symm hi)] at h3
      rw [List.getElem?_set_ne (Ne.symm hj)] at h4
      exact r.inj i j b w z h1 h2 h3 h4 m1 m2
  · by_cases hi : i = n
    · subst hi
      rw [ha] at h2; cases h2
      rw [List.getElem?_set_self hlt] at h1; cases h1
      exact ro
    · rw [List.getElem?_set_ne (Ne.symm hi)] at h1
      refine (r.obj i w b h1 h2).stay l fun x hx m => ?_
      by_cases hb : b = a
      · subst hb
        rw [hu] at hx; cases hx
        rw [mu] at m
        exact absurd (r.inj i n b w o h2 ha h1 hn m.symm mo) hi
      · rw [upd_ne hb]; exact hx
end
end Sx

set_option Elab.async false
set_option linter.all false
set_option maxRecDepth 100000
set_option maxHeartbeats 1000000
namespace Sx
open PySem L2
inductive RE where | ok (a : A) (S : Sto) | exc (c : Value) (S : Sto) | stuck
inductive RA where | ok (l : List A) (S : Sto) | exc (c : Value) (S : Sto) | stuck
inductive RS where | nx (ρ : Ro) (S : Sto) | ret (a : A) (S : Sto) | brk (ρ : Ro) (S : Sto) | ct (ρ : Ro) (S : Sto) | exc (c : Value) (ρ : Ro) (S : Sto) | stuck
abbrev GE := Ro → Sto → RE
abbrev GA := Ro → Sto → RA
abbrev GS := Ro → Sto → RS
def RE.bind (r : RE) (k : A → Sto → RE) : RE := match r with
  | .ok a S => k a S
  | .exc c S => .exc c S
  | .stuck => .stuck
def RE.bindA (r : RE) (k : A → Sto → RA) : RA := match r with
  | .ok a S => k a S
  | .exc c S => .exc c S
  | .stuck => .stuck
def RE.bindS (r : RE) (ρ : Ro) (k : A → Sto → RS) : RS := match r with
  | .ok a S => k a S
  | .exc c S => .exc c ρ S
  | .stuck => .stuck
def RA.bind (r : RA) (k : List A → Sto → RE) : RE := match r with
  | .ok a S => k a S
  | .exc c S => .exc c S
  | .stuck => .stuck
def RA.bindA (r : RA) (k : List A → Sto → RA) : RA := match r with
  | .ok a S => k a S
  | .exc c S => .exc c S
  | .stuck => .stuck
@[simp] theorem RE.bind_ok (a : A) (S : Sto) (k : A → Sto → RE) : (RE.ok a S).bind k = k a S := rfl
@[simp] theorem RE.bind_exc (c : Value) (S : Sto) (k : A → Sto → RE) : (RE.exc c S).bind k = .exc c S := rfl
@[simp] theorem RE.bind_stuck (k : A → Sto → RE) : RE.stuck.bind k = .stuck := rfl
@[simp] theorem RE.bindA_ok (a : A) (S : Sto) (k : A → Sto → RA) : (RE.ok a S).bindA k = k a S := rfl
@[simp] theorem RE.bindA_exc (c : Value) (S : Sto) (k : A → Sto → RA) : (RE.exc c S).bindA k = .exc c S := rfl
@[simp] theorem RE.bindA_stuck (k : A → Sto → RA) : RE.stuck.bindA k = .stuck := rfl
@[simp] theorem RE.bindS_ok (a : A) (S : Sto) (ρ : Ro) (k : A → Sto → RS) : (RE.ok a S).bindS ρ k = k a S := rfl
@[simp] theorem RE.bindS_exc (c : Value) (S : Sto) (ρ : Ro) (k : A → Sto → RS) : (RE.exc c S).bindS ρ k = .exc c ρ S := rfl
@[simp] theorem RE.bindS_stuck (ρ : Ro) (k : A → Sto → RS) : RE.stuck.bindS ρ k = .stuck := rfl
@[simp] theorem RA.bind_ok (a : List A) (S : Sto) (k : List A → Sto → RE) : (RA.ok a S).bind k = k a S := rfl
@[simp] theorem RA.bind_exc (c : Value) (S : Sto) (k : List A → Sto → RE) : (RA.exc c S).bind k = .exc c S := rfl
@[simp] theorem RA.bind_stuck (k : List A → Sto → RE) : RA.stuck.bind k = .stuck := rfl
@[simp] theorem RA.bindA_ok (a : List A) (S : Sto) (k : List A → Sto → RA) : (RA.ok a S).bindA k = k a S := rfl
@[simp] theorem RA.bindA_exc (c : Value) (S : Sto) (k : List A → Sto → RA) : (RA.exc c S).bindA k = .exc c S := rfl
@[simp] theorem RA.bindA_stuck (k : List A → Sto → RA) : RA.stuck.bindA k = .stuck := rfl

/-! ### what a result asks -/
section
variable (K : Frg) (T : Tbs)
/-- a value without exceptions -/
def FinV (H : Hp) (as : List Addr) (Q : VK) : RE → Prop
  | .ok a S' => ∀ v as' H', Le K H as H' as' → Rel K T S' as' H' → RelA K H' as' a v → Q v H'
  | _ => False
def FinE (W : WX) (σ : St) (H : Hp) (as : List Addr) (Q : VK) : RE → Prop
  | .ok a S' => ∀ v as' H', Le K H as H' as' → Rel K T S' as' H' → RelA K H' as' a v → Q v H'
  | .exc c S' => ∀ as' H', Le K H as H' as' → Rel K T S' as' H' → W c none σ H'
  | .stuck => False
/-- a test -/
def FinT (W : WX) (σ : St) (H : Hp) (as : List Addr) (Q : Bool → Hp → Prop) : RE → Prop
  | .ok (.bl b) S' => ∀ as' H', Le K H as H' as' → Rel K T S' as' H' → Q b H'
  | .exc c S' => ∀ as' H', Le K H as H' as' → Rel K T S' as' H' → W c none σ H'
  | _ => False
def FinA (W : WX) (σ : St) (H : Hp) (as : List Addr) (Q : List V → Hp → Prop) : RA → Prop
  | .ok l S' => ∀ vs as' H', Le K H as H' as' → Rel K T S' as' H' → RelL K H' as' l vs → Q vs H'
  | .exc c S' => ∀ as' H', Le K H as H' as' → Rel K T S' as' H' → W c none σ H'
  | .stuck => False
def FinS (W : WX) (D : Ends) (H : Hp) (as : List Addr) : RS → Prop
  | .nx ρ' S' => ∀ σ' as' H', Le K H as H' as' → RelSt K T ρ' S' as' σ' H' → D.nx σ' H'
  | .ret a S' => ∀ v as' H', Le K H as H' as' → Rel K T S' as' H' → RelA K H' as' a v → D.rt v H'
  | .brk ρ' S' => ∀ σ' as' H', Le K H as H' as' → RelSt K T ρ' S' as' σ' H' → D.bk σ' H'
  | .ct ρ' S' => ∀ σ' as' H', Le K H as H' as' → RelSt K T ρ' S' as' σ' H' → D.ct σ' H'
  | .exc c ρ' S' => ∀ σ' as' H', Le K H as H' as' → RelSt K T ρ' S' as' σ' H' → W c none σ' H'
  | .stuck => False
def tE (W : WX) (g : GE) : TE := fun σ H Q => ∃ ρ S as, RelSt K T ρ S as σ H ∧ FinE K T W σ H as Q (g ρ S)
def tT (W : WX) (g : GE) : TT := fun σ H Q => ∃ ρ S as, RelSt K T ρ S as σ H ∧ FinT K T W σ H as Q (g ρ S)
def tA (W : WX) (g : GA) : TA := fun σ H Q => ∃ ρ S as, RelSt K T ρ S as σ H ∧ FinA K T W σ H as Q (g ρ S)
def tS (W : WX) (g : GS) : TS := fun D σ H => ∃ ρ S as, RelSt K T ρ S as σ H ∧ FinS K T W D H as (g ρ S)
/-- operations by values -/
def tR2 (r : A → A → Sto → RE) : R2 := fun x y H Q => ∃ a b S as, Rel K T S as H ∧ RelA K H as a x ∧ RelA K H as b y ∧ FinV K T H as Q (r a b S)
def tR1 (r : A → Sto → RE) : V → Hp → VK → Prop := fun x H Q => ∃ a S as, Rel K T S as H ∧ RelA K H as a x ∧ FinV K T H as Q (r a S)
def tRC (r : List A → Sto → RE) : List V → Hp → VK → Prop := fun xs H Q => ∃ l S as, Rel K T S as H ∧ RelL K H as l xs ∧ FinV K T H as Q (r l S)
def tRM (r : A → List A → Sto → RE) : V → List V → Hp → VK → Prop := fun x xs H Q => ∃ a l S as, Rel K T S as H ∧ RelA K H as a x ∧ RelL K H as l xs ∧ FinV K T H as Q (r a l S)
end
abbrev SE (X : Cx) (T : Tbs) (W : WX) (e : Expr) (g : GE) : Prop := PE X e (tE X.K T W g)
abbrev ST (X : Cx) (T : Tbs) (W : WX) (e : Expr) (g : GE) : Prop := PT X e (tT X.K T W g)
abbrev SW (X : Cx) (T : Tbs) (W : WX) (e : Expr) (g : GE) : Prop := PW X e (tT X.K T W g)
abbrev SA (X : Cx) (T : Tbs) (W : WX) (es : List Expr) (g : GA) : Prop := PA X es (tA X.K T W g)
abbrev SS (X : Cx) (T : Tbs) (W : WX) (st : Stmt) (g : GS) : Prop := PS X st (tS X.K T W g)
abbrev SB (X : Cx) (T : Tbs) (W : WX) (st : List Stmt) (g : GS) : Prop := PSs X st (tS X.K T W g)

section
variable {K : Frg} {T : Tbs} {W : WX} {H H' : Hp} {as as' : List Addr} {S S' : Sto} {ρ ρ' : Ro} {σ : St}
theorem FinV.later {Q : VK} {r : RE} (h : FinV K T H as Q r) (l : Le K H as H' as') : FinV K T H' as' Q r := by
  cases r with
  | ok a S => exact fun v as2 H2 l2 => h v as2 H2 (l.trans l2)
  | exc c S => exact h
  | stuck => exact h
theorem FinE.later {Q : VK} {r : RE} (h : FinE K T W σ H as Q r) (l : Le K H as H' as') : FinE K T W σ H' as' Q r := by
  cases r with
  | ok a S => exact fun v as2 H2 l2 => h v as2 H2 (l.trans l2)
  | exc c S => exact fun as2 H2 l2 => h as2 H2 (l.trans l2)
  | stuck => exact h
theorem FinT.later {Q : Bool → Hp → Prop} {r : RE} (h : FinT K T W σ H as Q r) (l : Le K H as H' as') : FinT K T W σ H' as' Q r := by
  cases r with
  | ok a S => cases a with
    | bl b => exact fun as2 H2 l2 => h as2 H2 (l.trans l2)
    | _ => exact h
  | exc c S => exact fun as2 H2 l2 => h as2 H2 (l.trans l2)
  | stuck => exact h
theorem FinA.later {Q : List V → Hp → Prop} {r : RA} (h : FinA K T W σ H as Q r) (l : Le K H as H' as') : FinA K T W σ H' as' Q r := by
  cases r with
  | ok a S => exact fun v as2 H2 l2 => h v as2 H2 (l.trans l2)
  | exc c S => exact fun as2 H2 l2 => h as2 H2 (l.trans l2)
  | stuck => exact h
theorem FinS.later {D : Ends} {r : RS} (h : FinS K T W D H as r) (l : Le K H as H' as') : FinS K T W D H' as' r := by
  cases r with
  | nx ρ S => exact fun v as2 H2 l2 => h v as2 H2 (l.trans l2)
  | ret a S => exact fun v as2 H2 l2 => h v as2 H2 (l.trans l2)
  | brk ρ S => exact fun v as2 H2 l2 => h v as2 H2 (l.trans l2)
  | ct ρ S => exact fun v as2 H2 l2 => h v as2 H2 (l.trans l2)
  | exc c ρ S => exact fun v as2 H2 l2 => h v as2 H2 (l.trans l2)
  | stuck => exact h
/-- what stands behind a part -/
def Aft (K : Frg) (T : Tbs) (H : Hp) (as : List Addr) (a : A) (S1 : Sto) (x : V) (H1 : Hp) (P : List Addr → Prop) : Prop := ∃ as1, Le K H as H1 as1 ∧ Rel K T S1 as1 H1 ∧ RelA K H1 as1 a x ∧ P as1
/-- an expression first: e by bind -/
theorem seqE {g : GE} {k : A → Sto → RE} {Q : VK} {R : V → Hp → Prop} (rs : RelSt K T ρ S as σ H) (f : FinE K T W σ H as Q ((g ρ S).bind k))
    (n : ∀ a S1 v as1 H1, RelSt K T ρ S1 as1 σ H1 → RelA K H1 as1 a v → FinE K T W σ H1 as1 Q (k a S1) → Le K H as H1 as1 → R v H1) : tE K T W g σ H R := by
  refine ⟨ρ, S, as, rs, ?_⟩
  cases e : g ρ S with
  | ok a S1 =>
    rw [e] at f
    exact fun v as1 H1 l r ra => n a S1 v as1 H1 (rs.mono l r) ra (FinE.later f l) l
  | exc c S1 => rw [e] at f; exact f
  | stuck => rw [e] at f; exact f
theorem seqT {g : GE} {k : A → Sto → RE} {Q : Bool → Hp → Prop} {R : V → Hp → Prop} (rs : RelSt K T ρ S as σ H) (f : FinT K T W σ H as Q ((g ρ S).bind k))
    (n : ∀ a S1 v as1 H1, RelSt K T ρ S1 as1 σ H1 → RelA K H1 as1 a v → FinT K T W σ H1 as1 Q (k a S1) → Le K H as H1 as1 → R v H1) : tE K T W g σ H R := by
  refine ⟨ρ, S, as, rs, ?_⟩
  cases e : g ρ S with
  | ok a S1 =>
    rw [e] at f
    exact fun v as1 H1 l r ra => n a S1 v as1 H1 (rs.mono l r) ra (FinT.later f l) l
  | exc c S1 => rw [e] at f; exact f
  | stuck => rw [e] at f; exact f
theorem seqA {g : GE} {k : A → Sto → RA} {Q : List V → Hp → Prop} {R : V → Hp → Prop} (rs : RelSt K T ρ S as σ H) (f : FinA K T W σ H as Q ((g ρ S).bindA k))
    (n : ∀ a S1 v as1 H1, RelSt K T ρ S1 as1 σ H1 → RelA K H1 as1 a v → FinA K T W σ H1 as1 Q (k a S1) → Le K H as H1 as1 → R v H1) : tE K T W g σ H R := by
  refine ⟨ρ, S, as, rs, ?_⟩
  cases e : g ρ S with
  | ok a S1 =>
    rw [e] at f
    exact fun v as1 H1 l r ra => n a S1 v as1 H1 (rs.mono l r) ra (FinA.later f l) l
  | exc c S1 => rw [e] at f; exact f
  | stuck => rw [e] at f; exact f
theorem seqAE {g : GA} {k : List A → Sto → RE} {Q : VK} {R : List V → Hp → Prop} (rs : RelSt K T ρ S as σ H) (f : FinE K T W σ H as Q ((g ρ S).bind k))
    (n : ∀ a S1 v as1 H1, RelSt K T ρ S1 as1 σ H1 → RelL K H1 as1 a v → FinE K T W σ H1 as1 Q (k a S1) → Le K H as H1 as1 → R v H1) : tA K T W g σ H R := by
  refine ⟨ρ, S, as, rs, ?_⟩
  cases e : g ρ S with
  | ok a S1 =>
    rw [e] at f
    exact fun v as1 H1 l r ra => n a S1 v as1 H1 (rs.mono l r) ra (FinE.later f l) l
  | exc c S1 => rw [e] at f; exact f
  | stuck => rw [e] at f; exact f
theorem seqAA {g : GA} {k : List A → Sto → RA} {Q : List V → Hp → Prop} {R : List V → Hp → Prop} (rs : RelSt K T ρ S as σ H) (f : FinA K T W σ H as Q ((g ρ S).bindA k))
    (n : ∀ a S1 v as1 H1, RelSt K T ρ S1 as1 σ H1 → RelL K H1 as1 a v → FinA K T W σ H1 as1 Q (k a S1) → Le K H as H1 as1 → R v H1) : tA K T W g σ H R := by
  refine ⟨ρ, S, as, rs, ?_⟩
  cases e : g ρ S with
  | ok a S1 =>
    rw [e] at f
    exact fun v as1 H1 l r ra => n a S1 v as1 H1 (rs.mono l r) ra (FinA.later f l) l
  | exc c S1 => rw [e] at f; exact f
  | stuck => rw [e] at f; exact f
theorem seqES {g : GE} {k : A → Sto → RS} {D : Ends} {R : V → Hp → Prop} (rs : RelSt K T ρ S as σ H) (f : FinS K T W D H as ((g ρ S).bindS ρ k))
    (n : ∀ a S1 v as1 H1, RelSt K T ρ S1 as1 σ H1 → RelA K H1 as1 a v → FinS K T W D H1 as1 (k a S1) → Le K H as H1 as1 → R v H1) : tE K T W g σ H R := by
  refine ⟨ρ, S, as, rs, ?_⟩
  cases e : g ρ S with
  | ok a S1 =>
    rw [e] at f
    exact fun v as1 H1 l r ra => n a S1 v as1 H1 (rs.mono l r) ra (FinS.later f l) l
  | exc c S1 => rw [e] at f; exact fun as1 H1 l r => f σ as1 H1 l (rs.mono l r)
  | stuck => rw [e] at f; exact f
/-- a test first -/
def RE.bindT (r : RE) (k : Bool → Sto → RE) : RE := match r with
  | .ok (.bl b) S => k b S
  | .ok _ _ => .stuck
  | .exc c S => .exc c S
  | .stuck => .stuck
def RE.bindTS (r : RE) (ρ : Ro) (k : Bool → Sto → RS) : RS := match r with
  | .ok (.bl b) S => k b S
  | .ok _ _ => .stuck
  | .exc c S => .exc c ρ S
  | .stuck => .stuck
@[simp] theorem RE.bindT_ok (b : Bool) (S : Sto) (k : Bool → Sto → RE) : (RE.ok (.bl b) S).bindT k = k b S := rfl
@[simp] theorem RE.bindT_exc (c : Value) (S : Sto) (k : Bool → Sto → RE) : (RE.exc c S).bindT k = .exc c S := rfl
@[simp] theorem RE.bindT_stuck (k : Bool → Sto → RE) : RE.stuck.bindT k = .stuck := rfl
@[simp] theorem RE.bindTS_ok (b : Bool) (S : Sto) (ρ : Ro) (k : Bool → Sto → RS) : (RE.ok (.bl b) S).bindTS ρ k = k b S := rfl
@[simp] theorem RE.bindTS_exc (c : Value) (S : Sto) (ρ : Ro) (k : Bool → Sto → RS) : (RE.exc c S).bindTS ρ k = .exc c ρ S := rfl
@[simp] theorem RE.bindTS_stuck (ρ : Ro) (k : Bool → Sto → RS) : RE.stuck.bindTS ρ k = .stuck := rfl
theorem seqTE {g : GE} {k : Bool → Sto → RE} {Q : VK} {R : Bool → Hp → Prop} (rs : RelSt K T ρ S as σ H) (f : FinE K T W σ H as Q ((g ρ S).bindT k))
    (n : ∀ b S1 as1 H1, RelSt K T ρ S1 as1 σ H1 → FinE K T W σ H1 as1 Q (k b S1) → Le K H as H1 as1 → R b H1) : tT K T W g σ H R := by
  refine ⟨ρ, S, as, rs, ?_⟩
  cases e : g ρ S with
  | ok a S1 =>
    rw [e] at f
    cases a with
    | bl b => exact fun as1 H1 l r => n b S1 as1 H1 (rs.mono l r) (FinE.later f l) l
    | _ => exact False.elim f
  | exc c S1 => rw [e] at f; exact f
  | stuck => rw [e] at f; exact f
theorem seqTT {g : GE} {k : Bool → Sto → RE} {Q : Bool → Hp → Prop} {R : Bool → Hp → Prop} (rs : RelSt K T ρ S as σ H) (f : FinT K T W σ H as Q ((g ρ S).bindT k))
    (n : ∀ b S1 as1 H1, RelSt K T ρ S1 as1 σ H1 → FinT K T W σ H1 as1 Q (k b S1) → Le K H as H1 as1 → R b H1) : tT K T W g σ H R := by
  refine ⟨ρ, S, as, rs, ?_⟩
  cases e : g ρ S with
  | ok a S1 =>
    rw [e] at f
    cases a with
    | bl b => exact fun as1 H1 l r => n b S1 as1 H1 (rs.mono l r) (FinT.later f l) l
    | _ => exact False.elim f
  | exc c S1 => rw [e] at f; exact f
  | stuck => rw [e] at f; exact f
theorem seqTS {g : GE} {k : Bool → Sto → RS} {D : Ends} {R : Bool → Hp → Prop} (rs : RelSt K T ρ S as σ H) (f : FinS K T W D H as ((g ρ S).bindTS ρ k))
    (n : ∀ b S1 as1 H1, RelSt K T ρ S1 as1 σ H1 → FinS K T W D H1 as1 (k b S1) → Le K H as H1 as1 → R b H1) : tT K T W g σ H R := by
  refine ⟨ρ, S, as, rs, ?_⟩
  cases e : g ρ S with
  | ok a S1 =>
    rw [e] at f
    cases a with
    | bl b => exact fun as1 H1 l r => n b S1 as1 H1 (rs.mono l r) (FinS.later f l) l
    | _ => exact False.elim f
  | exc c S1 => rw [e] at f; exact fun as1 H1 l r => f σ as1 H1 l (rs.mono l r)
  | stuck => rw [e] at f; exact f
/-- by values: no exception -/
theorem FinE.v {Q : VK} {r : RE} (h : FinE K T W σ H as Q r) (n : ∀ c S, r ≠ .exc c S) : FinV K T H as Q r := by
  cases r with
  | ok a S => exact h
  | exc c S => exact absurd rfl (n c S)
  | stuck => exact h
end

/-! ### the rules: names, constants, operations, tests -/
/-- an operation by values that raises nothing -/
def RE.nox : RE → RE
  | .exc _ _ => .stuck
  | r => r
@[simp] theorem RE.nox_ok (a : A) (S : Sto) : (RE.ok a S).nox = .ok a S := rfl
@[simp] theorem RE.nox_stuck : RE.stuck.nox = .stuck := rfl
theorem FinE.nox {K : Frg} {T : Tbs} {W : WX} {H : Hp} {as : List Addr} {σ : St} {Q : VK} {r : RE} (h : FinE K T W σ H as Q r.nox) : FinV K T H as Q r := by
  cases r with
  | ok a S => exact h
  | exc c S => exact h
  | stuck => exact h
def gVar (i : Nat) : GE := fun ρ S => match ρ[i]? with
  | some (some a) => .ok a S
  | _ => .stuck
def gC (a : A) : GE := fun _ S => .ok a S
def gOp (r : A → A → Sto → RE) (g1 g2 : GE) : GE := fun ρ S => (g1 ρ S).bind fun a S1 => (g2 ρ S1).bind fun b S2 => (r a b S2).nox
def gUn (r : A → Sto → RE) (g : GE) : GE := fun ρ S => (g ρ S).bind fun a S1 => (r a S1).nox
def gAnd (g1 g2 : GE) : GE := fun ρ S => (g1 ρ S).bindT fun b S1 => if b = true then g2 ρ S1 else .ok (.bl false) S1
def gOr (g1 g2 : GE) : GE := fun ρ S => (g1 ρ S).bindT fun b S1 => if b = true then .ok (.bl true) S1 else g2 ρ S1
def gNot (g : GE) : GE := fun ρ S => (g ρ S).bindT fun b S1 => .ok (.bl (!b)) S1
def gIf (c g1 g2 : GE) : GE := fun ρ S => (c ρ S).bindT fun b S1 => if b = true then g1 ρ S1 else g2 ρ S1
def gNil : GA := fun _ S => .ok [] S
def gCons (g : GE) (gs : GA) : GA := fun ρ S => (g ρ S).bindA fun a S1 => (gs ρ S1).bindA fun l S2 => .ok (a :: l) S2
def gTup (gs : GA) : GE := fun ρ S => (gs ρ S).bind fun l S1 => if l.length ≤ 4000000 then .ok (.tup l) S1 else .stuck
def gLst (gs : GA) : GE := fun ρ S => (gs ρ S).bind fun l S1 => if l.length ≤ 4000000 then .ok (.ob S1.length) (S1 ++ [.lst l]) else .stuck
def gCB (r : List A → Sto → RE) (gs : GA) : GE := fun ρ S => (gs ρ S).bind fun l S1 => (r l S1).nox
def gBM (r : A → List A → Sto → RE) (g : GE) (gs : GA) : GE := fun ρ S => (g ρ S).bind fun a S1 => (gs ρ S1).bind fun l S2 => (r a l S2).nox
def gChain (r r' : A → A → Sto → RE) (ga gb gc : GE) : GE := fun ρ S => (ga ρ S).bind fun a S1 => (gb ρ S1).bind fun b S2 => ((r a b S2).nox).bindT fun k S3 => if k = true then (gc ρ S3).bind fun c S4 => (r' b c S4).nox else .ok (.bl false) S3
abbrev OpS (X : Cx) (T : Tbs) (f : Value → Value → Sem Value) (r : A → A → Sto → RE) : Prop := OpR X f (tR2 X.K T r)
abbrev UnS (X : Cx) (T : Tbs) (f : Value → Sem Value) (r : A → Sto → RE) : Prop := UnR X f (tR1 X.K T r)
abbrev CallS (X : Cx) (T : Tbs) (f : Value) (r : List A → Sto → RE) : Prop := CallR X f (tRC X.K T r)
abbrev MtS (X : Cx) (T : Tbs) (id : String) (r : A → List A → Sto → RE) : Prop := MtR X id (tRM X.K T r)
abbrev IxS (X : Cx) (T : Tbs) (r : A → A → Sto → RE) : Prop := IxR X (tR2 X.K T r)
section
variable {X : Cx} {T : Tbs} {W : WX} {e a b c : Expr} {es : List Expr} {pos : Pos}
theorem pe_imp {t t' : TE} (h : PE X e t) (i : ∀ σ H Q, t' σ H Q → t σ H Q) : PE X e t' := ⟨fun pins s σ H Q I q => h.run pins s σ H Q I (i _ _ _ q)⟩
theorem pt_imp {t t' : TT} (h : PT X e t) (i : ∀ σ H Q, t' σ H Q → t σ H Q) : PT X e t' := ⟨fun pins s σ H Q I q => h.run pins s σ H Q I (i _ _ _ q)⟩
theorem pw_imp {t t' : TT} (h : PW X e t) (i : ∀ σ H Q, t' σ H Q → t σ H Q) : PW X e t' := ⟨fun wh pins s σ H Q I q => h.run wh pins s σ H Q I (i _ _ _ q)⟩
theorem pa_imp {t t' : TA} (h : PA X es t) (i : ∀ σ H Q, t' σ H Q → t σ H Q) : PA X es t' := ⟨fun pos pins s σ H Q I q => h.run pos pins s σ H Q I (i _ _ _ q)⟩
theorem ps_imp {st : Stmt} {t t' : TS} (h : PS X st t) (i : ∀ D σ H, t' D σ H → t D σ H) : PS X st t' := ⟨fun pins s σ H D I q => h.run pins s σ H D I (i _ _ _ q)⟩
theorem pss_imp {st : List Stmt} {t t' : TS} (h : PSs X st t) (i : ∀ D σ H, t' D σ H → t D σ H) : PSs X st t' := ⟨fun pins s σ H D I q => h.run pins s σ H D I (i _ _ _ q)⟩
theorem se_var' {i : Nat} (h : PE X e (tVar i)) : SE X T W e (gVar i) := pe_imp h fun σ H Q ⟨ρ, S, as, rs, f⟩ => by
  unfold gVar at f
  split at f
  · rename_i a ea
    obtain ⟨v, h1, h2⟩ := rs.slot i a ea
    exact ⟨v, h1, f v as H .refl rs.rel h2⟩
  · exact False.elim f
theorem se_c' {v : V} {x : A} (h : PE X e (tC v)) (r : ∀ H as, RelA X.K H as x v) : SE X T W e (gC x) := pe_imp h fun σ H Q ⟨ρ, S, as, rs, f⟩ => f v as H .refl rs.rel (r H as)
theorem se_int {i j pos} : SE X T W (.Constant (.int i) j pos) (gC (.int i)) := se_c' pe_int fun _ _ => .int i
theorem se_bl {i j pos} : SE X T W (.Constant (.bool i) j pos) (gC (.bl i)) := se_c' pe_bl fun _ _ => .bl i
theorem se_non {j pos} : SE X T W (.Constant .none j pos) (gC .non) := se_c' pe_non fun _ _ => .non
theorem se_str {x j pos} : SE X T W (.Constant (.str x) j pos) (gC (.str x)) := se_c' pe_str fun _ _ => .str x
theorem op_imp {f : Value → Value → Sem Value} {r : R2} {q : A → A → Sto → RE} (h : OpR X f r) (i : ∀ x y H Q a b S as, Rel X.K T S as H → RelA X.K H as a x → RelA X.K H as b y → FinV X.K T H as Q (q a b S) → r x y H Q) : OpS X T f q :=
  fun pins s σ H x y v u Q I rx ry ⟨a, b, S, as, r0, ra, rb, fv⟩ => h pins s σ H x y v u Q I rx ry (i x y H Q a b S as r0 ra rb fv)
theorem ix_imp {r : R2} {q : A → A → Sto → RE} (h : IxR X r) (i : ∀ x y H Q a b S as, Rel X.K T S as H → RelA X.K H as a x → RelA X.K H as b y → FinV X.K T H as Q (q a b S) → r x y H Q) : IxS X T q :=
  fun value slice pins s σ H x y v u Q I rx ry ⟨a, b, S, as, r0, ra, rb, fv⟩ hs => h value slice pins s σ H x y v u Q I rx ry (i x y H Q a b S as r0 ra rb fv) hs
theorem call_imp {f : Value} {r : List V → Hp → VK → Prop} {q : List A → Sto → RE} (h : CallR X f r) (i : ∀ xs H Q l S as, Rel X.K T S as H → RelL X.K H as l xs → FinV X.K T H as Q (q l S) → r xs H Q) : CallS X T f q :=
  fun pins s σ H xs us Q I rx ⟨l, S, as, r0, rl, fv⟩ => h pins s σ H xs us Q I rx (i xs H Q l S as r0 rl fv)
theorem mt_imp {id : String} {r : V → List V → Hp → VK → Prop} {q : A → List A → Sto → RE} (h : MtR X id r) (i : ∀ x xs H Q a l S as, Rel X.K T S as H → RelA X.K H as a x → RelL X.K H as l xs → FinV X.K T H as Q (q a l S) → r x xs H Q) : MtS X T id q :=
  fun pins s σ H x xs v us Q I rx rs ⟨a, l, S, as, r0, ra, rl, fv⟩ => h pins s σ H x xs v us Q I rx rs (i x xs H Q a l S as r0 ra rl fv)
variable {ga gb gc g : GE} {gs : GA}
theorem op2 {r : A → A → Sto → RE} {σ : St} {H : Hp} {Q : VK} (h : tE X.K T W (gOp r ga gb) σ H Q) : tOp (tR2 X.K T r) (tE X.K T W ga) (tE X.K T W gb) σ H Q := by
  obtain ⟨ρ, S, as, rs, f⟩ := h
  refine seqE rs f fun x S1 v as1 H1 rs1 rx f1 l1 => ?_
  refine seqE rs1 f1 fun y S2 w as2 H2 rs2 ry f2 l2 => ?_
  exact ⟨x, y, S2, as2, rs2.rel, rx.mono l2, ry, FinE.nox f2⟩
theorem op2T {r : A → A → Sto → RE} {σ : St} {H : Hp} {Q : Bool → Hp → Prop} (h : tT X.K T W (gOp r ga gb) σ H Q) : tTest (tOp (tR2 X.K T r) (tE X.K T W ga) (tE X.K T W gb)) σ H Q := by
  obtain ⟨ρ, S, as, rs, f⟩ := h
  refine seqT rs f fun x S1 v as1 H1 rs1 rx f1 l1 => ?_
  refine seqT rs1 f1 fun y S2 w as2 H2 rs2 ry f2 l2 => ?_
  refine ⟨x, y, S2, as2, rs2.rel, rx.mono l2, ry, ?_⟩
  cases e : r x y S2 with
  | ok z S3 =>
    rw [e] at f2
    cases z with
    | bl b => exact fun v as3 H3 l r ra => by cases ra; exact ⟨b, rfl, f2 as3 H3 l r⟩
    | _ => exact False.elim f2
  | exc c S3 => rw [e] at f2; exact f2
  | stuck => rw [e] at f2; exact f2
theorem se_op {op : Operator} {r : A → A → Sto → RE} (ho : OpS X T (binaryOp op) r) (ha : SE X T W a ga) (hb : SE X T W b gb) : SE X T W (.BinOp a op b pos) (gOp r ga gb) := pe_imp (pe_op ho ha hb) fun _ _ _ => op2
theorem se_cmp {op : CmpOp} {r : A → A → Sto → RE} (ho : OpS X T (compareOp op) r) (ha : SE X T W a ga) (hb : SE X T W b gb) (hm : behindInMarks op b = false) : SE X T W (.Compare a [op] [b] pos) (gOp r ga gb) := pe_imp (pe_cmpR ho ha hb hm) fun _ _ _ => op2
theorem st_cmp {op : CmpOp} {r : A → A → Sto → RE} (ho : OpS X T (compareOp op) r) (ha : SE X T W a ga) (hb : SE X T W b gb) (hm : behindInMarks op b = false) : ST X T W (.Compare a [op] [b] pos) (gOp r ga gb) := pt_imp (pt_cmpR ho ha hb hm) fun _ _ _ => op2T
theorem se_ix {r : A → A → Sto → RE} (hr : IxS X T r) (ha : SE X T W a ga) (hb : SE X T W b gb) (hs : PlainIx b) : SE X T W (.Subscript a b pos) (gOp r ga gb) := pe_imp (pe_ix hr ha hb hs) fun _ _ _ => op2
theorem se_un {op : UnaryOp} {r : A → Sto → RE} (ho : UnS X T (unaryOp op) r) (ha : SE X T W a ga) : SE X T W (.UnaryOp op a pos) (gUn r ga) := pe_imp (pe_un ho ha) fun σ H Q ⟨ρ, S, as, rs, f⟩ => by
  refine seqE rs f fun x S1 v as1 H1 rs1 rx f1 l1 => ?_
  exact ⟨x, S1, as1, rs1.rel, rx, FinE.nox f1⟩
theorem chainI {r r' : A → A → Sto → RE} {σ : St} {H : Hp} {Q : VK} (h : tE X.K T W (gChain r r' ga gb gc) σ H Q) : tChain (tR2 X.K T r) (tR2 X.K T r') (tE X.K T W ga) (tE X.K T W gb) (tE X.K T W gc) σ H Q := by
  obtain ⟨ρ, S, as, rs, f⟩ := h
  refine seqE rs f fun x S1 v as1 H1 rs1 rx f1 l1 => ?_
  refine seqE rs1 f1 fun y S2 w as2 H2 rs2 ry f2 l2 => ?_
  refine ⟨x, y, S2, as2, rs2.rel, rx.mono l2, ry, ?_⟩
  cases e : r x y S2 with
  | exc c S3 => rw [e] at f2; exact f2
  | stuck => rw [e] at f2; exact f2
  | ok z S3 =>
    rw [e] at f2
    cases z with
    | bl k =>
      intro u as3 H3 l3 r3 ra3
      cases ra3
      refine ⟨k, rfl, ?_⟩
      have f3 : FinE X.K T W σ H3 as3 Q (if k = true then (gc ρ S3).bind fun c S4 => (r' y c S4).nox else .ok (.bl false) S3) := FinE.later f2 l3
      have rs3 := rs2.mono l3 r3
      cases k with
      | true =>
        refine seqE rs3 f3 fun z S4 w4 as4 H4 rs4 rz f4 l4 => ?_
        exact ⟨y, z, S4, as4, rs4.rel, (ry.mono l3).mono l4, rz, FinE.nox f4⟩
      | false => exact f3 _ as3 H3 .refl r3 (.bl false)
    | _ => exact False.elim f2
theorem se_chain {op op' : CmpOp} {r r' : A → A → Sto → RE} (ho : OpS X T (compareOp op) r) (ho' : OpS X T (compareOp op') r') (ha : SE X T W a ga) (hb : SE X T W b gb) (hc : SE X T W c gc) (hm : lastMarks [op, op'] [b, c] = false := by with_unfolding_all rfl) :
    SE X T W (.Compare a [op, op'] [b, c] pos) (gChain r r' ga gb gc) := pe_imp (pe_chain ho ho' ha hb hc hm) fun _ _ _ => chainI
/-- a test as an expression -/
theorem FinT.toE {K : Frg} {σ : St} {H : Hp} {as : List Addr} {Q : Bool → Hp → Prop} {r : RE} (h : FinT K T W σ H as Q r) : FinE K T W σ H as (fun x H' => ∃ k, x = .bl k ∧ Q k H') r := by
  cases r with
  | ok z S => cases z with
    | bl b => exact fun v as' H' l r ra => by cases ra; exact ⟨b, rfl, h as' H' l r⟩
    | _ => exact False.elim h
  | exc c S => exact h
  | stuck => exact h
theorem tT.toE {K : Frg} {σ : St} {H : Hp} {Q : Bool → Hp → Prop} (h : tT K T W g σ H Q) : tE K T W g σ H (fun x H' => ∃ k, x = .bl k ∧ Q k H') :=
  let ⟨ρ, S, as, rs, f⟩ := h; ⟨ρ, S, as, rs, FinT.toE f⟩
theorem st_chain {op op' : CmpOp} {r r' : A → A → Sto → RE} (ho : OpS X T (compareOp op) r) (ho' : OpS X T (compareOp op') r') (ha : SE X T W a ga) (hb : SE X T W b gb) (hc : SE X T W c gc) (hm : lastMarks [op, op'] [b, c] = false := by with_unfolding_all rfl) :
    ST X T W (.Compare a [op, op'] [b, c] pos) (gChain r r' ga gb gc) := pt_imp (pt_chain ho ho' ha hb hc hm) fun _ _ _ h => chainI (tT.toE h)
/-- a bool's expression as a test -/
theorem st_val (h : SE X T W e g) (he : ∀ whole, isTrue e X.env whole = (do let v ← whole; standAt e.pos; holding [v] (truthy v)) := by intro _; rfl) : ST X T W e g := pt_imp (pt_val h he) fun _ _ _ h => tT.toE h
theorem st_not (h : ST X T W a g) : ST X T W (.UnaryOp .Not a pos) (gNot g) := pt_imp (pt_not h) fun σ H Q ⟨ρ, S, as, rs, f⟩ =>
  seqTT rs f fun b S1 as1 H1 rs1 f1 l1 => f1 as1 H1 .refl rs1.rel
variable {rest : List Expr}
theorem sw_and1 (h : ST X T W a g) : SW X T W (.BoolOp .And [a] pos) g := pw_and1 h
theorem sw_or1 (h : ST X T W a g) : SW X T W (.BoolOp .Or [a] pos) g := pw_or1 h
theorem sw_and (ha : ST X T W a ga) (hb : SW X T W (.BoolOp .And (b :: rest) pos) gb) : SW X T W (.BoolOp .And (a :: b :: rest) pos) (gAnd ga gb) := pw_imp (pw_and ha hb) fun σ H Q ⟨ρ, S, as, rs, f⟩ =>
  seqTT rs f fun k S1 as1 H1 rs1 f1 l1 => by
    cases k with
    | true => exact ⟨ρ, S1, as1, rs1, f1⟩
    | false => exact f1 as1 H1 .refl rs1.rel
theorem sw_or (ha : ST X T W a ga) (hb : SW X T W (.BoolOp .Or (b :: rest) pos) gb) : SW X T W (.BoolOp .Or (a :: b :: rest) pos) (gOr ga gb) := pw_imp (pw_or ha hb) fun σ H Q ⟨ρ, S, as, rs, f⟩ =>
  seqTT rs f fun k S1 as1 H1 rs1 f1 l1 => by
    cases k with
    | false => exact ⟨ρ, S1, as1, rs1, f1⟩
    | true => exact f1 as1 H1 .refl rs1.rel
theorem st_w (h : SW X T W e g) : ST X T W e g := PW.pt h
/-- an expression first, a bool -/
theorem seqB {K : Frg} {σ : St} {H : Hp} {as : List Addr} {S : Sto} {ρ : Ro} {k : Bool → Sto → RE} {Q : VK} {R : V → Hp → Prop} (rs : RelSt K T ρ S as σ H) (f : FinE K T W σ H as Q ((g ρ S).bindT k))
    (n : ∀ b S1 as1 H1, RelSt K T ρ S1 as1 σ H1 → FinE K T W σ H1 as1 Q (k b S1) → Le K H as H1 as1 → R (.bl b) H1) : tE K T W g σ H R := by
  refine ⟨ρ, S, as, rs, ?_⟩
  cases e : g ρ S with
  | ok a S1 =>
    rw [e] at f
    cases a with
    | bl b => exact fun v as1 H1 l r ra => by cases ra; exact n b S1 as1 H1 (rs.mono l r) (FinE.later f l) l
    | _ => exact False.elim f
  | exc c S1 => rw [e] at f; exact f
  | stuck => rw [e] at f; exact f
theorem se_one {op} (h : SE X T W a g) : SE X T W (.BoolOp op [a] pos) g := pe_one h
theorem se_and (ha : SE X T W a ga) (hb : SE X T W (.BoolOp .And (b :: rest) pos) gb) : SE X T W (.BoolOp .And (a :: b :: rest) pos) (gAnd ga gb) := pe_imp (pe_and ha hb) fun σ H Q ⟨ρ, S, as, rs, f⟩ =>
  seqB rs f fun k S1 as1 H1 rs1 f1 l1 => ⟨k, rfl, by
    cases k with
    | true => exact ⟨ρ, S1, as1, rs1, f1⟩
    | false => exact f1 _ as1 H1 .refl rs1.rel (.bl false)⟩
theorem se_or (ha : SE X T W a ga) (hb : SE X T W (.BoolOp .Or (b :: rest) pos) gb) : SE X T W (.BoolOp .Or (a :: b :: rest) pos) (gOr ga gb) := pe_imp (pe_or ha hb) fun σ H Q ⟨ρ, S, as, rs, f⟩ =>
  seqB rs f fun k S1 as1 H1 rs1 f1 l1 => ⟨k, rfl, by
    cases k with
    | false => exact ⟨ρ, S1, as1, rs1, f1⟩
    | true => exact f1 _ as1 H1 .refl rs1.rel (.bl true)⟩
theorem se_not (h : SE X T W a g) : SE X T W (.UnaryOp .Not a pos) (gNot g) := pe_imp (pe_not h) fun σ H Q ⟨ρ, S, as, rs, f⟩ =>
  seqB rs f fun k S1 as1 H1 rs1 f1 l1 => ⟨k, rfl, f1 _ as1 H1 .refl rs1.rel (.bl _)⟩
theorem se_if (hc : ST X T W c gc) (ha : SE X T W a ga) (hb : SE X T W b gb) : SE X T W (.IfExp c a b pos) (gIf gc ga gb) := pe_imp (pe_ifExp hc ha hb) fun σ H Q ⟨ρ, S, as, rs, f⟩ =>
  seqTE rs f fun k S1 as1 H1 rs1 f1 l1 => by
    cases k with
    | true => exact ⟨ρ, S1, as1, rs1, f1⟩
    | false => exact ⟨ρ, S1, as1, rs1, f1⟩
theorem sa_nil : SA X T W [] gNil := pa_imp pa_nil fun σ H Q ⟨ρ, S, as, rs, f⟩ => f _ as H .refl rs.rel .nil
theorem sa_cons (ha : SE X T W e g) (hr : SA X T W es gs) (hs : starEach (e :: es) X.env = (false, eval e X.env) :: starEach es X.env := by rfl) : SA X T W (e :: es) (gCons g gs) := pa_imp (pa_cons ha hr hs) fun σ H Q ⟨ρ, S, as, rs, f⟩ =>
  seqA rs f fun x S1 v as1 H1 rs1 rx f1 l1 => seqAA rs1 f1 fun l S2 vs as2 H2 rs2 rl f2 l2 => f2 _ as2 H2 .refl rs2.rel (.cons (rx.mono l2) rl)
theorem sz5 {n : Nat} (h : n ≤ 4000000) : n ≤ sizeLine := Nat.le_trans h (by decide)
theorem se_tup {x1} (h : SA X T W es gs) : SE X T W (.Tuple es x1 pos) (gTup gs) := pe_imp (pe_tup h) fun σ H Q ⟨ρ, S, as, rs, f⟩ =>
  seqAE rs f fun l S1 vs as1 H1 rs1 rl f1 l1 => by
    split at f1
    · rename_i hl
      refine ⟨sz5 (by rw [← rl.length]; exact hl), fun p hp => ?_⟩
      have k := Kp.new (o := HO.tup vs) hp
      exact f1 _ as1 _ k.le (rs1.rel.tup hp) (.tup (SqT.of upd_same) (rl.mono k.le))
    · exact False.elim f1
theorem se_lst (h : SA X T W es gs) : SE X T W (.List es pos) (gLst gs) := pe_imp (pe_lst h) fun σ H Q ⟨ρ, S, as, rs, f⟩ =>
  seqAE rs f fun l S1 vs as1 H1 rs1 rl f1 l1 => by
    split at f1
    · rename_i hl
      refine ⟨sz5 (by rw [← rl.length]; exact hl), fun p hp => ?_⟩
      have k := Kp.new (o := HO.lst vs) hp
      have lA : Le X.K H1 as1 (upd H1 p (.lst vs)) (as1 ++ [p]) := k.leA p
      exact f1 _ _ _ lA (rs1.rel.alloc hp ⟨vs, upd_same, rl.mono lA⟩) (.ob (by rw [← rs1.rel.len]; simp))
    · exact False.elim f1
theorem se_callB {id : String} {x : Str} {p : Pos} {r : List A → Sto → RE} (hc : CallS X T (.builtin id) r) (hg : Gl X x) (hm : X.mg x = none) (hv : bootBuiltins x = some (.builtin id)) (ha : SA X T W (e :: es) gs) (hn : x ≠ "__name__" := by decide) (hdb : (x == ("__debug__" : Str)) = false := by decide)
    (he : starEach (e :: es) X.env = (false, eval e X.env) :: starEach es X.env := by rfl) (hpl : (backTo pos (starEach es X.env)).any (·.1) = false := by rfl) : SE X T W (.Call (.Name x p) (e :: es) [] pos) (gCB r gs) := pe_imp (pe_callB hc hg hm hv ha hn hdb he hpl) fun σ H Q ⟨ρ, S, as, rs, f⟩ =>
  seqAE rs f fun l S1 vs as1 H1 rs1 rl f1 l1 => ⟨l, S1, as1, rs1.rel, rl, FinE.nox f1⟩
theorem se_callTy {Ty : String} {x : Str} {p : Pos} {r : List A → Sto → RE} (hc : CallS X T (.type Ty) r) (hg : Gl X x) (hm : X.mg x = none) (hv : bootBuiltins x = some (.type Ty)) (ha : SA X T W (e :: es) gs) (hn : x ≠ "__name__" := by decide) (hdb : (x == ("__debug__" : Str)) = false := by decide)
    (he : starEach (e :: es) X.env = (false, eval e X.env) :: starEach es X.env := by rfl) (hpl : (backTo pos (starEach es X.env)).any (·.1) = false := by rfl) : SE X T W (.Call (.Name x p) (e :: es) [] pos) (gCB r gs) := pe_imp (pe_callTy hc hg hm hv ha hn hdb he hpl) fun σ H Q ⟨ρ, S, as, rs, f⟩ =>
  seqAE rs f fun l S1 vs as1 H1 rs1 rl f1 l1 => ⟨l, S1, as1, rs1.rel, rl, FinE.nox f1⟩
end
end Sx

set_option Elab.async false
set_option linter.all false
set_option maxRecDepth 100000
set_option maxHeartbeats 1000000
namespace Sx
open PySem L2
/-! ### statements -/
def gSet (i : Nat) (g : GE) : GS := fun ρ S => (g ρ S).bindS ρ fun a S1 => .nx (ρ.set i (some a)) S1
def gExpr (g : GE) : GS := fun ρ S => (g ρ S).bindS ρ fun _ S1 => .nx ρ S1
def gRet (g : GE) : GS := fun ρ S => (g ρ S).bindS ρ fun a S1 => .ret a S1
def gRetN : GS := fun _ S => .ret .non S
def gPass : GS := fun ρ S => .nx ρ S
def gBrk : GS := fun ρ S => .brk ρ S
def gCt : GS := fun ρ S => .ct ρ S
def gRaise (c : Value) : GS := fun ρ S => .exc c ρ S
def gIfS (c : GE) (g1 g2 : GS) : GS := fun ρ S => (c ρ S).bindTS ρ fun b S1 => if b = true then g1 ρ S1 else g2 ρ S1
def RS.seq (r : RS) (k : GS) : RS := match r with
  | .nx ρ S => k ρ S
  | r => r
@[simp] theorem RS.seq_nx (ρ : Ro) (S : Sto) (k : GS) : (RS.nx ρ S).seq k = k ρ S := rfl
@[simp] theorem RS.seq_ret (a : A) (S : Sto) (k : GS) : (RS.ret a S).seq k = .ret a S := rfl
@[simp] theorem RS.seq_brk (ρ : Ro) (S : Sto) (k : GS) : (RS.brk ρ S).seq k = .brk ρ S := rfl
@[simp] theorem RS.seq_ct (ρ : Ro) (S : Sto) (k : GS) : (RS.ct ρ S).seq k = .ct ρ S := rfl
@[simp] theorem RS.seq_exc (c : Value) (ρ : Ro) (S : Sto) (k : GS) : (RS.exc c ρ S).seq k = .exc c ρ S := rfl
@[simp] theorem RS.seq_stuck (k : GS) : RS.stuck.seq k = .stuck := rfl
def gSeq (g1 g2 : GS) : GS := fun ρ S => (g1 ρ S).seq g2
/-- targets -/
abbrev GG := A → Ro → Sto → Option (Ro × Sto)
def nName (i : Nat) : GG := fun a ρ S => some (ρ.set i (some a), S)
def setAll : List Nat → List A → Ro → Ro
  | i :: is, a :: l, ρ => setAll is l (ρ.set i (some a))
  | _, _, ρ => ρ
def nTup (is : List Nat) : GG := fun a ρ S => match a with
  | .tup xs => if xs.length = is.length then some (setAll is xs ρ, S) else none
  | _ => none
def tG (K : Frg) (T : Tbs) (gg : GG) : TG := fun v σ H Q => ∃ a ρ S as, RelSt K T ρ S as σ H ∧ RelA K H as a v ∧ match gg a ρ S with
  | some (ρ', S') => ∀ σ' as' H', Le K H as H' as' → RelSt K T ρ' S' as' σ' H' → Q σ' H'
  | none => False
def tGs (K : Frg) (T : Tbs) (is : List Nat) : TGs := fun vs σ H Q => ∃ l ρ S as, RelSt K T ρ S as σ H ∧ RelL K H as l vs ∧ l.length = is.length ∧
  ∀ σ' as' H', Le K H as H' as' → RelSt K T (setAll is l ρ) S as' σ' H' → Q σ' H'
abbrev SG (X : Cx) (T : Tbs) (tg : Expr) (gg : GG) : Prop := PG X tg (tG X.K T gg)
abbrev SGs (X : Cx) (T : Tbs) (tgs : List Expr) (is : List Nat) : Prop := PGs X tgs (tGs X.K T is)
def gAsg (g : GE) (gg : GG) : GS := fun ρ S => (g ρ S).bindS ρ fun a S1 => match gg a ρ S1 with
  | some (ρ2, S2) => .nx ρ2 S2
  | none => .stuck
section
variable {K : Frg} {T : Tbs} {W : WX} {H H' : Hp} {as as' : List Addr} {S S' : Sto} {ρ ρ' : Ro} {σ : St}
theorem RelSt.set (h : RelSt K T ρ S as σ H) {a : A} {v : V} (i : Nat) (r : RelA K H as a v) : RelSt K T (ρ.set i (some a)) S as (σ.set i (some v)) H := by
  refine ⟨h.rel, by simp [h.len], fun j b e => ?_⟩
  by_cases hj : i = j
  · subst hj
    have hi : i < ρ.length := by
      have := (List.getElem?_eq_some_iff.mp e).1
      simpa using this
    rw [List.getElem?_set_self hi] at e
    cases e
    exact ⟨v, List.getElem?_set_self (by rw [← h.len]; exact hi), r⟩
  · rw [List.getElem?_set_ne hj] at e
    rw [List.getElem?_set_ne hj]
    exact h.slot j b e
theorem RelSt.mv (h : RelSt K T ρ S as σ H) (l : Le K H as H' as') (r : Rel K T S' as' H') : RelSt K T ρ S' as' σ H' := h.mono l r
end
section
variable {X : Cx} {T : Tbs} {W : WX} {e a b c : Expr} {es : List Expr} {pos : Pos} {st : Stmt} {rest : List Stmt} {g ga gb gc : GE} {gs : GA} {q q1 q2 : GS} {gg : GG}
theorem sg_name {i : Nat} {x : Str} (hN : X.N.Nodup) (hi : X.N[i]? = some x) (hx : Loc X.env.scope x) (hf : X.fn x = true ∨ X.env.scope.names.lookup x = some .local := by first | exact .inl rfl | exact .inr rfl | assumption) : SG X T (.Name x pos) (nName i) :=
  ⟨fun pins s σ H v u Q I r ⟨a, ρ, S, as, rs, ra, k⟩ => (pg_name hN hi hx hf).run pins s σ H v u Q I r (k _ as H .refl (rs.set i ra))⟩
theorem sgs_nil : SGs X T [] [] := ⟨fun pins s σ H vs us Q I r ⟨l, ρ, S, as, rs, rl, el, k⟩ => by
  have e : l = [] := List.length_eq_zero_iff.mp el
  subst e
  have e2 : vs = [] := List.length_eq_zero_iff.mp (by rw [← rl.length]; rfl)
  exact pgs_nil.run pins s σ H vs us Q I r ⟨e2, k _ as H .refl rs⟩⟩
theorem sgs_cons {i : Nat} {is : List Nat} {x : Str} {p : Pos} {es : List Expr} (hN : X.N.Nodup) (hi : X.N[i]? = some x) (hx : Loc X.env.scope x) (h2 : SGs X T es is) (hf : X.fn x = true ∨ X.env.scope.names.lookup x = some .local := by first | exact .inl rfl | exact .inr rfl | assumption)
    (hs : (assignEach (.Name x p :: es) X.env).map (·.2) = assign (.Name x p) X.env :: (assignEach es X.env).map (·.2) := by rfl) : SGs X T (.Name x p :: es) (i :: is) :=
  ⟨fun pins s σ H vs us Q I r ⟨l, ρ, S, as, rs, rl, el, k⟩ => by
    refine (pgs_cons (pg_name hN hi hx hf) h2 hs).run pins s σ H vs us Q I r ?_
    cases rl with
    | nil => cases el
    | cons ra rl2 => exact ⟨_, _, rfl, _, _, S, as, rs.set i ra, rl2, by simpa using el, k⟩⟩
theorem sg_tup {es : List Expr} {is : List Nat} {k : Nat} (hc : X.calm = true) (h : SGs X T es is) (hn : (assignEach es X.env).length = is.length := by rfl) (hst : (assignEach es X.env).findIdx? (·.1) = none := by rfl) : SG X T (.Tuple es k pos) (nTup is) :=
  ⟨fun pins s σ H v u Q I r ⟨a, ρ, S, as, rs, ra, kk⟩ => by
    refine (pg_tup hc h hn hst).run pins s σ H v u Q I r ?_
    cases ra with
    | tup hs rl =>
      unfold nTup at kk
      dsimp only at kk
      split at kk
      · rename_i ρ2 S2 he
        split at he
        · rename_i hlen
          cases he
          exact ⟨_, _, rfl, hs, by rw [← rl.length]; exact hlen, _, ρ, S, as, rs, rl, hlen, kk⟩
        · cases he
      · exact False.elim kk
    | _ => exact False.elim kk⟩
theorem ss_set {i : Nat} {x : Str} {pos' : Pos} (hN : X.N.Nodup) (hi : X.N[i]? = some x) (hx : Loc X.env.scope x) (he : SE X T W e g) (hs : swapsWith e (some (.Name x pos')) pos.line X.env = pure false := by rfl) (hf : X.fn x = true ∨ X.env.scope.names.lookup x = some .local := by first | exact .inl rfl | exact .inr rfl | assumption) :
    SS X T W (.Assign [.Name x pos'] e pos) (gSet i g) := ps_imp (ps_set hN hi hx he hs hf) fun D σ H ⟨ρ, S, as, rs, f⟩ =>
  seqES rs f fun x S1 v as1 H1 rs1 rx f1 l1 => f1 _ as1 H1 .refl (rs1.set i rx)
theorem ss_asg {tg : Expr} (he : SE X T W e g) (hg : SG X T tg gg) (hs : swapsWithSole [tg] e pos.line X.env = pure false := by rfl) (hw : swappedStores [tg] e X.env = pure none := by rfl)
    (h1 : (assignEach [tg] X.env).map (·.2) = [assign tg X.env] := by rfl) : SS X T W (.Assign [tg] e pos) (gAsg g gg) := ps_imp (ps_asg he hg hs hw h1) fun D σ H ⟨ρ, S, as, rs, f⟩ =>
  seqES rs f fun x S1 v as1 H1 rs1 rx f1 l1 => ⟨x, ρ, S1, as1, rs1, rx, by
    split at f1
    · exact f1
    · exact False.elim f1⟩
theorem ss_expr (he : SE X T W e g) (hs : swapsWith e none pos.line X.env = pure false := by rfl) : SS X T W (.Expr e pos) (gExpr g) := ps_imp (ps_expr he hs) fun D σ H ⟨ρ, S, as, rs, f⟩ =>
  seqES rs f fun x S1 v as1 H1 rs1 rx f1 l1 => f1 _ as1 H1 .refl rs1
theorem ss_ret (he : SE X T W e g) : SS X T W (.Return (some e) pos) (gRet g) := ps_imp (ps_ret he) fun D σ H ⟨ρ, S, as, rs, f⟩ =>
  seqES rs f fun x S1 v as1 H1 rs1 rx f1 l1 => f1 _ as1 H1 .refl rs1.rel rx
theorem ss_retN : SS X T W (.Return none pos) gRetN := ps_imp ps_retN fun D σ H ⟨ρ, S, as, rs, f⟩ => f _ as H .refl rs.rel .non
theorem ss_pass : SS X T W (.Pass pos) gPass := ps_imp ps_pass fun D σ H ⟨ρ, S, as, rs, f⟩ => f _ as H .refl rs
theorem ss_brk : SS X T W (.Break pos) gBrk := ps_imp ps_break fun D σ H ⟨ρ, S, as, rs, f⟩ => f _ as H .refl rs
theorem ss_ct : SS X T W (.Continue pos) gCt := ps_imp ps_continue fun D σ H ⟨ρ, S, as, rs, f⟩ => f _ as H .refl rs
theorem ss_if {x y : List Stmt} (hc : ST X T W c gc) (ha : SB X T W x q1) (hb : SB X T W y q2) : SS X T W (.If c x y pos) (gIfS gc q1 q2) := ps_imp (ps_if hc ha hb) fun D σ H ⟨ρ, S, as, rs, f⟩ =>
  seqTS rs f fun k S1 as1 H1 rs1 f1 l1 => by
    cases k with
    | true => exact ⟨ρ, S1, as1, rs1, f1⟩
    | false => exact ⟨ρ, S1, as1, rs1, f1⟩
theorem sb_nil : SB X T W [] gPass := pss_imp pss_nil fun D σ H ⟨ρ, S, as, rs, f⟩ => f _ as H .refl rs
theorem sb_one (h : SS X T W st q) : SB X T W [st] q := pss_one h
theorem sb_cons (h1 : SS X T W st q1) (h2 : SB X T W rest q2) : SB X T W (st :: rest) (gSeq q1 q2) := pss_imp (pss_cons h1 h2) fun D σ H ⟨ρ, S, as, rs, f⟩ => by
  refine ⟨ρ, S, as, rs, ?_⟩
  unfold gSeq at f
  cases e : q1 ρ S with
  | nx ρ1 S1 =>
    rw [e] at f
    exact fun σ1 as1 H1 l1 rs1 => ⟨ρ1, S1, as1, rs1, FinS.later f l1⟩
  | ret a S1 => rw [e] at f; exact f
  | brk ρ1 S1 => rw [e] at f; exact f
  | ct ρ1 S1 => rw [e] at f; exact f
  | exc c ρ1 S1 => rw [e] at f; exact f
  | stuck => rw [e] at f; exact f
theorem ss_raise {C : Addr} (hc : X.calm = true) (tk : Takes X W) (he : PMk X e (fun _ H Q => Q (.ref C) none H)) : SS X T W (.Raise (some e) none pos) (gRaise (.ref C)) := ps_imp (ps_raise hc tk he) fun D σ H ⟨ρ, S, as, rs, f⟩ => f _ as H .refl rs

/-! ### what is walked -/
inductive RI where | ok (items : List A) (chk : Sto → Bool) (S : Sto) | exc (c : Value) (S : Sto) | stuck
abbrev GI := Ro → Sto → RI
def Walk (K : Frg) (T : Tbs) (J : It) (H0 : Hp) (as0 : List Addr) (items : List A) (chk : Sto → Bool) : Prop := ∀ S as H, Le K H0 as0 H as → Rel K T S as H → chk S = true →
  (∀ (i : Nat) x, items[i]? = some x → J.go i H ∧ ∀ y H', J.yld i H y H' → ∃ as', Le K H as H' as' ∧ Rel K T S as' H' ∧ RelA K H' as' x y) ∧ ∀ i, items.length ≤ i → J.stop i H
def FinI (K : Frg) (T : Tbs) (W : WX) (σ : St) (H : Hp) (as : List Addr) (R : It → Hp → Prop) : RI → Prop
  | .ok items chk S' => ∀ J as' H', Le K H as H' as' → Rel K T S' as' H' → Walk K T J H' as' items chk → R J H'
  | .exc c S' => ∀ as' H', Le K H as H' as' → Rel K T S' as' H' → W c none σ H'
  | .stuck => False
def tI (K : Frg) (T : Tbs) (W : WX) (gi : GI) : TI := fun σ H R => ∃ ρ S as, RelSt K T ρ S as σ H ∧ FinI K T W σ H as R (gi ρ S)
abbrev SI (X : Cx) (T : Tbs) (W : WX) (tg iter : Expr) (gi : GI) : Prop := PI X tg iter (tI X.K T W gi)
/-- for -/
def forGo (chk : Sto → Bool) (gg : GG) (body : GS) : List A → Ro → Sto → RS
  | [], ρ, S => if chk S = true then .nx ρ S else .stuck
  | x :: r, ρ, S => if chk S = true then (match gg x ρ S with
    | some (ρ1, S1) => (match body ρ1 S1 with
      | .nx ρ2 S2 => forGo chk gg body r ρ2 S2
      | .ct ρ2 S2 => forGo chk gg body r ρ2 S2
      | .brk ρ2 S2 => .nx ρ2 S2
      | z => z)
    | none => .stuck) else .stuck
def gFor (gi : GI) (gg : GG) (body : GS) : GS := fun ρ S => match gi ρ S with
  | .ok items chk S1 => forGo chk gg body items ρ S1
  | .exc c S1 => .exc c ρ S1
  | .stuck => .stuck
theorem ss_for {tg iter : Expr} {body : List Stmt} {gi : GI} (hp : PassesOwn (model X.prog X.w) X.A X.env X.xe) (hc : X.calm = true) (hi : SI X T W tg iter gi) (hg : SG X T tg gg) (hb : SB X T W body q)
    (hs : ∀ x, foldedSetIterable iter X.env x = pure x := by intro _; rfl) : SS X T W (.For tg iter body [] pos) (gFor gi gg q) := ps_imp (ps_for hp hc hi hg hb hs) fun D σ H ⟨ρ, S, as, rs, f⟩ => by
  refine ⟨ρ, S, as, rs, ?_⟩
  unfold gFor at f
  cases e : gi ρ S with
  | stuck => rw [e] at f; exact f
  | exc c S1 => rw [e] at f; exact fun as1 H1 l1 r1 => f σ as1 H1 l1 (rs.mono l1 r1)
  | ok items chk S1 =>
    rw [e] at f
    intro J as1 H1 l1 r1 wk
    refine ⟨fun i m σ' H' => ∃ ρ' S' as', Le X.K H1 as1 H' as' ∧ RelSt X.K T ρ' S' as' σ' H' ∧ m = items.length - i ∧ FinS X.K T W D H' as' (forGo chk gg q (items.drop i) ρ' S'), ⟨items.length, ρ, S1, as1, .refl, rs.mono l1 r1, by simp, FinS.later f l1⟩, ?_⟩
    rintro i m σ2 H2 ⟨ρ2, S2, as2, l2, rs2, hm, f2⟩
    by_cases hi : i < items.length
    · have hd : items.drop i = items[i] :: items.drop (i + 1) := List.drop_eq_getElem_cons hi
      rw [hd] at f2
      unfold forGo at f2
      split at f2
      · rename_i hchk
        obtain ⟨w1, w2⟩ := wk S2 as2 H2 l2 rs2.rel hchk
        obtain ⟨go, yl⟩ := w1 i items[i] (by simp [hi])
        refine .inr ⟨go, fun σ' H' => ∃ ρ' S' as', Le X.K H1 as1 H' as' ∧ RelSt X.K T ρ' S' as' σ' H' ∧ FinS X.K T W D H' as' (forGo chk gg q (items.drop (i + 1)) ρ' S'), fun σ' H' ⟨ρ', S', as', a1, a2, a3⟩ => ⟨items.length - (i + 1), by omega, ρ', S', as', a1, a2, rfl, a3⟩, fun y H3 hy => ?_⟩
        obtain ⟨as3, l3, r3, ra3⟩ := yl y H3 hy
        refine ⟨items[i], ρ2, S2, as3, rs2.mono l3 r3, ra3, ?_⟩
        split at f2
        · rename_i ρ3 S3 hgg
          intro σ4 as4 H4 l4 rs4
          refine ⟨ρ3, S3, as4, rs4, ?_⟩
          have l24 := l3.trans l4
          have l14 := l2.trans l24
          cases eb : q ρ3 S3 with
          | nx ρ5 S5 => rw [eb] at f2; exact fun σ5 as5 H5 l5 rs5 => ⟨ρ5, S5, as5, l14.trans l5, rs5, FinS.later f2 (l24.trans l5)⟩
          | ct ρ5 S5 => rw [eb] at f2; exact fun σ5 as5 H5 l5 rs5 => ⟨ρ5, S5, as5, l14.trans l5, rs5, FinS.later f2 (l24.trans l5)⟩
          | brk ρ5 S5 => rw [eb] at f2; exact fun σ5 as5 H5 l5 rs5 => f2 σ5 as5 H5 (l24.trans l5) rs5
          | ret a5 S5 => rw [eb] at f2; exact fun v as5 H5 l5 r5 ra5 => f2 v as5 H5 (l24.trans l5) r5 ra5
          | exc c5 ρ5 S5 => rw [eb] at f2; exact fun σ5 as5 H5 l5 rs5 => f2 σ5 as5 H5 (l24.trans l5) rs5
          | stuck => rw [eb] at f2; exact f2
        · exact False.elim f2
      · exact False.elim f2
    · have hd : items.drop i = [] := List.drop_eq_nil_of_le (by omega)
      rw [hd] at f2
      unfold forGo at f2
      split at f2
      · rename_i hchk
        obtain ⟨w1, w2⟩ := wk S2 as2 H2 l2 rs2.rel hchk
        exact .inl ⟨w2 i (by omega), f2 σ2 as2 H2 .refl rs2⟩
      · exact False.elim f2
/-- while -/
def whileGo (c : GE) (body : GS) : Nat → Ro → Sto → RS
  | 0, _, _ => .stuck
  | n + 1, ρ, S => (c ρ S).bindTS ρ fun b S1 => if b = true then (match body ρ S1 with
    | .nx ρ2 S2 => whileGo c body n ρ2 S2
    | .ct ρ2 S2 => whileGo c body n ρ2 S2
    | .brk ρ2 S2 => .nx ρ2 S2
    | z => z) else .nx ρ S1
def gWhile (fuel : Ro → Sto → Nat) (c : GE) (body : GS) : GS := fun ρ S => whileGo c body (fuel ρ S) ρ S
theorem ss_while {body : List Stmt} (fuel : Ro → Sto → Nat) (hp : PassesOwn (model X.prog X.w) X.A X.env X.xe) (hc : ST X T W c gc) (hb : SB X T W body q) : SS X T W (.While c body [] pos) (gWhile fuel gc q) := ps_imp (ps_while hp hc hb) fun D σ H ⟨ρ, S, as, rs, f⟩ => by
  refine ⟨fun m σ' H' => ∃ ρ' S' as', Le X.K H as H' as' ∧ RelSt X.K T ρ' S' as' σ' H' ∧ FinS X.K T W D H' as' (whileGo gc q m ρ' S'), ⟨fuel ρ S, ρ, S, as, .refl, rs, f⟩, ?_⟩
  rintro m σ2 H2 ⟨ρ2, S2, as2, l2, rs2, f2⟩
  cases m with
  | zero => exact False.elim f2
  | succ m =>
    unfold whileGo at f2
    refine seqTS rs2 f2 fun b S3 as3 H3 rs3 f3 l3 => ?_
    cases b with
    | true =>
      rw [if_pos rfl] at f3 ⊢
      refine ⟨fun σ' H' => ∃ ρ' S' as', Le X.K H as H' as' ∧ RelSt X.K T ρ' S' as' σ' H' ∧ FinS X.K T W D H' as' (whileGo gc q m ρ' S'), fun σ' H' h => ⟨m, Nat.lt_succ_self m, h⟩, ρ2, S3, as3, rs3, ?_⟩
      have l13 := l2.trans l3
      cases eb : q ρ2 S3 with
      | nx ρ5 S5 => rw [eb] at f3; exact fun σ5 as5 H5 l5 rs5 => ⟨ρ5, S5, as5, l13.trans l5, rs5, FinS.later f3 l5⟩
      | ct ρ5 S5 => rw [eb] at f3; exact fun σ5 as5 H5 l5 rs5 => ⟨ρ5, S5, as5, l13.trans l5, rs5, FinS.later f3 l5⟩
      | brk ρ5 S5 => rw [eb] at f3; exact f3
      | ret a5 S5 => rw [eb] at f3; exact f3
      | exc c5 ρ5 S5 => rw [eb] at f3; exact f3
      | stuck => rw [eb] at f3; exact f3
    | false =>
      rw [if_neg (by decide)] at f3 ⊢
      exact f3 σ2 as3 H3 .refl rs3
end
end Sx

set_option Elab.async false
set_option linter.all false
set_option maxRecDepth 100000
set_option maxHeartbeats 1000000
namespace Sx
open PySem L2
/-! ### comprehensions -/
def wipeR (ρ : Ro) : List Nat → Ro
  | [] => ρ
  | v :: vs => (wipeR ρ vs).set v none
abbrev W0 : WX := fun _ _ _ _ => False
theorem wipe_keep {σ : St} {i : Nat} : ∀ {vs : List Nat}, i ∉ vs → (wipe σ vs)[i]? = σ[i]?
  | [], _ => rfl
  | v :: vs, h => by
    unfold wipe
    simp only [List.mem_cons, not_or] at h
    rw [List.getElem?_set_ne (fun e => h.1 e.symm), wipe_keep h.2]
theorem wipeR_some {ρ : Ro} {i : Nat} {x : A} : ∀ {vs : List Nat}, (wipeR ρ vs)[i]? = some (some x) → ρ[i]? = some (some x) ∧ i ∉ vs
  | [], h => ⟨h, by simp⟩
  | v :: vs, h => by
    unfold wipeR at h
    by_cases hi : v = i
    · subst hi
      by_cases hv : v < (wipeR ρ vs).length
      · rw [List.getElem?_set_self hv] at h; cases h
      · rw [List.getElem?_eq_none (by simpa using hv)] at h; cases h
    · rw [List.getElem?_set_ne hi] at h
      obtain ⟨h1, h2⟩ := wipeR_some h
      exact ⟨h1, by simp only [List.mem_cons, not_or]; exact ⟨fun e => hi e.symm, h2⟩⟩
theorem wipeR_length (ρ : Ro) : ∀ vs : List Nat, (wipeR ρ vs).length = ρ.length
  | [] => rfl
  | v :: vs => by unfold wipeR; rw [List.length_set, wipeR_length ρ vs]
theorem wipe_set {σ : St} {j : Nat} {x : Option V} : ∀ {vs : List Nat}, j ∈ vs → wipe (σ.set j x) vs = wipe σ vs
  | [], h => by simp at h
  | v :: vs, h => by
    unfold wipe
    by_cases hj : j ∈ vs
    · rw [wipe_set hj]
    · have e : j = v := by simpa [hj] using h
      subst e
      apply List.ext_getElem?
      intro i
      by_cases hi : j = i
      · subst hi
        by_cases hl : j < σ.length
        · rw [List.getElem?_set_self (by rw [wipe_length, List.length_set]; exact hl), List.getElem?_set_self (by rw [wipe_length]; exact hl)]
        · rw [List.getElem?_eq_none (by simp [wipe_length]; omega), List.getElem?_eq_none (by simp [wipe_length]; omega)]
      · rw [List.getElem?_set_ne hi, List.getElem?_set_ne hi]
        by_cases hv : i ∈ vs
        · have z : ∀ (τ : St) (us : List Nat), i ∈ us → τ.length = σ.length → (wipe τ us)[i]? = if i < σ.length then some none else none := by
            intro τ us
            induction us with
            | nil => intro h; simp at h
            | cons u us ih =>
              intro hm hlen
              unfold wipe
              by_cases hu : u = i
              · subst hu
                by_cases hl : u < σ.length
                · rw [if_pos hl, List.getElem?_set_self (by rw [wipe_length, hlen]; exact hl)]
                · rw [if_neg hl, List.getElem?_eq_none (by simp [wipe_length]; omega)]
              · rw [List.getElem?_set_ne hu]
                exact ih (by simpa [Ne.symm hu] using hm) hlen
          rw [z _ vs hv (by simp), z _ vs hv rfl]
        · rw [wipe_keep hv, wipe_keep hv, List.getElem?_set_ne hi]
theorem wipe_idem {σ : St} : ∀ vs : List Nat, ∀ us : List Nat, (∀ v ∈ vs, v ∈ us) → wipe (wipe σ vs) us = wipe σ us
  | [], us, _ => rfl
  | v :: vs, us, h => by
    show wipe ((wipe σ vs).set v none) us = _
    rw [wipe_set (h v (by simp)), wipe_idem vs us fun x hx => h x (by simp [hx])]
theorem RelSt.wiped {K : Frg} {T : Tbs} {ρ : Ro} {S : Sto} {as : List Addr} {σ : St} {H : Hp} (h : RelSt K T ρ S as σ H) (vs : List Nat) : RelSt K T (wipeR ρ vs) S as (wipe σ vs) H :=
  ⟨h.rel, by rw [wipeR_length, wipe_length, h.len], fun i a e => by
    obtain ⟨h1, h2⟩ := wipeR_some e
    rw [wipe_keep h2]
    exact h.slot i a h1⟩
/-- a comprehension's target: what it does to the slots, exactly -/
def TgOk (K : Frg) (T : Tbs) (tgt : TG) (gg : GG) (vs : List Nat) : Prop := ∀ v σ H Q a ρ S as ρ' S', RelSt K T ρ S as σ H → RelA K H as a v → gg a ρ S = some (ρ', S') → (∀ σ', RelSt K T ρ' S' as σ' H → wipe σ' vs = wipe σ vs → Q σ' H) → tgt v σ H Q
theorem tg_name {K : Frg} {T : Tbs} {j : Nat} {vs : List Nat} (h : j ∈ vs) : TgOk K T (gName j) (nName j) vs := fun v σ H Q a ρ S as ρ' S' rs ra e k => by
  cases e
  exact k _ (rs.set j ra) (wipe_set h)
def gNames : List Nat → TGs
  | [] => L2.gNil
  | i :: is => L2.gCons (gName i) (gNames is)
theorem tgs_names {K : Frg} {T : Tbs} {vs : List Nat} : ∀ (is : List Nat), (∀ i ∈ is, i ∈ vs) → ∀ xs σ H Q l ρ S as, RelSt K T ρ S as σ H → RelL K H as l xs → l.length = is.length → (∀ σ', RelSt K T (setAll is l ρ) S as σ' H → wipe σ' vs = wipe σ vs → Q σ' H) → gNames is xs σ H Q
  | [], _, xs, σ, H, Q, l, ρ, S, as, rs, rl, hl, k => by
    have e : l = [] := List.length_eq_zero_iff.mp hl
    subst e
    cases rl
    exact ⟨rfl, k σ rs rfl⟩
  | i :: is, h, xs, σ, H, Q, l, ρ, S, as, rs, rl, hl, k => by
    cases rl with
    | nil => cases hl
    | cons ra rl2 =>
      refine ⟨_, _, rfl, ?_⟩
      refine tgs_names is (fun j hj => h j (by simp [hj])) _ _ H Q _ _ S as (rs.set i ra) rl2 (by simpa using hl) fun σ' rs' e => k σ' rs' ?_
      rw [e, wipe_set (h i (by simp))]
theorem tg_tup {K : Frg} {T : Tbs} {is vs : List Nat} (h : ∀ i ∈ is, i ∈ vs) : TgOk K T (L2.gTup K is.length (gNames is)) (nTup is) vs := fun v σ H Q a ρ S as ρ' S' rs ra e k => by
  unfold nTup at e
  cases ra with
  | tup hs rl =>
    dsimp only at e
    split at e
    · rename_i hlen
      cases e
      exact ⟨_, _, rfl, hs, by rw [← rl.length]; exact hlen, tgs_names is h _ σ H Q _ ρ S as rs rl hlen k⟩
    · cases e
  | _ => cases e
def lcGo (chk : Sto → Bool) (gg : GG) (gt ge : GE) (ρ0 : Ro) (d : Nat) : List A → Sto → RE
  | [], S => if chk S = true then .ok (.ob d) S else .stuck
  | x :: r, S => if chk S = true then (match gg x ρ0 S with
    | some (ρ1, S1) => ((gt ρ1 S1).nox).bindT fun b S2 => if b = true then ((ge ρ1 S2).nox).bind fun y S3 => (match S3[d]? with
      | some (.lst acc) => if acc.length < 4000000 then lcGo chk gg gt ge ρ0 d r (S3.set d (.lst (acc ++ [y]))) else .stuck
      | _ => .stuck) else lcGo chk gg gt ge ρ0 d r S2
    | none => .stuck) else .stuck
def gLc (gi : GI) (gg : GG) (gt ge : GE) (vs : List Nat) : GE := fun ρ S => match gi ρ S with
  | .ok items chk S1 => lcGo chk gg gt ge (wipeR ρ vs) S1.length items (S1 ++ [.lst []])
  | .exc c S1 => .exc c S1
  | .stuck => .stuck
theorem FinE.bindTn {K : Frg} {T : Tbs} {W : WX} {H : Hp} {as : List Addr} {σ σ2 : St} {Q : VK} {R : Bool → Hp → Prop} {r : RE} {k : Bool → Sto → RE} (f : FinE K T W σ H as Q (r.nox.bindT k)) (n : ∀ b S1 as1 H1, Le K H as H1 as1 → Rel K T S1 as1 H1 → FinE K T W σ H1 as1 Q (k b S1) → R b H1) : FinT K T W0 σ2 H as R r := by
  cases r with
  | ok a S1 => cases a with
    | bl b => exact fun as1 H1 l rr => n b S1 as1 H1 l rr (FinE.later f l)
    | _ => exact False.elim f
  | exc c S1 => exact False.elim f
  | stuck => exact False.elim f
theorem FinE.bindEn {K : Frg} {T : Tbs} {W : WX} {H : Hp} {as : List Addr} {σ σ2 : St} {Q R : VK} {r : RE} {k : A → Sto → RE} (f : FinE K T W σ H as Q (r.nox.bind k)) (n : ∀ a S1 v as1 H1, Le K H as H1 as1 → Rel K T S1 as1 H1 → RelA K H1 as1 a v → FinE K T W σ H1 as1 Q (k a S1) → R v H1) : FinE K T W0 σ2 H as R r := by
  cases r with
  | ok a S1 => exact fun v as1 H1 l rr ra => n a S1 v as1 H1 l rr ra (FinE.later f l)
  | exc c S1 => exact False.elim f
  | stuck => exact False.elim f
theorem sz6 {n : Nat} (h : n < 4000000) : n < sizeLine := Nat.lt_of_lt_of_le h (by decide)
section
variable {X : Cx} {T : Tbs} {W : WX} {pos : Pos} {gi : GI} {gg : GG} {gt ge : GE} {vs : List Nat} {tgt : TG}
theorem lcI (ht : TgOk X.K T tgt gg vs) {σ : St} {H : Hp} {Q : VK} (h : tE X.K T W (gLc gi gg gt ge vs) σ H Q) : tLc (tI X.K T W gi) tgt (tT X.K T W0 gt) (tE X.K T W0 ge) vs σ H Q := by
  obtain ⟨ρ, S, as, rs, f⟩ := h
  refine ⟨ρ, S, as, rs, ?_⟩
  unfold gLc at f
  cases e : gi ρ S with
  | stuck => rw [e] at f; exact f
  | exc c S1 => rw [e] at f; exact f
  | ok items chk S1 =>
    rw [e] at f
    intro J as1 H1 l1 r1 wk D hD
    have lD : Le X.K H1 as1 (upd H1 D (.lst [])) (as1 ++ [D]) := (Kp.new hD).leA D
    have rD : Rel X.K T (S1 ++ [.lst []]) (as1 ++ [D]) (upd H1 D (.lst [])) := r1.alloc hD ⟨[], upd_same, .nil⟩
    have aD : (as1 ++ [D])[S1.length]? = some D := by rw [← r1.len]; simp
    have rs1 := rs.mono l1 r1
    refine ⟨fun i m H' => ∃ S' as', Le X.K H1 as1 H' as' ∧ Rel X.K T S' as' H' ∧ as'[S1.length]? = some D ∧ m = items.length - i ∧ FinE X.K T W σ H' as' Q (lcGo chk gg gt ge (wipeR ρ vs) S1.length (items.drop i) S'), ⟨items.length, _, _, lD, rD, aD, by simp, FinE.later f (l1.trans lD)⟩, ?_⟩
    rintro i m H2 ⟨S2, as2, l2, r2, a2, hm, f2⟩
    by_cases hi : i < items.length
    · have hd : items.drop i = items[i] :: items.drop (i + 1) := List.drop_eq_getElem_cons hi
      rw [hd] at f2
      unfold lcGo at f2
      split at f2
      · rename_i hchk
        obtain ⟨w1, w2⟩ := wk S2 as2 H2 l2 r2 hchk
        obtain ⟨go, yl⟩ := w1 i items[i] (by simp [hi])
        refine .inr ⟨go, fun H' => ∃ S' as', Le X.K H1 as1 H' as' ∧ Rel X.K T S' as' H' ∧ as'[S1.length]? = some D ∧ FinE X.K T W σ H' as' Q (lcGo chk gg gt ge (wipeR ρ vs) S1.length (items.drop (i + 1)) S'), fun H' ⟨S', as', b1, b2, b3, b4⟩ => ⟨items.length - (i + 1), by omega, S', as', b1, b2, b3, rfl, b4⟩, fun y H3 hy => ?_⟩
        obtain ⟨as3, l3, r3, ra3⟩ := yl y H3 hy
        split at f2
        · rename_i ρ3 S3 hgg
          have rs3 := ((rs1.mono (l2.trans l3) r3)).wiped vs
          refine ht y _ H3 _ _ _ S2 as3 ρ3 S3 rs3 ra3 hgg fun σ4 rs4 hw => ⟨by rw [hw, wipe_idem vs vs fun _ h => h], ?_⟩
          refine ⟨ρ3, S3, as3, rs4, FinE.bindTn (FinE.later f2 l3) fun b S5 as5 H5 l5 r5 f5 => ?_⟩
          have l15 := (l2.trans l3).trans l5
          have a5 := (l3.trans l5).pre _ _ a2
          cases b with
          | false => exact ⟨S5, as5, l15, r5, a5, f5⟩
          | true =>
            refine ⟨ρ3, S5, as5, rs4.mono l5 r5, FinE.bindEn f5 fun z S6 v as6 H6 l6 r6 ra6 f6 => ?_⟩
            have a6 := l6.pre _ _ a5
            split at f6
            · rename_i acc hacc
              split at f6
              · rename_i hlen
                obtain ⟨vs6, h6, rl6⟩ := r6.obj _ _ _ hacc a6
                have k6 : Kp H6 (upd H6 D (.lst (vs6 ++ [v]))) := Kp.wr h6 rfl
                exact ⟨vs6, h6, by rw [← rl6.length]; exact sz6 hlen, _, as6, (l15.trans l6).trans k6.le, r6.write (o' := .lst (acc ++ [z])) hacc a6 h6 rfl rfl ⟨_, upd_same, (rl6.append (RelL.one ra6)).mono k6.le⟩, a6, FinE.later f6 k6.le⟩
              · exact False.elim f6
            · exact False.elim f6
        · exact False.elim f2
      · exact False.elim f2
    · have hd : items.drop i = [] := List.drop_eq_nil_of_le (by omega)
      rw [hd] at f2
      unfold lcGo at f2
      split at f2
      · rename_i hchk
        obtain ⟨w1, w2⟩ := wk S2 as2 H2 l2 r2 hchk
        exact .inl ⟨w2 i (by omega), f2 _ as2 H2 .refl r2 (.ob a2)⟩
      · exact False.elim f2
theorem se_lc {elt tg iter : Expr} {ifs : List Expr} {scope : Scope} {own : List (Str × Nat)} (hc : X.calm = true) (hN : X.N.Nodup) (hi : SI X T W tg iter gi) (ok : BlkOk X.N X.env.scope scope own) (ho : TgOk X.K T tgt gg (own.map (·.2)))
    (hg : ∀ (s : Shared) (H : Hp) (C : Addr) (cl : List (Str × Addr)) (fp : List Addr), PG (X.blk s H scope (compEnvC scope cl C X.env) fp) tg tgt)
    (ht : ∀ (s : Shared) (H : Hp) (C : Addr) (cl : List (Str × Addr)) (fp : List Addr), PTs (X.blk s H scope (compEnvC scope cl C X.env) fp) ifs (tT X.K T W0 gt))
    (he : ∀ (s : Shared) (H : Hp) (C : Addr) (cl : List (Str × Addr)) (fp : List Addr), SE (X.blk s H scope (compEnvC scope cl C X.env) fp) T W0 elt ge) (hs : ∀ x, foldedSetIterable iter X.env x = pure x := by intro _; rfl) :
    SE X T W (.ListComp elt [⟨tg, iter, ifs, 0⟩] scope pos) (gLc gi gg gt ge (own.map (·.2))) := pe_imp (pe_lc hc hN hi ok hg ht he hs) fun _ _ _ h => lcI ho h
theorem ss_setLc {i : Nat} {y : Str} {py spos : Pos} {elt tg iter : Expr} {ifs : List Expr} {scope : Scope} {own : List (Str × Nat)} (hc : X.calm = true) (hN : X.N.Nodup) (hy : X.N[i]? = some y) (hyl : X.env.scope.names.lookup y = some .local)
    (hsw : swapsWith (.ListComp elt [⟨tg, iter, ifs, 0⟩] scope pos) (some (.Name y py)) spos.line X.env = pure true) (hi : SI X T W tg iter gi) (ok : BlkOk X.N X.env.scope scope own) (ho : TgOk X.K T tgt gg (own.map (·.2)))
    (hg : ∀ (s : Shared) (H : Hp) (C : Addr) (cl : List (Str × Addr)) (fp : List Addr), PG (X.blk s H scope (compEnvC scope cl C X.env) fp) tg tgt)
    (ht : ∀ (s : Shared) (H : Hp) (C : Addr) (cl : List (Str × Addr)) (fp : List Addr), PTs (X.blk s H scope (compEnvC scope cl C X.env) fp) ifs (tT X.K T W0 gt))
    (he : ∀ (s : Shared) (H : Hp) (C : Addr) (cl : List (Str × Addr)) (fp : List Addr), SE (X.blk s H scope (compEnvC scope cl C X.env) fp) T W0 elt ge) (hs : ∀ x, foldedSetIterable iter X.env x = pure x := by intro _; rfl) :
    SS X T W (.Assign [.Name y py] (.ListComp elt [⟨tg, iter, ifs, 0⟩] scope pos) spos) (gSet i (gLc gi gg gt ge (own.map (·.2)))) := ps_imp (ps_setLc hc hN hy hyl hsw hi ok hg ht he hs) fun D σ H ⟨ρ, S, as, rs, f⟩ =>
  lcI (W := W) ho (seqES rs f fun x S1 v as1 H1 rs1 rx f1 l1 => f1 _ as1 H1 .refl (rs1.set i rx))
/-- the tests of a clause -/
def gYes : GE := gC (.bl true)
theorem sts_nil {Y : Cx} : PTs Y [] (tT Y.K T W gYes) := ⟨fun pins s σ H Q I ⟨ρ, S, as, rs, f⟩ => pts_nil.run pins s σ H Q I (f as H .refl rs.rel)⟩
theorem sts_one {Y : Cx} {c : Expr} {g : GE} (h : ST Y T W c g) : PTs Y [c] (tT Y.K T W g) := pts_one h
end
end Sx

set_option Elab.async false
set_option linter.all false
set_option maxRecDepth 100000
set_option maxHeartbeats 1000000
namespace Sx
open PySem PySem.Spec PyProof.Rows L2
/-! ### room, finer than by levels; a def by its promise -/
structure Rm (d : Nat) (A : Around) : Prop where
  hd : A.handled = none
  dp : A.depth + d + 6 < recursionLimit
  un : A.units + 4 * d + 300 < cLine
theorem Rm.mono {d e : Nat} {A : Around} (r : Rm d A) (h : e ≤ d) : Rm e A := ⟨r.hd, by have := r.dp; omega, by have := r.un; omega⟩
theorem Rm.deeper {d : Nat} {A : Around} (r : Rm (d + 1) A) (env : Env) : Rm d (A.deeper env) :=
  ⟨r.hd, by have := r.dp; show A.depth + 1 + d + 6 < _; omega, by have := r.un; show A.units + 3 + 4 * d + 300 < _; omega⟩
theorem Rm.make {d : Nat} {A : Around} (r : Rm (d + 1) A) (C : Addr) (us : List Value) (kw : List (Str × Value)) : Rm d (A.under (.builtin "type.__call__" ⟨.ref C :: us, kw⟩)) :=
  ⟨r.hd, by have := r.dp; rw [make_depth]; omega, by have := r.un; rw [make_units]; omega⟩
theorem Rm.depth {d : Nat} {A : Around} (r : Rm d A) : A.depth < recursionLimit := by have := r.dp; omega
theorem Rm.units {d : Nat} {A : Around} (r : Rm d A) : A.units + 64 < cLine := by have := r.un; omega
theorem Rm.of {k d : Nat} {A : Around} (r : Room k A) (h1 : d + 1 ≤ 3 * k) (h2 : 4 * d + 100 ≤ 16 * k) : Rm d A := ⟨r.hd, by have := r.dp; omega, by have := r.un; omega⟩
structure FnR (P : Program) (w : World) (K : Frg) (mg : Str → Option Value) (base : Heap) (d : Nat) (f : Addr) (fd : FuncData) (ps : List Str) (sp : Sp) : Prop where
  len : ∀ vs H Q E, sp vs H Q E → vs.length = ps.length
  run : ∀ (A : Around) (outer : List Env) (s : Shared) (H : Hp) (args : Args) (us : List Value) (vs : List V) (Q : VK) (E : XK), Rm d A → Env0 P w K mg base A outer s H → BindsTo s fd args (ps.zip us) → Vals vs us → sp vs H Q E →
    codeAny (model P w) A (.call (.ref f) args) (CR (L2.CX P w) outer P w H s Q E) s
theorem FnR.ok {P : Program} {w : World} {K : Frg} {mg : Str → Option Value} {base : Heap} {d k : Nat} {f : Addr} {fd : FuncData} {ps : List Str} {sp : Sp} (F : FnR P w K mg base d f fd ps sp) (h1 : d + 1 ≤ 3 * k) (h2 : 4 * d + 100 ≤ 16 * k) : FnOk P w K mg base (L2.CX P w) k f fd ps sp :=
  ⟨F.len, fun A outer s H args us vs Q E hr => F.run A outer s H args us vs Q E (Rm.of hr h1 h2)⟩
theorem FnR.mono {P : Program} {w : World} {K : Frg} {mg : Str → Option Value} {base : Heap} {d e : Nat} {f : Addr} {fd : FuncData} {ps : List Str} {sp : Sp} (F : FnR P w K mg base d f fd ps sp) (h : d ≤ e) : FnR P w K mg base e f fd ps sp :=
  ⟨F.len, fun A outer s H args us vs Q E hr => F.run A outer s H args us vs Q E (hr.mono h)⟩
theorem FnR.imp {P : Program} {w : World} {K : Frg} {mg : Str → Option Value} {base : Heap} {d : Nat} {f : Addr} {fd : FuncData} {ps : List Str} {sp sp' : Sp} (F : FnR P w K mg base d f fd ps sp) (h : ∀ vs H Q E, sp' vs H Q E → sp vs H Q E) : FnR P w K mg base d f fd ps sp' :=
  ⟨fun vs H Q E q => F.len vs H Q E (h _ _ _ _ q), fun A outer s H args us vs Q E hr he hb hv hs => F.run A outer s H args us vs Q E hr he hb hv (h _ _ _ _ hs)⟩
/-- the promise that a plain function tells -/
def spF (K : Frg) (T : Tbs) (F : List A → Sto → RE) : Sp := fun vs H Q E => ∃ l S as, Rel K T S as H ∧ RelL K H as l vs ∧ FinE K T (fun c d _ H' => E c d H') [] H as Q (F l S)
/-- the body of a def -/
theorem fnr_of {P : Program} {w : World} {K : Frg} {mg : Str → Option Value} {base : Heap} {d : Nat} {f : Addr} {name qual : Str} {params : Arguments} {body : List Stmt} {scope : Scope} {dvs : List V} {kws : List (Str × V)} {fd : FuncData} {N ps : List Str} {sp : Sp}
    (D : FunD K name qual params body scope dvs kws f fd) (S : FnScope N ps scope) (len : ∀ vs H Q E, sp vs H Q E → vs.length = ps.length)
    (hbody : ∀ (cdv : Value) (A : Around) (outer : List Env) (s : Shared) (H : Hp) (vs : List V) (Q : VK) (E : XK), Rm d (A.deeper (envOfC qual scope s.heap.objs.size f cdv)) → sp vs H Q E →
      ∃ t, PSs (cxOf (L2.CX P w) P w K mg base N qual scope f cdv A outer s H E) body t ∧ t { nx := fun _ H' => Q .non H', rt := Q } (L2.start N vs) H) : FnR P w K mg base (d + 1) f fd ps sp := by
  obtain ⟨oc, od, dV, kV, doc, pm, an, cdv, ct, osl, rfl, lk, hcd, _, _⟩ := D.ex
  refine ⟨len, fun A outer s H args us vs Q E hr e0 hb r hsp => ?_⟩
  have hl := len _ _ _ _ hsp
  have KX : K.In s.heap := e0.mod.kin.keeps fun b o e => (e0.bs b o e).1
  have lim : s.heap.NoLimit := e0.mod.nolimit.keeps fun b o e => (e0.bs b o e).1
  have hkind : ∀ y ∈ ps.zip us, scope.names.lookup y.1 = some .local ∨ (scope.names.lookup y.1 = some .cell ∧ ((cellsFrom (s.heap.objs.size + 1) scope.names []).lookup y.1).isSome = true) := fun ⟨n, v⟩ hy => by
    rcases S.par n (List.of_mem_zip hy).1 with q | q
    · exact .inl q
    · exact .inr ⟨q, PySem.W.cellsFrom_some _ _ _ (.inl q)⟩
  refine codeAny_call_function hr.depth (KX _ _ lk) rfl S.co S.gen rfl (PySem.W.codeRec_of KX hcd) (hb _ _ _ _ ?_)
  refine wpAny_newFunctionEnv_cells S.kind hkind fun env he s1 x => ?_
  subst he
  refine ⟨lim.keeps x.toInCall.keep, codeAny_func ?_⟩
  obtain ⟨t, ht, hq⟩ := hbody cdv A outer s H vs Q E (hr.deeper _) hsp
  have I : Inv (cxOf (L2.CX P w) P w K mg base N qual scope f cdv A outer s H E) [] (L2.start N vs) H s1 := inv_start S hr.hd e0 hl r x
  refine wpAny_mono (ht.run [] s1 (L2.start N vs) H _ I hq) (fun fl s' hs => ?_) fun e s' hs => hs
  have fin : ∀ {σ' : L2.St} {H' : Hp} {v : V} {u : Value}, Inv (cxOf (L2.CX P w) P w K mg base N qual scope f cdv A outer s H E) [] σ' H' s' → RelV v u → Q v H' → CE outer P w H s Q u s' := fun {σ' H' v u} J rv q => ⟨v, H', J.os, J.bare, J.base, J.hok, rv, q⟩
  cases fl with
  | ret u =>
    obtain ⟨v, σ', H', J, rv, q⟩ := hs
    exact fin J rv q
  | next =>
    obtain ⟨σ', H', J, q⟩ := hs
    exact fin (v := V.non) (u := Value.none) J rfl q
  | brk =>
    obtain ⟨_, _, _, q⟩ := hs
    exact False.elim q
  | cont =>
    obtain ⟨_, _, _, q⟩ := hs
    exact False.elim q
/-! ### what a body's result is worth to the caller: less may be told -/
/-- numbers within a value lie below n -/
inductive Bel (n : Nat) : A → Prop
  | non : Bel n .non
  | bl (b : Bool) : Bel n (.bl b)
  | int (i : Int) : Bel n (.int i)
  | str (x : Str) : Bel n (.str x)
  | tup {xs : List A} : (∀ x, x ∈ xs → Bel n x) → Bel n (.tup xs)
  | ob {m : Nat} : m < n → Bel n (.ob m)
def BelO (n : Nat) : O → Prop
  | .lst xs => ∀ x ∈ xs, Bel n x
  | .rol xs => ∀ x ∈ xs, Bel n x
  | .dic kvs => ∀ p ∈ kvs, Bel n p.2
  | .dit kvs => ∀ p ∈ kvs, Bel n p.2
  | .ins _ fs => ∀ p ∈ fs, Bel n p.2
def BelS (S : Sto) : Prop := ∀ o ∈ S, BelO S.length o
section
variable {K : Frg} {T : Tbs} {W : WX} {H H' : Hp} {as as' : List Addr} {S S' : Sto} {ρ ρ' : Ro} {σ : L2.St}
mutual
theorem RelA.bel {a : A} {v : V} (h : RelA K H as a v) : Bel as.length a := by
  cases h with
  | non => exact .non
  | bl b => exact .bl b
  | int i => exact .int i
  | str x => exact .str x
  | tup hs hr => exact .tup (RelL.bel hr)
  | ob e => exact .ob (List.getElem?_eq_some_iff.mp e).1
theorem RelL.bel {xs : List A} {vs : List V} (h : RelL K H as xs vs) : ∀ x, x ∈ xs → Bel as.length x := by
  cases h with
  | nil => intro x hx; cases hx
  | cons h1 h2 =>
    intro x hx
    rcases List.mem_cons.mp hx with e | e
    · rw [e]; exact RelA.bel h1
    · exact RelL.bel h2 x e
end
theorem RelKV.bel {κ : Type} {x : List (κ × A)} {y : List (κ × V)} (h : RelKV K H as x y) : ∀ p ∈ x, Bel as.length p.2 := by
  induction h with
  | nil => intro p hp; cases hp
  | cons h1 _ ih =>
    intro p hp
    rcases List.mem_cons.mp hp with e | e
    · rw [e]; exact h1.bel
    · exact ih p e
theorem RelO.bel {o : O} {a : Addr} (h : RelO K H as o a) : BelO as.length o := by
  cases o with
  | lst xs => obtain ⟨vs, _, h2⟩ := h; exact h2.bel
  | rol xs => obtain ⟨vs, _, h2⟩ := h; exact h2.bel
  | dic kvs => obtain ⟨vs, _, h2⟩ := h; exact h2.bel
  | dit kvs => obtain ⟨vs, _, h2⟩ := h; exact h2.bel
  | ins C fs => obtain ⟨dx, vs, _, h2⟩ := h; exact h2.bel
theorem Rel.bel (r : Rel K T S as H) : BelS S := fun o ho => by
  obtain ⟨n, hn, e⟩ := List.mem_iff_getElem.mp ho
  have h1 : S[n]? = some o := by rw [List.getElem?_eq_getElem hn, e]
  have ha : n < as.length := by rw [r.len]; exact hn
  have h2 : as[n]? = some as[n] := List.getElem?_eq_getElem ha
  have := (r.obj n o _ h1 h2).bel
  rw [r.len] at this
  exact this
mutual
theorem RelA.cut {a : A} {v : V} {n : Nat} (h : RelA K H as a v) (b : Bel n a) : RelA K H (as.take n) a v := by
  cases h with
  | non => exact .non
  | bl c => exact .bl c
  | int i => exact .int i
  | str x => exact .str x
  | tup hs hr => cases b with
    | tup hb => exact .tup hs (RelL.cut hr hb)
  | ob e => cases b with
    | ob hm => exact .ob (by rw [List.getElem?_take, if_pos hm]; exact e)
theorem RelL.cut {xs : List A} {vs : List V} {n : Nat} (h : RelL K H as xs vs) (b : ∀ x, x ∈ xs → Bel n x) : RelL K H (as.take n) xs vs := by
  cases h with
  | nil => exact .nil
  | cons h1 h2 => exact .cons (RelA.cut h1 (b _ (by simp))) (RelL.cut h2 fun x hx => b x (by simp [hx]))
end
theorem RelKV.cut {κ : Type} {n : Nat} {x : List (κ × A)} {y : List (κ × V)} (h : RelKV K H as x y) (b : ∀ p ∈ x, Bel n p.2) : RelKV K H (as.take n) x y := by
  induction h with
  | nil => exact .nil
  | cons h1 _ ih => exact .cons (h1.cut (b _ List.mem_cons_self)) (ih fun p hp => b p (List.mem_cons_of_mem _ hp))
theorem RelO.cut {o : O} {a : Addr} {n : Nat} (h : RelO K H as o a) (b : BelO n o) : RelO K H (as.take n) o a := by
  cases o with
  | lst xs => obtain ⟨vs, h1, h2⟩ := h; exact ⟨vs, h1, h2.cut b⟩
  | rol xs => obtain ⟨vs, h1, h2⟩ := h; exact ⟨vs, h1, h2.cut b⟩
  | dic kvs => obtain ⟨vs, h1, h2⟩ := h; exact ⟨vs, h1, h2.cut b⟩
  | dit kvs => obtain ⟨vs, h1, h2⟩ := h; exact ⟨vs, h1, h2.cut b⟩
  | ins C fs => obtain ⟨dx, vs, h1, h2⟩ := h; exact ⟨dx, vs, h1, h2.cut b⟩
/-- the end of the store is forgotten -/
theorem Rel.cut {E : Sto} (r : Rel K T (S ++ E) as H) (b : BelS S) : Rel K T S (as.take S.length) H := by
  have hl : as.length = S.length + E.length := by rw [r.len, List.length_append]
  have e1 : ∀ {n : Nat} {o : O}, S[n]? = some o → (S ++ E)[n]? = some o := fun {n o} h => by rw [List.getElem?_append_left (List.getElem?_eq_some_iff.mp h).1]; exact h
  have e2 : ∀ {n : Nat} {a : Addr}, (as.take S.length)[n]? = some a → as[n]? = some a := fun {n a} h => by
    rw [List.getElem?_take] at h
    split at h
    · exact h
    · cases h
  exact ⟨by rw [List.length_take]; omega, fun n m a o u h1 h2 h3 h4 => r.inj n m a o u (e2 h1) (e2 h2) (e1 h3) (e1 h4), fun n o a h1 h2 => (r.obj n o a (e1 h1) (e2 h2)).cut (b o (List.mem_of_getElem? h1)), r.tab⟩
/-- .. but for one list of plain things at d -/
theorem Rel.cutL {E : Sto} {d : Nat} {xs : List A} (r : Rel K T (S ++ E) as H) (b : BelS S) (hd : S.length ≤ d) (he : (S ++ E)[d]? = some (.lst xs)) (hx : ∀ x ∈ xs, Bel S.length x) : ∃ a, as[d]? = some a ∧ Rel K T (S ++ [.lst xs]) (as.take S.length ++ [a]) H := by
  have hl : as.length = S.length + E.length := by rw [r.len, List.length_append]
  have hdl : d < as.length := by rw [r.len]; exact (List.getElem?_eq_some_iff.mp he).1
  have ha : as[d]? = some as[d] := List.getElem?_eq_getElem hdl
  have c := r.cut b
  have tl : (as.take S.length).length = S.length := c.len
  have e1 : ∀ {n : Nat} {o : O}, S[n]? = some o → (S ++ E)[n]? = some o := fun {n o} h => by rw [List.getElem?_append_left (List.getElem?_eq_some_iff.mp h).1]; exact h
  have e2 : ∀ {n : Nat} {a : Addr}, (as.take S.length)[n]? = some a → as[n]? = some a := fun {n a} h => by
    rw [List.getElem?_take] at h
    split at h
    · exact h
    · cases h
  have le : Le K H (as.take S.length) H (as.take S.length ++ [as[d]]) := (Kp.refl H).leA _
  have ltA : ∀ {n : Nat}, n < S.length → (as.take S.length ++ [as[d]])[n]? = (as.take S.length)[n]? := fun {n} hn => List.getElem?_append_left (by rw [tl]; exact hn)
  have ltS : ∀ {n : Nat}, n < S.length → (S ++ [O.lst xs])[n]? = S[n]? := fun {n} hn => List.getElem?_append_left hn
  have geA : (as.take S.length ++ [as[d]])[S.length]? = some as[d] := by
    rw [List.getElem?_append_right (by omega)]
    simp [tl]
  have geS : (S ++ [O.lst xs])[S.length]? = some (O.lst xs) := by simp
  have cs : ∀ {n : Nat} {u : O}, (S ++ [O.lst xs])[n]? = some u → n < S.length ∨ n = S.length := fun {n u} e => by
    have := (List.getElem?_eq_some_iff.mp e).1
    simp at this; omega
  have old : ∀ {n : Nat} {u : O}, S[n]? = some u → u.mut = true → (as.take S.length)[n]? ≠ some as[d] := fun {n u} e m z => by
    have q := r.inj n d _ u (.lst xs) (e2 z) ha (e1 e) he m rfl
    have := (List.getElem?_eq_some_iff.mp e).1
    omega
  refine ⟨as[d], ha, by simp [tl], fun n m a u w h1 h2 h3 h4 m1 m2 => ?_, fun n u a h1 h2 => ?_, r.tab⟩
  · rcases cs h3 with hn | hn <;> rcases cs h4 with hm | hm
    · rw [ltA hn] at h1; rw [ltA hm] at h2; rw [ltS hn] at h3; rw [ltS hm] at h4
      exact c.inj n m a u w h1 h2 h3 h4 m1 m2
    · rw [ltA hn] at h1; rw [ltS hn] at h3
      rw [hm, geA] at h2; cases h2
      exact absurd h1 (old h3 m1)
    · rw [ltA hm] at h2; rw [ltS hm] at h4
      rw [hn, geA] at h1; cases h1
      exact absurd h2 (old h4 m2)
    · rw [hn, hm]
  · rcases cs h1 with hn | hn
    · rw [ltA hn] at h2; rw [ltS hn] at h1
      exact (c.obj n u a h1 h2).mono le fun w e => e
    · rw [hn, geS] at h1; rw [hn, geA] at h2
      cases h1; cases h2
      obtain ⟨vs, h5, h6⟩ := r.obj d _ _ he ha
      exact ⟨vs, h5, (h6.cut hx).mono le⟩
theorem Le.cut {n : Nat} {as1 : List Addr} (l : Le K H as H' as1) (h : as.length ≤ n) : Le K H as H' (as1.take n) := ⟨fun m a e => by
  rw [List.getElem?_take, if_pos (Nat.lt_of_lt_of_le (List.getElem?_eq_some_iff.mp e).1 h)]
  exact l.pre m a e, l.tup⟩
theorem Le.app {p : Addr} {as1 : List Addr} (l : Le K H as H' as1) : Le K H as H' (as1 ++ [p]) := l.trans ((Kp.refl H').leA p)
end
/-- r' tells no more than the body's r, from a store of n objects: the rest of the store is forgotten; a new list keeps its place -/
inductive Fit (n : Nat) : RE → RS → Prop
  | ret {a : A} {S E : Sto} : Bel S.length a → BelS S → n ≤ S.length → Fit n (.ok a S) (.ret a (S ++ E))
  | nx {S E : Sto} {ρ : Ro} : BelS S → n ≤ S.length → Fit n (.ok .non S) (.nx ρ (S ++ E))
  | retL {xs : List A} {S E : Sto} {d : Nat} : S.length ≤ d → (S ++ E)[d]? = some (.lst xs) → (∀ x ∈ xs, Bel S.length x) → BelS S → n ≤ S.length → Fit n (.ok (.ob S.length) (S ++ [.lst xs])) (.ret (.ob d) (S ++ E))
  | exc {c : Value} {S E : Sto} {ρ : Ro} : BelS S → n ≤ S.length → Fit n (.exc c S) (.exc c ρ (S ++ E))
theorem Fit.fin {K : Frg} {T : Tbs} {H : Hp} {as : List Addr} {r : RE} {z : RS} {Q : VK} {E : XK} {n : Nat} (h : Fit n r z) (hn : as.length = n) (f : FinE K T (fun c d _ H' => E c d H') [] H as Q r) : FinS K T (fun c d _ H' => E c d H') { nx := fun _ H' => Q .non H', rt := Q } H as z := by
  cases h with
  | ret ba bs hl => exact fun v as' H' l r ra => f v _ H' (l.cut (by omega)) (r.cut bs) (ra.cut ba)
  | nx bs hl => exact fun σ' as' H' l rs => f _ _ H' (l.cut (by omega)) (rs.rel.cut bs) .non
  | retL hd he hx bs hl =>
    intro v as' H' l r ra
    obtain ⟨a, h1, h2⟩ := r.cutL bs hd he hx
    cases ra with
    | ob e =>
      rw [e] at h1
      cases h1
      have len2 : (as'.take _).length = _ := (r.cut bs).len
      exact f _ _ H' (l.cut (by omega)).app h2 (.ob (by rw [List.getElem?_append_right (by omega)]; simp [len2]))
  | exc bs hl => exact fun σ' as' H' l rs => f _ H' (l.cut (by omega)) (rs.rel.cut bs)
/-- the slots at a def's start -/
def startR (n : Nat) (l : List A) : Ro := l.map some ++ List.replicate (n - l.length) none
theorem relSt_start {K : Frg} {T : Tbs} {H : Hp} {as : List Addr} {S : Sto} {l : List A} {vs : List V} {N : List Str} (r : Rel K T S as H) (rl : RelL K H as l vs) : RelSt K T (startR N.length l) S as (L2.start N vs) H := by
  refine ⟨r, by unfold startR L2.start; simp [rl.length], fun i a e => ?_⟩
  unfold startR at e
  by_cases hi : i < l.length
  · rw [List.getElem?_append_left (by simpa using hi), List.getElem?_map] at e
    cases q : l[i]? with
    | none => rw [q] at e; cases e
    | some b =>
      rw [q] at e
      cases e
      obtain ⟨v, h1, h2⟩ := rl.get q
      refine ⟨v, ?_, h2⟩
      unfold L2.start
      rw [List.getElem?_append_left (by rw [List.length_map, ← rl.length]; exact hi), List.getElem?_map, h1]
      rfl
  · rw [List.getElem?_append_right (by simpa using hi)] at e
    have z := List.mem_of_getElem? e
    rw [List.mem_replicate] at z
    cases z.2
/-- THE RULE: a def by its body's meaning q and a plain function F -/
theorem fnF {P : Program} {w : World} {K : Frg} {T : Tbs} {mg : Str → Option Value} {base : Heap} {d : Nat} {f : Addr} {name qual : Str} {params : Arguments} {body : List Stmt} {scope : Scope} {dvs : List V} {kws : List (Str × V)} {fd : FuncData} {N ps : List Str} {F : List A → Sto → RE}
    (D : FunD K name qual params body scope dvs kws f fd) (S : FnScope N ps scope) (len : ∀ l S, F l S ≠ .stuck → l.length = ps.length) (q : GS)
    (hb : ∀ (cdv : Value) (A : Around) (outer : List Env) (s : Shared) (H : Hp) (E : XK), Rm d (A.deeper (envOfC qual scope s.heap.objs.size f cdv)) →
      SB (cxOf (L2.CX P w) P w K mg base N qual scope f cdv A outer s H E) T (fun c d _ H' => E c d H') body q)
    (hq : ∀ l S, BelS S → (∀ x, x ∈ l → Bel S.length x) → F l S ≠ .stuck → Fit S.length (F l S) (q (startR N.length l) S)) : FnR P w K mg base (d + 1) f fd ps (spF K T F) := by
  have ns : ∀ {l : List A} {S : Sto} {H : Hp} {as : List Addr} {Q : VK} {E : XK}, FinE K T (fun c d _ H' => E c d H') [] H as Q (F l S) → F l S ≠ .stuck := fun f e => by rw [e] at f; exact f
  refine fnr_of D S (fun vs H Q E h => ?_) fun cdv A outer s H vs Q E hr h => ⟨_, hb cdv A outer s H E hr, ?_⟩
  · obtain ⟨l, St, as, r, rl, f⟩ := h
    rw [← rl.length]
    exact len l St (ns f)
  · obtain ⟨l, St, as, r, rl, f⟩ := h
    refine ⟨_, St, as, relSt_start r rl, (hq l St r.bel (fun x hx => ?_) (ns f)).fin r.len f⟩
    have := rl.bel x hx
    rw [r.len] at this
    exact this
end Sx

set_option Elab.async false
set_option linter.all false
set_option maxRecDepth 100000
set_option maxHeartbeats 1000000
namespace Sx
open PySem PySem.Spec PyProof.Rows L2
/-! ### calls of the text's own defs -/
def gCall (F : List A → Sto → RE) (gs : GA) : GE := fun ρ S => (gs ρ S).bind fun l S1 => F l S1
def insAt (C : Addr) (o : A) (S : Sto) : Option (Nat × List (Str × A)) := match o with
  | .ob n => (match S[n]? with
    | some (.ins C' fs) => if C' = C then some (n, fs) else none
    | _ => none)
  | _ => none
theorem insAt_some {C : Addr} {o : A} {S : Sto} {n : Nat} {fs : List (Str × A)} (h : insAt C o S = some (n, fs)) : o = .ob n ∧ S[n]? = some (.ins C fs) := by
  unfold insAt at h
  cases o with
  | ob m =>
    dsimp only at h
    split at h
    · rename_i C' gs e
      split at h
      · rename_i hc
        cases h
        subst hc
        exact ⟨rfl, e⟩
      · cases h
    · cases h
  | _ => cases h
def gMeth (C : Addr) (m : Str) (F : List A → Sto → RE) (go : GE) (gs : GA) : GE := fun ρ S => (go ρ S).bind fun o S1 => match insAt C o S1 with
  | some (_, fs) => if (fs.lookup m).isNone = true then (gs ρ S1).bind fun l S2 => F (o :: l) S2 else .stuck
  | none => .stuck
def gMake (C : Addr) (F : List A → Sto → RE) (gs : GA) : GE := fun ρ S => (gs ρ S).bind fun l S1 => (F (.ob S1.length :: l) (S1 ++ [.ins C []])).bind fun v S2 => match v with
  | .non => .ok (.ob S1.length) S2
  | _ => .stuck
theorem RelKV.lookup {K : Frg} {H : Hp} {as : List Addr} {x : List (Str × A)} {y : List (Str × V)} (h : RelKV K H as x y) (f : Str) : (x.lookup f = none ∧ y.lookup f = none) ∨ ∃ a v, x.lookup f = some a ∧ y.lookup f = some v ∧ RelA K H as a v := by
  induction h with
  | nil => exact .inl ⟨rfl, rfl⟩
  | @cons k a v l m h1 h2 ih =>
    by_cases hk : f = k
    · subst hk
      exact .inr ⟨a, v, by simp [List.lookup], by simp [List.lookup], h1⟩
    · have e : (f == k) = false := by simpa using hk
      simp only [List.lookup, e]
      exact ih
section
variable {X : Cx} {T : Tbs} {W : WX} {e o value : Expr} {es : List Expr} {p pos apos pos' tpos : Pos} {g go gv : GE} {gs : GA} {d : Nat} {f C : Addr} {fd : FuncData} {ps : List Str} {x m : Str} {F : List A → Sto → RE}
theorem run_fr {pins : List (Addr × Obj)} {σ : L2.St} {H : Hp} {s : Shared} {Q : VK} {us : List Value} {vs : List V} {sp : Sp} {E : L2.St → XK} (G : FnR X.prog X.w X.K X.mg X.base d f fd ps sp) (hr : Rm d X.A) (hb : Binds X.K fd ps []) (hx : PassesAt (L2.CX X.prog X.w) X σ (E σ))
    (I : Inv X pins σ H s) (r : Vals vs us) (h : sp vs H Q (E σ)) : wpAny (model X.prog X.w) X.A (call (.ref f) us) (EP X pins σ Q) X.xe s := by
  have hl : us.length = ps.length := by rw [← r.length]; exact G.len _ _ _ _ h
  have b := hb s us I.kIn (by rw [List.append_nil]; exact hl)
  rw [List.append_nil] at b
  refine wpAny_call (codeAny_mono (G.run X.A X.stack s H ⟨us, []⟩ us vs Q (E σ) hr I.env0 b r h) fun r s' hq => ?_)
  cases r with
  | error e => exact hx pins H s e s' I hq
  | ok fl =>
    cases fl with
    | ret u => exact I.after hq
    | next => exact False.elim hq
    | brk => exact False.elim hq
    | cont => exact False.elim hq
/-- the exceptions' wish of a call -/
theorem FinE.wish {K : Frg} {H : Hp} {as : List Addr} {σ : L2.St} {Q : VK} {r : RE} (h : FinE K T W σ H as Q r) : FinE K T (fun c d _ H' => WE W σ c d H') [] H as Q r := by
  cases r with
  | ok a S => exact h
  | exc c S => exact h
  | stuck => exact h
theorem se_call (G : FnR X.prog X.w X.K X.mg X.base d f fd ps (spF X.K T F)) (hr : Rm d X.A) (hm : X.mg x = some (.ref f)) (hk : PySem.W.keepIn X.K (.ref f) = true) (hb : Binds X.K fd ps []) (tk : Takes X W) (ha : SA X T W (e :: es) gs) (hg : Gl X x := by rfl)
    (hdb : (x == ("__debug__" : Str)) = false := by decide) (he : starEach (e :: es) X.env = (false, eval e X.env) :: starEach es X.env := by rfl) (hpl : (backTo pos (starEach es X.env)).any (·.1) = false := by rfl) :
    SE X T W (.Call (.Name x p) (e :: es) [] pos) (gCall F gs) := by
  refine ⟨fun pins s σ H Q I h => ?_⟩
  refine wpAny_Call_Name_kw (ld_glob I hg hm ?_ hdb)
  obtain ⟨ρ, S, as, rs, fin⟩ := h
  refine PySem.W.callWith_K (h₀ := X.base) I.ok.mod.kin hk (thn (ha.run pos pins s σ H (fun vs H1 => spF X.K T F vs H1 Q (WE W σ)) I (seqAE rs fin fun l S1 vs as1 H1 rs1 rl f1 l1 => ⟨l, S1, as1, rs1.rel, rl, FinE.wish f1⟩)) fun us s1 ⟨vs, H1, I1, r, q⟩ => ⟨I1.kIn, ?_⟩) he hpl
  exact run_fr G hr hb (passAt tk σ) I1 r q
theorem se_call0 (G : FnR X.prog X.w X.K X.mg X.base d f fd ps (spF X.K T F)) (hr : Rm d X.A) (hm : X.mg x = some (.ref f)) (hk : PySem.W.keepIn X.K (.ref f) = true) (hb : Binds X.K fd ps []) (tk : Takes X W) (hg : Gl X x := by rfl)
    (hdb : (x == ("__debug__" : Str)) = false := by decide) : SE X T W (.Call (.Name x p) [] [] pos) (gCall F gNil) := by
  refine ⟨fun pins s σ H Q I h => ?_⟩
  refine wpAny_Call_Name_kw (ld_glob I hg hm ?_ hdb)
  obtain ⟨ρ, S, as, rs, fin⟩ := h
  exact PySem.W.callWith_K0 I.kIn hk (run_fr (us := []) (vs := []) G hr hb (passAt tk σ) I .nil ⟨[], S, as, rs.rel, .nil, FinE.wish fin⟩)
theorem methI {σ : L2.St} {H : Hp} {Q : VK} (h : tE X.K T W (gMeth C m F go gs) σ H Q) : tE X.K T W go σ H fun x H1 => ∃ a dx fs, x = .ref a ∧ H1 a = some (.ins C dx fs) ∧ fs.lookup m = none ∧ tA X.K T W gs σ H1 fun vs H2 => spF X.K T F (x :: vs) H2 Q (WE W σ) := by
  obtain ⟨ρ, S, as, rs, fin⟩ := h
  refine seqE rs fin fun o S1 v as1 H1 rs1 ro f1 l1 => ?_
  split at f1
  · rename_i n fs hi
    obtain ⟨eo, hs⟩ := insAt_some hi
    subst eo
    cases ro with
    | ob ea =>
      obtain ⟨dx, gf, h1, h2⟩ := rs1.rel.obj _ _ _ hs ea
      split at f1
      · rename_i hl
        rcases h2.lookup m with ⟨q1, q2⟩ | ⟨a, v, q1, q2, _⟩
        · refine ⟨_, dx, gf, rfl, h1, q2, seqAE rs1 f1 fun l S2 vs as2 H2 rs2 rl f2 l2 => ⟨_ :: l, S2, as2, rs2.rel, .cons ((RelA.ob ea).mono l2) rl, FinE.wish f2⟩⟩
        · rw [q1] at hl; cases hl
      · exact False.elim f1
  · exact False.elim f1
theorem se_meth {pl : Sem Bool} (ho : SE X T W o go) (c : Cls X.K C) (hm : Meth X.K C m f) (G : FnR X.prog X.w X.K X.mg X.base d f fd ps (spF X.K T F)) (hr : Rm d X.A) (hb : Binds X.K fd ps []) (tk : Takes X W) (ha : SA X T W (e :: es) gs)
    (hst : starEach (e :: es) X.env = (false, eval e X.env) :: starEach es X.env := by rfl) (hpl : (backTo pos (starEach es X.env)).any (·.1) = false := by rfl)
    (ht : eval (.Call (.Attribute o m apos) (e :: es) [] pos) X.env = (do
      let ov ← eval o X.env
      standAt apos.atName
      let (f, first) ← holding [ov] (getMethod ov m pl)
      callWith pos f first (backTo pos (starEach (e :: es) X.env)) (backToKw pos (keywordEach [] X.env))) := by rfl) :
    SE X T W (.Call (.Attribute o m apos) (e :: es) [] pos) (gMeth C m F go gs) := by
  refine ⟨fun pins s σ H Q I h => ?_⟩
  refine PySem.W.methodCall_KW (pl := pl) (thn (ho.run pins s σ H _ I (methI h)) fun u s1 ⟨x, H1, I1, rx, a, dx, fs, ex, ea, l, q⟩ => ?_) ht
  subst ex
  obtain rfl : u = Value.ref a := rx
  refine getmeth_ok I1 ea c hm l ?_
  refine PySem.W.callWith_K (first := [.ref a]) (h₀ := X.base) I.ok.mod.kin hm.kp (thn (ha.run pos pins s1 σ H1 _ I1 q) fun us s2 ⟨vs, H2, I2, r, q2⟩ => ⟨I2.kIn, ?_⟩) hst hpl
  exact run_fr (us := .ref a :: us) (vs := .ref a :: vs) G hr hb (passAt tk σ) I2 (.cons rfl r) q2
theorem se_meth0 {pl : Sem Bool} (ho : SE X T W o go) (c : Cls X.K C) (hm : Meth X.K C m f) (G : FnR X.prog X.w X.K X.mg X.base d f fd ps (spF X.K T F)) (hr : Rm d X.A) (hb : Binds X.K fd ps []) (tk : Takes X W)
    (ht : eval (.Call (.Attribute o m apos) [] [] pos) X.env = (do
      let ov ← eval o X.env
      standAt apos.atName
      let (f, first) ← holding [ov] (getMethod ov m pl)
      callWith pos f first (backTo pos (starEach [] X.env)) (backToKw pos (keywordEach [] X.env))) := by rfl) :
    SE X T W (.Call (.Attribute o m apos) [] [] pos) (gMeth C m F go gNil) := by
  refine ⟨fun pins s σ H Q I h => ?_⟩
  refine PySem.W.methodCall_KW (pl := pl) (thn (ho.run pins s σ H _ I (methI h)) fun u s1 ⟨x, H1, I1, rx, a, dx, fs, ex, ea, l, q⟩ => ?_) ht
  subst ex
  obtain rfl : u = Value.ref a := rx
  refine getmeth_ok I1 ea c hm l ?_
  obtain ⟨ρ, S, as, rs, fin⟩ := q
  exact PySem.W.callWith_K0 (first := [.ref a]) I1.kIn hm.kp (run_fr (us := [.ref a]) (vs := [.ref a]) G hr hb (passAt tk σ) I1 (.cons rfl .nil) (fin [] as H1 .refl rs.rel .nil))
theorem Rel.make {K : Frg} {S : Sto} {as : List Addr} {H : Hp} {x dx : Addr} (r : Rel K T S as H) (hx : H x = none) (hd : H dx = none) (ne : dx ≠ x) : Le K H as (upd (upd H dx (.own x)) x (.ins C dx [])) (as ++ [x]) ∧ Rel K T (S ++ [.ins C []]) (as ++ [x]) (upd (upd H dx (.own x)) x (.ins C dx [])) := by
  have k1 : Kp H (upd H dx (.own x)) := Kp.new hd
  have r1 : Rel K T S as (upd H dx (.own x)) := r.grow (fun b o e => by rw [upd_ne (ne_of_none e hd)]; exact e) (k1.tabs r.tab)
  have hx1 : upd H dx (.own x) x = none := by rw [upd_ne (Ne.symm ne)]; exact hx
  exact ⟨k1.le.trans ((Kp.new hx1).leA x), r1.alloc hx1 ⟨dx, [], upd_same, .nil⟩⟩
theorem run_mk {pins : List (Addr × Obj)} {σ : L2.St} {H : Hp} {s : Shared} {Q : VK} {us : List Value} {vs : List V} {sp : Sp} {E : L2.St → XK} (M : Mk X.K C f) (G : FnR X.prog X.w X.K X.mg X.base d f fd ps sp) (hr : Rm (d + 1) X.A) (hb : Binds X.K fd ps [])
    (hx : PassesAt (L2.CX X.prog X.w) X σ (E σ)) (I : Inv X pins σ H s) (r : Vals vs us)
    (h : ∀ x dx, H x = none → H dx = none → dx ≠ x → sp (.ref x :: vs) (upd (upd H dx (.own x)) x (.ins C dx [])) (fun v H2 => v = .non ∧ Q (.ref x) H2) (E σ)) :
    wpAny (model X.prog X.w) X.A (call (.ref C) us) (EP X pins σ Q) X.xe s := by
  have hq := h (s.heap.objs.size + 1) s.heap.objs.size (I.hok.fresh (Nat.le_succ _)) (I.hok.fresh (Nat.le_refl _)) (Nat.ne_of_lt (Nat.lt_succ_self _))
  have I2 := Inv.made (C := C) I
  have r2 : Vals (V.ref (s.heap.objs.size + 1) :: vs) (Value.ref (s.heap.objs.size + 1) :: us) := .cons rfl r
  have hl : (Value.ref (s.heap.objs.size + 1) :: us).length = ps.length := by
    have e := r2.length
    rw [G.len _ _ _ _ hq] at e
    exact e.symm
  have bb := hb _ (Value.ref (s.heap.objs.size + 1) :: us) I2.kIn (by rw [List.append_nil]; exact hl)
  rw [List.append_nil] at bb
  refine wpAny_call (make_map (f := f) I.kIn M.makes M.init (beq_iff_eq.mp M.fn) (codeAny_mono (G.run _ X.stack _ _ ⟨Value.ref (s.heap.objs.size + 1) :: us, []⟩ (Value.ref (s.heap.objs.size + 1) :: us) _ _ (E σ) (hr.make C us [])
    (I2.env0.make C us []) bb r2 hq) fun r s' hq' => ?_))
  cases r with
  | error e => exact hx pins _ _ e s' I2 hq'
  | ok fl =>
    cases fl with
    | ret u =>
      obtain ⟨v, H', I3, rv, ev, q3⟩ := I2.after hq'
      subst ev
      exact ⟨rv, ⟨V.ref (s.heap.objs.size + 1), H', I3, rfl, q3⟩⟩
    | next => exact False.elim hq'
    | brk => exact False.elim hq'
    | cont => exact False.elim hq'
theorem makeI {K : Frg} {H : Hp} {as : List Addr} {S : Sto} {σ : L2.St} {Q : VK} {l : List A} {vs : List V} (r : Rel K T S as H) (rl : RelL K H as l vs) (f : FinE K T W σ H as Q ((F (.ob S.length :: l) (S ++ [.ins C []])).bind fun v S2 => match v with
    | .non => .ok (.ob S.length) S2
    | _ => .stuck)) : ∀ x dx, H x = none → H dx = none → dx ≠ x → spF K T F (.ref x :: vs) (upd (upd H dx (.own x)) x (.ins C dx [])) (fun v H2 => v = .non ∧ Q (.ref x) H2) (WE W σ) := by
  intro x dx hx hd ne
  obtain ⟨l1, r1⟩ := r.make (C := C) hx hd ne
  have ax : (as ++ [x])[S.length]? = some x := by rw [← r.len]; simp
  refine ⟨_, _, _, r1, .cons (.ob ax) (rl.mono l1), ?_⟩
  cases e : F (.ob S.length :: l) (S ++ [.ins C []]) with
  | stuck => rw [e] at f; exact f
  | exc c S1 => rw [e] at f; exact fun as' H' l' r' => f as' H' (l1.trans l') r'
  | ok v S1 =>
    rw [e] at f
    cases v with
    | non => exact fun v as' H' l' r' ra => by cases ra; exact ⟨rfl, f _ as' H' (l1.trans l') r' (.ob (l'.pre _ _ ax))⟩
    | _ => exact False.elim f
theorem se_make (M : Mk X.K C f) (G : FnR X.prog X.w X.K X.mg X.base d f fd ps (spF X.K T F)) (hr : Rm (d + 1) X.A) (hm : X.mg x = some (.ref C)) (hb : Binds X.K fd ps []) (tk : Takes X W) (ha : SA X T W (e :: es) gs) (hg : Gl X x := by rfl)
    (hdb : (x == ("__debug__" : Str)) = false := by decide) (he : starEach (e :: es) X.env = (false, eval e X.env) :: starEach es X.env := by rfl) (hpl : (backTo pos (starEach es X.env)).any (·.1) = false := by rfl) :
    SE X T W (.Call (.Name x p) (e :: es) [] pos) (gMake C F gs) := by
  refine ⟨fun pins s σ H Q I h => ?_⟩
  refine wpAny_Call_Name_kw (ld_glob I hg hm ?_ hdb)
  obtain ⟨ρ, S, as, rs, fin⟩ := h
  refine PySem.W.callWith_K (h₀ := X.base) I.ok.mod.kin M.kp (thn (ha.run pos pins s σ H (fun vs H1 => ∀ x dx, H1 x = none → H1 dx = none → dx ≠ x → spF X.K T F (.ref x :: vs) (upd (upd H1 dx (.own x)) x (.ins C dx [])) (fun v H2 => v = .non ∧ Q (.ref x) H2) (WE W σ)) I
    (seqAE rs fin fun l S1 vs as1 H1 rs1 rl f1 l1 => makeI rs1.rel rl f1)) fun us s1 ⟨vs, H1, I1, r, q⟩ => ⟨I1.kIn, ?_⟩) he hpl
  exact run_mk M G hr hb (passAt tk σ) I1 r q
/-! ### attributes -/
def gFld (C : Addr) (f : Str) (g : GE) : GE := fun ρ S => (g ρ S).bind fun o S1 => match insAt C o S1 with
  | some (_, fs) => (match fs.lookup f with
    | some a => .ok a S1
    | none => .stuck)
  | none => .stuck
def putA (f : Str) (a : A) : List (Str × A) → List (Str × A)
  | [] => [(f, a)]
  | (g, x) :: r => if g = f then (g, a) :: r else (g, x) :: putA f a r
def gSetFld (C : Addr) (f : Str) (go gv : GE) : GS := fun ρ S => (gv ρ S).bindS ρ fun y S1 => (go ρ S1).bindS ρ fun o S2 => match insAt C o S2 with
  | some (n, fs) => if fs.length < 1000 then .nx ρ (S2.set n (.ins C (putA f y fs))) else .stuck
  | none => .stuck
theorem RelKV.put {K : Frg} {H : Hp} {as : List Addr} {x : List (Str × A)} {y : List (Str × V)} {f : Str} {a : A} {v : V} (h : RelKV K H as x y) (r : RelA K H as a v) : RelKV K H as (putA f a x) (putF f v y) := by
  induction h with
  | nil => exact .cons r .nil
  | @cons k b w l m h1 h2 ih =>
    unfold putA putF
    by_cases hk : k = f
    · rw [if_pos hk, if_pos hk]; exact .cons r h2
    · rw [if_neg hk, if_neg hk]; exact .cons h1 ih
theorem RelKV.length {κ : Type} {K : Frg} {H : Hp} {as : List Addr} {x : List (κ × A)} {y : List (κ × V)} (h : RelKV K H as x y) : x.length = y.length := by
  induction h with
  | nil => rfl
  | cons _ _ ih => rw [List.length_cons, List.length_cons, ih]
theorem se_fld {f : Str} (c : Cls X.K C) (n : NoAttr X.K C f) (he : SE X T W e g) (hb : attributeBase e f X.env (eval e X.env) = eval e X.env := by rfl) : SE X T W (.Attribute e f pos) (gFld C f g) := pe_imp (pe_fld he hb) fun σ H Q ⟨ρ, S, as, rs, fin⟩ => by
  refine seqE rs fin fun o S1 v as1 H1 rs1 ro f1 l1 => ?_
  split at f1
  · rename_i k fs hi
    obtain ⟨eo, hs⟩ := insAt_some hi
    subst eo
    cases ro with
    | ob ea =>
      obtain ⟨dx, gf, h1, h2⟩ := rs1.rel.obj _ _ _ hs ea
      rcases h2.lookup f with ⟨q1, q2⟩ | ⟨a, v, q1, q2, ra⟩
      · rw [q1] at f1; exact False.elim f1
      · rw [q1] at f1
        exact ⟨_, C, dx, gf, v, rfl, h1, c, n, q2, f1 v as1 H1 .refl rs1.rel ra⟩
  · exact False.elim f1
theorem ss_fld {f : Str} (c : Cls X.K C) (n : NoAttr X.K C f) (ho : SE X T W o go) (hv : SE X T W value gv) (hs : swapsWith value (some (.Attribute o f pos')) pos.line X.env = pure false := by rfl) : SS X T W (.Assign [.Attribute o f pos'] value pos) (gSetFld C f go gv) := ps_imp (ps_fld ho hv hs) fun D σ H ⟨ρ, S, as, rs, fin⟩ => by
  refine seqES rs fin fun y S1 v as1 H1 rs1 ry f1 l1 => seqES rs1 f1 fun o S2 u as2 H2 rs2 ro f2 l2 => ?_
  split at f2
  · rename_i k fs hi
    obtain ⟨eo, hs⟩ := insAt_some hi
    subst eo
    cases ro with
    | ob ea =>
      obtain ⟨dx, gf, h1, h2⟩ := rs2.rel.obj _ _ _ hs ea
      split at f2
      · rename_i hl
        have kk : Kp H2 (upd H2 _ (.ins C dx (putF f v gf))) := Kp.wr h1 rfl
        refine ⟨_, C, dx, gf, rfl, h1, c, n, by rw [← h2.length]; exact hl, f2 σ as2 _ kk.le (rs2.mono kk.le (rs2.rel.write (o' := .ins C (putA f y fs)) hs ea h1 rfl rfl ⟨dx, _, upd_same, (h2.put (ry.mono l2)).mono kk.le⟩))⟩
      · exact False.elim f2
  · exact False.elim f2
/-- o.f op= value -/
def gAugFld (C : Addr) (f : Str) (r : A → A → Sto → RE) (go gv : GE) : GS := fun ρ S => (go ρ S).bindS ρ fun o S1 => match insAt C o S1 with
  | some (n, fs) => (match fs.lookup f with
    | some a => (gv ρ S1).bindS ρ fun y S2 => ((r a y S2).nox).bindS ρ fun z S3 => (match insAt C o S3 with
      | some (_, fs') => if fs'.length < 1000 then .nx ρ (S3.set n (.ins C (putA f z fs'))) else .stuck
      | none => .stuck)
    | none => .stuck)
  | none => .stuck
abbrev InS (X : Cx) (T : Tbs) (op : Operator) (r : A → A → Sto → RE) : Prop := InOp X op (tR2 X.K T r)
theorem ss_fldaug {f : Str} {op : Operator} {r : A → A → Sto → RE} (c : Cls X.K C) (n : NoAttr X.K C f) (ho : SE X T W o go) (hv : SE X T W value gv) (hop : InS X T op r) : SS X T W (.AugAssign (.Attribute o f tpos) op value pos) (gAugFld C f r go gv) := ps_imp (ps_fldaug ho hv hop) fun D σ H ⟨ρ, S, as, rs, fin⟩ => by
  refine seqES rs fin fun o S1 u as1 H1 rs1 ro f1 l1 => ?_
  split at f1
  · rename_i k fs hi
    obtain ⟨eo, hs⟩ := insAt_some hi
    subst eo
    cases ro with
    | ob ea =>
      obtain ⟨dx, gf, h1, h2⟩ := rs1.rel.obj _ _ _ hs ea
      rcases h2.lookup f with ⟨q1, q2⟩ | ⟨a, v, q1, q2, ra⟩
      · rw [q1] at f1; exact False.elim f1
      · rw [q1] at f1
        refine ⟨_, C, dx, gf, v, rfl, h1, c, n, q2, seqES rs1 f1 fun y S2 w as2 H2 rs2 ry f2 l2 => ?_⟩
        refine ⟨a, y, S2, as2, rs2.rel, ra.mono l2, ry, ?_⟩
        cases e : r a y S2 with
        | stuck => rw [e] at f2; exact f2
        | exc c' S3 => rw [e] at f2; exact f2
        | ok z S3 =>
          rw [e] at f2
          intro zv as3 H3 l3 r3 rz
          have f3 := FinS.later f2 l3
          dsimp only [RE.nox, RE.bindS] at f3
          split at f3
          · rename_i k' fs' hi'
            obtain ⟨ek, hs'⟩ := insAt_some hi'
            cases ek
            have ea3 := (l2.trans l3).pre _ _ ea
            obtain ⟨dx', gf', h1', h2'⟩ := r3.obj _ _ _ hs' ea3
            split at f3
            · rename_i hl
              have kk : Kp H3 (upd H3 _ (.ins C dx' (putF f zv gf'))) := Kp.wr h1' rfl
              exact ⟨dx', gf', h1', by rw [← h2'.length]; exact hl, f3 σ as3 _ kk.le ((rs2.mono l3 r3).mono kk.le (r3.write (o' := .ins C (putA f z fs')) hs' ea3 h1' rfl rfl ⟨dx', _, upd_same, (h2'.put rz).mono kk.le⟩))⟩
            · exact False.elim f3
          · exact False.elim f3
  · exact False.elim f1
/-- name op= value -/
def gAug (i : Nat) (r : A → A → Sto → RE) (g : GE) : GS := fun ρ S => match ρ[i]? with
  | some (some a) => (g ρ S).bindS ρ fun y S1 => ((r a y S1).nox).bindS ρ fun z S2 => .nx (ρ.set i (some z)) S2
  | _ => .stuck
abbrev IpS (X : Cx) (T : Tbs) (op : Operator) (r : A → A → Sto → RE) : Prop := PIp X op (tR2 X.K T r)
theorem ss_aug {i : Nat} {op : Operator} {r : A → A → Sto → RE} (hN : X.N.Nodup) (hi : X.N[i]? = some x) (hx : Loc X.env.scope x) (he : SE X T W e g) (ho : IpS X T op r) (hf : X.fn x = true ∨ X.env.scope.names.lookup x = some .local := by first | exact .inl rfl | exact .inr rfl | assumption) :
    SS X T W (.AugAssign (.Name x pos') op e pos) (gAug i r g) := ps_imp (ps_aug hN hi hx he ho hf) fun D σ H ⟨ρ, S, as, rs, fin⟩ => by
  unfold gAug at fin
  split at fin
  · rename_i a ea
    obtain ⟨v, h1, h2⟩ := rs.slot i a ea
    refine ⟨v, h1, seqES rs fin fun y S1 w as1 H1 rs1 ry f1 l1 => ⟨a, y, S1, as1, rs1.rel, h2.mono l1, ry, ?_⟩⟩
    cases e : r a y S1 with
    | stuck => rw [e] at f1; exact f1
    | exc c' S3 => rw [e] at f1; exact f1
    | ok z S3 =>
      rw [e] at f1
      exact fun zv as3 H3 l3 r3 rz => f1 _ as3 H3 l3 ((rs1.mono l3 r3).set i rz)
  · exact False.elim fin
/-! ### try .. except X: .. -/
def hand (K : Frg) : List (Value × GS) → Value → Ro → Sto → RS
  | [], c, ρ, S => .exc c ρ S
  | (c', q) :: r, c, ρ, S => match PySem.W.exmOne K c c' with
    | some true => (match q ρ S with
      | .exc _ _ _ => .stuck
      | z => z)
    | some false => hand K r c ρ S
    | none => .stuck
def gTry (K : Frg) (q : GS) (hs : List (Value × GS)) : GS := fun ρ S => match q ρ S with
  | .exc c ρ1 S1 => hand K hs c ρ1 S1
  | z => z
inductive Hds (X : Cx) (T : Tbs) : List ExceptHandler → List (Value × GS) → Prop
  | nil : Hds X T [] []
  | cons {x : Str} {c : Value} {q : GS} {b₀ : Stmt} {suite : List Stmt} {np pos' : Pos} {hds : List ExceptHandler} {l : List (Value × GS)} (hc : Names X x c)
      (hsu : ∀ (a : Addr) (pn : List (Addr × Obj)), SB (X.suite a pn) T W0 (b₀ :: suite) q) (r : Hds X T hds l) : Hds X T (.ExceptHandler (some (.Name x np)) none (b₀ :: suite) pos' :: hds) ((c, q) :: l)
def tsOf (K : Frg) (T : Tbs) : List (Value × GS) → List (Value × (Addr → Value → Option Addr → TS))
  | [] => []
  | (c, q) :: r => (c, fun _ _ _ => tS K T W0 q) :: tsOf K T r
theorem Hds.ok {hds : List ExceptHandler} {l : List (Value × GS)} (h : Hds X T hds l) : HdsOk X hds (tsOf X.K T l) := by
  induction h with
  | nil => exact .nil
  | cons hc hsu r ih => exact .cons hc (fun a oe cls d pn _ _ => hsu a _) ih
theorem handI {K : Frg} {Wout : WX} {D : Ends} {H : Hp} {as : List Addr} {ρ : Ro} {S : Sto} {σ : L2.St} {c : Value} : ∀ {l : List (Value × GS)}, RelSt K T ρ S as σ H → FinS K T Wout D H as (hand K l c ρ S) → wMany K Wout D (tsOf K T l) c none σ H
  | [], rs, f => f σ as H .refl rs
  | (c', q) :: r, rs, f => by
    unfold hand at f
    cases e : PySem.W.exmOne K c c' with
    | none => rw [e] at f; exact False.elim f
    | some b =>
      rw [e] at f
      refine ⟨b, e, fun hb a ha => ?_, fun hb => ?_⟩
      · subst hb
        refine ⟨ρ, S, as, rs, ?_⟩
        dsimp only at f
        cases eq : q ρ S with
        | exc c2 ρ2 S2 => rw [eq] at f; exact False.elim f
        | nx ρ2 S2 => rw [eq] at f; exact f
        | ret a2 S2 => rw [eq] at f; exact f
        | brk ρ2 S2 => rw [eq] at f; exact f
        | ct ρ2 S2 => rw [eq] at f; exact f
        | stuck => rw [eq] at f; exact f
      · subst hb
        exact handI rs f
theorem ss_try {body : List Stmt} {h₀ : ExceptHandler} {hds : List ExceptHandler} {l : List (Value × GS)} {q : GS} (tk : Takes X W)
    (hb : ∀ (W' : WX) (pn : List (Addr × Obj)) (xe : Value → Shared → Prop), Takes (X.tr pn xe) W' → PassesOwn (model X.prog X.w) X.A X.env xe → SB (X.tr pn xe) T W' body q)
    (hh : Hds X T (h₀ :: hds) l) (hs : X.stack = X.env :: X.outer := by rfl) (hf : X.env.frame = some X.env.locals := by rfl) : SS X T W (.Try body (h₀ :: hds) [] [] pos) (gTry X.K q l) :=
  ps_imp (ps_try_many (tb := fun W' => tS X.K T W' q) hs hf tk hb hh.ok) fun D σ H ⟨ρ, S, as, rs, fin⟩ => by
    refine ⟨ρ, S, as, rs, ?_⟩
    unfold gTry at fin
    cases e : q ρ S with
    | exc c ρ1 S1 => rw [e] at fin; exact fun σ1 as1 H1 l1 rs1 => handI rs1 (FinS.later fin l1)
    | nx ρ1 S1 => rw [e] at fin; exact fin
    | ret a1 S1 => rw [e] at fin; exact fin
    | brk ρ1 S1 => rw [e] at fin; exact fin
    | ct ρ1 S1 => rw [e] at fin; exact fin
    | stuck => rw [e] at fin; exact fin
end
end Sx

set_option Elab.async false
set_option linter.all false
set_option maxRecDepth 100000
set_option maxHeartbeats 1000000
namespace Sx
open PySem PySem.Spec PyProof.Rows L2
/-! ### equality of values, decided -/
mutual
def A.beq : A → A → Bool
  | .non, .non => true
  | .bl a, .bl b => a == b
  | .int a, .int b => a == b
  | .str a, .str b => decide (a = b)
  | .tup a, .tup b => A.beqL a b
  | .ob a, .ob b => a == b
  | _, _ => false
def A.beqL : List A → List A → Bool
  | [], [] => true
  | a :: l, b :: m => A.beq a b && A.beqL l m
  | _, _ => false
end
mutual
theorem A.beq_refl : ∀ a : A, A.beq a a = true
  | .non => by simp [A.beq]
  | .bl _ => by simp [A.beq]
  | .int _ => by simp [A.beq]
  | .str _ => by simp [A.beq]
  | .ob _ => by simp [A.beq]
  | .tup l => by simp [A.beq, A.beqL_refl l]
theorem A.beqL_refl : ∀ l : List A, A.beqL l l = true
  | [] => by simp [A.beqL]
  | a :: l => by simp [A.beqL, A.beq_refl a, A.beqL_refl l]
end
mutual
theorem A.eq_of_beq : ∀ {a b : A}, A.beq a b = true → a = b
  | .non, .non, _ => rfl
  | .bl _, .bl _, h => by simp [A.beq] at h; rw [h]
  | .int _, .int _, h => by simp [A.beq] at h; rw [h]
  | .str _, .str _, h => by simp [A.beq] at h; rw [h]
  | .ob _, .ob _, h => by simp [A.beq] at h; rw [h]
  | .tup l, .tup m, h => by
    have h2 : A.beqL l m = true := by simpa [A.beq] using h
    rw [A.eq_of_beqL h2]
  | .non, .bl _, h => by simp [A.beq] at h
  | .non, .int _, h => by simp [A.beq] at h
  | .non, .str _, h => by simp [A.beq] at h
  | .non, .tup _, h => by simp [A.beq] at h
  | .non, .ob _, h => by simp [A.beq] at h
  | .bl _, .non, h => by simp [A.beq] at h
  | .bl _, .int _, h => by simp [A.beq] at h
  | .bl _, .str _, h => by simp [A.beq] at h
  | .bl _, .tup _, h => by simp [A.beq] at h
  | .bl _, .ob _, h => by simp [A.beq] at h
  | .int _, .non, h => by simp [A.beq] at h
  | .int _, .bl _, h => by simp [A.beq] at h
  | .int _, .str _, h => by simp [A.beq] at h
  | .int _, .tup _, h => by simp [A.beq] at h
  | .int _, .ob _, h => by simp [A.beq] at h
  | .str _, .non, h => by simp [A.beq] at h
  | .str _, .bl _, h => by simp [A.beq] at h
  | .str _, .int _, h => by simp [A.beq] at h
  | .str _, .tup _, h => by simp [A.beq] at h
  | .str _, .ob _, h => by simp [A.beq] at h
  | .tup _, .non, h => by simp [A.beq] at h
  | .tup _, .bl _, h => by simp [A.beq] at h
  | .tup _, .int _, h => by simp [A.beq] at h
  | .tup _, .str _, h => by simp [A.beq] at h
  | .tup _, .ob _, h => by simp [A.beq] at h
  | .ob _, .non, h => by simp [A.beq] at h
  | .ob _, .bl _, h => by simp [A.beq] at h
  | .ob _, .int _, h => by simp [A.beq] at h
  | .ob _, .str _, h => by simp [A.beq] at h
  | .ob _, .tup _, h => by simp [A.beq] at h
theorem A.eq_of_beqL : ∀ {l m : List A}, A.beqL l m = true → l = m
  | [], [], _ => rfl
  | [], _ :: _, h => by simp [A.beqL] at h
  | _ :: _, [], h => by simp [A.beqL] at h
  | a :: l, b :: m, h => by
    simp only [A.beqL, Bool.and_eq_true] at h
    rw [A.eq_of_beq h.1, A.eq_of_beqL h.2]
end
/-! ### lists of the store -/
def O.items : O → Option (List A)
  | .lst xs => some xs
  | .rol xs => some xs
  | _ => none
def itemsAt (S : Sto) (n : Nat) : Option (List A) := match S[n]? with
  | some o => o.items
  | none => none
def okAt (n : Nat) (xs : List A) (S : Sto) : Bool := match itemsAt S n with
  | some ys => A.beqL ys xs
  | none => false
theorem okAt_iff {n : Nat} {xs : List A} {S : Sto} : okAt n xs S = true ↔ itemsAt S n = some xs := by
  unfold okAt
  cases e : itemsAt S n with
  | none => simp
  | some ys =>
    constructor
    · intro h
      rw [A.eq_of_beqL h]
    · intro h
      cases h
      exact A.beqL_refl _
section
variable {K : Frg} {T : Tbs} {W : WX} {H H' : Hp} {as as' : List Addr} {S S' : Sto} {ρ ρ' : Ro} {σ : L2.St}
theorem sqlK {a : Addr} {vs : List V} (h : SqL K (fun _ => none) a vs) : SqL K H a vs := by
  rcases h with (h | ⟨o, h⟩) | h
  · cases h
  · cases h
  · exact .inr h
theorem Rel.sql (r : Rel K T S as H) {n : Nat} {xs : List A} {a : Addr} (h : itemsAt S n = some xs) (ha : as[n]? = some a) : ∃ vs, SqL K H a vs ∧ RelL K H as xs vs := by
  unfold itemsAt at h
  split at h
  · rename_i o e
    have q := r.obj n o a e ha
    cases o with
    | lst ys => cases h; obtain ⟨vs, h1, h2⟩ := q; exact ⟨vs, SqL.of h1, h2⟩
    | rol ys =>
      cases h
      obtain ⟨vs, h1, h2⟩ := q
      rcases h1 with ⟨o, e1⟩ | e1
      · exact ⟨vs, .inl (.inr ⟨o, e1⟩), h2⟩
      · exact ⟨vs, sqlK e1, h2⟩
    | dic _ => cases h
    | dit _ => cases h
    | ins _ _ => cases h
  · cases h
theorem RelA.list {v : V} {n : Nat} (h : RelA K H as (.ob n) v) : ∃ a, v = .ref a ∧ as[n]? = some a := by
  cases h with
  | ob e => exact ⟨_, rfl, e⟩
/-- what an expression's value walks -/
def gIL (g : GE) : GI := fun ρ S => match g ρ S with
  | .ok (.ob n) S1 => (match itemsAt S1 n with
    | some xs => .ok xs (okAt n xs) S1
    | none => .stuck)
  | .ok _ _ => .stuck
  | .exc c S1 => .exc c S1
  | .stuck => .stuck
def gIT (g : GE) : GI := fun ρ S => match g ρ S with
  | .ok (.tup xs) S1 => .ok xs (fun _ => true) S1
  | .ok _ _ => .stuck
  | .exc c S1 => .exc c S1
  | .stuck => .stuck
def signs (x : Str) : List A := x.cps.toList.map fun c => .str ⟨#[c]⟩
def gIS (g : GE) : GI := fun ρ S => match g ρ S with
  | .ok (.str x) S1 => .ok (signs x) (fun _ => true) S1
  | .ok _ _ => .stuck
  | .exc c S1 => .exc c S1
  | .stuck => .stuck
def rngA (lo : Int) (n : Nat) : List A := (List.range n).map fun i => .int (lo + (i : Nat))
def gIR1 (gs : GA) : GI := fun ρ S => match gs ρ S with
  | .ok [.int j] S1 => if j < 1000000 ∧ -1000000 < j then .ok (rngA 0 j.toNat) (fun _ => true) S1 else .stuck
  | .ok _ _ => .stuck
  | .exc c S1 => .exc c S1
  | .stuck => .stuck
def gIR2 (gs : GA) : GI := fun ρ S => match gs ρ S with
  | .ok [.int i, .int j] S1 => if (j < 1000000 ∧ -1000000 < j) ∧ i < 1000000 ∧ -1000000 < i then .ok (rngA i (j - i).toNat) (fun _ => true) S1 else .stuck
  | .ok _ _ => .stuck
  | .exc c S1 => .exc c S1
  | .stuck => .stuck
def enumA (xs : List A) : List A := xs.zipIdx.map fun p => .tup [.int (p.2 : Nat), p.1]
def gIE (gs : GA) : GI := fun ρ S => match gs ρ S with
  | .ok [.ob n] S1 => (match itemsAt S1 n with
    | some xs => .ok (enumA xs) (okAt n xs) S1
    | none => .stuck)
  | .ok _ _ => .stuck
  | .exc c S1 => .exc c S1
  | .stuck => .stuck
def zipA (xs ys : List A) : List A := (xs.zip ys).map fun p => .tup [p.1, p.2]
def gIZ (gs : GA) : GI := fun ρ S => match gs ρ S with
  | .ok [.ob n, .ob m] S1 => (match itemsAt S1 n, itemsAt S1 m with
    | some xs, some ys => .ok (zipA xs ys) (fun S => okAt n xs S && okAt m ys S) S1
    | _, _ => .stuck)
  | .ok _ _ => .stuck
  | .exc c S1 => .exc c S1
  | .stuck => .stuck
theorem finI_of {gi : GI} {R : It → Hp → Prop} (h : tI K T W gi σ H R) : ∃ ρ S as, RelSt K T ρ S as σ H ∧ FinI K T W σ H as R (gi ρ S) := h
/-- an expression, then what is walked -/
theorem seqI {g : GE} {gi : GI} {R : It → Hp → Prop} {P : V → Hp → Prop} (h : tI K T W gi σ H R)
    (n : ∀ ρ S as, RelSt K T ρ S as σ H → FinI K T W σ H as R (gi ρ S) → (∀ a S1, g ρ S = .ok a S1 → ∀ v as1 H1, Le K H as H1 as1 → Rel K T S1 as1 H1 → RelA K H1 as1 a v → P v H1) ∧ (∀ c S1, g ρ S = .exc c S1 → gi ρ S = .exc c S1) ∧ (g ρ S = .stuck → gi ρ S = .stuck)) : tE K T W g σ H P := by
  obtain ⟨ρ, S, as, rs, f⟩ := h
  obtain ⟨h1, h2, h3⟩ := n ρ S as rs f
  refine ⟨ρ, S, as, rs, ?_⟩
  cases e : g ρ S with
  | ok a S1 => exact fun v as1 H1 l r ra => h1 a S1 e v as1 H1 l r ra
  | exc c S1 => rw [h2 c S1 e] at f; exact f
  | stuck => rw [h3 e] at f; exact f
theorem seqIA {g : GA} {gi : GI} {R : It → Hp → Prop} {P : List V → Hp → Prop} (h : tI K T W gi σ H R)
    (n : ∀ ρ S as, RelSt K T ρ S as σ H → FinI K T W σ H as R (gi ρ S) → (∀ a S1, g ρ S = .ok a S1 → ∀ v as1 H1, Le K H as H1 as1 → Rel K T S1 as1 H1 → RelL K H1 as1 a v → P v H1) ∧ (∀ c S1, g ρ S = .exc c S1 → gi ρ S = .exc c S1) ∧ (g ρ S = .stuck → gi ρ S = .stuck)) : tA K T W g σ H P := by
  obtain ⟨ρ, S, as, rs, f⟩ := h
  obtain ⟨h1, h2, h3⟩ := n ρ S as rs f
  refine ⟨ρ, S, as, rs, ?_⟩
  cases e : g ρ S with
  | ok a S1 => exact fun v as1 H1 l r ra => h1 a S1 e v as1 H1 l r ra
  | exc c S1 => rw [h2 c S1 e] at f; exact f
  | stuck => rw [h3 e] at f; exact f
theorem walk_list {a : Addr} {n : Nat} {xs : List A} (ha : as[n]? = some a) : Walk K T (Itl K a) H as xs (okAt n xs) := fun S as1 H1 l r hc => by
  obtain ⟨vs, hq, rl⟩ := r.sql (okAt_iff.mp hc) (l.pre _ _ ha)
  refine ⟨fun i x e => ?_, fun i hi => ⟨vs, hq, by rw [← rl.length]; exact hi⟩⟩
  obtain ⟨v, hv, rv⟩ := rl.get e
  refine ⟨⟨vs, v, hq, hv⟩, fun y H' ⟨e1, e2⟩ => ?_⟩
  subst e1
  have := e2 vs hq
  rw [hv] at this
  cases this
  exact ⟨as1, .refl, r, rv⟩
theorem walk_tup {a : Addr} {xs : List A} {vs : List V} (h : SqT K H a vs) (rl : RelL K H as xs vs) : Walk K T (Itt K a) H as xs (fun _ => true) := fun S as1 H1 l r hc => by
  have hq := l.tup _ _ h
  have rl := rl.mono l
  refine ⟨fun i x e => ?_, fun i hi => ⟨vs, hq, by rw [← rl.length]; exact hi⟩⟩
  obtain ⟨v, hv, rv⟩ := rl.get e
  refine ⟨⟨vs, v, hq, hv⟩, fun y H' ⟨e1, e2⟩ => ?_⟩
  subst e1
  have := e2 vs hq
  rw [hv] at this
  cases this
  exact ⟨as1, .refl, r, rv⟩
theorem walk_str {x : Str} : Walk K T (Its x) H as (signs x) (fun _ => true) := fun S as1 H1 l r hc => by
  have hl : (signs x).length = x.cps.size := by simp [signs]
  refine ⟨fun i y e => ?_, fun i hi => by rw [hl] at hi; exact hi⟩
  have hi : i < x.cps.size := by rw [← hl]; exact (List.getElem?_eq_some_iff.mp e).1
  refine ⟨hi, fun v H' ⟨e1, c, e2, e3⟩ => ?_⟩
  subst e1 e3
  unfold signs at e
  rw [List.getElem?_map, Array.getElem?_toList, e2] at e
  cases e
  exact ⟨as1, .refl, r, .str _⟩
theorem walk_rng {lo : Int} {n : Nat} : Walk K T (Itr lo n) H as (rngA lo n) (fun _ => true) := fun S as1 H1 l r hc => by
  have hl : (rngA lo n).length = n := by simp [rngA]
  refine ⟨fun i y e => ?_, fun i hi => by rw [hl] at hi; exact hi⟩
  have hi : i < n := by rw [← hl]; exact (List.getElem?_eq_some_iff.mp e).1
  refine ⟨hi, fun v H' ⟨e1, e2⟩ => ?_⟩
  subst e1 e2
  unfold rngA at e
  rw [List.getElem?_map, List.getElem?_range hi] at e
  cases e
  exact ⟨as1, .refl, r, .int _⟩
theorem enumA_get {xs : List A} {i : Nat} {y : A} (e : (enumA xs)[i]? = some y) : ∃ x, xs[i]? = some x ∧ y = .tup [.int (i : Nat), x] := by
  unfold enumA at e
  rw [List.getElem?_map, List.getElem?_zipIdx] at e
  cases q : xs[i]? with
  | none => rw [q] at e; cases e
  | some x => rw [q] at e; cases e; exact ⟨x, rfl, by simp⟩
theorem walk_enum {a : Addr} {n : Nat} {xs : List A} (ha : as[n]? = some a) : Walk K T (Ite K a) H as (enumA xs) (okAt n xs) := fun S as1 H1 l r hc => by
  obtain ⟨vs, hq, rl⟩ := r.sql (okAt_iff.mp hc) (l.pre _ _ ha)
  have hlen : (enumA xs).length = xs.length := by simp [enumA]
  refine ⟨fun i y e => ?_, fun i hi => ⟨vs, hq, by rw [← rl.length, ← hlen]; exact hi⟩⟩
  obtain ⟨x, hx, rfl⟩ := enumA_get e
  obtain ⟨v, hv, rv⟩ := rl.get hx
  refine ⟨⟨vs, v, hq, hv⟩, fun y H' ⟨T', x', e1, hT, e3, e4⟩ => ?_⟩
  subst e1 e3
  have := e4 vs hq
  rw [hv] at this
  cases this
  have k := Kp.new (o := HO.tup [.int (i : Nat), v]) hT
  exact ⟨as1, k.le, r.tup hT, .tup (SqT.of upd_same) (.cons (.int _) (.cons (rv.mono k.le) .nil))⟩
theorem walk_zip {a b : Addr} {n m : Nat} {xs ys : List A} (ha : as[n]? = some a) (hb : as[m]? = some b) : Walk K T (Itz K a b) H as (zipA xs ys) (fun S => okAt n xs S && okAt m ys S) := fun S as1 H1 l r hc => by
  obtain ⟨c1, c2⟩ := Bool.and_eq_true_iff.mp hc
  obtain ⟨vs, hq, rl⟩ := r.sql (okAt_iff.mp c1) (l.pre _ _ ha)
  obtain ⟨ws, hq2, rl2⟩ := r.sql (okAt_iff.mp c2) (l.pre _ _ hb)
  have hlen : (zipA xs ys).length = min xs.length ys.length := by simp [zipA]
  refine ⟨fun i y e => ?_, fun i hi => ⟨vs, ws, hq, hq2, by rw [← rl.length, ← rl2.length]; omega⟩⟩
  unfold zipA at e
  rw [List.getElem?_map] at e
  cases q : (xs.zip ys)[i]? with
  | none => rw [q] at e; cases e
  | some p =>
    rw [q] at e
    cases e
    obtain ⟨q1, q2⟩ := List.getElem?_zip_eq_some.mp q
    obtain ⟨v, hv, rv⟩ := rl.get q1
    obtain ⟨w, hw, rw'⟩ := rl2.get q2
    refine ⟨⟨vs, ws, v, w, hq, hq2, hv, hw⟩, fun y H' ⟨T', x', y', e1, hT, e3, e4, e5⟩ => ?_⟩
    subst e1 e3
    have z1 := e4 vs hq
    have z2 := e5 ws hq2
    rw [hv] at z1
    rw [hw] at z2
    cases z1
    cases z2
    have k := Kp.new (o := HO.tup [v, w]) hT
    exact ⟨as1, k.le, r.tup hT, .tup (SqT.of upd_same) (.cons (rv.mono k.le) (.cons (rw'.mono k.le) .nil))⟩
end
section
variable {X : Cx} {T : Tbs} {W : WX} {tg e e2 : Expr} {p pos tpos : Pos} {g : GE} {gs : GA} {gi : GI}
theorem pi_imp {t t' : TI} (h : PI X tg e t) (i : ∀ σ H R, t' σ H R → t σ H R) : PI X tg e t' := ⟨fun pins s σ H R I q => h.run pins s σ H R I (i _ _ _ q)⟩
theorem si_list (h : SE X T W e g) : SI X T W tg e (gIL g) := pi_imp (pi_list h) fun σ H R q => seqI q fun ρ S as rs f => by
  unfold gIL at f ⊢
  refine ⟨fun a S1 eg v as1 H1 l r ra => ?_, fun c S1 eg => by rw [eg], fun eg => by rw [eg]⟩
  rw [eg] at f
  cases a with
  | ob n =>
    dsimp only at f
    split at f
    · rename_i xs hx
      obtain ⟨a, rfl, ha⟩ := ra.list
      obtain ⟨vs, hq, rl⟩ := r.sql hx ha
      exact ⟨a, rfl, ⟨vs, hq⟩, f _ as1 H1 l r (walk_list ha)⟩
    · exact False.elim f
  | _ => exact False.elim f
theorem si_tup (h : SE X T W e g) : SI X T W tg e (gIT g) := pi_imp (pi_tup h) fun σ H R q => seqI q fun ρ S as rs f => by
  unfold gIT at f ⊢
  refine ⟨fun a S1 eg v as1 H1 l r ra => ?_, fun c S1 eg => by rw [eg], fun eg => by rw [eg]⟩
  rw [eg] at f
  cases ra with
  | tup hs rl => exact ⟨_, rfl, ⟨_, hs⟩, f _ as1 H1 l r (walk_tup hs rl)⟩
  | _ => exact False.elim f
theorem si_str (h : SE X T W e g) : SI X T W tg e (gIS g) := pi_imp (pi_str h) fun σ H R q => seqI q fun ρ S as rs f => by
  unfold gIS at f ⊢
  refine ⟨fun a S1 eg v as1 H1 l r ra => ?_, fun c S1 eg => by rw [eg], fun eg => by rw [eg]⟩
  rw [eg] at f
  cases ra with
  | str x => exact ⟨_, rfl, f _ as1 H1 l r walk_str⟩
  | _ => exact False.elim f
theorem si_range1 (hm : X.mg "range" = none) (ha : SA X T W [e] gs) (hg : Gl X "range" := by rfl) (hs : starEach [e] X.env = [(false, eval e X.env)] := by rfl) : SI X T W tg (.Call (.Name "range" p) [e] [] pos) (gIR1 gs) := pi_imp (pi_range1 hg hm ha hs) fun σ H R q => seqIA q fun ρ S as rs f => by
  unfold gIR1 at f ⊢
  refine ⟨fun a S1 eg v as1 H1 l r ra => ?_, fun c S1 eg => by rw [eg], fun eg => by rw [eg]⟩
  rw [eg] at f
  split at f
  · rename_i j S2 e2
    cases e2
    split at f
    · rename_i hj
      cases ra with
      | cons r1 r2 =>
        cases r1
        cases r2
        exact ⟨j, rfl, by omega, by omega, f _ as1 H1 l r walk_rng⟩
    · exact False.elim f
  · exact False.elim f
  · rename_i e3; cases e3
  · exact False.elim f
theorem si_range2 (hm : X.mg "range" = none) (ha : SA X T W [e, e2] gs) (hg : Gl X "range" := by rfl) (hs : starEach [e, e2] X.env = [(false, eval e X.env), (false, eval e2 X.env)] := by rfl) (hs2 : starEach [e2] X.env = [(false, eval e2 X.env)] := by rfl) : SI X T W tg (.Call (.Name "range" p) [e, e2] [] pos) (gIR2 gs) := pi_imp (pi_range2 hg hm ha hs hs2) fun σ H R q => seqIA q fun ρ S as rs f => by
  unfold gIR2 at f ⊢
  refine ⟨fun a S1 eg v as1 H1 l r ra => ?_, fun c S1 eg => by rw [eg], fun eg => by rw [eg]⟩
  rw [eg] at f
  split at f
  · rename_i i j S2 e2
    cases e2
    split at f
    · rename_i hj
      cases ra with
      | cons r1 r2 =>
        cases r1
        cases r2 with
        | cons r3 r4 =>
          cases r3
          cases r4
          exact ⟨i, j, rfl, ⟨by omega, by omega, by omega, by omega⟩, f _ as1 H1 l r walk_rng⟩
    · exact False.elim f
  · exact False.elim f
  · rename_i e3; cases e3
  · exact False.elim f
theorem si_enum {elts : List Expr} {kk : Nat} (hm : X.mg "enumerate" = none) (ha : SA X T W [e] gs) (hg : Gl X "enumerate" := by rfl) (hs : starEach [e] X.env = [(false, eval e X.env)] := by rfl) : SI X T W (.Tuple elts kk tpos) (.Call (.Name "enumerate" p) [e] [] pos) (gIE gs) := pi_imp (pi_enum hg hm ha hs) fun σ H R q => seqIA q fun ρ S as rs f => by
  unfold gIE at f ⊢
  refine ⟨fun a S1 eg v as1 H1 l r ra => ?_, fun c S1 eg => by rw [eg], fun eg => by rw [eg]⟩
  rw [eg] at f
  split at f
  · rename_i n S2 e2
    cases e2
    split at f
    · rename_i xs hx
      cases ra with
      | cons r1 r2 =>
        cases r2
        obtain ⟨a, rfl, ha⟩ := r1.list
        obtain ⟨vs, hq, rl⟩ := r.sql hx ha
        exact ⟨a, vs, rfl, hq, f _ as1 H1 l r (walk_enum ha)⟩
    · exact False.elim f
  · exact False.elim f
  · rename_i e3; cases e3
  · exact False.elim f
theorem si_zip {elts : List Expr} {kk : Nat} (hm : X.mg "zip" = none) (ha : SA X T W [e, e2] gs) (hg : Gl X "zip" := by rfl) (hs : starEach [e, e2] X.env = (false, eval e X.env) :: starEach [e2] X.env := by rfl) (hpl : (backTo pos (starEach [e2] X.env)).any (·.1) = false := by rfl) : SI X T W (.Tuple elts kk tpos) (.Call (.Name "zip" p) [e, e2] [] pos) (gIZ gs) := pi_imp (pi_zip hg hm ha hs hpl) fun σ H R q => seqIA q fun ρ S as rs f => by
  unfold gIZ at f ⊢
  refine ⟨fun a S1 eg v as1 H1 l r ra => ?_, fun c S1 eg => by rw [eg], fun eg => by rw [eg]⟩
  rw [eg] at f
  split at f
  · rename_i n m S2 e2
    cases e2
    split at f
    · rename_i xs ys hx hy
      cases ra with
      | cons r1 r2 =>
        cases r2 with
        | cons r3 r4 =>
          cases r4
          obtain ⟨a, rfl, ha⟩ := r1.list
          obtain ⟨b, rfl, hb⟩ := r3.list
          obtain ⟨vs, hq, rl⟩ := r.sql hx ha
          obtain ⟨ws, hq2, rl2⟩ := r.sql hy hb
          exact ⟨a, b, vs, ws, rfl, hq, hq2, f _ as1 H1 l r (walk_zip ha hb)⟩
    · exact False.elim f
  · exact False.elim f
  · rename_i e3; cases e3
  · exact False.elim f
end
end Sx

set_option Elab.async false
set_option linter.all false
set_option maxRecDepth 100000
set_option maxHeartbeats 1000000
namespace Sx
open PySem PySem.Spec PyProof.Rows L2
/-! ### operations by values -/
section
variable {K : Frg} {T : Tbs} {W : WX} {H H' : Hp} {as as' : List Addr} {S S' : Sto}
theorem RelL.atI {xs : List A} {vs : List V} (h : RelL K H as xs vs) {i : Int} {a : A} (e : L2.atI xs i = some a) : ∃ v, L2.atI vs i = some v ∧ RelA K H as a v := by
  unfold L2.atI at e ⊢
  rw [← h.length]
  cases q : ixN xs.length i with
  | none => rw [q] at e; cases e
  | some j =>
    rw [q] at e
    obtain ⟨v, h1, h2⟩ := h.get (i := j) e
    exact ⟨v, h1, h2⟩
def I2 (f : Int → Int → A) : A → A → Sto → RE := fun a b S => match a, b with
  | .int i, .int j => .ok (f i j) S
  | _, _ => .stuck
def vSub : A → A → Sto → RE := I2 fun i j => .int (i - j)
def vLt : A → A → Sto → RE := I2 fun i j => .bl (decide (i < j))
def vLe : A → A → Sto → RE := I2 fun i j => .bl (decide (i ≤ j))
def vGt : A → A → Sto → RE := I2 fun i j => .bl (decide (j < i))
def vGe : A → A → Sto → RE := fun a b S => match a, b with
  | .int i, .int j => .ok (.bl (decide (j ≤ i))) S
  | .str i, .str j => .ok (.bl (!decide (i.cps.toList < j.cps.toList))) S
  | _, _ => .stuck
def vMod : A → A → Sto → RE := fun a b S => match a, b with
  | .int i, .int j => if 0 < j then .ok (.int (i % j)) S else .stuck
  | _, _ => .stuck
def vFdiv : A → A → Sto → RE := fun a b S => match a, b with
  | .int i, .int j => if 0 < j ∧ j < 1073741824 then .ok (.int (i / j)) S else .stuck
  | _, _ => .stuck
def vPow : A → A → Sto → RE := fun a b S => match a, b with
  | .int i, .int j => if 0 ≤ j ∧ j ≤ 100 ∧ i.natAbs < 18446744073709551616 then .ok (.int (i ^ j.toNat)) S else .stuck
  | _, _ => .stuck
def vMulI : A → A → Sto → RE := fun a b S => match a, b with
  | .int i, .int j => if (-18446744073709551616 < i ∧ i < 18446744073709551616) ∨ (-18446744073709551616 < j ∧ j < 18446744073709551616) then .ok (.int (i * j)) S else .stuck
  | _, _ => .stuck
def vAddI : A → A → Sto → RE := I2 fun i j => .int (i + j)
def vNeg : A → Sto → RE := fun a S => match a with
  | .int i => .ok (.int (-i)) S
  | _ => .stuck
def vIx : A → A → Sto → RE := fun a b S => match a, b with
  | .tup xs, .int i => (match L2.atI xs i with
    | some x => .ok x S
    | none => .stuck)
  | .ob n, .int i => (match itemsAt S n with
    | some xs => (match L2.atI xs i with
      | some x => .ok x S
      | none => .stuck)
    | none => .stuck)
  | .str x, .int i => (match L2.atI x.cps.toList i with
    | some c => if x.length ≤ 4000000 then .ok (.str ⟨#[c]⟩) S else .stuck
    | none => .stuck)
  | _, _ => .stuck
end
section
variable {X : Cx} {T : Tbs} {W : WX}
theorem opI2 {f : Value → Value → Sem Value} {g : Int → Int → V} {q : Int → Int → A} (h : OpR X f (rI0 g)) (hq : ∀ i j H as, RelA X.K H as (q i j) (g i j)) : OpS X T f (I2 q) := op_imp h fun x y H Q a b S as r ra rb fv => by
  cases ra with
  | int i => cases rb with
    | int j => exact ⟨i, j, rfl, rfl, fv _ as H .refl r (hq i j H as)⟩
    | _ => exact False.elim fv
  | _ => first | exact False.elim fv | (cases rb <;> exact False.elim fv)
theorem os_sub : OpS X T (binaryOp .Sub) vSub := opI2 op_sub fun _ _ _ _ => .int _
theorem os_addI : OpS X T (binaryOp .Add) vAddI := opI2 op_add fun _ _ _ _ => .int _
theorem os_lt : OpS X T (compareOp .Lt) vLt := opI2 op_lt fun _ _ _ _ => .bl _
theorem os_le : OpS X T (compareOp .LtE) vLe := opI2 op_le fun _ _ _ _ => .bl _
theorem os_gt : OpS X T (compareOp .Gt) vGt := opI2 op_gt fun _ _ _ _ => .bl _
theorem os_ge : OpS X T (compareOp .GtE) vGe := op_imp (op_ge.or op_ge_str) fun x y H Q a b S as r ra rb fv => by
  cases ra with
  | int i => cases rb with
    | int j => exact .inl ⟨i, j, rfl, rfl, fv _ as H .refl r (.bl _)⟩
    | _ => exact False.elim fv
  | str i => cases rb with
    | str j => exact .inr ⟨i, j, rfl, rfl, fv _ as H .refl r (.bl _)⟩
    | _ => exact False.elim fv
  | _ => first | exact False.elim fv | (cases rb <;> exact False.elim fv)
theorem os_mod : OpS X T (binaryOp .Mod) vMod := op_imp op_mod fun x y H Q a b S as r ra rb fv => by
  cases ra with
  | int i => cases rb with
    | int j =>
      unfold vMod at fv
      dsimp only at fv
      split at fv
      · rename_i h
        exact ⟨i, j, rfl, rfl, h, fv _ as H .refl r (.int _)⟩
      · exact False.elim fv
    | _ => exact False.elim fv
  | _ => first | exact False.elim fv | (cases rb <;> exact False.elim fv)
theorem os_fdiv : OpS X T (binaryOp .FloorDiv) vFdiv := op_imp op_fdiv fun x y H Q a b S as r ra rb fv => by
  cases ra with
  | int i => cases rb with
    | int j =>
      unfold vFdiv at fv
      dsimp only at fv
      split at fv
      · rename_i h
        exact ⟨i, j, rfl, rfl, h, fv _ as H .refl r (.int _)⟩
      · exact False.elim fv
    | _ => exact False.elim fv
  | _ => first | exact False.elim fv | (cases rb <;> exact False.elim fv)
theorem os_pow : OpS X T (binaryOp .Pow) vPow := op_imp op_pow fun x y H Q a b S as r ra rb fv => by
  cases ra with
  | int i => cases rb with
    | int j =>
      unfold vPow at fv
      dsimp only at fv
      split at fv
      · rename_i h
        exact ⟨i, j, rfl, rfl, ⟨h.1, by omega, h.2.2⟩, fv _ as H .refl r (.int _)⟩
      · exact False.elim fv
    | _ => exact False.elim fv
  | _ => first | exact False.elim fv | (cases rb <;> exact False.elim fv)
theorem os_mulI : OpS X T (binaryOp .Mult) vMulI := op_imp op_mul fun x y H Q a b S as r ra rb fv => by
  cases ra with
  | int i => cases rb with
    | int j =>
      unfold vMulI at fv
      dsimp only at fv
      split at fv
      · rename_i h
        exact ⟨i, j, rfl, rfl, h, fv _ as H .refl r (.int _)⟩
      · exact False.elim fv
    | _ => exact False.elim fv
  | _ => first | exact False.elim fv | (cases rb <;> exact False.elim fv)
theorem us_neg : UnS X T (unaryOp .USub) vNeg := fun pins s σ H x v Q I rx ⟨a, S, as, r, ra, fv⟩ => un_neg pins s σ H x v Q I rx (by
  cases ra with
  | int i => exact ⟨i, rfl, fv _ as H .refl r (.int _)⟩
  | _ => exact False.elim fv)
theorem is_ix : IxS X T vIx := ix_imp ix_seq fun x y H Q a b S as r ra rb fv => by
  cases ra with
  | tup hs rl => cases rb with
    | int i =>
      unfold vIx at fv
      dsimp only at fv
      split at fv
      · rename_i z hz
        obtain ⟨v, h1, h2⟩ := rl.atI hz
        exact .inr (.inl ⟨_, _, i, v, rfl, rfl, hs, h1, fv v as H .refl r h2⟩)
      · exact False.elim fv
    | _ => exact False.elim fv
  | ob ea => cases rb with
    | int i =>
      unfold vIx at fv
      dsimp only at fv
      split at fv
      · rename_i xs hx
        obtain ⟨vs, hq, rl⟩ := r.sql hx ea
        split at fv
        · rename_i z hz
          obtain ⟨v, h1, h2⟩ := rl.atI hz
          exact .inl ⟨_, _, i, v, rfl, rfl, hq, h1, fv v as H .refl r h2⟩
        · exact False.elim fv
      · exact False.elim fv
    | _ => exact False.elim fv
  | str z => cases rb with
    | int i =>
      unfold vIx at fv
      dsimp only at fv
      split at fv
      · rename_i c hc
        split at fv
        · rename_i hl
          exact .inr (.inr ⟨z, i, c, rfl, rfl, sz5 hl, hc, fv _ as H .refl r (.str _)⟩)
        · exact False.elim fv
      · exact False.elim fv
    | _ => exact False.elim fv
  | _ => first | exact False.elim fv | (cases rb <;> exact False.elim fv)
end
/-! ### data, and == -/
mutual
def rdA (f : Nat → Option PyData) : A → Option PyData
  | .non => some .none
  | .bl b => some (.bool b)
  | .int i => some (.int i)
  | .str x => some (.str x)
  | .tup xs => (rdL f xs).map .tuple
  | .ob n => f n
def rdL (f : Nat → Option PyData) : List A → Option (List PyData)
  | [] => some []
  | a :: l => match rdA f a, rdL f l with
    | some d, some ds => some (d :: ds)
    | _, _ => none
end
def rd1 (S : Sto) (n : Nat) : Option PyData := match itemsAt S n with
  | some xs => (rdL (fun _ => none) xs).map .list
  | none => none
def rd2 (S : Sto) (n : Nat) : Option PyData := match itemsAt S n with
  | some xs => (rdL (rd1 S) xs).map .list
  | none => none
def dat (S : Sto) (a : A) : Option PyData := rdA (rd2 S) a
def isScal : A → A → Bool
  | .str _, .str _ => true
  | .int _, .int _ => true
  | .bl _, .bl _ => true
  | _, _ => false
def vEq : A → A → Sto → RE := fun a b S => match a, b with
  | .str x, .str y => .ok (.bl (decide (x = y))) S
  | .int x, .int y => .ok (.bl (decide (x = y))) S
  | .bl x, .bl y => .ok (.bl (decide (x = y))) S
  | a, b => (match dat S a, dat S b with
    | some d, some e => if (SeqAt.shaped d && SeqAt.shaped e) = true then .ok (.bl (PyData.eqv d e)) S else .stuck
    | _, _ => .stuck)
def vNe : A → A → Sto → RE := fun a b S => match vEq a b S with
  | .ok (.bl k) S1 => .ok (.bl (!k)) S1
  | _ => .stuck
section
variable {K : Frg} {T : Tbs} {W : WX} {H H' : Hp} {as as' : List Addr} {S S' : Sto}
mutual
theorem dp_of {f : Nat → Option PyData} (hf : ∀ n d a, f n = some d → as[n]? = some a → Dp K H (.ref a) d) : ∀ (a : A) (v : V) (d : PyData), RelA K H as a v → rdA f a = some d → Dp K H v d
  | .non, v, d, r, e => by cases r; cases e; exact .non
  | .bl b, v, d, r, e => by cases r; cases e; exact .bl b
  | .int i, v, d, r, e => by cases r; cases e; exact .int i
  | .str x, v, d, r, e => by cases r; cases e; exact .str x
  | .ob n, v, d, r, e => by
    cases r with
    | ob ea => exact hf n d _ e ea
  | .tup xs, v, d, r, e => by
    cases r with
    | tup hs rl =>
      have e : (rdL f xs).map PyData.tuple = some d := e
      cases q : rdL f xs with
      | none => rw [q] at e; cases e
      | some ds =>
        rw [q] at e
        cases e
        exact .tup hs (dp_ofL hf xs _ ds rl q)
theorem dp_ofL {f : Nat → Option PyData} (hf : ∀ n d a, f n = some d → as[n]? = some a → Dp K H (.ref a) d) : ∀ (l : List A) (vs : List V) (ds : List PyData), RelL K H as l vs → rdL f l = some ds → DpAll K H vs ds
  | [], vs, ds, r, e => by cases r; cases e; exact .nil
  | a :: l, vs, ds, r, e => by
    cases r with
    | cons r1 r2 =>
      have e : (match rdA f a, rdL f l with
        | some d, some ds => some (d :: ds)
        | _, _ => none) = some ds := e
      cases q1 : rdA f a with
      | none => rw [q1] at e; cases e
      | some d =>
        cases q2 : rdL f l with
        | none => rw [q1, q2] at e; cases e
        | some ds' =>
          rw [q1, q2] at e
          cases e
          exact .cons (dp_of hf a _ d r1 q1) (dp_ofL hf l _ ds' r2 q2)
end
theorem dp_rd1 (r : Rel K T S as H) (n : Nat) (d : PyData) (a : Addr) (e : rd1 S n = some d) (ha : as[n]? = some a) : Dp K H (.ref a) d := by
  unfold rd1 at e
  split at e
  · rename_i xs hx
    obtain ⟨vs, hq, rl⟩ := r.sql hx ha
    cases q : rdL (fun _ => none) xs with
    | none => rw [q] at e; cases e
    | some ds =>
      rw [q] at e
      cases e
      exact .lst hq (dp_ofL (fun n d a z _ => by cases z) xs vs ds rl q)
  · cases e
theorem dp_rd2 (r : Rel K T S as H) (n : Nat) (d : PyData) (a : Addr) (e : rd2 S n = some d) (ha : as[n]? = some a) : Dp K H (.ref a) d := by
  unfold rd2 at e
  split at e
  · rename_i xs hx
    obtain ⟨vs, hq, rl⟩ := r.sql hx ha
    cases q : rdL (rd1 S) xs with
    | none => rw [q] at e; cases e
    | some ds =>
      rw [q] at e
      cases e
      exact .lst hq (dp_ofL (dp_rd1 r) xs vs ds rl q)
  · cases e
theorem dp_dat (r : Rel K T S as H) {a : A} {v : V} {d : PyData} (ra : RelA K H as a v) (e : dat S a = some d) : Dp K H v d := dp_of (dp_rd2 r) a v d ra e
theorem d_str {i j : Str} : decide (V.str i = V.str j) = decide (i = j) := by simp
theorem d_int {i j : Int} : decide (V.int i = V.int j) = decide (i = j) := by simp
theorem d_bl {i j : Bool} : decide (V.bl i = V.bl j) = decide (i = j) := by simp
end
section
variable {X : Cx} {T : Tbs} {W : WX}
theorem vEq_data {a b : A} {S : Sto} (h : isScal a b = false) : vEq a b S = (match dat S a, dat S b with
    | some d, some e => if (SeqAt.shaped d && SeqAt.shaped e) = true then .ok (.bl (PyData.eqv d e)) S else .stuck
    | _, _ => .stuck) := by
  cases a <;> cases b <;> first | rfl | (cases h)
theorem os_eq (hu : X.A.units + 64 < cLine) : OpS X T (compareOp .Eq) vEq := op_imp (op_eq.or (op_eqD hu)) fun x y H Q a b S as r ra rb fv => by
  cases hs : isScal a b with
  | true =>
    cases ra with
    | str i => cases rb with
      | str j => exact .inl ⟨rfl, by rw [d_str]; exact fv _ as H .refl r (.bl _)⟩
      | _ => cases hs
    | int i => cases rb with
      | int j => exact .inl ⟨rfl, by rw [d_int]; exact fv _ as H .refl r (.bl _)⟩
      | _ => cases hs
    | bl i => cases rb with
      | bl j => exact .inl ⟨rfl, by rw [d_bl]; exact fv _ as H .refl r (.bl _)⟩
      | _ => cases hs
    | _ => first | (cases hs) | (cases rb <;> cases hs)
  | false =>
    rw [vEq_data hs] at fv
    split at fv
    · rename_i d e hd he
      split at fv
      · rename_i hsh
        obtain ⟨s1, s2⟩ := Bool.and_eq_true_iff.mp hsh
        exact .inr ⟨d, e, dp_dat r ra hd, dp_dat r rb he, s1, s2, fv _ as H .refl r (.bl _)⟩
      · exact False.elim fv
    · exact False.elim fv
theorem os_ne (hu : X.A.units + 64 < cLine) : OpS X T (compareOp .NotEq) vNe := op_imp (op_ne.or (op_neD hu)) fun x y H Q a b S as r ra rb fv => by
  unfold vNe at fv
  cases hs : isScal a b with
  | true =>
    cases ra with
    | str i => cases rb with
      | str j => exact .inl ⟨rfl, by rw [d_str]; exact fv _ as H .refl r (.bl _)⟩
      | _ => cases hs
    | int i => cases rb with
      | int j => exact .inl ⟨rfl, by rw [d_int]; exact fv _ as H .refl r (.bl _)⟩
      | _ => cases hs
    | bl i => cases rb with
      | bl j => exact .inl ⟨rfl, by rw [d_bl]; exact fv _ as H .refl r (.bl _)⟩
      | _ => cases hs
    | _ => first | (cases hs) | (cases rb <;> cases hs)
  | false =>
    rw [vEq_data hs] at fv
    split at fv
    · rename_i k S1 hk
      split at hk
      · rename_i d e hd he
        split at hk
        · rename_i hsh
          cases hk
          obtain ⟨s1, s2⟩ := Bool.and_eq_true_iff.mp hsh
          exact .inr ⟨d, e, dp_dat r ra hd, dp_dat r rb he, s1, s2, fv _ as H .refl r (.bl _)⟩
        · cases hk
      · cases hk
    · exact False.elim fv
end
/-! ### in, len, truth, isinstance, max, min -/
def flatA : A → Bool
  | .non => true
  | .bl _ => true
  | .int _ => true
  | .str _ => true
  | _ => false
def eqF : A → A → Bool
  | .non, .non => true
  | .bl a, .bl b => a == b
  | .bl a, .int b => (if a then 1 else 0) == b
  | .int a, .bl b => a == (if b then 1 else 0)
  | .int a, .int b => a == b
  | .str a, .str b => decide (a = b)
  | _, _ => false
def inF (x : A) (l : List A) : Bool := l.any fun y => eqF y x
def seqOf (S : Sto) : A → Option (List A)
  | .tup xs => some xs
  | .ob n => itemsAt S n
  | _ => none
/-- x in a tuple or list of flat things; a sign in a text -/
def vIn : A → A → Sto → RE := fun a b S => match b with
  | .str z => (match a with
    | .str x => (match x.cps.toList with
      | [c] => .ok (.bl (decide (c ∈ z.cps.toList))) S
      | _ => .stuck)
    | _ => .stuck)
  | b => (match seqOf S b with
    | some xs => if (flatA a && xs.all flatA) = true then .ok (.bl (inF a xs)) S else .stuck
    | none => .stuck)
def vNotIn : A → A → Sto → RE := fun a b S => match vIn a b S with
  | .ok (.bl k) S1 => .ok (.bl (!k)) S1
  | _ => .stuck
section
variable {K : Frg} {T : Tbs} {W : WX} {H H' : Hp} {as as' : List Addr} {S S' : Sto}
theorem RelA.flat {a : A} {v : V} (h : RelA K H as a v) : flatV v = flatA a := by cases h <;> rfl
theorem RelA.eqF {a b : A} {v w : V} (h : RelA K H as a v) (g : RelA K H as b w) (f1 : flatA a = true) (f2 : flatA b = true) : eqV v w = eqF a b := by
  cases h <;> cases g <;> first | rfl | (cases f1) | (cases f2) | (simp only [eqV, Sx.eqF]; rw [Bool.eq_iff_iff]; simp)
theorem RelL.flat {xs : List A} {vs : List V} (h : RelL K H as xs vs) : vs.all flatV = xs.all flatA := by
  induction xs generalizing vs with
  | nil => cases h; rfl
  | cons a xs ih => cases h with
    | cons h1 h2 => rw [List.all_cons, List.all_cons, h1.flat, ih h2]
theorem RelL.inF {a : A} {v : V} {xs : List A} {vs : List V} (h : RelL K H as xs vs) (g : RelA K H as a v) (f1 : flatA a = true) (f2 : xs.all flatA = true) : inV v vs = Sx.inF a xs := by
  induction xs generalizing vs with
  | nil => cases h; rfl
  | cons b xs ih => cases h with
    | cons h1 h2 =>
      rw [List.all_cons] at f2
      obtain ⟨f3, f4⟩ := Bool.and_eq_true_iff.mp f2
      unfold inV Sx.inF
      rw [List.any_cons, List.any_cons, h1.eqF g f3 f1]
      congr 1
      exact ih h2 f4
theorem Rel.seq (r : Rel K T S as H) {b : A} {y : V} {xs : List A} (rb : RelA K H as b y) (h : seqOf S b = some xs) : ∃ p vs, y = .ref p ∧ (SqL K H p vs ∨ SqT K H p vs) ∧ RelL K H as xs vs := by
  cases rb with
  | tup hs rl => cases h; exact ⟨_, _, rfl, .inr hs, rl⟩
  | ob ea => obtain ⟨vs, hq, rl⟩ := r.sql h ea; exact ⟨_, vs, rfl, .inl hq, rl⟩
  | _ => cases h
end
section
variable {X : Cx} {T : Tbs} {W : WX}
theorem one_sign {x : Str} {c : Nat} (h : x.cps.toList = [c]) : x = ⟨#[c]⟩ := by
  obtain ⟨a⟩ := x
  congr 1
  apply Array.ext'
  simpa using h
theorem os_in : OpS X T (compareOp .In) vIn := op_imp (op_in_seq.or op_in_sign) fun x y H Q a b S as r ra rb fv => by
  unfold vIn at fv
  split at fv
  · rename_i z
    cases rb
    split at fv
    · rename_i w
      cases ra
      split at fv
      · rename_i c hc
        exact .inr ⟨c, z, by rw [one_sign hc], rfl, fv _ as H .refl r (.bl _)⟩
      · exact False.elim fv
    · exact False.elim fv
  · split at fv
    · rename_i xs hx
      split at fv
      · rename_i hf
        obtain ⟨f1, f2⟩ := Bool.and_eq_true_iff.mp hf
        obtain ⟨p, vs, e, hq, rl⟩ := r.seq rb hx
        refine .inl ⟨p, vs, e, hq, by rw [ra.flat]; exact f1, by rw [rl.flat]; exact f2, ?_⟩
        show Q (.bl (inV x vs)) H
        rw [rl.inF ra f1 f2]
        exact fv _ as H .refl r (.bl _)
      · exact False.elim fv
    · exact False.elim fv
theorem os_notIn : OpS X T (compareOp .NotIn) vNotIn := op_imp (op_notIn_seq.or op_notIn_sign) fun x y H Q a b S as r ra rb fv => by
  unfold vNotIn vIn at fv
  split at fv
  · rename_i k S1 hk
    split at hk
    · rename_i z
      cases rb
      split at hk
      · rename_i w
        cases ra
        split at hk
        · rename_i c hc
          cases hk
          exact .inr ⟨c, z, by rw [one_sign hc], rfl, by
            have e : (!decide (c ∈ z.cps.toList)) = !decide (c ∈ z.cps.toList) := rfl
            first | exact fv _ as H .refl r (.bl _) | (simpa using fv _ as H .refl r (.bl _))⟩
        · cases hk
      · cases hk
    · split at hk
      · rename_i xs hx
        split at hk
        · rename_i hf
          cases hk
          obtain ⟨f1, f2⟩ := Bool.and_eq_true_iff.mp hf
          obtain ⟨p, vs, e, hq, rl⟩ := r.seq rb hx
          refine .inl ⟨p, vs, e, hq, by rw [ra.flat]; exact f1, by rw [rl.flat]; exact f2, ?_⟩
          show Q (.bl (!inV x vs)) H
          rw [rl.inF ra f1 f2]
          exact fv _ as H .refl r (.bl _)
        · cases hk
      · cases hk
  · exact False.elim fv
/-- len -/
def vLen : List A → Sto → RE := fun l S => match l with
  | [.str x] => if x.length ≤ 4000000 then .ok (.int x.length) S else .stuck
  | [b] => (match seqOf S b with
    | some xs => .ok (.int xs.length) S
    | none => .stuck)
  | _ => .stuck
theorem cs_len : CallS X T (.builtin "len") vLen := call_imp call_len fun xs H Q l S as r rl fv => by
  unfold vLen at fv
  split at fv
  · rename_i x
    cases rl with
    | cons r1 r2 =>
      cases r1
      cases r2
      split at fv
      · rename_i h
        exact ⟨_, x.length, rfl, ⟨sz5 h, rfl⟩, fv _ as H .refl r (.int _)⟩
      · exact False.elim fv
  · rename_i b hb
    cases rl with
    | cons r1 r2 =>
      cases r2
      split at fv
      · rename_i xs hx
        obtain ⟨p, vs, e, hq, rl2⟩ := r.seq r1 hx
        subst e
        refine ⟨_, xs.length, rfl, ?_, fv _ as H .refl r (.int _)⟩
        rcases hq with hq | hq
        · exact .inl ⟨vs, hq, rl2.length⟩
        · exact .inr ⟨vs, hq, rl2.length⟩
      · exact False.elim fv
  · exact False.elim fv
def vMax : List A → Sto → RE := fun l S => match l with
  | [.int i, .int j] => .ok (.int (if j > i then j else i)) S
  | _ => .stuck
def vMin : List A → Sto → RE := fun l S => match l with
  | [.int i, .int j] => .ok (.int (if j < i then j else i)) S
  | _ => .stuck
theorem cs_max (hc : X.calm = true) : CallS X T (.builtin "max") vMax := call_imp (call_max2 hc) fun xs H Q l S as r rl fv => by
  unfold vMax at fv
  split at fv
  · cases rl with
    | cons r1 r2 => cases r2 with
      | cons r3 r4 => cases r1; cases r3; cases r4; exact ⟨_, _, rfl, fv _ as H .refl r (.int _)⟩
  · exact False.elim fv
theorem cs_min (hc : X.calm = true) : CallS X T (.builtin "min") vMin := call_imp (call_min2 hc) fun xs H Q l S as r rl fv => by
  unfold vMin at fv
  split at fv
  · cases rl with
    | cons r1 r2 => cases r2 with
      | cons r3 r4 => cases r1; cases r3; cases r4; exact ⟨_, _, rfl, fv _ as H .refl r (.int _)⟩
  · exact False.elim fv
/-- a value's truth -/
def truA (S : Sto) : A → Option Bool
  | .non => some false
  | .bl b => some b
  | .int i => some (i != 0)
  | .str x => if x.length ≤ 4000000 then some (decide (x.length ≠ 0)) else none
  | b => (seqOf S b).map fun xs => !xs.isEmpty
def gTru (g : GE) : GE := fun ρ S => (g ρ S).bind fun a S1 => match truA S1 a with
  | some b => .ok (.bl b) S1
  | none => .stuck
theorem st_truth {a : Expr} {g : GE} (h : SE X T W a g) (he : ∀ whole, isTrue a X.env whole = (do let v ← whole; standAt a.pos; holding [v] (truthy v)) := by intro _; rfl) : ST X T W a (gTru g) := pt_imp (pt_truth h he) fun σ H Q ⟨ρ, S, as, rs, f⟩ => by
  refine seqT rs f fun x S1 v as1 H1 rs1 rx f1 l1 => ?_
  split at f1
  · rename_i b hb
    refine ⟨b, ?_, f1 as1 H1 .refl rs1.rel⟩
    cases rx with
    | non => cases hb; rfl
    | bl k => cases hb; rfl
    | int i => cases hb; rfl
    | str x =>
      unfold truA at hb
      dsimp only at hb
      split at hb
      · rename_i hl
        cases hb
        refine ⟨sz5 hl, ?_⟩
        rw [Bool.eq_iff_iff]
        simp
      · cases hb
    | tup hs rl =>
      have hb : (some _ : Option (List A)).map (fun xs => !xs.isEmpty) = some b := hb
      cases hb
      refine .inr (.inl ⟨_, hs, ?_⟩)
      cases rl <;> rfl
    | ob ea =>
      have hb : (itemsAt S1 _).map (fun xs => !xs.isEmpty) = some b := hb
      cases q : itemsAt S1 _ with
      | none => rw [q] at hb; cases hb
      | some xs =>
        rw [q] at hb
        cases hb
        obtain ⟨vs, hq, rl⟩ := rs1.rel.sql q ea
        refine .inl ⟨vs, hq, ?_⟩
        cases rl <;> rfl
  · exact False.elim f1
/-- isinstance with a built-in class -/
def tyA (S : Sto) : A → Option String
  | .non => some "NoneType"
  | .bl _ => some "bool"
  | .int _ => some "int"
  | .str _ => some "str"
  | .tup _ => some "tuple"
  | .ob n => (match S[n]? with
    | some (.lst _) => some "list"
    | some (.rol _) => some "list"
    | some (.dic _) => some "dict"
    | some (.dit _) => some "dict"
    | _ => none)
def isT (t n : String) : Bool := t == n || (t == "bool" && n == "int")
def isTs : List String := ["NoneType", "bool", "int", "str", "tuple", "list", "dict"]
theorem isT_ok {n : String} (hn : n ∈ ["int", "bool", "str", "tuple", "list"]) {t : String} (ht : t ∈ isTs) : kitB t n = some (isT t n) := by
  revert t n
  decide +kernel
def gIsi (n : String) (g : GE) : GE := fun ρ S => (g ρ S).bind fun a S1 => match tyA S1 a with
  | some t => .ok (.bl (isT t n)) S1
  | none => .stuck
theorem tyA_mem {S : Sto} {a : A} {t : String} (h : tyA S a = some t) : t ∈ isTs := by
  unfold tyA at h
  split at h <;> first | (cases h; decide) | skip
  split at h <;> first | (cases h; decide) | (cases h)
theorem tyX_of {K : Frg} {S : Sto} {as : List Addr} {H : Hp} {a : A} {v : V} {t : String} (r : Rel K T S as H) (ra : RelA K H as a v) (h : tyA S a = some t) : TyX K H v (.type t) := by
  cases ra with
  | non => cases h; exact .base .non
  | bl b => cases h; exact .base (.bl b)
  | int i => cases h; exact .base (.int i)
  | str x => cases h; exact .base (.str x)
  | tup hs rl =>
    cases h
    rcases hs with (hs | ⟨o, hs⟩) | ⟨o, its, n, hk, hc, _⟩
    · exact .base (.tup hs)
    · exact .fTuple hs
    · exact .kTuple hk hc
  | @ob n a ea =>
    unfold tyA at h
    dsimp only at h
    split at h
    · rename_i xs e
      cases h
      obtain ⟨vs, h1, _⟩ := r.obj _ _ _ e ea
      exact .base (.lst h1)
    · rename_i xs e
      cases h
      obtain ⟨vs, h1, _⟩ := r.obj _ _ _ e ea
      rcases h1 with ⟨o, h1⟩ | h1
      · exact .base (.frz h1)
      · rcases h1 with (h1 | ⟨o, h1⟩) | ⟨o, its, n, hk, hc, _⟩
        · cases h1
        · cases h1
        · exact .kList hk hc
    · rename_i xs e
      cases h
      obtain ⟨vs, h1, _⟩ := r.obj _ _ _ e ea
      exact .base (.dK h1)
    · rename_i xs e
      cases h
      obtain ⟨vs, h1, _⟩ := r.obj _ _ _ e ea
      exact .base (.dT h1)
    · cases h
theorem se_isi {e : Expr} {n : Str} {s : String} {p p2 pos : Pos} {g : GE} (hn : s ∈ ["int", "bool", "str", "tuple", "list"]) (hb : bootBuiltins n = some (.type s)) (hm : X.mg "isinstance" = none) (hmn : X.mg n = none) (he : SE X T W e g) (hg : Gl X "isinstance" := by rfl) (hgn : Gl X n := by rfl)
    (hnn : n ≠ "__name__" := by decide) (hd : (n == ("__debug__" : Str)) = false := by decide) (h1 : starEach [.Name n p2] X.env = (false, eval (.Name n p2) X.env) :: starEach [] X.env := by rfl)
    (hs : starEach [e, .Name n p2] X.env = (false, eval e X.env) :: starEach [.Name n p2] X.env := by rfl) (hpl : (backTo pos (starEach [.Name n p2] X.env)).any (·.1) = false := by rfl) : SE X T W (.Call (.Name "isinstance" p) [e, .Name n p2] [] pos) (gIsi s g) :=
  pe_imp (pe_callB call_isi hg hm (by decide +kernel) (pa_cons he (pa_cons (pe_bltn (v := .ty s) hgn hmn hb rfl hnn hd) pa_nil h1) hs) (he := hs) (hpl := hpl)) fun σ H Q ⟨ρ, S, as, rs, f⟩ => by
    refine seqE rs f fun x S1 v as1 H1 rs1 rx f1 l1 => ?_
    split at f1
    · rename_i t ht
      exact ⟨v, .ty s, .type t, .type s, _, rfl, .ty s, tyX_of rs1.rel rx ht, kit_ty (isT_ok hn (tyA_mem ht)), f1 _ as1 H1 .refl rs1.rel (.bl _)⟩
    · exact False.elim f1
end
end Sx

set_option Elab.async false
set_option linter.all false
set_option maxRecDepth 100000
set_option maxHeartbeats 1000000
namespace Sx
open PySem PySem.Spec PyProof.Rows L2
/-! ### methods of built-in types -/
def tyB (ty : String) (S : Sto) : A → Bool
  | .str _ => ty == "str"
  | .ob n => (match S[n]? with
    | some (.lst _) => ty == "list"
    | some (.dic _) => ty == "dict"
    | some (.dit _) => ty == "dict"
    | _ => false)
  | _ => false
def gMt (ty : String) (r : A → List A → Sto → RE) (g : GE) (gs : GA) : GE := fun ρ S => (g ρ S).bind fun a S1 => if tyB ty S1 a = true then (gs ρ S1).bind fun l S2 => (r a l S2).nox else .stuck
section
variable {X : Cx} {T : Tbs} {W : WX} {o e : Expr} {es : List Expr} {apos cpos : Pos} {g : GE} {gs : GA}
theorem tyV_of {K : Frg} {S : Sto} {as : List Addr} {H : Hp} {a : A} {v : V} {ty : String} (r : Rel K T S as H) (ra : RelA K H as a v) (h : tyB ty S a = true) : tyV K ty v H := by
  cases ra with
  | str x => exact beq_iff_eq.mp h
  | ob ea =>
    unfold tyB at h
    dsimp only at h
    split at h
    · rename_i xs e
      obtain ⟨vs, h1, _⟩ := r.obj _ _ _ e ea
      exact .inl ⟨beq_iff_eq.mp h, vs, SqL.of h1⟩
    · rename_i xs e
      obtain ⟨vs, h1, _⟩ := r.obj _ _ _ e ea
      exact .inr (.inr (.inl ⟨beq_iff_eq.mp h, .inl ⟨vs, h1⟩⟩))
    · rename_i xs e
      obtain ⟨vs, h1, _⟩ := r.obj _ _ _ e ea
      exact .inr (.inr (.inl ⟨beq_iff_eq.mp h, .inr ⟨vs, h1⟩⟩))
    · cases h
  | _ => cases h
theorem se_bm {ty id : String} {name : Str} {r : A → List A → Sto → RE} (pa : PlainAttrs ty) (slot : Slot ty name id) (hty : typeOf (.builtin id) = pure (.type "method_descriptor")) (hm : MtS X T id r) (ho : SE X T W o g) (ha : SA X T W (e :: es) gs)
    (hbase : attributeBase o name X.env (eval o X.env) = eval o X.env := by rfl)
    (hfew : ((backTo cpos (starEach (e :: es) X.env)).all (fun x => !x.1) && (backToKw cpos (keywordEach [] X.env)).all (fun x => x.1.isSome)
      && decide ((e :: es).length + ([] : List Keyword).length + (if ([] : List Keyword).isEmpty then 0 else 1) < 30)) = true := by rfl)
    (hline : (apos.endLine == cpos.line) = true := by rfl) (hs : starEach (e :: es) X.env = (false, eval e X.env) :: starEach es X.env := by rfl) (hplain : (backTo cpos (starEach es X.env)).any (·.1) = false := by rfl) :
    SE X T W (.Call (.Attribute o name apos) (e :: es) [] cpos) (gMt ty r g gs) := pe_imp (pe_bm pa slot hty hm ho ha hbase hfew hline hs hplain) fun σ H Q ⟨ρ, S, as, rs, f⟩ => by
  refine seqE rs f fun x S1 v as1 H1 rs1 rx f1 l1 => ?_
  split at f1
  · rename_i ht
    exact ⟨tyV_of rs1.rel rx ht, seqAE rs1 f1 fun l S2 vs as2 H2 rs2 rl f2 l2 => ⟨x, l, S2, as2, rs2.rel, rx.mono l2, rl, FinE.nox f2⟩⟩
  · exact False.elim f1
theorem se_bm0 {ty id : String} {name : Str} {r : A → List A → Sto → RE} (pa : PlainAttrs ty) (slot : Slot ty name id) (hty : typeOf (.builtin id) = pure (.type "method_descriptor")) (hm : MtS X T id r) (ho : SE X T W o g)
    (hbase : attributeBase o name X.env (eval o X.env) = eval o X.env := by rfl) (hline : (apos.endLine == cpos.line) = true := by rfl) :
    SE X T W (.Call (.Attribute o name apos) [] [] cpos) (gMt ty r g gNil) := pe_imp (pe_bm0 pa slot hty hm ho hbase hline) fun σ H Q ⟨ρ, S, as, rs, f⟩ => by
  refine seqE rs f fun x S1 v as1 H1 rs1 rx f1 l1 => ?_
  split at f1
  · rename_i ht
    exact ⟨tyV_of rs1.rel rx ht, x, [], S1, as1, rs1.rel, rx, .nil, FinE.nox f1⟩
  · exact False.elim f1
def vAppend : A → List A → Sto → RE := fun a l S => match a, l with
  | .ob n, [y] => (match S[n]? with
    | some (.lst xs) => if xs.length < 4000000 then .ok .non (S.set n (.lst (xs ++ [y]))) else .stuck
    | _ => .stuck)
  | _, _ => .stuck
theorem ms_append : MtS X T "list.append" vAppend := mt_imp mt_append fun x xs H Q a l S as r ra rl fv => by
  unfold vAppend at fv
  split at fv
  · rename_i n y
    cases ra with
    | ob ea =>
      cases rl with
      | @cons _ v _ _ ry rn =>
        cases rn
        split at fv
        · rename_i ys e
          split at fv
          · rename_i hl
            obtain ⟨vs, h1, h2⟩ := r.obj _ _ _ e ea
            have kk : Kp H (upd H _ (.lst (vs ++ [v]))) := Kp.wr h1 rfl
            exact ⟨_, vs, _, rfl, rfl, h1, by rw [← h2.length]; exact sz6 hl, fv _ as _ kk.le (r.write (o' := .lst (ys ++ [y])) e ea h1 rfl rfl ⟨_, upd_same, (h2.append (RelL.one ry)).mono kk.le⟩) .non⟩
          · exact False.elim fv
        · exact False.elim fv
  · exact False.elim fv
def vPop : A → List A → Sto → RE := fun a l S => match a, l with
  | .ob n, [] => (match S[n]? with
    | some (.lst xs) => (match xs[xs.length - 1]? with
      | some y => .ok y (S.set n (.lst xs.dropLast))
      | none => .stuck)
    | _ => .stuck)
  | _, _ => .stuck
theorem RelL.dropLast {K : Frg} {H : Hp} {as : List Addr} {xs : List A} {vs : List V} (h : RelL K H as xs vs) : RelL K H as xs.dropLast vs.dropLast := by
  rw [List.dropLast_eq_take, List.dropLast_eq_take, ← h.length]
  exact h.take _
theorem ms_pop : MtS X T "list.pop" vPop := mt_imp mt_pop fun x xs H Q a l S as r ra rl fv => by
  unfold vPop at fv
  split at fv
  · rename_i n
    cases ra with
    | ob ea =>
      cases rl
      split at fv
      · rename_i ys e
        split at fv
        · rename_i y hy
          obtain ⟨vs, h1, h2⟩ := r.obj _ _ _ e ea
          obtain ⟨v, h3, h4⟩ := h2.get hy
          have kk : Kp H (upd H _ (.lst vs.dropLast)) := Kp.wr h1 rfl
          exact ⟨_, vs, v, rfl, rfl, h1, by rw [← h2.length]; exact h3, fv _ as _ kk.le (r.write (o' := .lst ys.dropLast) e ea h1 rfl rfl ⟨_, upd_same, h2.dropLast.mono kk.le⟩) (h4.mono kk.le)⟩
        · exact False.elim fv
      · exact False.elim fv
  · exact False.elim fv
def vClear : A → List A → Sto → RE := fun a l S => match a, l with
  | .ob n, [] => (match S[n]? with
    | some (.lst _) => .ok .non (S.set n (.lst []))
    | _ => .stuck)
  | _, _ => .stuck
theorem ms_clear : MtS X T "list.clear" vClear := mt_imp mt_clear fun x xs H Q a l S as r ra rl fv => by
  unfold vClear at fv
  split at fv
  · rename_i n
    cases ra with
    | ob ea =>
      cases rl
      split at fv
      · rename_i ys e
        obtain ⟨vs, h1, h2⟩ := r.obj _ _ _ e ea
        have kk : Kp H (upd H _ (.lst [])) := Kp.wr h1 rfl
        exact ⟨_, vs, rfl, rfl, h1, fv _ as _ kk.le (r.write (o' := .lst []) e ea h1 rfl rfl ⟨_, upd_same, .nil⟩) .non⟩
      · exact False.elim fv
  · exact False.elim fv
def vExtend : A → List A → Sto → RE := fun a l S => match a, l with
  | .ob n, [.ob m] => (match S[n]?, S[m]? with
    | some (.lst xs), some (.lst ys) => if xs.length + ys.length ≤ 4000000 then .ok .non (S.set n (.lst (xs ++ ys))) else .stuck
    | _, _ => .stuck)
  | _, _ => .stuck
theorem ms_extend : MtS X T "list.extend" vExtend := mt_imp mt_extend fun x xs H Q a l S as r ra rl fv => by
  unfold vExtend at fv
  split at fv
  · rename_i n m
    cases ra with
    | ob ea =>
      cases rl with
      | cons ry rn =>
        cases rn
        cases ry with
        | ob eb =>
          split at fv
          · rename_i xs' ys' e1 e2
            split at fv
            · rename_i hl
              obtain ⟨vs, h1, h2⟩ := r.obj _ _ _ e1 ea
              obtain ⟨ws, h3, h4⟩ := r.obj _ _ _ e2 eb
              have kk : Kp H (upd H _ (.lst (vs ++ ws))) := Kp.wr h1 rfl
              exact ⟨_, _, vs, ws, rfl, rfl, h1, h3, by rw [← h2.length, ← h4.length]; exact sz5 hl, fv _ as _ kk.le (r.write (o' := .lst (xs' ++ ys')) e1 ea h1 rfl rfl ⟨_, upd_same, (h2.append h4).mono kk.le⟩) .non⟩
            · exact False.elim fv
          · exact False.elim fv
  · exact False.elim fv
end
end Sx

set_option Elab.async false
set_option linter.all false
set_option maxRecDepth 100000
set_option maxHeartbeats 1000000
namespace Sx
open PySem PySem.Spec PyProof.Rows L2
section
variable {X : Cx} {T : Tbs} {W : WX} {e a : Expr} {pos p2 : Pos} {g : GE}
/-! ### +, *, slices, conversions -/
def vAdd : A → A → Sto → RE := fun a b S => match a, b with
  | .int i, .int j => .ok (.int (i + j)) S
  | .str x, .str y => if x.length + y.length ≤ 4000000 then .ok (.str (x ++ y)) S else .stuck
  | .tup xs, .tup ys => if xs.length + ys.length ≤ 4000000 then .ok (.tup (xs ++ ys)) S else .stuck
  | .ob n, .ob m => (match S[n]?, S[m]? with
    | some (.lst xs), some (.lst ys) => if xs.length + ys.length ≤ 4000000 then .ok (.ob S.length) (S ++ [.lst (xs ++ ys)]) else .stuck
    | _, _ => .stuck)
  | _, _ => .stuck
/-- a new list -/
theorem fin_new {K : Frg} {H : Hp} {as : List Addr} {S : Sto} {Q : VK} {xs : List A} {vs : List V} (r : Rel K T S as H) (rl : RelL K H as xs vs) (fv : FinV K T H as Q (.ok (.ob S.length) (S ++ [.lst xs]))) : ∀ p, H p = none → Q (.ref p) (upd H p (.lst vs)) := fun p hp => by
  have lA : Le K H as (upd H p (.lst vs)) (as ++ [p]) := (Kp.new hp).leA p
  exact fv _ _ _ lA (r.alloc hp ⟨vs, upd_same, rl.mono lA⟩) (.ob (by rw [← r.len]; simp))
/-- a new tuple -/
theorem fin_tup {K : Frg} {H : Hp} {as : List Addr} {S : Sto} {Q : VK} {xs : List A} {vs : List V} (r : Rel K T S as H) (rl : RelL K H as xs vs) (fv : FinV K T H as Q (.ok (.tup xs) S)) : ∀ p, H p = none → Q (.ref p) (upd H p (.tup vs)) := fun p hp => by
  have k := Kp.new (o := HO.tup vs) hp
  exact fv _ as _ k.le (r.tup hp) (.tup (SqT.of upd_same) (rl.mono k.le))
theorem os_add : OpS X T (binaryOp .Add) vAdd := op_imp (op_add.or (op_add_str.or (op_catA.or op_cat))) fun x y H Q a b S as r ra rb fv => by
  cases ra with
  | int i => cases rb with
    | int j => exact .inl ⟨i, j, rfl, rfl, fv _ as H .refl r (.int _)⟩
    | _ => exact False.elim fv
  | str i => cases rb with
    | str j =>
      unfold vAdd at fv
      dsimp only at fv
      split at fv
      · rename_i hl
        exact .inr (.inl ⟨i, j, rfl, rfl, sz5 hl, fv _ as H .refl r (.str _)⟩)
      · exact False.elim fv
    | _ => exact False.elim fv
  | @tup xs p vs hs rl => cases rb with
    | @tup ys q ws hs2 rl2 =>
      unfold vAdd at fv
      dsimp only at fv
      split at fv
      · rename_i hl
        refine .inr (.inr (.inl ⟨_, _, vs, ws, rfl, rfl, hs, hs2, by rw [← rl.length, ← rl2.length]; exact sz5 hl, fun e => ?_, fun _ e => ?_, fun _ _ => fin_tup r (rl.append rl2) fv⟩))
        · have e2 : xs = [] := List.length_eq_zero_iff.mp (by rw [rl.length, e]; rfl)
          subst e2
          exact fv _ as H .refl r (.tup hs2 rl2)
        · have e2 : ys = [] := List.length_eq_zero_iff.mp (by rw [rl2.length, e]; rfl)
          subst e2
          rw [List.append_nil] at fv
          exact fv _ as H .refl r (.tup hs rl)
      · exact False.elim fv
    | _ => exact False.elim fv
  | ob ea => cases rb with
    | ob eb =>
      unfold vAdd at fv
      dsimp only at fv
      split at fv
      · rename_i xs ys e1 e2
        split at fv
        · rename_i hl
          obtain ⟨vs, h1, h2⟩ := r.obj _ _ _ e1 ea
          obtain ⟨ws, h3, h4⟩ := r.obj _ _ _ e2 eb
          exact .inr (.inr (.inr ⟨_, _, vs, ws, rfl, rfl, h1, h3, by rw [← h2.length, ← h4.length]; exact sz5 hl, fin_new r (h2.append h4) fv⟩))
        · exact False.elim fv
      · exact False.elim fv
    | _ => exact False.elim fv
  | _ => first | exact False.elim fv | (cases rb <;> exact False.elim fv)
def repA (k : Nat) (xs : List A) : List A := (List.replicate k xs).flatten
theorem RelL.rep {K : Frg} {H : Hp} {as : List Addr} {xs : List A} {vs : List V} (h : RelL K H as xs vs) : ∀ k : Nat, RelL K H as (repA k xs) (List.replicate k vs).flatten
  | 0 => .nil
  | k + 1 => by
    unfold repA
    rw [List.replicate_succ, List.replicate_succ, List.flatten_cons, List.flatten_cons]
    exact h.append (RelL.rep h k)
def vMul : A → A → Sto → RE := fun a b S => match a, b with
  | .int i, .int j => if (-18446744073709551616 < i ∧ i < 18446744073709551616) ∨ (-18446744073709551616 < j ∧ j < 18446744073709551616) then .ok (.int (i * j)) S else .stuck
  | .tup xs, .int k => if 2 ≤ k ∧ k ≤ 1000 ∧ xs.length ≤ 1000 ∧ xs.length ≠ 0 then .ok (.tup (repA k.toNat xs)) S else .stuck
  | .ob n, .int k => (match S[n]? with
    | some (.lst xs) => if 0 ≤ k ∧ k ≤ 1000 ∧ xs.length ≤ 100 then .ok (.ob S.length) (S ++ [.lst (repA k.toNat xs)]) else .stuck
    | _ => .stuck)
  | _, _ => .stuck
theorem os_mul : OpS X T (binaryOp .Mult) vMul := op_imp (op_mul.or (op_repT.or op_rep)) fun x y H Q a b S as r ra rb fv => by
  cases ra with
  | int i => cases rb with
    | int j =>
      unfold vMul at fv
      dsimp only at fv
      split at fv
      · rename_i h
        exact .inl ⟨i, j, rfl, rfl, h, fv _ as H .refl r (.int _)⟩
      · exact False.elim fv
    | _ => exact False.elim fv
  | @tup xs p vs hs rl => cases rb with
    | int k =>
      unfold vMul at fv
      dsimp only at fv
      split at fv
      · rename_i h
        exact .inr (.inl ⟨_, k, vs, rfl, rfl, hs, fun z => h.2.2.2 (by rw [rl.length, z]; rfl), h.1, h.2.1, by rw [← rl.length]; exact h.2.2.1, fin_tup r (rl.rep _) fv⟩)
      · exact False.elim fv
    | _ => exact False.elim fv
  | ob ea => cases rb with
    | int k =>
      unfold vMul at fv
      dsimp only at fv
      split at fv
      · rename_i xs e1
        split at fv
        · rename_i h
          obtain ⟨vs, h1, h2⟩ := r.obj _ _ _ e1 ea
          refine .inr (.inr ⟨_, k, vs, rfl, rfl, h1, by omega, by omega, ?_, fin_new r (h2.rep _) fv⟩)
          rw [← h2.length]
          have h3 : k.toNat ≤ 1000 := by omega
          exact sz5 (Nat.le_trans (Nat.mul_le_mul h.2.2 h3) (by decide))
        · exact False.elim fv
      · exact False.elim fv
    | _ => exact False.elim fv
  | _ => first | exact False.elim fv | (cases rb <;> exact False.elim fv)
/-! slices -/
abbrev GO := Ro → Sto → RE
/-- a part of a slice: none, or an int -/
def pNone : GO := fun _ S => .ok .non S
def pSome (g : GE) : GO := fun ρ S => (g ρ S).bind fun a S1 => match a with
  | .int i => .ok (.int i) S1
  | _ => .stuck
def partOf : A → Option Int
  | .int i => some i
  | _ => none
def tO (K : Frg) (T : Tbs) (W : WX) (g : GO) : TO := fun σ H Q => ∃ ρ S as, RelSt K T ρ S as σ H ∧ FinE K T W σ H as (fun v H' => (v = .non ∧ Q none H') ∨ ∃ i, v = .int i ∧ Q (some i) H') (g ρ S)
abbrev SO (X : Cx) (T : Tbs) (W : WX) (e : Option Expr) (g : GO) : Prop := PO X e (tO X.K T W g)
theorem so_none : SO X T W none pNone := ⟨fun pins s σ H Q I ⟨ρ, S, as, rs, f⟩ => po_none.run pins s σ H Q I (by
  rcases f _ as H .refl rs.rel .non with ⟨_, q⟩ | ⟨i, e, _⟩
  · exact q
  · cases e)⟩
theorem so_some (h : SE X T W e g) : SO X T W (some e) (pSome g) := ⟨fun pins s σ H Q I ⟨ρ, S, as, rs, f⟩ => (po_some h).run pins s σ H Q I (seqE rs f fun x S1 v as1 H1 rs1 rx f1 l1 => by
  split at f1
  · cases rx
    rcases f1 _ as1 H1 .refl rs1.rel (.int _) with ⟨e, _⟩ | ⟨i, e, q⟩
    · cases e
    · cases e; exact ⟨_, rfl, q⟩
  · exact False.elim f1)⟩
def cutA (xs : List A) (lo hi : Option Int) : List A := (xs.drop (HT.sIx xs.length 0 lo)).take (HT.sIx xs.length xs.length hi - HT.sIx xs.length 0 lo)
theorem RelL.cutV {K : Frg} {H : Hp} {as : List Addr} {xs : List A} {vs : List V} (h : RelL K H as xs vs) (lo hi : Option Int) : RelL K H as (cutA xs lo hi) (L2.cutV vs lo hi) := by
  unfold cutA L2.cutV
  rw [← h.length]
  exact (h.drop _).take _
def vCut (a : A) (lo hi : Option Int) (S : Sto) : RE := match a with
  | .tup xs => .ok (.tup (cutA xs lo hi)) S
  | .str z => if z.length ≤ 4000000 then .ok (.str (cutS z lo hi)) S else .stuck
  | .ob n => (match itemsAt S n with
    | some xs => .ok (.ob S.length) (S ++ [.lst (cutA xs lo hi)])
    | none => .stuck)
  | _ => .stuck
def gSlice (g : GE) (gl gh : GO) : GE := fun ρ S => (g ρ S).bind fun a S1 => (gl ρ S1).bind fun l S2 => (gh ρ S2).bind fun h S3 => vCut a (partOf l) (partOf h) S3
theorem SlR.or {r r' : V → Option Int → Option Int → Hp → VK → Prop} (h : SlR X r) (h' : SlR X r') : SlR X (fun x l u H Q => r x l u H Q ∨ r' x l u H Q) := by
  intro pins s σ H x v vl vu lo hi sl Q I rx hs pl pu q
  rcases q with q | q
  · exact h pins s σ H x v vl vu lo hi sl Q I rx hs pl pu q
  · exact h' pins s σ H x v vl vu lo hi sl Q I rx hs pl pu q
theorem whole {n a b : Nat} (h1 : a = 0) (h2 : b = n) (xs : List A) (hn : xs.length = n) : (xs.drop a).take (b - a) = xs := by
  subst h1 h2
  simp [← hn]
theorem part_ok {K : Frg} {σ : L2.St} {H : Hp} {as : List Addr} {ρ : Ro} {S : Sto} {gl : GO} {Q : VK} {k : A → Sto → RE} {R : Option Int → Hp → Prop} (rs : RelSt K T ρ S as σ H) (f : FinE K T W σ H as Q ((gl ρ S).bind k))
    (n : ∀ o S1 v as1 H1, RelSt K T ρ S1 as1 σ H1 → FinE K T W σ H1 as1 Q (k o S1) → Le K H as H1 as1 → RelA K H1 as1 o v → (v = .non ∧ R none H1) ∨ ∃ i, v = .int i ∧ R (some i) H1) : tO K T W gl σ H R := by
  refine ⟨ρ, S, as, rs, ?_⟩
  cases e : gl ρ S with
  | ok a S1 =>
    rw [e] at f
    exact fun v as1 H1 l r ra => n a S1 v as1 H1 (rs.mono l r) (FinE.later f l) l ra
  | exc c S1 => rw [e] at f; exact f
  | stuck => rw [e] at f; exact f
def PartG (g : GO) : Prop := ∀ ρ S a S1, g ρ S = .ok a S1 → a = .non ∨ ∃ i, a = .int i
theorem pNone_g : PartG pNone := fun ρ S a S1 e => by cases e; exact .inl rfl
theorem pSome_g (g : GE) : PartG (pSome g) := fun ρ S a S1 e => by
  unfold pSome at e
  cases q : g ρ S with
  | ok b S2 =>
    rw [q] at e
    cases b with
    | int i => cases e; exact .inr ⟨i, rfl⟩
    | _ => cases e
  | exc c S2 => rw [q] at e; cases e
  | stuck => rw [q] at e; cases e
theorem se_slice {lo hi : Option Expr} {gl gh : GO} (he : SE X T W e g) (hl : SO X T W lo gl) (hu : SO X T W hi gh) (pl : PartG gl := by first | exact pNone_g | exact pSome_g _) (ph : PartG gh := by first | exact pNone_g | exact pSome_g _) : SE X T W (.Subscript e (.Slice lo hi none p2) pos) (gSlice g gl gh) :=
  pe_imp (pe_slice (SlR.or sl_list (SlR.or sl_tupA sl_str)) he hl hu) fun σ H Q ⟨ρ, S, as, rs, f⟩ => by
    refine seqE rs f fun x S1 v as1 H1 rs1 rx f1 l1 => ?_
    refine ⟨ρ, S1, as1, rs1, ?_⟩
    cases e1 : gl ρ S1 with
    | exc c S2 => rw [e1] at f1; exact f1
    | stuck => rw [e1] at f1; exact f1
    | ok o1 S2 =>
      rw [e1] at f1
      intro w as2 H2 l2 r2 ra2
      have key : tO X.K T W gh σ H2 fun u H3 => (fun x l u H Q => rSlL X.K x l u H Q ∨ rSlA X.K x l u H Q ∨ rSlS x l u H Q) v (partOf o1) u H3 Q := by
        refine ⟨ρ, S2, as2, rs1.mono l2 r2, ?_⟩
        have f2 : FinE X.K T W σ H2 as2 Q ((gh ρ S2).bind fun h S3 => vCut x (partOf o1) (partOf h) S3) := FinE.later f1 l2
        cases e2 : gh ρ S2 with
        | exc c S3 => rw [e2] at f2; exact f2
        | stuck => rw [e2] at f2; exact f2
        | ok o2 S3 =>
          rw [e2] at f2
          intro w3 as3 H3 l3 r3 ra3
          have f3 : FinE X.K T W σ H3 as3 Q (vCut x (partOf o1) (partOf o2) S3) := FinE.later f2 l3
          have rx3 := (rx.mono l2).mono l3
          have fin : (fun x l u H Q => rSlL X.K x l u H Q ∨ rSlA X.K x l u H Q ∨ rSlS x l u H Q) v (partOf o1) (partOf o2) H3 Q := by
            cases rx3 with
            | @tup xs p vs hs rl =>
              refine .inr (.inl ⟨_, vs, rfl, hs, fun hw => ?_, fun _ => fin_tup r3 (rl.cutV _ _) f3⟩)
              refine f3 _ as3 H3 .refl r3 (.tup hs ?_)
              unfold cutA
              rw [rl.length]
              rw [whole hw.1 hw.2 xs rl.length]
              exact rl
            | str z =>
              unfold vCut at f3
              dsimp only at f3
              split at f3
              · rename_i hl
                exact .inr (.inr ⟨z, rfl, sz5 hl, f3 _ as3 H3 .refl r3 (.str _)⟩)
              · exact False.elim f3
            | ob ea =>
              unfold vCut at f3
              dsimp only at f3
              split at f3
              · rename_i xs hx
                obtain ⟨vs, hq, rl⟩ := r3.sql hx ea
                exact .inl ⟨_, vs, rfl, hq, fin_new r3 (rl.cutV _ _) f3⟩
              · exact False.elim f3
            | _ => exact False.elim f3
          rcases ph ρ S2 o2 S3 e2 with z | ⟨i, z⟩
          · subst z; cases ra3; exact .inl ⟨rfl, fin⟩
          · subst z; cases ra3; exact .inr ⟨i, rfl, fin⟩
      rcases pl ρ S1 o1 S2 e1 with z | ⟨i, z⟩
      · subst z; cases ra2; exact .inl ⟨rfl, key⟩
      · subst z; cases ra2; exact .inr ⟨i, rfl, key⟩
/-! not by truth, is None -/
def gNotT (g : GE) : GE := fun ρ S => (g ρ S).bind fun a S1 => match truA S1 a with
  | some b => .ok (.bl (!b)) S1
  | none => .stuck
theorem tru_of {K : Frg} {S : Sto} {as : List Addr} {H : Hp} {x : A} {v : V} {b : Bool} (r : Rel K T S as H) (rx : RelA K H as x v) (hb : truA S x = some b) : TruV K v H b := by
  cases rx with
  | non => cases hb; rfl
  | bl k => cases hb; rfl
  | int i => cases hb; rfl
  | str x =>
    unfold truA at hb
    dsimp only at hb
    split at hb
    · rename_i hl
      cases hb
      refine ⟨sz5 hl, ?_⟩
      rw [Bool.eq_iff_iff]
      simp
    · cases hb
  | tup hs rl =>
    have hb : (some _ : Option (List A)).map (fun xs => !xs.isEmpty) = some b := hb
    cases hb
    refine .inr (.inl ⟨_, hs, ?_⟩)
    cases rl <;> rfl
  | ob ea =>
    have hb : (itemsAt S _).map (fun xs => !xs.isEmpty) = some b := hb
    cases q : itemsAt S _ with
    | none => rw [q] at hb; cases hb
    | some xs =>
      rw [q] at hb
      cases hb
      obtain ⟨vs, hq, rl⟩ := r.sql q ea
      refine .inl ⟨vs, hq, ?_⟩
      cases rl <;> rfl
theorem se_notT (h : SE X T W a g) : SE X T W (.UnaryOp .Not a pos) (gNotT g) := pe_imp (pe_notT h) fun σ H Q ⟨ρ, S, as, rs, f⟩ => by
  refine seqE rs f fun x S1 v as1 H1 rs1 rx f1 l1 => ?_
  split at f1
  · rename_i b hb
    exact ⟨b, tru_of rs1.rel rx hb, f1 _ as1 H1 .refl rs1.rel (.bl _)⟩
  · exact False.elim f1
def isNon : A → Bool
  | .non => true
  | _ => false
def vIsN : A → A → Sto → RE := fun a b S => match b with
  | .non => .ok (.bl (isNon a)) S
  | _ => .stuck
def vNotN : A → A → Sto → RE := fun a b S => match b with
  | .non => .ok (.bl (!isNon a)) S
  | _ => .stuck
theorem isNon_of {K : Frg} {as : List Addr} {H : Hp} {x : A} {v : V} (rx : RelA K H as x v) : decide (v = .non) = isNon x := by
  cases rx <;> simp [isNon]
theorem os_isN : OpS X T (compareOp .Is) vIsN := op_imp op_isN fun x y H Q a b S as r ra rb fv => by
  cases rb with
  | non => exact ⟨rfl, by rw [isNon_of ra]; exact fv _ as H .refl r (.bl _)⟩
  | _ => exact False.elim fv
theorem os_notN : OpS X T (compareOp .IsNot) vNotN := op_imp op_notN fun x y H Q a b S as r ra rb fv => by
  cases rb with
  | non => exact ⟨rfl, by rw [isNon_of ra]; exact fv _ as H .refl r (.bl _)⟩
  | _ => exact False.elim fv
/-! conversions -/
def vList : List A → Sto → RE := fun l S => match l with
  | [b] => (match seqOf S b with
    | some xs => .ok (.ob S.length) (S ++ [.lst xs])
    | none => .stuck)
  | _ => .stuck
theorem cs_list : CallS X T (.type "list") vList := call_imp call_list_of fun xs H Q l S as r rl fv => by
  unfold vList at fv
  split at fv
  · cases rl with
    | cons r1 r2 =>
      cases r2
      split at fv
      · rename_i ys hx
        obtain ⟨p, vs, e, hq, rl2⟩ := r.seq r1 hx
        subst e
        exact ⟨p, vs, rfl, hq, fin_new r rl2 fv⟩
      · exact False.elim fv
  · exact False.elim fv
def vTuple : List A → Sto → RE := fun l S => match l with
  | [b] => (match seqOf S b with
    | some xs => .ok (.tup xs) S
    | none => .stuck)
  | _ => .stuck
theorem cs_tuple : CallS X T (.type "tuple") vTuple := call_imp call_tuple_of fun xs H Q l S as r rl fv => by
  unfold vTuple at fv
  split at fv
  · cases rl with
    | cons r1 r2 =>
      cases r2
      split at fv
      · rename_i ys hx
        obtain ⟨p, vs, e, hq, rl2⟩ := r.seq r1 hx
        subst e
        rcases hq with hq | hq
        · exact ⟨p, vs, rfl, .inl ⟨hq, fin_tup r rl2 fv⟩⟩
        · exact ⟨p, vs, rfl, .inr ⟨hq, fv _ as H .refl r (.tup hq rl2)⟩⟩
      · exact False.elim fv
  · exact False.elim fv
/-- in-place + and - of ints -/
theorem ipAdd : IpS X T .Add vAddI := fun pins s σ H x y v u Q I rx ry ⟨a, b, S, as, r, ra, rb, fv⟩ => ip_add pins s σ H x y v u Q I rx ry (by
  cases ra with
  | int i => cases rb with
    | int j => exact ⟨i, j, rfl, rfl, fv _ as H .refl r (.int _)⟩
    | _ => exact False.elim fv
  | _ => first | exact False.elim fv | (cases rb <;> exact False.elim fv))
abbrev vSubI := vSub
theorem inSub : InS X T .Sub vSubI := fun pins s σ H x y v u Q I rx ry ⟨a, b, S, as, r, ra, rb, fv⟩ => in_sub pins s σ H x y v u Q I rx ry (by
  cases ra with
  | int i => cases rb with
    | int j => exact ⟨i, j, rfl, rfl, fv _ as H .refl r (.int _)⟩
    | _ => exact False.elim fv
  | _ => first | exact False.elim fv | (cases rb <;> exact False.elim fv))
end
end Sx

set_option Elab.async false
set_option linter.all false
set_option maxRecDepth 100000
set_option maxHeartbeats 1000000
namespace Sx
open PySem PySem.Spec PyProof.Rows L2
/-! ### results of bodies, told to callers -/
theorem fitP {S : Sto} {a : A} (b : BelS S) (ba : Bel S.length a) : Fit S.length (.ok a S) (.ret a S) := by
  have := Fit.ret (n := S.length) (E := []) ba b (Nat.le_refl _)
  rwa [List.append_nil] at this
theorem fitPE {S E : Sto} {a : A} (b : BelS S) (ba : Bel S.length a) : Fit S.length (.ok a S) (.ret a (S ++ E)) := Fit.ret ba b (Nat.le_refl _)
theorem fitX {S : Sto} {c : Value} {ρ : Ro} (b : BelS S) : Fit S.length (.exc c S) (.exc c ρ S) := by
  have := Fit.exc (n := S.length) (c := c) (ρ := ρ) (E := []) b (Nat.le_refl _)
  rwa [List.append_nil] at this
theorem fitXE {S E : Sto} {c : Value} {ρ : Ro} (b : BelS S) : Fit S.length (.exc c S) (.exc c ρ (S ++ E)) := Fit.exc b (Nat.le_refl _)
theorem fitN {S : Sto} {ρ : Ro} (b : BelS S) : Fit S.length (.ok .non S) (.nx ρ S) := by
  have := Fit.nx (n := S.length) (ρ := ρ) (E := []) b (Nat.le_refl _)
  rwa [List.append_nil] at this
theorem noCX {P : Program} {w : World} {H : Hp} {s : Shared} {e : Value} {s' : Shared} (h : L2.CX P w [] H s (fun _ _ _ => False) e s') : False := by
  obtain ⟨_, _, _, _, _, _, _, _, _, _, _, _, z⟩ := h
  exact z
/-- the kind of a value is known -/
def kn (S : Sto) (a : A) : Bool := (tyA S a).isSome
theorem kn_some {S : Sto} {a : A} (h : kn S a = true) : ∃ t, tyA S a = some t := Option.isSome_iff_exists.mp h
theorem tyA_non (S : Sto) : tyA S .non = some "NoneType" := rfl
theorem tyA_bl (S : Sto) (b : Bool) : tyA S (.bl b) = some "bool" := rfl
theorem tyA_int (S : Sto) (i : Int) : tyA S (.int i) = some "int" := rfl
theorem tyA_str (S : Sto) (x : Str) : tyA S (.str x) = some "str" := rfl
theorem tyA_tup (S : Sto) (l : List A) : tyA S (.tup l) = some "tuple" := rfl
theorem isi_ob {S : Sto} {n : Nat} {ty : String} (h : tyA S (.ob n) = some ty) : isT ty "int" = false ∧ isT ty "bool" = false ∧ isT ty "str" = false ∧ isT ty "tuple" = false := by
  unfold tyA at h
  dsimp only at h
  split at h <;> first | (cases h; decide) | (cases h)
theorem kn_non (S : Sto) : kn S .non = true := rfl
theorem kn_bl (S : Sto) (b : Bool) : kn S (.bl b) = true := rfl
theorem kn_int (S : Sto) (b : Int) : kn S (.int b) = true := rfl
theorem kn_str (S : Sto) (b : Str) : kn S (.str b) = true := rfl
theorem kn_tup (S : Sto) (b : List A) : kn S (.tup b) = true := rfl
theorem bind_ite {c : Prop} [Decidable c] (a b : RE) (k : A → Sto → RE) : (if c then a else b).bind k = if c then a.bind k else b.bind k := by split <;> rfl
theorem bindA_ite {c : Prop} [Decidable c] (a b : RE) (k : A → Sto → RA) : (if c then a else b).bindA k = if c then a.bindA k else b.bindA k := by split <;> rfl
theorem bindS_ite {c : Prop} [Decidable c] (a b : RE) (ρ : Ro) (k : A → Sto → RS) : (if c then a else b).bindS ρ k = if c then a.bindS ρ k else b.bindS ρ k := by split <;> rfl
theorem bindT_ite {c : Prop} [Decidable c] (a b : RE) (k : Bool → Sto → RE) : (if c then a else b).bindT k = if c then a.bindT k else b.bindT k := by split <;> rfl
theorem bindTS_ite {c : Prop} [Decidable c] (a b : RE) (ρ : Ro) (k : Bool → Sto → RS) : (if c then a else b).bindTS ρ k = if c then a.bindTS ρ k else b.bindTS ρ k := by split <;> rfl
theorem nox_ite {c : Prop} [Decidable c] (a b : RE) : (if c then a else b).nox = if c then a.nox else b.nox := by split <;> rfl
theorem seq_ite {c : Prop} [Decidable c] (a b : RS) (k : GS) : (if c then a else b).seq k = if c then a.seq k else b.seq k := by split <;> rfl
theorem isT_ss : isT "str" "str" = true := by decide
theorem isT_tt : isT "tuple" "tuple" = true := by decide
theorem isT_ii : isT "int" "int" = true := by decide
theorem isT_bi : isT "bool" "int" = true := by decide
theorem isT_bb : isT "bool" "bool" = true := by decide
theorem isT_ib : isT "int" "bool" = false := by decide
theorem isT_ll : isT "list" "list" = true := by decide
theorem vIx_t0 (x0 : A) (l : List A) (S : Sto) : vIx (.tup (x0 :: l)) (.int 0) S = .ok x0 S := by
  have e : L2.atI (x0 :: l) (0 : Int) = some x0 := L2.atI_nat (j := 0) rfl
  show (match L2.atI (x0 :: l) (0 : Int) with
    | some x => RE.ok x S
    | none => .stuck) = _
  rw [e]
theorem vIx_t1 (x0 x1 : A) (l : List A) (S : Sto) : vIx (.tup (x0 :: x1 :: l)) (.int 1) S = .ok x1 S := by
  have e : L2.atI (x0 :: x1 :: l) (1 : Int) = some x1 := L2.atI_nat (j := 1) rfl
  show (match L2.atI (x0 :: x1 :: l) (1 : Int) with
    | some x => RE.ok x S
    | none => .stuck) = _
  rw [e]
theorem vIx_t2 (x0 x1 x2 : A) (l : List A) (S : Sto) : vIx (.tup (x0 :: x1 :: x2 :: l)) (.int 2) S = .ok x2 S := by
  have e : L2.atI (x0 :: x1 :: x2 :: l) (2 : Int) = some x2 := L2.atI_nat (j := 2) rfl
  show (match L2.atI (x0 :: x1 :: x2 :: l) (2 : Int) with
    | some x => RE.ok x S
    | none => .stuck) = _
  rw [e]
theorem vIx_t3 (x0 x1 x2 x3 : A) (l : List A) (S : Sto) : vIx (.tup (x0 :: x1 :: x2 :: x3 :: l)) (.int 3) S = .ok x3 S := by
  have e : L2.atI (x0 :: x1 :: x2 :: x3 :: l) (3 : Int) = some x3 := L2.atI_nat (j := 3) rfl
  show (match L2.atI (x0 :: x1 :: x2 :: x3 :: l) (3 : Int) with
    | some x => RE.ok x S
    | none => .stuck) = _
  rw [e]
theorem vIx_t4 (x0 x1 x2 x3 x4 : A) (l : List A) (S : Sto) : vIx (.tup (x0 :: x1 :: x2 :: x3 :: x4 :: l)) (.int 4) S = .ok x4 S := by
  have e : L2.atI (x0 :: x1 :: x2 :: x3 :: x4 :: l) (4 : Int) = some x4 := L2.atI_nat (j := 4) rfl
  show (match L2.atI (x0 :: x1 :: x2 :: x3 :: x4 :: l) (4 : Int) with
    | some x => RE.ok x S
    | none => .stuck) = _
  rw [e]
theorem vIx_t5 (x0 x1 x2 x3 x4 x5 : A) (l : List A) (S : Sto) : vIx (.tup (x0 :: x1 :: x2 :: x3 :: x4 :: x5 :: l)) (.int 5) S = .ok x5 S := by
  have e : L2.atI (x0 :: x1 :: x2 :: x3 :: x4 :: x5 :: l) (5 : Int) = some x5 := L2.atI_nat (j := 5) rfl
  show (match L2.atI (x0 :: x1 :: x2 :: x3 :: x4 :: x5 :: l) (5 : Int) with
    | some x => RE.ok x S
    | none => .stuck) = _
  rw [e]
theorem vEq_ss (x y : Str) (S : Sto) : vEq (.str x) (.str y) S = .ok (.bl (decide (x = y))) S := rfl
theorem vEq_ii (x y : Int) (S : Sto) : vEq (.int x) (.int y) S = .ok (.bl (decide (x = y))) S := rfl
theorem vEq_bb (x y : Bool) (S : Sto) : vEq (.bl x) (.bl y) S = .ok (.bl (decide (x = y))) S := rfl
theorem vNe_ss (x y : Str) (S : Sto) : vNe (.str x) (.str y) S = .ok (.bl (!decide (x = y))) S := rfl
theorem vNe_ii (x y : Int) (S : Sto) : vNe (.int x) (.int y) S = .ok (.bl (!decide (x = y))) S := rfl
theorem vNe_bb (x y : Bool) (S : Sto) : vNe (.bl x) (.bl y) S = .ok (.bl (!decide (x = y))) S := rfl
theorem vLen_tup (l : List A) (S : Sto) : vLen [.tup l] S = .ok (.int l.length) S := rfl
theorem truA_tup (l : List A) (S : Sto) : truA S (.tup l) = some (!l.isEmpty) := rfl
theorem truA_bl (b : Bool) (S : Sto) : truA S (.bl b) = some b := rfl
theorem vLe_ii (x y : Int) (S : Sto) : vLe (.int x) (.int y) S = .ok (.bl (decide (x ≤ y))) S := rfl
theorem vLt_ii (x y : Int) (S : Sto) : vLt (.int x) (.int y) S = .ok (.bl (decide (x < y))) S := rfl
theorem vGt_ii (x y : Int) (S : Sto) : vGt (.int x) (.int y) S = .ok (.bl (decide (y < x))) S := rfl
theorem vGe_ii (x y : Int) (S : Sto) : vGe (.int x) (.int y) S = .ok (.bl (decide (y ≤ x))) S := rfl
theorem vSub_ii (x y : Int) (S : Sto) : vSub (.int x) (.int y) S = .ok (.int (x - y)) S := rfl
theorem vAdd_ii (x y : Int) (S : Sto) : vAdd (.int x) (.int y) S = .ok (.int (x + y)) S := rfl
theorem vAddI_ii (x y : Int) (S : Sto) : vAddI (.int x) (.int y) S = .ok (.int (x + y)) S := rfl
theorem vNeg_i (x : Int) (S : Sto) : vNeg (.int x) S = .ok (.int (-x)) S := rfl
theorem vMod_pos (x y : Int) (S : Sto) (h : 0 < y) : vMod (.int x) (.int y) S = .ok (.int (x % y)) S := by
  show (if 0 < y then RE.ok (.int (x % y)) S else .stuck) = _
  rw [if_pos h]
theorem vFdiv_pos (x y : Int) (S : Sto) (h : 0 < y ∧ y < 1073741824) : vFdiv (.int x) (.int y) S = .ok (.int (x / y)) S := by
  show (if 0 < y ∧ y < 1073741824 then RE.ok (.int (x / y)) S else .stuck) = _
  rw [if_pos h]
/-- ints -/
def intsOf : List A → Option (List Int)
  | [] => some []
  | .int i :: l => (intsOf l).map (i :: ·)
  | _ :: _ => none
theorem intsOf_map (ns : List Int) : intsOf (ns.map .int) = some ns := by
  induction ns with
  | nil => rfl
  | cons n ns ih => show (intsOf (ns.map .int)).map (n :: ·) = _; rw [ih]; rfl
theorem intsOf_eq : ∀ {l : List A} {ns : List Int}, intsOf l = some ns → l = ns.map .int
  | [], ns, h => by cases h; rfl
  | .int i :: l, ns, h => by
    have h : (intsOf l).map (i :: ·) = some ns := h
    cases e : intsOf l with
    | none => rw [e] at h; cases h
    | some ms => rw [e] at h; cases h; rw [intsOf_eq e]; rfl
  | .non :: _, _, h => by cases h
  | .bl _ :: _, _, h => by cases h
  | .str _ :: _, _, h => by cases h
  | .tup _ :: _, _, h => by cases h
  | .ob _ :: _, _, h => by cases h
theorem items_new (S : Sto) (xs : List A) : itemsAt (S ++ [.lst xs]) S.length = some xs := by
  unfold itemsAt
  simp [O.items]
theorem get_app {S : Sto} {n : Nat} {o : O} (h : S[n]? = some o) (E : Sto) : (S ++ E)[n]? = some o := by
  rw [List.getElem?_append_left (List.getElem?_eq_some_iff.mp h).1]; exact h
theorem items_app {S : Sto} {n : Nat} {xs : List A} (h : itemsAt S n = some xs) (E : Sto) : itemsAt (S ++ E) n = some xs := by
  unfold itemsAt at h ⊢
  cases e : S[n]? with
  | none => rw [e] at h; cases h
  | some o => rw [e] at h; rw [get_app e E]; exact h
theorem vIx_ob {n : Nat} {i : Int} {S : Sto} {xs : List A} {x : A} (h : itemsAt S n = some xs) (e : L2.atI xs i = some x) : vIx (.ob n) (.int i) S = .ok x S := by
  show (match itemsAt S n with
    | some xs => (match L2.atI xs i with
      | some x => RE.ok x S
      | none => .stuck)
    | none => .stuck) = _
  rw [h]
  simp only [e]
/-- a list display indexed at once -/
theorem vIx_new {i : Int} {S : Sto} {xs : List A} {x : A} (e : L2.atI xs i = some x) : vIx (.ob S.length) (.int i) (S ++ [.lst xs]) = .ok x (S ++ [.lst xs]) := vIx_ob (items_new S xs) e
theorem append_at {S : Sto} {n : Nat} {xs : List A} {y : A} (h : S[n]? = some (.lst xs)) (hl : xs.length < 4000000) : vAppend (.ob n) [y] S = .ok .non (S.set n (.lst (xs ++ [y]))) := by
  show (match S[n]? with
    | some (.lst xs) => if xs.length < 4000000 then RE.ok .non (S.set n (.lst (xs ++ [y]))) else .stuck
    | _ => .stuck) = _
  rw [h]
  simp only [hl, if_true]
theorem tyB_list {S : Sto} {n : Nat} {xs : List A} (h : S[n]? = some (.lst xs)) : tyB "list" S (.ob n) = true := by
  show (match S[n]? with
    | some (.lst _) => ("list" : String) == "list"
    | some (.dic _) => ("list" : String) == "dict"
    | some (.dit _) => ("list" : String) == "dict"
    | _ => false) = true
  rw [h]
  rfl
/-- the law's promise: at a script of ints it answers True -/
def F_law : List A → Sto → RE := fun l S => match l, S with
  | [.ob 0], [o] => (match o.items.bind intsOf with
    | some ns => if ns.length ≤ 63 then .ok (.bl true) S else .stuck
    | none => .stuck)
  | _, _ => .stuck
theorem F_law_at {o : O} {ns : List Int} (h : o.items = some (ns.map .int)) (hl : ns.length ≤ 63) : F_law [.ob 0] [o] = .ok (.bl true) [o] := by
  have e : o.items.bind intsOf = some ns := by rw [h]; exact intsOf_map ns
  show (match o.items.bind intsOf with
    | some ns => if ns.length ≤ 63 then RE.ok (.bl true) [o] else .stuck
    | none => .stuck) = _
  rw [e]
  exact if_pos hl
theorem F_law_cases {l : List A} {S : Sto} (h : F_law l S ≠ .stuck) : ∃ (ns : List Int) (o : O), l = [.ob 0] ∧ S = [o] ∧ o.items = some (ns.map .int) ∧ ns.length ≤ 63 ∧ F_law l S = .ok (.bl true) S := by
  unfold F_law at h
  split at h
  · rename_i o
    split at h
    · rename_i ns e
      split at h
      · rename_i hl
        cases q : o.items with
        | none => rw [q] at e; cases e
        | some xs =>
          rw [q] at e
          have e2 := intsOf_eq e
          subst e2
          exact ⟨ns, o, rfl, rfl, q, hl, F_law_at q hl⟩
      · exact absurd rfl h
    · exact absurd rfl h
  · exact absurd rfl h
theorem F_law_len (l : List A) (S : Sto) (h : F_law l S ≠ .stuck) : l.length = 1 := by
  obtain ⟨ns, o, e, _⟩ := F_law_cases h
  rw [e]; rfl
theorem ints_rel {K : Frg} {H : Hp} {as : List Addr} : ∀ ns : List Int, RelL K H as (ns.map .int) (ns.map V.int)
  | [] => .nil
  | n :: ns => .cons (.int n) (ints_rel ns)
theorem sp_law {K : Frg} {T : Tbs} {H : Hp} {a : Addr} {ns : List Int} (ht : LamX.Tabs T H) (hl : ns.length ≤ 63) (hS : SqL K H a (ns.map V.int)) : spF K T F_law [.ref a] H (fun v _ => v = .bl true) fun _ _ _ => False := by
  obtain ⟨o, ho, hro⟩ : ∃ o : O, o.items = some (ns.map .int) ∧ RelO K H [a] o a := by
    rcases hS with (h | ⟨ob, h⟩) | h
    · exact ⟨.lst (ns.map .int), rfl, _, h, ints_rel ns⟩
    · exact ⟨.rol (ns.map .int), rfl, _, .inl ⟨ob, h⟩, ints_rel ns⟩
    · exact ⟨.rol (ns.map .int), rfl, _, .inr (.inr h), ints_rel ns⟩
  refine ⟨[.ob 0], [o], [a], ⟨rfl, fun n m b o1 u h1 h2 h3 h4 m1 m2 => ?_, fun n o1 b h1 h2 => ?_, ht⟩, .cons (.ob rfl) .nil, ?_⟩
  · have e1 := (List.getElem?_eq_some_iff.mp h3).1
    have e2 := (List.getElem?_eq_some_iff.mp h4).1
    simp at e1 e2
    omega
  · have e : o1 = o := by
      have := List.mem_of_getElem? h1
      simpa using this
    have e2 : b = a := by
      have := List.mem_of_getElem? h2
      simpa using this
    subst e e2
    exact hro
  · rw [F_law_at ho hl]
    intro v as' H' l r ra
    cases ra
    rfl
/-- the end: from the law's promise to what the head asks -/
theorem law_end {l : PySem.W.OpenLaw} {w : World} {K : Frg} {mg : Str → Option Value} {fa : Addr} {h : Heap} {fd : FuncData} {d : Nat} (T : Tbs) (cs : List (Addr × Addr)) (hT : ∀ p ∈ cs, h.get? p.2 = some { cls := .none, data := .fields #[] }) (nT : ∀ p ∈ cs, K.lookup p.2 = none) (C : ∀ p ∈ cs, PySem.W.CodeHd h p.1 p.2)
    (tb : ∀ H : Hp, (∀ p ∈ cs, H p.2 = some (.tbl #[])) → LamX.Tabs T H) (hb : Binds K fd ["script"] []) (KX : K.In h) (hb2 : ∀ (s : Shared) (u : Value), BindsTo s fd ⟨[u], []⟩ [("script", u)]) (hd : d ≤ 500)
    (F : ∀ base : Heap, K.In base → base.Ns mainGlobals mg → (∀ p ∈ cs, LamX.TabB base mg p.1 p.2) → FnR l.prog w K mg base d fa fd ["script"] (spF K T F_law)) : LamX.LawAtS l w K (L2.CX l.prog w) 200 63 "script" mg fa h :=
  ⟨fd, cs, spF K T F_law, hT, nT, C, hb2, fun H a ns hl _ hH hS => sp_law (tb H hH) hl hS, fun base h1 h2 h3 => (F base h1 h2 h3).ok (by omega) (by omega)⟩
end Sx

set_option Elab.async false
set_option linter.all false
set_option maxRecDepth 100000
set_option maxHeartbeats 1000000
namespace Sx
open PySem PySem.Spec PyProof.Rows L2
/-! ### texts joined -/
def strsOf : List A → Option (List Str)
  | [] => some []
  | .str x :: l => (strsOf l).map (x :: ·)
  | _ :: _ => none
theorem strsOf_map (ns : List Str) : strsOf (ns.map .str) = some ns := by
  induction ns with
  | nil => rfl
  | cons n ns ih => show (strsOf (ns.map .str)).map (n :: ·) = _; rw [ih]; rfl
theorem strsOf_eq : ∀ {l : List A} {ns : List Str}, strsOf l = some ns → l = ns.map .str
  | [], ns, h => by cases h; rfl
  | .str i :: l, ns, h => by
    have h : (strsOf l).map (i :: ·) = some ns := h
    cases e : strsOf l with
    | none => rw [e] at h; cases h
    | some ms => rw [e] at h; cases h; rw [strsOf_eq e]; rfl
  | .non :: _, _, h => by cases h
  | .bl _ :: _, _, h => by cases h
  | .int _ :: _, _, h => by cases h
  | .tup _ :: _, _, h => by cases h
  | .ob _ :: _, _, h => by cases h
theorem strs_rel {K : Frg} {H : Hp} {as : List Addr} : ∀ {ns : List Str} {vs : List V}, RelL K H as (ns.map .str) vs → vs = ns.map V.str
  | [], vs, h => by cases h; rfl
  | n :: ns, vs, h => by
    cases h with
    | cons h1 h2 => cases h1; rw [strs_rel h2]; rfl
def joinFit (a : Str) (ys : List Str) : Bool := decide ((ys.map (·.length)).sum + ys.length * a.length ≤ 16777216)
def vJoin : A → List A → Sto → RE := fun a l S => match a, l with
  | .str x, [b] => (match (seqOf S b).bind strsOf with
    | some ys => if joinFit x ys = true then .ok (.str (Str.join x ys)) S else .stuck
    | none => .stuck)
  | _, _ => .stuck
section
variable {X : Cx} {T : Tbs} {W : WX}
theorem ms_join : MtS X T "str.join" vJoin := mt_imp mt_join fun x xs H Q a l S as r ra rl fv => by
  unfold vJoin at fv
  split at fv
  · rename_i z b
    cases ra
    cases rl with
    | cons ry rn =>
      cases rn
      split at fv
      · rename_i ys e
        split at fv
        · rename_i hj
          cases q : seqOf S b with
          | none => rw [q] at e; cases e
          | some l =>
            rw [q] at e
            have e2 := strsOf_eq (l := l) e
            subst e2
            obtain ⟨p, vs, ep, hq, rl⟩ := r.seq ry q
            have e3 := strs_rel rl
            subst e3
            refine ⟨z, p, ys, rfl, by rw [ep], hq, of_decide_eq_true hj, ?_⟩
            rw [TL.join_eq]
            exact fv _ as H .refl r (.str _)
        · exact False.elim fv
      · exact False.elim fv
  · exact False.elim fv
end
/-! ### comprehensions that leave the store -/
theorem lc_eq {chk : Sto → Bool} {gg : GG} {gt ge : GE} {ρ0 : Ro} {S0 : Sto} (p : A → Bool) (f : A → A) (hc : ∀ l, chk (S0 ++ [.lst l]) = true) : ∀ (items acc : List A),
    (∀ x ∈ items, ∃ ρ1, (∀ S, gg x ρ0 S = some (ρ1, S)) ∧ ∀ l, gt ρ1 (S0 ++ [.lst l]) = .ok (.bl (p x)) (S0 ++ [.lst l]) ∧ (p x = true → ge ρ1 (S0 ++ [.lst l]) = .ok (f x) (S0 ++ [.lst l]))) → acc.length + items.length ≤ 4000000 →
    lcGo chk gg gt ge ρ0 S0.length items (S0 ++ [.lst acc]) = .ok (.ob S0.length) (S0 ++ [.lst (acc ++ (items.filter p).map f)])
  | [], acc, _, _ => by simp [lcGo, hc]
  | x :: r, acc, h, hl => by
    obtain ⟨ρ1, h1, h2⟩ := h x (by simp)
    obtain ⟨h3, h4⟩ := h2 acc
    have ih := lc_eq (gg := gg) (gt := gt) (ge := ge) (ρ0 := ρ0) p f hc r
    unfold lcGo
    rw [if_pos (hc acc), h1]
    dsimp only
    rw [h3]
    have hl2 : acc.length < 4000000 := by simp at hl; omega
    cases hp : p x with
    | false =>
      simp only [RE.nox_ok, RE.bindT_ok]
      rw [if_neg (by decide), ih acc (fun y hy => h y (by simp [hy])) (by simp at hl; omega), List.filter_cons, hp]
      rfl
    | true =>
      simp only [RE.nox_ok, RE.bindT_ok, if_true]
      rw [h4 hp]
      simp only [RE.nox_ok, RE.bind_ok]
      have e : (S0 ++ [O.lst acc])[S0.length]? = some (O.lst acc) := by simp
      rw [e]
      simp only [hl2, if_true]
      have e2 : (S0 ++ [O.lst acc]).set S0.length (.lst (acc ++ [f x])) = S0 ++ [.lst (acc ++ [f x])] := by simp
      rw [e2, ih (acc ++ [f x]) (fun y hy => h y (by simp [hy])) (by simp at hl ⊢; omega), List.filter_cons, hp]
      simp
/-! ### nice values: no objects, texts well formed, not too deep; values whose kinds are known -/
def niceS (x : Str) : Bool := decide (x.length ≤ 4000000) && PyData.strOk x
def nice : Nat → A → Bool
  | n + 1, .tup l => l.all (nice n)
  | 0, .tup _ => false
  | _, .str x => niceS x
  | _, .ob _ => false
  | _, _ => true
mutual
def good (S : Sto) : A → Bool
  | .str x => decide (x.length ≤ 4000000)
  | .tup l => goodL S l
  | .ob n => kn S (.ob n)
  | _ => true
def goodL (S : Sto) : List A → Bool
  | [] => true
  | a :: l => good S a && goodL S l
end
theorem goodL_iff {S : Sto} : ∀ {l : List A}, goodL S l = true ↔ ∀ x ∈ l, good S x = true
  | [] => by simp [goodL]
  | a :: l => by simp [goodL, goodL_iff (l := l)]
theorem good_tup {S : Sto} {l : List A} : good S (.tup l) = true ↔ ∀ x ∈ l, good S x = true := by
  rw [good]; exact goodL_iff
theorem good_kn {S : Sto} {a : A} (h : good S a = true) : kn S a = true := by
  cases a with
  | ob n => simpa [good] using h
  | _ => rfl
theorem kn_app {S : Sto} {a : A} (h : kn S a = true) (E : Sto) : kn (S ++ E) a = true := by
  cases a with
  | ob n =>
    obtain ⟨t, ht⟩ := kn_some h
    unfold kn tyA at *
    dsimp only at *
    cases e : S[n]? with
    | none => rw [e] at ht; cases ht
    | some o => rw [get_app e E]; rw [e] at h; exact h
  | _ => rfl
mutual
theorem good_app {S : Sto} : ∀ {a : A}, good S a = true → ∀ E, good (S ++ E) a = true
  | .ob n, h, E => by
    simp only [good] at h ⊢
    exact kn_app h E
  | .tup l, h, E => by
    simp only [good] at h ⊢
    exact goodL_app h E
  | .non, _, _ => by simp [good]
  | .bl _, _, _ => by simp [good]
  | .int _, _, _ => by simp [good]
  | .str _, h, _ => by simpa [good] using h
theorem goodL_app {S : Sto} : ∀ {l : List A}, goodL S l = true → ∀ E, goodL (S ++ E) l = true
  | [], _, _ => by simp [goodL]
  | a :: l, h, E => by
    simp only [goodL, Bool.and_eq_true] at h ⊢
    exact ⟨good_app h.1 E, goodL_app h.2 E⟩
end
theorem nice_tup {n : Nat} {l : List A} : nice n (.tup l) = true → ∃ m, n = m + 1 ∧ ∀ x ∈ l, nice m x = true := by
  cases n with
  | zero => intro h; cases h
  | succ m => intro h; exact ⟨m, rfl, by simpa [nice] using h⟩
mutual
theorem nice_good : ∀ {a : A} {n : Nat}, nice n a = true → ∀ S, good S a = true
  | .tup l, n, h, S => by
    obtain ⟨m, _, h2⟩ := nice_tup h
    simp only [good]
    exact nice_goodL h2 S
  | .non, _, _, _ => by simp [good]
  | .bl _, _, _, _ => by simp [good]
  | .int _, _, _, _ => by simp [good]
  | .str x, n, h, _ => by
    have h : niceS x = true := by cases n <;> simpa [nice] using h
    simp only [niceS, Bool.and_eq_true] at h
    simpa [good] using h.1
  | .ob k, n, h, _ => by cases n <;> simp [nice] at h
theorem nice_goodL : ∀ {l : List A} {n : Nat}, (∀ x ∈ l, nice n x = true) → ∀ S, goodL S l = true
  | [], _, _, _ => by simp [goodL]
  | a :: l, n, h, S => by
    simp only [goodL, Bool.and_eq_true]
    exact ⟨nice_good (h a (by simp)) S, nice_goodL (fun x hx => h x (by simp [hx])) S⟩
end
mutual
theorem nice_dat : ∀ {a : A} {n : Nat}, nice n a = true → ∃ d : PyData, (∀ f, rdA f a = some d) ∧ d.canLay0 = true ∧ d.depth ≤ n
  | .tup l, n, h => by
    obtain ⟨m, e, h2⟩ := nice_tup h
    obtain ⟨ds, h3, h4, h5⟩ := nice_datL h2
    refine ⟨.tuple ds, fun f => by rw [rdA, h3 f]; rfl, by rw [PyData.canLay0]; exact h4, ?_⟩
    rw [PyData.depth]
    omega
  | .non, _, _ => ⟨.none, fun f => by rw [rdA], by rw [PyData.canLay0], by rw [PyData.depth]; omega⟩
  | .bl b, _, _ => ⟨.bool b, fun f => by rw [rdA], by rw [PyData.canLay0], by rw [PyData.depth]; omega⟩
  | .int i, _, _ => ⟨.int i, fun f => by rw [rdA], by rw [PyData.canLay0], by rw [PyData.depth]; omega⟩
  | .str x, n, h => by
    have h : niceS x = true := by cases n <;> simpa [nice] using h
    simp only [niceS, Bool.and_eq_true] at h
    exact ⟨.str x, fun f => by rw [rdA], by rw [PyData.canLay0]; exact h.2, by rw [PyData.depth]; omega⟩
  | .ob k, n, h => by cases n <;> simp [nice] at h
theorem nice_datL : ∀ {l : List A} {n : Nat}, (∀ x ∈ l, nice n x = true) → ∃ ds : List PyData, (∀ f, rdL f l = some ds) ∧ PyData.canLayAll0 ds = true ∧ PyData.depthAll ds ≤ n
  | [], _, _ => ⟨[], fun f => by rw [rdL], by rw [PyData.canLayAll0], by rw [PyData.depthAll]; omega⟩
  | a :: l, n, h => by
    obtain ⟨d, h1, h2, h3⟩ := nice_dat (h a (by simp))
    obtain ⟨ds, h4, h5, h6⟩ := nice_datL (l := l) (n := n) fun x hx => h x (by simp [hx])
    refine ⟨d :: ds, fun f => by rw [rdL, h1 f, h4 f], by rw [PyData.canLayAll0, h2, h5]; rfl, ?_⟩
    rw [PyData.depthAll]
    omega
end
theorem vEq_same {a : A} {n : Nat} (h : nice n a = true) (hn : n ≤ 60) (S : Sto) : vEq a a S = .ok (.bl true) S := by
  cases hs : isScal a a with
  | true =>
    cases a with
    | str x => simp [vEq]
    | int x => simp [vEq]
    | bl x => simp [vEq]
    | _ => cases hs
  | false =>
    obtain ⟨d, h1, h2, h3⟩ := nice_dat h
    have e : dat S a = some d := h1 _
    have sh : SeqAt.shaped d = true := by
      unfold SeqAt.shaped
      rw [h2]
      simp
      omega
    rw [vEq_data hs, e]
    simp [sh, SeqAt.eqv_refl d h2]
end Sx

set_option Elab.async false
set_option linter.all false
set_option maxRecDepth 100000
set_option maxHeartbeats 1000000
namespace Sx
open PySem PySem.Spec PyProof.Rows L2
/-! ### hearers, plainly -/
def isIn (x : A) (lo hi : Int) : Bool := match x with
  | .int i => decide (lo ≤ i) && decide (i ≤ hi)
  | _ => false
abbrev smallS : Str := "abcdefghijklmnopqrstuvwxyz"
def isWordS (x : Str) : Bool := decide (1 ≤ x.length) && decide (x.length ≤ 6) && x.cps.toList.all fun c => decide (c ∈ smallS.cps.toList)
def isWord : A → Bool
  | .str x => isWordS x
  | _ => false
/-- a sign that is none of SMALL -/
def badSign (z : Str) : A → Bool
  | .str x => !decide (x.cps.toList.getD 0 0 ∈ z.cps.toList)
  | _ => false
theorem badSign_empty (z x : Str) : ((signs x).filter (badSign z)).isEmpty = x.cps.toList.all fun c => decide (c ∈ z.cps.toList) := by
  unfold signs
  induction x.cps.toList with
  | nil => rfl
  | cons c l ih =>
    rw [List.map_cons, List.filter_cons, List.all_cons]
    by_cases h : c ∈ z.cps.toList
    · have e : badSign z (.str ⟨#[c]⟩) = false := by
        unfold badSign
        simpa using h
      rw [e, if_neg (by decide), ih]
      simp [h]
    · have e : badSign z (.str ⟨#[c]⟩) = true := by
        unfold badSign
        simpa using h
      rw [e, if_pos rfl]
      simp at h
      simp [h]
theorem isWord_bad {x : Str} (h1 : 1 ≤ x.length) (h2 : x.length ≤ 6) : isWord (.str x) = ((signs x).filter (badSign smallS)).isEmpty := by
  rw [badSign_empty, isWord, isWordS, decide_eq_true h1, decide_eq_true h2]
  rfl
def isTest (x : A) : Bool := match x with
  | .tup (.str s :: r) => if s = "any" then r.isEmpty else (decide (s = "over") || decide (s = "under")) && (match r with
    | [v] => isIn v 0 9999
    | _ => false)
  | _ => false
def fitT (x : A) (v : Int) : Bool := match x with
  | .tup [.str s, .int n] => if s = "over" then decide (n < v) else decide (v < n)
  | _ => true
def isHow : A → Bool
  | .str x => decide (x = "always") || decide (x = "once")
  | _ => false
def isDeedW (h : A → Bool) : A → Bool
  | .tup (.str s :: r) =>
    if s = "stop" ∨ s = "done" then r.isEmpty
    else if s = "tell" then (match r with
      | [a, b] => isWord a && isIn b 0 9999
      | _ => false)
    else if s = "leave" then (match r with
      | [a] => isWord a
      | _ => false)
    else decide (s = "join") && (match r with
      | [a] => h a
      | _ => false)
  | _ => false
def isHrW (d : A → Bool) : A → Bool
  | .tup [o, t, r, h, ts, .tup ds] => isWord o && isWord t && isIn r 0 9 && isHow h && isTest ts && decide (ds.length ≤ 3) && ds.all d
  | _ => false
def isHr : Nat → A → Bool
  | 0, _ => false
  | n + 1, a => isHrW (isDeedW (isHr n)) a
/-! nice -/
theorem cps_small {c : Nat} (h : c ∈ smallS.cps.toList) : c < 0x110000 := by
  have : ∀ c ∈ smallS.cps.toList, c < 0x110000 := by decide +kernel
  exact this c h
theorem niceS_word {x : Str} (h : isWordS x = true) : niceS x = true := by
  unfold isWordS at h
  simp only [Bool.and_eq_true, decide_eq_true_eq, List.all_eq_true] at h
  unfold niceS PyData.strOk
  simp only [Bool.and_eq_true, decide_eq_true_eq]
  refine ⟨by omega, ?_⟩
  rw [← Array.all_toList, List.all_eq_true]
  intro c hc
  simp only [decide_eq_true_eq]
  exact cps_small (h.2 c hc)
theorem nice_str {n : Nat} {x : Str} (h : niceS x = true) : nice n (.str x) = true := by cases n <;> exact h
theorem nice_int {n : Nat} {x : Int} : nice n (.int x) = true := by cases n <;> rfl
theorem nice_bl {n : Nat} {x : Bool} : nice n (.bl x) = true := by cases n <;> rfl
theorem nice_non {n : Nat} : nice n .non = true := by cases n <;> rfl
theorem nice_tupI {n : Nat} {l : List A} (h : ∀ x ∈ l, nice n x = true) : nice (n + 1) (.tup l) = true := by
  show l.all (nice n) = true
  exact List.all_eq_true.mpr h
theorem nice_word {n : Nat} {a : A} (h : isWord a = true) : nice n a = true := by
  cases a with
  | str x => exact nice_str (niceS_word h)
  | _ => cases h
theorem nice_in {n : Nat} {a : A} {lo hi : Int} (h : isIn a lo hi = true) : nice n a = true := by
  cases a with
  | int x => exact nice_int
  | _ => cases h
theorem nice_how {n : Nat} {a : A} (h : isHow a = true) : nice n a = true := by
  cases a with
  | str x =>
    refine nice_str ?_
    unfold isHow at h
    simp only [Bool.or_eq_true, decide_eq_true_eq] at h
    rcases h with h | h <;> subst h <;> decide +kernel
  | _ => cases h
theorem nice_test {n : Nat} {a : A} (h : isTest a = true) : nice (n + 1) a = true := by
  unfold isTest at h
  split at h
  · rename_i s r
    split at h
    · rename_i hs
      have : r = [] := by simpa using h
      subst this hs
      refine nice_tupI fun x hx => ?_
      simp at hx
      subst hx
      exact nice_str (by decide +kernel)
    · simp only [Bool.and_eq_true, Bool.or_eq_true, decide_eq_true_eq] at h
      obtain ⟨h1, h2⟩ := h
      split at h2
      · refine nice_tupI fun x hx => ?_
        simp at hx
        rcases hx with hx | hx
        · subst hx
          rcases h1 with h1 | h1 <;> subst h1 <;> exact nice_str (by decide +kernel)
        · subst hx
          exact nice_in h2
      · cases h2
  · cases h
theorem nice_deed {n : Nat} {hf : A → Bool} (ih : ∀ a, hf a = true → nice n a = true) {a : A} (h : isDeedW hf a = true) : nice (n + 1) a = true := by
  unfold isDeedW at h
  split at h
  · rename_i s r
    split at h
    · rename_i hs
      have : r = [] := by simpa using h
      subst this
      refine nice_tupI fun x hx => ?_
      simp at hx
      subst hx
      rcases hs with hs | hs <;> subst hs <;> exact nice_str (by decide +kernel)
    · split at h
      · rename_i hs
        subst hs
        split at h
        · simp only [Bool.and_eq_true] at h
          refine nice_tupI fun x hx => ?_
          simp at hx
          rcases hx with hx | hx | hx <;> subst hx
          · exact nice_str (by decide +kernel)
          · exact nice_word h.1
          · exact nice_in h.2
        · cases h
      · split at h
        · rename_i hs
          subst hs
          split at h
          · refine nice_tupI fun x hx => ?_
            simp at hx
            rcases hx with hx | hx <;> subst hx
            · exact nice_str (by decide +kernel)
            · exact nice_word h
          · cases h
        · simp only [Bool.and_eq_true, decide_eq_true_eq] at h
          obtain ⟨hs, h⟩ := h
          subst hs
          split at h
          · refine nice_tupI fun x hx => ?_
            simp at hx
            rcases hx with hx | hx <;> subst hx
            · exact nice_str (by decide +kernel)
            · exact ih _ h
          · cases h
  · cases h
theorem isHrW_cases {d : A → Bool} {a : A} (h : isHrW d a = true) : ∃ o t r w ts ds, a = .tup [o, t, r, w, ts, .tup ds] ∧ isWord o = true ∧ isWord t = true ∧ isIn r 0 9 = true ∧ isHow w = true ∧ isTest ts = true ∧ ds.length ≤ 3 ∧ ∀ x ∈ ds, d x = true := by
  unfold isHrW at h
  split at h
  · simp only [Bool.and_eq_true, decide_eq_true_eq, List.all_eq_true] at h
    obtain ⟨⟨⟨⟨⟨⟨h1, h2⟩, h3⟩, h4⟩, h5⟩, h6⟩, h7⟩ := h
    exact ⟨_, _, _, _, _, _, rfl, h1, h2, h3, h4, h5, h6, h7⟩
  · cases h
theorem nice_hr : ∀ {n : Nat} {a : A}, isHr n a = true → nice (3 * n) a = true
  | 0, a, h => by cases h
  | n + 1, a, h => by
    obtain ⟨o, t, r, w, ts, ds, e, h1, h2, h3, h4, h5, h6, h7⟩ := isHrW_cases h
    subst e
    have e : 3 * (n + 1) = (3 * n + 2) + 1 := by omega
    rw [e]
    refine nice_tupI fun x hx => ?_
    simp at hx
    rcases hx with hx | hx | hx | hx | hx | hx <;> subst hx
    · exact nice_word h1
    · exact nice_word h2
    · exact nice_in h3
    · exact nice_how h4
    · exact nice_test h5
    · exact nice_tupI fun x hx => nice_deed (fun a => nice_hr) (h7 x hx)
theorem isHr_succ : ∀ {n : Nat} {a : A}, isHr n a = true → isHr (n + 1) a = true
  | 0, a, h => by cases h
  | n + 1, a, h => by
    obtain ⟨o, t, r, w, ts, ds, e, h1, h2, h3, h4, h5, h6, h7⟩ := isHrW_cases h
    subst e
    show isHrW (isDeedW (isHr (n + 1))) _ = true
    unfold isHrW
    simp only [h1, h2, h3, h4, h5, h6, Bool.and_true, decide_true, Bool.true_and, List.all_eq_true]
    intro x hx
    have := h7 x hx
    unfold isDeedW at this ⊢
    split at this
    · split
      · rename_i hs; rw [if_pos hs] at this; exact this
      · rename_i hs
        rw [if_neg hs] at this
        split
        · rename_i hs2; rw [if_pos hs2] at this; exact this
        · rename_i hs2
          rw [if_neg hs2] at this
          split
          · rename_i hs3; rw [if_pos hs3] at this; exact this
          · rename_i hs3
            rw [if_neg hs3] at this
            simp only [Bool.and_eq_true] at this ⊢
            refine ⟨this.1, ?_⟩
            have t2 := this.2
            split at t2
            · exact isHr_succ t2
            · cases t2
    · cases this
/-! ### the laws' own making of hearers -/
def cellOf (ns : List Int) (k : Int) : Int := ns.getD k.toNat 0
def seedOf (s k : Int) : Int := ((s * 1103515245 + 7919 * k + 12345) % 2147483647) ^ 5 % 2147483647
def pickOf (s m : Int) : Int := s / 97 % m
def letterOf (i : Int) : Nat := smallS.cps.toList.getD i.toNat 97
def wordOf (s : Int) : Str := if 0 < s / 5 % 6 then (["a", "b", "c", "news", "log"] : List Str).getD (pickOf s 5).toNat "a" else
  ⟨((List.range (1 + s / 7 % 6).toNat).map fun k => letterOf (pickOf (seedOf s (k : Nat)) 26)).toArray⟩
def rankOf (s : Int) : Int := if pickOf (seedOf s 7) 3 = 0 then seedOf s 2 / 7 % 10 else 3
def howOf (s : Int) : Str := if pickOf (seedOf s 6) 3 = 2 then "once" else "always"
def testOf (s : Int) : A := ([.tup [.str "any"], .tup [.str "any"], .tup [.str "over", .int (seedOf s 4 / 7 % 10000)], .tup [.str "under", .int (seedOf s 4 / 7 % 10000)]] : List A).getD (pickOf (seedOf s 3) 4).toNat .non
def manyOf (s : Int) : Int := ([0, 1, 2, 3, 1] : List Int).getD (pickOf (seedOf s 5) 5).toNat 0
def hrW (d : Int → A) (s : Int) : A := .tup [.str (wordOf (seedOf s 0)), .str (wordOf (seedOf s 1)), .int (rankOf s), .str (howOf s), testOf s, .tup ((List.range (manyOf s).toNat).map fun k => d (seedOf s (10 + (k : Nat))))]
def lastDeed (s : Int) : A := if pickOf s 9 % 3 = 0 then .tup [.str "leave", .str (wordOf (seedOf s 3))] else if pickOf s 9 % 3 = 1 then .tup [.str "stop"] else .tup [.str "done"]
def tellVal (s : Int) : Int := if s / 11 % 3 = 0 then 0 else if s / 11 % 3 = 1 then 1 else s / 7 % 10000
def deedW (deep : Int) (h : Int → A) (s : Int) : A :=
  if pickOf s 9 < 4 then .tup [.str "tell", .str (wordOf (seedOf s 1)), .int (tellVal s)]
  else if pickOf s 9 < 6 ∧ 1 < deep then .tup [.str "join", h (seedOf s 2)]
  else lastDeed s
def hrG : Nat → Int → A
  | 0, _ => .non
  | n + 1, s => hrW (deedW ((n + 1 : Nat) : Int) (hrG n)) s
theorem emod_lt' {a b : Int} (h : 0 < b) : 0 ≤ a % b ∧ a % b < b := ⟨Int.emod_nonneg _ (by omega), Int.emod_lt_of_pos _ h⟩
theorem letter_small {i : Int} : letterOf i ∈ smallS.cps.toList := by
  unfold letterOf
  by_cases h : i.toNat < smallS.cps.toList.length
  · rw [List.getD_eq_getElem?_getD, List.getElem?_eq_getElem h]
    exact List.getElem_mem h
  · rw [List.getD_eq_getElem?_getD, List.getElem?_eq_none (by omega)]
    decide +kernel
theorem word_ok (s : Int) : isWordS (wordOf s) = true := by
  unfold wordOf
  split
  · obtain ⟨h1, h2⟩ := emod_lt' (a := s / 97) (b := 5) (by decide)
    have e : ∀ k : Nat, k < 5 → isWordS ((["a", "b", "c", "news", "log"] : List Str).getD k "a") = true := by decide +kernel
    exact e _ (by unfold pickOf; omega)
  · obtain ⟨h1, h2⟩ := emod_lt' (a := s / 7) (b := 6) (by decide)
    unfold isWordS Str.length
    simp only [Bool.and_eq_true, decide_eq_true_eq, List.all_eq_true]
    refine ⟨⟨?_, ?_⟩, ?_⟩
    · simp; omega
    · simp; omega
    · intro c hc
      simp at hc
      obtain ⟨k, _, rfl⟩ := hc
      exact letter_small
theorem test_ok (s : Int) : isTest (testOf s) = true := by
  unfold testOf
  obtain ⟨h1, h2⟩ := emod_lt' (a := seedOf s 3 / 97) (b := 4) (by decide)
  obtain ⟨h3, h4⟩ := emod_lt' (a := seedOf s 4 / 7) (b := 10000) (by decide)
  have h5 : (pickOf (seedOf s 3) 4).toNat < 4 := by unfold pickOf; omega
  generalize (pickOf (seedOf s 3) 4).toNat = k at h5 ⊢
  generalize seedOf s 4 / 7 % 10000 = v at h3 h4 ⊢
  have h6 : v ≤ 9999 := by omega
  have e1 : ¬ (("over" : Str) = "any") := by decide
  have e2 : ¬ (("under" : Str) = "any") := by decide
  match k, h5 with
  | 0, _ => rfl
  | 1, _ => rfl
  | 2, _ => simp [isTest, isIn, h3, h6, e1]
  | 3, _ => simp [isTest, isIn, h3, h6, e2]
theorem how_ok (s : Int) : isHow (.str (howOf s)) = true := by
  unfold howOf
  split <;> decide +kernel
theorem isIn_int {i lo hi : Int} (h1 : lo ≤ i) (h2 : i ≤ hi) : isIn (.int i) lo hi = true := by simp [isIn, h1, h2]
theorem rank_ok (s : Int) : isIn (.int (rankOf s)) 0 9 = true := by
  unfold rankOf
  split
  · obtain ⟨h1, h2⟩ := emod_lt' (a := seedOf s 2 / 7) (b := 10) (by decide)
    exact isIn_int h1 (by omega)
  · decide
theorem many_ok (s : Int) : 0 ≤ manyOf s ∧ manyOf s ≤ 3 := by
  obtain ⟨h1, h2⟩ := emod_lt' (a := seedOf s 5 / 97) (b := 5) (by decide)
  have h5 : (pickOf (seedOf s 5) 5).toNat < 5 := by unfold pickOf; omega
  unfold manyOf
  generalize (pickOf (seedOf s 5) 5).toNat = k at h5 ⊢
  match k, h5 with
  | 0, _ => decide
  | 1, _ => decide
  | 2, _ => decide
  | 3, _ => decide
  | 4, _ => decide
theorem deed_ok {n : Nat} {h : Int → A} {hf : A → Bool} (hh : 1 < n → ∀ s, hf (h s) = true) (s : Int) : isDeedW hf (deedW (n : Int) h s) = true := by
  have e1 : ¬ (("tell" : Str) = "stop" ∨ ("tell" : Str) = "done") := by decide
  have e2 : ¬ (("join" : Str) = "stop" ∨ ("join" : Str) = "done") := by decide
  have e3 : ¬ (("join" : Str) = "tell") := by decide
  have e4 : ¬ (("join" : Str) = "leave") := by decide
  have e5 : ¬ (("leave" : Str) = "stop" ∨ ("leave" : Str) = "done") := by decide
  have e6 : ¬ (("leave" : Str) = "tell") := by decide
  unfold deedW
  split
  · have : isIn (.int (tellVal s)) 0 9999 = true := by
      unfold tellVal
      split
      · decide
      · split
        · decide
        · obtain ⟨h1, h2⟩ := emod_lt' (a := s / 7) (b := 10000) (by decide)
          exact isIn_int h1 (by omega)
    unfold isDeedW
    dsimp only
    rw [if_neg e1, if_pos rfl, this, isWord, word_ok]
    rfl
  · split
    · rename_i hd
      unfold isDeedW
      dsimp only
      rw [if_neg e2, if_neg e3, if_neg e4, hh (by omega)]
      rfl
    · unfold lastDeed
      split
      · unfold isDeedW
        dsimp only
        rw [if_neg e5, if_neg e6, if_pos rfl, isWord, word_ok]
      · split <;> (unfold isDeedW; rfl)
theorem hr_ok : ∀ (n : Nat), 0 < n → ∀ s, isHr n (hrG n s) = true
  | n + 1, _, s => by
    obtain ⟨m1, m2⟩ := many_ok s
    show isHrW (isDeedW (isHr n)) (hrW (deedW ((n + 1 : Nat) : Int) (hrG n)) s) = true
    unfold isHrW hrW
    simp only [isWord, word_ok, rank_ok, how_ok, test_ok, Bool.and_true, Bool.true_and, Bool.and_eq_true, decide_eq_true_eq, List.all_eq_true]
    refine ⟨by simp; omega, fun x hx => ?_⟩
    obtain ⟨k, _, rfl⟩ := List.mem_map.mp hx
    exact deed_ok (fun hn s => hr_ok n (by omega) s) _
end Sx

set_option Elab.async false
set_option linter.all false
set_option maxRecDepth 100000
set_option maxHeartbeats 1000000
namespace Sx
open PySem PySem.Spec PyProof.Rows L2
/-- one statement after the other -/
theorem seq_step {q1 q2 : GS} {ρ ρ1 : Ro} {S S1 : Sto} {z : RS} (h : q1 ρ S = .nx ρ1 S1) (h2 : q2 ρ1 S1 = z) : gSeq q1 q2 ρ S = z := by
  unfold gSeq
  rw [h]
  exact h2
/-! ### places behind a store's end -/
theorem get_off {S E : Sto} (k : Nat) : (S ++ E)[S.length + k]? = E[k]? := by
  rw [List.getElem?_append_right (by omega)]
  congr 1
  omega
theorem get_off0 {S E : Sto} : (S ++ E)[S.length]? = E[0]? := get_off 0
theorem items_off {S E : Sto} (k : Nat) : itemsAt (S ++ E) (S.length + k) = itemsAt E k := by
  unfold itemsAt
  rw [get_off]
theorem items_off0 {S E : Sto} : itemsAt (S ++ E) S.length = itemsAt E 0 := items_off 0
theorem set_off {S E : Sto} (k : Nat) (o : O) : (S ++ E).set (S.length + k) o = S ++ E.set k o := by
  rw [List.set_append_right _ _ (by omega)]
  congr 2
  omega
theorem set_off0 {S E : Sto} (o : O) : (S ++ E).set S.length o = S ++ E.set 0 o := set_off 0 o
theorem itemsAt_c0 (o : O) (E : Sto) : itemsAt (o :: E) 0 = o.items := rfl
theorem itemsAt_cs (o : O) (E : Sto) (k : Nat) : itemsAt (o :: E) (k + 1) = itemsAt E k := rfl
theorem items_lst (xs : List A) : (O.lst xs).items = some xs := rfl
theorem vIx_obE (n : Nat) (i : Int) (S : Sto) : vIx (.ob n) (.int i) S = (match itemsAt S n with
    | some xs => (match L2.atI xs i with
      | some x => RE.ok x S
      | none => .stuck)
    | none => .stuck) := rfl
theorem vIx_tupE (l : List A) (i : Int) (S : Sto) : vIx (.tup l) (.int i) S = (match L2.atI l i with
      | some x => RE.ok x S
      | none => .stuck) := rfl
theorem vIx_strE (x : Str) (i : Int) (S : Sto) : vIx (.str x) (.int i) S = (match L2.atI x.cps.toList i with
    | some c => if x.length ≤ 4000000 then RE.ok (.str ⟨#[c]⟩) S else .stuck
    | none => .stuck) := rfl
section
variable {α : Type} (a0 a1 a2 a3 a4 a5 a6 a7 : α) (l : List α)
theorem at0 : L2.atI (a0 :: l) (0 : Int) = some a0 := L2.atI_nat (j := 0) rfl
theorem at1 : L2.atI (a0 :: a1 :: l) (1 : Int) = some a1 := L2.atI_nat (j := 1) rfl
theorem at2 : L2.atI (a0 :: a1 :: a2 :: l) (2 : Int) = some a2 := L2.atI_nat (j := 2) rfl
theorem at3 : L2.atI (a0 :: a1 :: a2 :: a3 :: l) (3 : Int) = some a3 := L2.atI_nat (j := 3) rfl
theorem at4 : L2.atI (a0 :: a1 :: a2 :: a3 :: a4 :: l) (4 : Int) = some a4 := L2.atI_nat (j := 4) rfl
theorem at5 : L2.atI (a0 :: a1 :: a2 :: a3 :: a4 :: a5 :: l) (5 : Int) = some a5 := L2.atI_nat (j := 5) rfl
theorem at6 : L2.atI (a0 :: a1 :: a2 :: a3 :: a4 :: a5 :: a6 :: l) (6 : Int) = some a6 := L2.atI_nat (j := 6) rfl
theorem at7 : L2.atI (a0 :: a1 :: a2 :: a3 :: a4 :: a5 :: a6 :: a7 :: l) (7 : Int) = some a7 := L2.atI_nat (j := 7) rfl
end
theorem atI_getD {α : Type} {xs : List α} {i : Int} (d : α) (h0 : 0 ≤ i) (h1 : i < xs.length) : L2.atI xs i = some (xs.getD i.toNat d) := by
  have e : i = ((i.toNat : Nat) : Int) := by omega
  have ex : i.toNat < xs.length := by omega
  have := L2.atI_nat (xs := xs) (j := i.toNat) (v := xs[i.toNat]) (by simp [ex])
  rw [← e] at this
  rw [this]
  simp [ex]
theorem pick_lt (s : Int) {m : Int} (h : 0 < m) : 0 ≤ pickOf s m ∧ pickOf s m < m := emod_lt' h
mutual
theorem nice_bel : ∀ {a : A} {n : Nat}, nice n a = true → ∀ m, Bel m a
  | .tup l, n, h, m => by
    obtain ⟨k, _, h2⟩ := nice_tup h
    exact .tup (nice_belL h2 m)
  | .non, _, _, _ => .non
  | .bl _, _, _, _ => .bl _
  | .int _, _, _, _ => .int _
  | .str _, _, _, _ => .str _
  | .ob k, n, h, _ => by cases n <;> simp [nice] at h
theorem nice_belL : ∀ {l : List A} {n : Nat}, (∀ x ∈ l, nice n x = true) → ∀ m, ∀ x, x ∈ l → Bel m x
  | [], _, _, _, _, hx => by cases hx
  | a :: l, n, h, m, x, hx => by
    rcases List.mem_cons.mp hx with e | e
    · rw [e]; exact nice_bel (h a (by simp)) m
    · exact nice_belL (l := l) (n := n) (fun y hy => h y (by simp [hy])) m x e
end
theorem nice_mono : ∀ {n : Nat} {a : A}, nice n a = true → ∀ m, n ≤ m → nice m a = true
  | 0, a, h, m, _ => by cases a <;> first | (cases m <;> exact h) | (cases h)
  | n + 1, a, h, m, hm => by
    cases a with
    | tup l =>
      obtain ⟨k, e, h2⟩ := nice_tup h
      cases e
      cases m with
      | zero => omega
      | succ m => exact nice_tupI fun x hx => nice_mono (h2 x hx) m (by omega)
    | _ => cases m <;> exact h
theorem hr_bel {n : Nat} (hn : 0 < n) (s : Int) (m : Nat) : Bel m (hrG n s) := nice_bel (nice_hr (hr_ok n hn s)) m
theorem isHr_cases {n : Nat} {a : A} (h : isHr (n + 1) a = true) : ∃ o t r w ts ds, a = .tup [o, t, r, w, ts, .tup ds] ∧ isWord o = true ∧ isWord t = true ∧ isIn r 0 9 = true ∧ isHow w = true ∧ isTest ts = true ∧ ds.length ≤ 3 ∧ ∀ x ∈ ds, isDeedW (isHr n) x = true := isHrW_cases h
/-- a made hearer, forgotten -/
theorem hr_made (n : Nat) (s : Int) : ∃ a, hrG (n + 1) s = a ∧ isHr (n + 1) a = true := ⟨_, rfl, hr_ok (n + 1) (by omega) s⟩
/-- the signs of a range, one by one, joined -/
theorem join_one (f : Nat → Nat) (l : List Nat) : Str.join "" (l.map fun k => (⟨#[f k]⟩ : Str)) = ⟨(l.map f).toArray⟩ := by
  have e : TL.tl (Str.join "" (l.map fun k => (⟨#[f k]⟩ : Str))) = l.map f := by
    rw [TL.tl_join]
    induction l with
    | nil => rfl
    | cons a l ih =>
      cases l with
      | nil => rfl
      | cons b l => exact congrArg (f a :: ·) ih
  generalize Str.join "" (l.map fun k => (⟨#[f k]⟩ : Str)) = z at e
  obtain ⟨c⟩ := z
  congr 1
  apply Array.ext'
  simpa using e
theorem word_long {s : Int} (h : ¬ 0 < s / 5 % 6) : wordOf s = Str.join "" ((List.range (1 + s / 7 % 6).toNat).map fun (k : Nat) => (⟨#[letterOf (pickOf (seedOf s (k : Int)) 26)]⟩ : Str)) := by
  rw [join_one (fun (k : Nat) => letterOf (pickOf (seedOf s (k : Int)) 26)), wordOf, if_neg h]
theorem vMul_l (i j : Int) (S : Sto) (h : -18446744073709551616 < i ∧ i < 18446744073709551616) : vMul (.int i) (.int j) S = .ok (.int (i * j)) S := by
  show (if _ then RE.ok (.int (i * j)) S else .stuck) = _
  exact if_pos (.inl h)
theorem vMul_r (i j : Int) (S : Sto) (h : -18446744073709551616 < j ∧ j < 18446744073709551616) : vMul (.int i) (.int j) S = .ok (.int (i * j)) S := by
  show (if _ then RE.ok (.int (i * j)) S else .stuck) = _
  exact if_pos (.inr h)
theorem sum_ones : ∀ n : Nat, ((List.range n).map fun _ => 1).sum = n
  | 0 => rfl
  | n + 1 => by rw [List.range_succ, List.map_append, List.sum_append, sum_ones n]; rfl
def sds (s : Int) : List A := [.int (seedOf s 0), .int (seedOf s 1), .int (seedOf s 2), .int (seedOf s 3), .int (seedOf s 4), .int (seedOf s 5), .int (seedOf s 6), .int (seedOf s 7)]
end Sx

set_option Elab.async false
set_option linter.all false
set_option maxRecDepth 100000
set_option maxHeartbeats 1000000
namespace Sx
open PySem PySem.Spec PyProof.Rows L2
/-! ### dicts with keys ints and texts -/
def keyA : A → Option Key
  | .int i => some (.inl i)
  | .str x => some (.inr x)
  | _ => none
section
variable {κ : Type} [DecidableEq κ]
def valA (kvs : List (κ × A)) (k : κ) : Option A := (kvs.find? fun kv => decide (kv.1 = k)).map (·.2)
def putD (kvs : List (κ × A)) (k : κ) (v : A) : List (κ × A) :=
  if (kvs.any fun kv => decide (kv.1 = k)) = true then kvs.map (fun kv => if kv.1 = k then (kv.1, v) else kv) else kvs ++ [(k, v)]
variable {K : Frg} {H : Hp} {as : List Addr}
theorem RelKV.val {x : List (κ × A)} {y : List (κ × V)} (h : RelKV K H as x y) (k : κ) : (valA x k = none ∧ valV y k = none) ∨ ∃ a v, valA x k = some a ∧ valV y k = some v ∧ RelA K H as a v := by
  induction h with
  | nil => exact .inl ⟨rfl, rfl⟩
  | @cons k0 a v l m h1 h2 ih =>
    by_cases hk : k0 = k
    · exact .inr ⟨a, v, by simp [valA, List.find?_cons, hk], by simp [valV, List.find?_cons, hk], h1⟩
    · have e1 : valA ((k0, a) :: l) k = valA l k := by simp [valA, List.find?_cons, hk]
      have e2 : valV ((k0, v) :: m) k = valV m k := by simp [valV, List.find?_cons, hk]
      rw [e1, e2]
      exact ih
theorem RelKV.anyK {x : List (κ × A)} {y : List (κ × V)} (h : RelKV K H as x y) (k : κ) : (x.any fun kv => decide (kv.1 = k)) = (y.any fun kv => decide (kv.1 = k)) := by
  induction h with
  | nil => rfl
  | cons _ _ ih => rw [List.any_cons, List.any_cons, ih]
theorem RelKV.append {x x' : List (κ × A)} {y y' : List (κ × V)} (h : RelKV K H as x y) (g : RelKV K H as x' y') : RelKV K H as (x ++ x') (y ++ y') := by
  induction h with
  | nil => exact g
  | cons h1 _ ih => exact .cons h1 ih
theorem RelKV.upd {x : List (κ × A)} {y : List (κ × V)} (h : RelKV K H as x y) (k : κ) {a : A} {v : V} (r : RelA K H as a v) : RelKV K H as (x.map fun kv => if kv.1 = k then (kv.1, a) else kv) (y.map fun kv => if kv.1 = k then (kv.1, v) else kv) := by
  induction h with
  | nil => exact .nil
  | @cons k0 b w l m h1 h2 ih =>
    rw [List.map_cons, List.map_cons]
    by_cases hk : k0 = k
    · rw [if_pos hk, if_pos hk]; exact .cons r ih
    · rw [if_neg hk, if_neg hk]; exact .cons h1 ih
theorem RelKV.putD {x : List (κ × A)} {y : List (κ × V)} (h : RelKV K H as x y) (k : κ) {a : A} {v : V} (r : RelA K H as a v) : RelKV K H as (Sx.putD x k a) (putK y k v) := by
  unfold Sx.putD putK
  rw [h.anyK k]
  split
  · exact h.upd k r
  · exact h.append (.cons r .nil)
end
def dicAt (S : Sto) : A → Option (Nat × List (Key × A))
  | .ob n => (match S[n]? with
    | some (.dic kvs) => some (n, kvs)
    | _ => none)
  | _ => none
theorem dicAt_some {S : Sto} {a : A} {n : Nat} {kvs : List (Key × A)} (h : dicAt S a = some (n, kvs)) : a = .ob n ∧ S[n]? = some (.dic kvs) := by
  unfold dicAt at h
  cases a with
  | ob m =>
    dsimp only at h
    split at h
    · rename_i l e
      cases h
      exact ⟨rfl, e⟩
    · cases h
  | _ => cases h
theorem keyA_rel {K : Frg} {H : Hp} {as : List Addr} {a : A} {v : V} {k : Key} (h : keyA a = some k) (r : RelA K H as a v) : v = kV k := by
  cases r <;> cases h <;> rfl
/-- d[k], k in d, k not in d -/
def vDget : A → A → Sto → RE := fun d k S => match dicAt S d, keyA k with
  | some (_, kvs), some k => (match valA kvs k with
    | some v => .ok v S
    | none => .stuck)
  | _, _ => .stuck
def vDin : A → A → Sto → RE := fun k d S => match dicAt S d, keyA k with
  | some (_, kvs), some k => .ok (.bl (valA kvs k).isSome) S
  | _, _ => .stuck
def vDnotin : A → A → Sto → RE := fun k d S => match dicAt S d, keyA k with
  | some (_, kvs), some k => .ok (.bl (!(valA kvs k).isSome)) S
  | _, _ => .stuck
/-- d[k] = v: the store behind it -/
def dput (S : Sto) (d k v : A) : Option Sto := match dicAt S d, keyA k with
  | some (n, kvs), some k => if kvs.length < 4000000 then some (S.set n (.dic (putD kvs k v))) else none
  | _, _ => none
def gDput (go gi gv : GE) : GS := fun ρ S => (gv ρ S).bindS ρ fun v S1 => (go ρ S1).bindS ρ fun d S2 => (gi ρ S2).bindS ρ fun k S3 => match dput S3 d k v with
  | some S4 => .nx ρ S4
  | none => .stuck
/-- d[k] op= v -/
def gDaug (r : A → A → Sto → RE) (go gi gv : GE) : GS := fun ρ S => (go ρ S).bindS ρ fun d S1 => (gi ρ S1).bindS ρ fun k S2 => ((vDget d k S2).nox).bindS ρ fun x S3 => (gv ρ S3).bindS ρ fun y S4 => ((r x y S4).nox).bindS ρ fun z S5 => match dput S5 d k z with
  | some S6 => .nx ρ S6
  | none => .stuck
/-- d.get(k, x) -/
def gDgetD (go gi gx : GE) : GE := fun ρ S => (go ρ S).bind fun d S1 => match dicAt S1 d with
  | some _ => (gi ρ S1).bind fun k S2 => (gx ρ S2).bind fun x S3 => (match dicAt S3 d, keyA k with
    | some (_, kvs), some k => .ok ((valA kvs k).getD x) S3
    | _, _ => .stuck)
  | none => .stuck
def gDnew : GE := fun _ S => .ok (.ob S.length) (S ++ [.dic []])
section
variable {K : Frg} {T : Tbs} {H : Hp} {as : List Addr} {S : Sto}
theorem Rel.dic (r : Rel K T S as H) {d : A} {n : Nat} {kvs : List (Key × A)} {x : V} (h : dicAt S d = some (n, kvs)) (rd : RelA K H as d x) : ∃ a kv, x = .ref a ∧ d = .ob n ∧ as[n]? = some a ∧ S[n]? = some (.dic kvs) ∧ H a = some (.dK kv) ∧ RelKV K H as kvs kv := by
  obtain ⟨e, hs⟩ := dicAt_some h
  subst e
  cases rd with
  | ob ea =>
    obtain ⟨kv, h1, h2⟩ := r.obj _ _ _ hs ea
    exact ⟨_, kv, rfl, rfl, ea, hs, h1, h2⟩
theorem dget_of {kvs : List (Key × A)} {kv : List (Key × V)} {a : Addr} {k : Key} (h1 : H a = some (.dK kv)) (h2 : RelKV K H as kvs kv) : ∃ o, DGet H a (kV k) o ∧ o.isSome = (valA kvs k).isSome ∧ (∀ y v, RelA K H as y v → RelA K H as ((valA kvs k).getD y) (o.getD v)) ∧ ∀ x, valA kvs k = some x → ∃ v, o = some v ∧ RelA K H as x v := by
  rcases h2.val k with ⟨e1, e2⟩ | ⟨x, v, e1, e2, rx⟩
  · exact ⟨valV kv k, DGet.k h1, by rw [e1, e2]; rfl, fun y v ry => by rw [e1, e2]; exact ry, fun x hx => by rw [e1] at hx; cases hx⟩
  · exact ⟨valV kv k, DGet.k h1, by rw [e1, e2]; rfl, fun y w ry => by rw [e1, e2]; exact rx, fun z hz => by rw [e1] at hz; cases hz; exact ⟨v, e2, rx⟩⟩
/-- a key written -/
theorem dput_of (r : Rel K T S as H) {d k v : A} {x y z : V} {S4 : Sto} (h : dput S d k v = some S4) (rd : RelA K H as d x) (rk : RelA K H as k y) (rv : RelA K H as v z) : ∃ a H4, x = .ref a ∧ DPut H a y z H4 ∧ Le K H as H4 as ∧ Rel K T S4 as H4 := by
  unfold dput at h
  split at h
  · rename_i n kvs k' hd hk
    split at h
    · rename_i hl
      cases h
      obtain ⟨a, kv, e1, e2, ea, hs, h1, h2⟩ := r.dic hd rd
      have ek := keyA_rel hk rk
      subst e1 ek
      have kk : Kp H (L2.upd H a (.dK (putK kv k' z))) := Kp.wr h1 rfl
      exact ⟨a, _, rfl, DPut.k h1 (by rw [← h2.length]; exact sz6 hl), kk.le, r.write (o' := .dic (putD kvs k' v)) hs ea h1 rfl rfl ⟨_, upd_same, (h2.putD k' rv).mono kk.le⟩⟩
    · cases h
  · cases h
end
section
variable {X : Cx} {T : Tbs} {W : WX} {o i e f value a b : Expr} {pos pos' tpos apos cpos : Pos} {go gi gv ga gb gx : GE}
theorem u1 (hu : X.A.units + 64 < cLine) : X.A.units + 1 < cLine := by omega
theorem se_dget (hu : X.A.units + 64 < cLine) (ho : SE X T W o go) (hi : SE X T W i gi) (hs : NoSl i := by intro _ _; rfl) : SE X T W (.Subscript o i pos) (gOp vDget go gi) := pe_imp (pe_dget (u1 hu) ho hi hs) fun σ H Q ⟨ρ, S, as, rs, f⟩ => by
  refine seqE rs f fun x S1 v as1 H1 rs1 rx f1 l1 => ?_
  refine seqE rs1 f1 fun y S2 w as2 H2 rs2 ry f2 l2 => ?_
  have f3 := FinE.nox f2
  unfold vDget at f3
  split at f3
  · rename_i n kvs k hd hk
    obtain ⟨a, kv, e1, e2, ea, hs', h1, h2⟩ := rs2.rel.dic hd (rx.mono l2)
    have ek := keyA_rel hk ry
    subst e1 ek
    obtain ⟨o, g, _, _, hq⟩ := dget_of (k := k) h1 h2
    split at f3
    · rename_i z hz
      obtain ⟨v, eo, rv⟩ := hq z hz
      subst eo
      exact ⟨a, v, rfl, g, f3 v as2 H2 .refl rs2.rel rv⟩
    · exact False.elim f3
  · exact False.elim f3
theorem dinI {neg : Bool} {σ : L2.St} {H : Hp} {Q : VK} (h : tE X.K T W (gOp (fun k d S => match dicAt S d, keyA k with
  | some (_, kvs), some k => .ok (.bl (neg ^^ (valA kvs k).isSome)) S
  | _, _ => .stuck) ga gb) σ H Q) : tE X.K T W ga σ H fun y H1 => tE X.K T W gb σ H1 fun x H2 => ∃ a o, x = .ref a ∧ DGet H2 a y o ∧ Q (.bl (neg ^^ o.isSome)) H2 := by
  obtain ⟨ρ, S, as, rs, f⟩ := h
  refine seqE rs f fun y S1 w as1 H1 rs1 ry f1 l1 => ?_
  refine seqE rs1 f1 fun x S2 v as2 H2 rs2 rx f2 l2 => ?_
  have f3 := FinE.nox f2
  dsimp only at f3
  split at f3
  · rename_i n kvs k hd hk
    obtain ⟨a, kv, e1, e2, ea, hs', h1, h2⟩ := rs2.rel.dic hd rx
    have ek := keyA_rel hk (ry.mono l2)
    subst e1 ek
    obtain ⟨o, g, ho, _, hq⟩ := dget_of (k := k) h1 h2
    exact ⟨a, o, rfl, g, by rw [ho]; exact f3 _ as2 H2 .refl rs2.rel (.bl _)⟩
  · exact False.elim f3
theorem vDin_eq : vDin = fun k d S => match dicAt S d, keyA k with
  | some (_, kvs), some k => .ok (.bl (false ^^ (valA kvs k).isSome)) S
  | _, _ => .stuck := by
  funext k d S
  unfold vDin
  split <;> simp
theorem vDnotin_eq : vDnotin = fun k d S => match dicAt S d, keyA k with
  | some (_, kvs), some k => .ok (.bl (true ^^ (valA kvs k).isSome)) S
  | _, _ => .stuck := by
  funext k d S
  unfold vDnotin
  split <;> simp
theorem se_din (hu : X.A.units + 64 < cLine) (ha : SE X T W a ga) (hb : SE X T W b gb) (hm : behindInMarks .In b = false := by rfl) : SE X T W (.Compare a [.In] [b] pos) (gOp vDin ga gb) := pe_imp (pe_cmp (pc_din (u1 hu) ha hb) hm) fun σ H Q h => by
  rw [vDin_eq] at h
  have := dinI (neg := false) h
  simp only [Bool.false_xor] at this
  exact this
theorem se_dnotin (hu : X.A.units + 64 < cLine) (ha : SE X T W a ga) (hb : SE X T W b gb) (hm : behindInMarks .NotIn b = false := by rfl) : SE X T W (.Compare a [.NotIn] [b] pos) (gOp vDnotin ga gb) := pe_imp (pe_cmp (pc_dnotin (u1 hu) ha hb) hm) fun σ H Q h => by
  rw [vDnotin_eq] at h
  have := dinI (neg := true) h
  simp only [Bool.true_xor] at this
  exact this
theorem st_din (hu : X.A.units + 64 < cLine) (ha : SE X T W a ga) (hb : SE X T W b gb) (hm : behindInMarks .In b = false := by rfl) : ST X T W (.Compare a [.In] [b] pos) (gOp vDin ga gb) := pt_imp (pt_cmp (pc_din (u1 hu) ha hb) hm) fun σ H Q h => by
  have h := tT.toE h
  rw [vDin_eq] at h
  have := dinI (neg := false) h
  simp only [Bool.false_xor] at this
  exact this
theorem st_dnotin (hu : X.A.units + 64 < cLine) (ha : SE X T W a ga) (hb : SE X T W b gb) (hm : behindInMarks .NotIn b = false := by rfl) : ST X T W (.Compare a [.NotIn] [b] pos) (gOp vDnotin ga gb) := pt_imp (pt_cmp (pc_dnotin (u1 hu) ha hb) hm) fun σ H Q h => by
  have h := tT.toE h
  rw [vDnotin_eq] at h
  have := dinI (neg := true) h
  simp only [Bool.true_xor] at this
  exact this
theorem ss_dput (hu : X.A.units + 64 < cLine) (ho : SE X T W o go) (hi : SE X T W i gi) (hv : SE X T W value gv) (hs : swapsWith value (some (.Subscript o i pos')) pos.line X.env = pure false := by rfl) : SS X T W (.Assign [.Subscript o i pos'] value pos) (gDput go gi gv) := ps_imp (ps_dput (u1 hu) ho hi hv hs) fun D σ H ⟨ρ, S, as, rs, f⟩ => by
  refine seqES rs f fun z S1 v as1 H1 rs1 rz f1 l1 => ?_
  refine seqES rs1 f1 fun x S2 w as2 H2 rs2 rx f2 l2 => ?_
  refine seqES rs2 f2 fun y S3 u as3 H3 rs3 ry f3 l3 => ?_
  split at f3
  · rename_i S4 hd
    obtain ⟨a, H4, e, g, l4, r4⟩ := dput_of rs3.rel hd (rx.mono l3) ry ((rz.mono l2).mono l3)
    exact ⟨a, H4, e, g, f3 σ as3 H4 l4 (rs3.mono l4 r4)⟩
  · exact False.elim f3
theorem ss_daug {op : Operator} {r : A → A → Sto → RE} (hu : X.A.units + 64 < cLine) (ho : SE X T W o go) (hi : SE X T W i gi) (hv : SE X T W value gv) (hop : InS X T op r)
    (ha : ∀ ov iv new, augStore i ov iv new = (do holding [new, ov, iv] (setItem ov iv new); release [new, ov, iv] []; pure .next) := by intro _ _ _; rfl) : SS X T W (.AugAssign (.Subscript o i tpos) op value pos) (gDaug r go gi gv) := ps_imp (ps_daug (u1 hu) ho hi hv hop ha) fun D σ H ⟨ρ, S, as, rs, f⟩ => by
  refine seqES rs f fun x S1 v as1 H1 rs1 rx f1 l1 => ?_
  refine seqES rs1 f1 fun y S2 w as2 H2 rs2 ry f2 l2 => ?_
  unfold vDget at f2
  split at f2
  · rename_i n kvs k hd hk
    obtain ⟨a, kv, e1, e2, ea, hs', h1, h2⟩ := rs2.rel.dic hd (rx.mono l2)
    have ek := keyA_rel hk ry
    obtain ⟨o, g, _, _, hq⟩ := dget_of (k := k) h1 h2
    split at f2
    · rename_i z hz
      obtain ⟨vz, eo, rz⟩ := hq z hz
      subst eo
      refine ⟨a, vz, e1, by rw [ek]; exact g, seqES rs2 f2 fun y2 S4 w2 as4 H4 rs4 ry2 f4 l4 => ?_⟩
      refine ⟨z, y2, S4, as4, rs4.rel, rz.mono l4, ry2, ?_⟩
      cases er : r z y2 S4 with
      | stuck => rw [er] at f4; exact f4
      | exc c' S5 => rw [er] at f4; exact f4
      | ok q S5 =>
        rw [er] at f4
        intro qv as5 H5 l5 r5 rq
        have f5 := FinS.later f4 l5
        dsimp only [RE.nox, RE.bindS] at f5
        split at f5
        · rename_i S6 hp
          obtain ⟨a', H6, e', g6, l6, r6⟩ := dput_of r5 hp (((rx.mono l2).mono l4).mono l5) ((ry.mono l4).mono l5) rq
          rw [e1] at e'
          cases e'
          exact ⟨H6, g6, f5 σ as5 H6 l6 ((rs4.mono l5 r5).mono l6 r6)⟩
        · exact False.elim f5
    · exact False.elim f2
  · exact False.elim f2
theorem se_dgetD (hu : X.A.units + 64 < cLine) (ho : SE X T W o go) (he : SE X T W e gi) (hf : SE X T W f gx) (m : M2 X o "get" apos e f cpos := by exact ⟨rfl, rfl, rfl, rfl⟩) : SE X T W (.Call (.Attribute o "get" apos) [e, f] [] cpos) (gDgetD go gi gx) := pe_imp (pe_dget2 (u1 hu) ho he hf m) fun σ H Q ⟨ρ, S, as, rs, f⟩ => by
  refine seqE rs f fun x S1 v as1 H1 rs1 rx f1 l1 => ?_
  split at f1
  · rename_i p hp
    obtain ⟨n0, kvs0⟩ := p
    obtain ⟨a, kv, e1, e2, ea, hs', h1, h2⟩ := rs1.rel.dic hp rx
    refine ⟨a, e1, .inl ⟨kv, .inl h1⟩, ?_⟩
    refine seqE rs1 f1 fun y S2 w as2 H2 rs2 ry f2 l2 => ?_
    refine seqE rs2 f2 fun z S3 u as3 H3 rs3 rz f3 l3 => ?_
    split at f3
    · rename_i n kvs k hd hk
      obtain ⟨a', kv', e1', _, _, _, h1', h2'⟩ := rs3.rel.dic hd ((rx.mono l2).mono l3)
      rw [e1] at e1'
      cases e1'
      have ek := keyA_rel hk (ry.mono l3)
      subst ek
      obtain ⟨o, g, _, hq, _⟩ := dget_of (k := k) h1' h2'
      exact ⟨o, g, f3 _ as3 H3 .refl rs3.rel (hq z u rz)⟩
    · exact False.elim f3
  · exact False.elim f1
theorem se_dnew : SE X T W (.Dict [] [] pos) gDnew := pe_imp pe_dnewK fun σ H Q ⟨ρ, S, as, rs, f⟩ p hp => by
  have lA : Le X.K H as (upd H p (.dK [])) (as ++ [p]) := (Kp.new hp).leA p
  exact f _ _ _ lA (rs.rel.alloc hp ⟨[], upd_same, .nil⟩) (.ob (by rw [← rs.rel.len]; simp))
end
end Sx

set_option Elab.async false
set_option linter.all false
set_option maxRecDepth 100000
set_option maxHeartbeats 1000000
namespace Sx
open PySem PySem.Spec PyProof.Rows L2
/-! ### sorted(xs, key=lambda at: (-self.people[at][2], at)) -/
section
variable {X : Cx} {pins : List (Addr × Obj)} {σ : L2.St} {H : Hp} {s : Shared}
/-- the lambda's names: one parameter, one captured -/
structure LamK (sc scope : Scope) (sn an : Str) : Prop where
  kind : scope.kind = .function
  co : scope.isCoroutine = false
  gen : scope.isGenerator = false
  nocell : ∀ y ∈ scope.names, y.2 ≠ .cell
  free : ∀ y ∈ scope.names, y.2 = .free → y.1 = sn
  sf : scope.names.lookup sn = some .free
  al : scope.names.lookup an = some .local
  sc : sc.names.lookup sn = some .cell
abbrev keyBody (sn an fn : Str) (j : Int) (c1 c2 p1 p2 p3 p4 p5 p6 p7 p8 p9 : Pos) (q x1 : Nat) : Expr :=
  .Tuple [.UnaryOp .USub (.Subscript (.Subscript (.Attribute (.Name sn p1) fn p2) (.Name an p3) p4) (.Constant (.int j) q p5) p6) p7, .Name an p8] x1 p9
theorem lam_turn {A : Around} {scope : Scope} {sn an fn : Str} {f c' a dx C pl tp : Addr} {pm ctv : Value} {params : Arguments} {j x r : Int} {t : Tok} {p1 p2 p3 p4 p5 p6 p7 p8 p9 : Pos} {q x1 i : Nat} {fs : List (Str × V)} {vs ts : List V}
    (I : Inv X pins σ H s) (L : LamK X.env.scope scope sn an) (hA : A.depth < recursionLimit)
    (hf : s.heap.get? f = some (PySem.W.kla_obj "<lambda>" (X.env.qual ++ "<lambda>") params (keyBody sn an fn j p1 p1 p1 p2 p3 p4 p5 p6 p7 p8 p9 q x1) scope (cloFrom X.env.cells scope.names []) pm c' ctv))
    (hco : H c' = some (LamX.CodeO c' (X.env.qual ++ "<lambda>")))
    (hbind : ∀ v, bindArgs (PySem.W.kla_fn "<lambda>" (X.env.qual ++ "<lambda>") params (keyBody sn an fn j p1 p1 p1 p2 p3 p4 p5 p6 p7 p8 p9 q x1) scope (cloFrom X.env.cells scope.names []) pm (.ref c') ctv) ⟨[v], []⟩ = pure [(an, v)])
    (hi : X.N[i]? = some sn) (hs : σ[i]? = some (some (.ref a))) (ea : H a = some (.ins C dx fs)) (c : Cls X.K C) (n : NoAttr X.K C fn) (hl : fs.lookup fn = some (.ref pl)) (hp : SqL X.K H pl vs) (hx : atI vs x = some (.ref tp)) (ht : SqT X.K H tp ts) (hr : atI ts j = some (.int r)) (hx0 : 0 ≤ x)
    (hds : (sn == ("__debug__" : Str)) = false) (hcs : (sn == ("__classdict__" : Str)) = false) (hda : (an == ("__debug__" : Str)) = false) :
    wpAny (model X.prog X.w) A (call (.ref f) [.int x t]) (PySem.W.KeyPure (.tuple [.int (-r), .int x]) s) (fun _ _ => False) s := by
  obtain ⟨⟨oc, cvs, ct, hoc, hdc, hvc⟩, _, _⟩ := I.hok c' _ hco
  -- the captured cell
  obtain ⟨m, hn, look⟩ := I.loc
  obtain ⟨u, ru, q1⟩ := look i sn (.ref a) hi hs (.inr (.inl L.sc))
  obtain rfl : u = Value.ref a := ru
  obtain ⟨cc, hcc, hcell⟩ : ∃ cc, X.env.cells.lookup sn = some cc ∧ s.heap.IsCell cc (some (.ref a)) := by
    rcases q1 with ⟨k', _⟩ | ⟨_, c3, e', z⟩
    · have k' : X.env.scope.names.lookup sn = some .local := k'
      rw [L.sc] at k'
      cases k'
    · exact ⟨c3, e', z⟩
  have hclo : (cloFrom X.env.cells scope.names []).lookup sn = some cc := by
    have hy : (sn, NameKind.free) ∈ scope.names := PySem.mem_of_lookup L.sf
    obtain ⟨c2, h2⟩ := mem_lookup (cloFrom_has (cells := X.env.cells) (acc := []) hy)
    rcases cloFrom_mem (PySem.mem_of_lookup h2) with hm | ⟨h1, h3⟩
    · cases hm
    · rw [h2, h3, hcc]
      rfl
  refine wpAny_call (PySem.W.kla_callFunE hA hf rfl L.co L.gen rfl ⟨c', oc, cvs, ct, rfl, hoc, hdc, hvc⟩ ?_)
  rw [hbind]
  refine wpAny_pure (wpAny_newFunctionEnv L.nocell (fun y hy => by simp at hy; subst hy; exact L.al) (fun h₁ hns hsb => ⟨I.nolimit.fresh _ hsb, ?_⟩) L.kind)
  have kp : ∀ b o, s.heap.get? b = some o → h₁.get? b = some o := fun b o e => hsb.extBut b o (Nat.ne_of_lt (Heap.lt_size e)) (Heap.get?_push_of_some _ e)
  have J : Inv X pins σ H { s with heap := h₁, toks := s.toks + 1 } := I.kept kp
  have hcell₁ : h₁.IsCell cc (some (.ref a)) := by
    obtain ⟨o, ho, hd⟩ := hcell
    exact ⟨o, kp _ _ ho, hd⟩
  obtain ⟨mA, O, rA, _, _, _⟩ := ins_get J.hok ea
  obtain ⟨ul, hul, rul⟩ := RelO.some_of (v := V.ref pl) (o := mA fn) (by rw [← hl]; exact rA fn)
  obtain rfl : ul = Value.ref pl := rul
  refine PySem.W.kla_codeExpr (wpAny_Tuple_spliced ?_)
  refine Calls.spliced_cons ?_
  refine UnaryOp_ (Subscript_ (Subscript_ (attr_of rfl (wpAny_Name (wpAny_loadName_free L.kind L.sf hclo hcell₁ ?_ hcs) hds))))
  refine get_map J.kIn O (c.get fn) c.hd n hul rfl ?_
  have hlk : List.lookup an ([(an, Value.int x t)] : List (Str × Value)).reverse = some (.int x t) := by simp [List.lookup]
  refine wpAny_Name (wpAny_loadName_local L.kind L.al hns hlk ?_) hda
  obtain ⟨its, rits, pls, hz⟩ := J.list hp
  obtain ⟨k1, h1, h2, h3, h4, h5⟩ := atI_get hx
  obtain ⟨w1, ew, rw1⟩ := rits.get h2
  obtain rfl : w1 = Value.ref tp := rw1
  have hn63 := line63
  have hk1 : x.toNat = k1 := by
    rw [seqIndex_of hx0 h5] at h1
    exact Option.some.inj h1
  refine item_listR pls.isList hx0 (by omega) (by rw [hk1]; simpa using ew) ?_
  refine wpAny_Constant_int ?_
  obtain ⟨its2, rits2, pt, hz2⟩ := J.tuple ht
  obtain ⟨k2, g1, g2, g3, g4, g5⟩ := atI_get hr
  obtain ⟨w2, ew2, rw2⟩ := rits2.get g2
  obtain ⟨t2, rfl⟩ : ∃ t2, w2 = Value.int r t2 := rw2
  have hl2 := rits2.length
  refine subscriptTail_builtinR (x := .int r t2) pt.typeIs slot_tuple_getitem.lookup (getItem_tuple (j := k2) pt (by omega) (by omega) (by rw [List.size_toArray, ← hl2]; exact g1) (by simpa using ew2) ⟨rfl, ?_⟩)
  refine neg_int ?_
  refine Calls.spliced_cons (wpAny_Name (wpAny_loadName_local L.kind L.al hns hlk (Calls.spliced_nil ?_)) hda)
  refine ⟨(show 2 ≤ sizeLine by decide), _, _, rfl, fun b o e => Heap.get?_push_of_some _ (kp b o e), ?_⟩
  exact .tuple (Heap.get?_push_size _ rfl) rfl rfl (.cons (.int _ _) (.cons (.int _ _) .nil))
end
/-! ### keys (-rank, at) -/
def leK (f : Int → Int) (x y : Int) : Bool := decide (f y < f x) || (decide (f x = f y) && decide (x ≤ y))
def kOf (f : Int → Int) (x : Int) : PyData := .tuple [.int (-(f x)), .int x]
theorem leK_eq (f : Int → Int) : PySem.W.dataLe false (kOf f) = leK f := by
  funext x y
  show (!PySem.W.dataLt (kOf f y) (kOf f x)) = _
  unfold kOf leK
  rw [PySem.W.dataLt_pair rfl rfl, PySem.W.dataLt_int, PySem.W.dataLt_int]
  simp only [PyData.eqv, beq_iff_eq]
  by_cases h1 : f x = f y
  · have e1 : -(f y) = -(f x) := by omega
    have e2 : ¬ f y < f x := by omega
    rw [if_pos e1]
    by_cases h2 : y = x
    · subst h2
      simp
    · rw [if_neg h2, Bool.eq_iff_iff]
      simp [h1, e2]
  · have e1 : ¬ (-(f y) = -(f x)) := by omega
    rw [if_neg e1, Bool.eq_iff_iff]
    simp [h1]
    omega
/-! ### the maker of a lambda: its code object is known -/
theorem fnr_ofC {P : Program} {w : World} {K : Frg} {mg : Str → Option Value} {base : Heap} {d : Nat} {f : Addr} {name qual : Str} {params : Arguments} {body : List Stmt} {scope : Scope} {dvs : List V} {kws : List (Str × V)} {fd : FuncData} {N ps : List Str} {sp : Sp} {p : He.Defn}
    (D : FunD K name qual params body scope dvs kws f fd) (hp : He.fAd K p = f) (S : FnScope N ps scope) (len : ∀ vs H Q E, sp vs H Q E → vs.length = ps.length)
    (hbody : ∀ (A : Around) (outer : List Env) (s : Shared) (H : Hp) (vs : List V) (Q : VK) (E : XK), Rm d (A.deeper (envOfC qual scope s.heap.objs.size f (.ref (He.codeOf K p)))) → sp vs H Q E →
      ∃ t, PSs (cxOf (L2.CX P w) P w K mg base N qual scope f (.ref (He.codeOf K p)) A outer s H E) body t ∧ t { nx := fun _ H' => Q .non H', rt := Q } (L2.start N vs) H) : FnR P w K mg base (d + 1) f fd ps sp := by
  obtain ⟨oc, od, dV, kV, doc, pm, an, cdv, ct, osl, rfl, lk, hcd, _, _⟩ := D.ex
  obtain ⟨c, rfl⟩ := He.codeIn_ref hcd
  have ec : He.codeOf K p = c := He.codeOf_eq (by rw [hp]; exact lk) rfl
  subst ec
  refine ⟨len, fun A outer s H args us vs Q E hr e0 hb r hsp => ?_⟩
  have hl := len _ _ _ _ hsp
  have KX : K.In s.heap := e0.mod.kin.keeps fun b o e => (e0.bs b o e).1
  have lim : s.heap.NoLimit := e0.mod.nolimit.keeps fun b o e => (e0.bs b o e).1
  have hkind : ∀ y ∈ ps.zip us, scope.names.lookup y.1 = some .local ∨ (scope.names.lookup y.1 = some .cell ∧ ((cellsFrom (s.heap.objs.size + 1) scope.names []).lookup y.1).isSome = true) := fun ⟨n, v⟩ hy => by
    rcases S.par n (List.of_mem_zip hy).1 with q | q
    · exact .inl q
    · exact .inr ⟨q, PySem.W.cellsFrom_some _ _ _ (.inl q)⟩
  refine codeAny_call_function hr.depth (KX _ _ lk) rfl S.co S.gen rfl (PySem.W.codeRec_of KX hcd) (hb _ _ _ _ ?_)
  refine wpAny_newFunctionEnv_cells S.kind hkind fun env he s1 x => ?_
  subst he
  refine ⟨lim.keeps x.toInCall.keep, codeAny_func ?_⟩
  obtain ⟨t, ht, hq⟩ := hbody A outer s H vs Q E (hr.deeper _) hsp
  have I : Inv (cxOf (L2.CX P w) P w K mg base N qual scope f (.ref (He.codeOf K p)) A outer s H E) [] (L2.start N vs) H s1 := inv_start S hr.hd e0 hl r x
  refine wpAny_mono (ht.run [] s1 (L2.start N vs) H _ I hq) (fun fl s' hs => ?_) fun e s' hs => hs
  have fin : ∀ {σ' : L2.St} {H' : Hp} {v : V} {u : Value}, Inv (cxOf (L2.CX P w) P w K mg base N qual scope f (.ref (He.codeOf K p)) A outer s H E) [] σ' H' s' → RelV v u → Q v H' → CE outer P w H s Q u s' := fun {σ' H' v u} J rv q => ⟨v, H', J.os, J.bare, J.base, J.hok, rv, q⟩
  cases fl with
  | ret u =>
    obtain ⟨v, σ', H', J, rv, q⟩ := hs
    exact fin J rv q
  | next =>
    obtain ⟨σ', H', J, q⟩ := hs
    exact fin (v := V.non) (u := Value.none) J rfl q
  | brk =>
    obtain ⟨_, _, _, q⟩ := hs
    exact False.elim q
  | cont =>
    obtain ⟨_, _, _, q⟩ := hs
    exact False.elim q
theorem fnFC {P : Program} {w : World} {K : Frg} {T : Tbs} {mg : Str → Option Value} {base : Heap} {d : Nat} {f : Addr} {name qual : Str} {params : Arguments} {body : List Stmt} {scope : Scope} {dvs : List V} {kws : List (Str × V)} {fd : FuncData} {N ps : List Str} {F : List A → Sto → RE} {p : He.Defn}
    (D : FunD K name qual params body scope dvs kws f fd) (hp : He.fAd K p = f) (S : FnScope N ps scope) (len : ∀ l S, F l S ≠ .stuck → l.length = ps.length) (q : GS)
    (hb : ∀ (A : Around) (outer : List Env) (s : Shared) (H : Hp) (E : XK), Rm d (A.deeper (envOfC qual scope s.heap.objs.size f (.ref (He.codeOf K p)))) →
      SB (cxOf (L2.CX P w) P w K mg base N qual scope f (.ref (He.codeOf K p)) A outer s H E) T (fun c d _ H' => E c d H') body q)
    (hq : ∀ l S, BelS S → (∀ x, x ∈ l → Bel S.length x) → F l S ≠ .stuck → Fit S.length (F l S) (q (startR N.length l) S)) : FnR P w K mg base (d + 1) f fd ps (spF K T F) := by
  have ns : ∀ {l : List A} {S : Sto} {H : Hp} {as : List Addr} {Q : VK} {E : XK}, FinE K T (fun c d _ H' => E c d H') [] H as Q (F l S) → F l S ≠ .stuck := fun f e => by rw [e] at f; exact f
  refine fnr_ofC D hp S (fun vs H Q E h => ?_) fun A outer s H vs Q E hr h => ⟨_, hb A outer s H E hr, ?_⟩
  · obtain ⟨l, St, as, r, rl, f⟩ := h
    rw [← rl.length]
    exact len l St (ns f)
  · obtain ⟨l, St, as, r, rl, f⟩ := h
    refine ⟨_, St, as, relSt_start r rl, (hq l St r.bel (fun x hx => ?_) (ns f)).fin r.len f⟩
    have := rl.bel x hx
    rw [r.len] at this
    exact this
/-! ### the rule -/
def rkAt (ps : List A) (j x : Int) : Option Int := match L2.atI ps x with
  | some (.tup ts) => (match L2.atI ts j with
    | some (.int r) => some r
    | _ => none)
  | _ => none
def rkOf (ps : List A) (j x : Int) : Int := (rkAt ps j x).getD 0
def ordA (ps : List A) (j : Int) (ns : List Int) : List Int := ns.mergeSort (leK (rkOf ps j))
def gSortK (C : Addr) (fn : Str) (j : Int) (i : Nat) (g : GE) : GE := fun ρ S => (g ρ S).bind fun l S1 => match l, ρ[i]? with
  | .ob n, some (some o) => (match (itemsAt S1 n).bind intsOf, insAt C o S1 with
    | some ns, some (_, fs) => (match fs.lookup fn with
      | some (.ob pn) => (match itemsAt S1 pn with
        | some ps => if (ns.all fun x => decide (0 ≤ x) && (rkAt ps j x).isSome) = true ∧ ns.length ≤ 4000000 then .ok (.ob S1.length) (S1 ++ [.lst ((ordA ps j ns).map .int)]) else .stuck
        | none => .stuck)
      | _ => .stuck)
    | _, _ => .stuck)
  | _, _ => .stuck
/-- a lambda made: all but the tables stays -/
theorem Rel.extN {K : Frg} {T : Tbs} {S : Sto} {as : List Addr} {H H1 : Hp} (r : Rel K T S as H) (e : LamX.ExtN H H1) (t : LamX.Tabs T H1) : Le K H as H1 as ∧ Rel K T S as H1 := by
  have l : Le K H as H1 as := ⟨fun _ _ h => h, fun a xs h => by
    rcases h with (h | ⟨o, h⟩) | h
    · exact .inl (.inl (e _ _ h fun ps z => by cases z))
    · exact .inl (.inr ⟨o, e _ _ h fun ps z => by cases z⟩)
    · exact .inr h⟩
  refine ⟨l, r.len, r.inj, fun n o a h1 h2 => ?_, t⟩
  have q := r.obj n o a h1 h2
  cases o with
  | lst xs => obtain ⟨vs, h3, h4⟩ := q; exact ⟨vs, e _ _ h3 (fun ps z => by cases z), h4.mono l⟩
  | rol xs =>
    obtain ⟨vs, h3, h4⟩ := q
    refine ⟨vs, ?_, h4.mono l⟩
    rcases h3 with ⟨o, h3⟩ | h3
    · exact .inl ⟨o, e _ _ h3 fun ps z => by cases z⟩
    · exact .inr h3
  | dic kvs => obtain ⟨kv, h3, h4⟩ := q; exact ⟨kv, e _ _ h3 (fun ps z => by cases z), h4.mono l⟩
  | dit kvs => obtain ⟨kv, h3, h4⟩ := q; exact ⟨kv, e _ _ h3 (fun ps z => by cases z), h4.mono l⟩
  | ins C fs => obtain ⟨dx, gs, h3, h4⟩ := q; exact ⟨dx, gs, e _ _ h3 (fun ps z => by cases z), h4.mono l⟩
end Sx

set_option Elab.async false
set_option linter.all false
set_option maxRecDepth 100000
set_option maxHeartbeats 1000000
namespace Sx
open PySem PySem.Spec PyProof.Rows L2
/-- one argument, told of the store -/
theorem seqOne {K : Frg} {T : Tbs} {W : WX} {g : GE} {k : A → Sto → RE} {σ : L2.St} {H : Hp} {Q : VK} {ρ : Ro} {S : Sto} {as : List Addr} (rs : RelSt K T ρ S as σ H) (f : FinE K T W σ H as Q ((g ρ S).bind k)) :
    tA K T W (gCons g gNil) σ H fun vs H1 => ∃ a S1 v as1, vs = [v] ∧ RelSt K T ρ S1 as1 σ H1 ∧ RelA K H1 as1 a v ∧ FinE K T W σ H1 as1 Q (k a S1) := by
  refine ⟨ρ, S, as, rs, ?_⟩
  cases e : g ρ S with
  | stuck => rw [e] at f; exact False.elim f
  | exc c S1 =>
    rw [e] at f
    unfold gCons
    rw [e]
    exact f
  | ok a S1 =>
    rw [e] at f
    unfold gCons
    rw [e]
    intro vs as1 H1 l1 r1 ra
    cases ra with
    | cons ra rn =>
      cases rn
      exact ⟨a, S1, _, as1, rfl, rs.mono l1 r1, ra, FinE.later f l1⟩
theorem each_ints {vs : List Value} {ns : List Int} (h : Vals (ns.map V.int) vs) : PySem.W.EachIs (fun (v : Value) (x : Int) => ∃ t, v = .int x t) vs ns := by
  induction ns generalizing vs with
  | nil => cases h; exact .nil
  | cons n ns ih =>
    cases h with
    | cons h1 h2 => exact .cons h1 (ih h2)
theorem vals_of_each {vs : List Value} {ns : List Int} (h : PySem.W.EachIs (fun (v : Value) (x : Int) => ∃ t, v = .int x t) vs ns) : Vals (ns.map V.int) vs := by
  induction h with
  | nil => exact .nil
  | cons h1 _ ih => exact .cons h1 ih
theorem rkAt_some {ps : List A} {j x r : Int} (h : rkAt ps j x = some r) : ∃ ts, L2.atI ps x = some (.tup ts) ∧ L2.atI ts j = some (.int r) := by
  unfold rkAt at h
  split at h
  · rename_i ts e
    split at h
    · rename_i r' e2
      cases h
      exact ⟨ts, e, e2⟩
    · cases h
  · cases h
theorem ints_vs {K : Frg} {H : Hp} {as : List Addr} : ∀ {ns : List Int} {vs : List V}, RelL K H as (ns.map .int) vs → vs = ns.map V.int
  | [], vs, h => by cases h; rfl
  | n :: ns, vs, h => by
    cases h with
    | cons h1 h2 => cases h1; rw [ints_vs h2]; rfl
section
variable {X : Cx} {T : Tbs} {W : WX}
theorem se_sortK {d : Nat} {e : Expr} {g : GE} {scope : Scope} {params : Arguments} {sn an fn : Str} {c P C : Addr} {j : Int} {i q x1 : Nat} {p1 p2 p3 p4 p5 p6 p7 p8 p9 p pos lpos kpos : Pos}
    (TB : LamX.TabB X.base X.mg c P) (hcode : X.env.code = .ref c) (hm : (P, X.env.qual ++ "<lambda>") ∈ T) (hu : ∀ p ∈ T, p.1 = P → p.2 = X.env.qual ++ "<lambda>") (L : LamK X.env.scope scope sn an) (hdef : defaultsOf params X.env = ([], []))
    (hbind : ∀ clo pm cd ctv v, bindArgs (PySem.W.kla_fn "<lambda>" (X.env.qual ++ "<lambda>") params (keyBody sn an fn j p1 p1 p1 p2 p3 p4 p5 p6 p7 p8 p9 q x1) scope clo pm cd ctv) ⟨[v], []⟩ = pure [(an, v)])
    (hr : Rm (d + 1) X.A) (hms : X.mg "sorted" = none) (hi : X.N[i]? = some sn) (cl : Cls X.K C) (na : NoAttr X.K C fn) (he : SE X T W e g)
    (hds : (sn == ("__debug__" : Str)) = false := by decide) (hcs : (sn == ("__classdict__" : Str)) = false := by decide) (hda : (an == ("__debug__" : Str)) = false := by decide) (hg : Gl X "sorted" := by rfl)
    (hst : starEach [e] X.env = (false, eval e X.env) :: starEach [] X.env := by rfl)
    (he1 : backTo pos (starEach [e] X.env) = (false, eval e X.env) :: backTo pos (starEach [] X.env) := by rfl) (hpl : (backTo pos (starEach [e] X.env)).any (·.1) = false := by rfl) :
    SE X T W (.Call (.Name "sorted" p) [e] [⟨some "key", .Lambda params (keyBody sn an fn j p1 p1 p1 p2 p3 p4 p5 p6 p7 p8 p9 q x1) scope lpos, kpos⟩] pos) (gSortK C fn j i g) := by
  refine ⟨fun pins s σ H Q I h => ?_⟩
  obtain ⟨ρ, S, as, rs, f⟩ := h
  refine wpAny_Call_Name_kw (ld_blt (u := .builtin "sorted") I hg hms (by decide +kernel) ?_)
  refine PyProof.Rows.callWith_kw (thn ((sa_cons he sa_nil hst).run pos pins s σ H _ I (seqOne rs f)) fun us s1 ⟨vs, H1, I1, r1, a, S1, v, as1, ev, rs1, ra, f1⟩ => ?_) he1 hpl rfl rfl
  subst ev
  show wpAny _ _ (evalAll ((do let v ← eval (.Lambda params (keyBody sn an fn j p1 p1 p1 p2 p3 p4 p5 p6 p7 p8 p9 q x1) scope lpos) X.env; standAt pos; pure v) :: [])) _ _ s1
  split at f1
  rotate_left
  · exact False.elim f1
  rename_i n o eo
  split at f1
  rotate_left
  · exact False.elim f1
  rename_i ns m fs hq1 hins
  split at f1
  rotate_left
  · exact False.elim f1
  rename_i pn hlk
  split at f1
  rotate_left
  · exact False.elim f1
  rename_i ps hps
  split at f1
  rotate_left
  · exact False.elim f1
  rename_i hall
  refine wpAny_evalAll_cons (wpAny_bind (LamX.lam_make2 I1 TB hcode hm hu rs1.rel.tab hdef (fun y hy hf => ?_) fun f c' pm ctv H2 s2 I2 ex T2 hf hfn hfr hco => ?_))
  · rw [L.free y hy hf]
    exact I1.ok.has _ (.inl L.sc)
  refine wpAny_bind (wpAny_standAt (wpAny_pure (wpAny_evalAll_nil ?_)))
  obtain ⟨l2, r2⟩ := rs1.rel.extN ex T2
  -- the list
  obtain ⟨xs, hxs, hints⟩ : ∃ xs, itemsAt S1 n = some xs ∧ intsOf xs = some ns := by
    cases z : itemsAt S1 n with
    | none => rw [z] at hq1; cases hq1
    | some xs => rw [z] at hq1; exact ⟨xs, rfl, hq1⟩
  have ex2 := intsOf_eq hints
  subst ex2
  obtain ⟨al, e1, ea1⟩ := RelA.list ra
  subst e1
  obtain ⟨lvs, sql, rlv⟩ := r2.sql hxs ea1
  have e3 := ints_vs rlv
  subst e3
  obtain ⟨its, rits, pls, hz⟩ := I2.list sql
  -- the instance
  obtain ⟨v', hslot, rv'⟩ := rs1.slot i o eo
  obtain ⟨eob, hsm⟩ := insAt_some hins
  subst eob
  obtain ⟨am, e4, ea2⟩ := RelA.list rv'
  subst e4
  obtain ⟨dx, gs, hins2, rkv⟩ := r2.obj _ _ _ hsm ea2
  obtain ⟨pl, hlk2, ea3⟩ : ∃ pl, gs.lookup fn = some (.ref pl) ∧ as1[pn]? = some pl := by
    rcases rkv.lookup fn with ⟨z1, z2⟩ | ⟨z, zv, z1, z2, z3⟩
    · rw [hlk] at z1; cases z1
    · rw [hlk] at z1
      cases z1
      obtain ⟨pl, e5, e6⟩ := RelA.list z3
      subst e5
      exact ⟨pl, z2, e6⟩
  obtain ⟨pvs, sqp, rpv⟩ := r2.sql hps ea3
  cases r1 with
  | cons ru rn =>
  cases rn
  obtain rfl : _ = Value.ref al := ru
  have hd := hr.dp
  have hun := hr.un
  refine PySem.W.sorted_key_data (b := false) (kOf (rkOf ps j)) pls.isList (each_ints rits) (PySem.W.AllAlike.of fun _ _ => by simp [kOf, PySem.W.alike, PySem.W.alikeAll]) (PySem.W.Sortable.tuples fun _ => ⟨_, _, rfl⟩) (sz5 hall.2) (fun x _ => ?_) (PyProof.Rows.ksk_s1 _ _) (fun _ => PyProof.Rows.ksk_l1 _ _) (fun _ => PyProof.Rows.ksk_t1 _ _)
    (fun v x ⟨t, ev⟩ hx h tk kp => ?_) fun out c2 h' tk kp hnone hD hlen eo => ?_
  · have hd1 : (kOf (rkOf ps j) x).depth = 1 := by simp [kOf, PyData.depth, PyData.depthAll]
    omega
  · subst ev
    have hx1 := List.all_eq_true.mp hall.1 x hx
    simp only [Bool.and_eq_true, decide_eq_true_eq] at hx1
    obtain ⟨r, hr1⟩ := Option.isSome_iff_exists.mp hx1.2
    obtain ⟨ts, ha1, ha2⟩ := rkAt_some hr1
    obtain ⟨w1, hw1, rw1⟩ := rpv.atI ha1
    cases rw1 with
    | tup hs2 rl2 =>
    obtain ⟨w2, hw2, rw2⟩ := rl2.atI ha2
    cases rw2
    have er : rkOf ps j x = r := by
      unfold rkOf
      rw [hr1]
      rfl
    have J : Inv X pins σ H2 { s2 with heap := h, toks := tk } := I2.kept kp
    unfold kOf
    rw [er]
    exact lam_turn J L (by show X.A.depth < _; omega) (kp _ _ hf) hco (hbind _ _ _ _) hi hslot hins2 cl na hlk2 sqp hw1 hs2 hw2 hx1.1 hds hcs hda
  · rw [leK_eq] at eo
    have hv := vals_of_each eo
    have f2 := FinE.later f1 l2
    have hp : H2 (s2.heap.objs.size + 1) = none := I2.hok.fresh (Nat.le_succ _)
    have I3 : Inv X pins σ (upd H2 (s2.heap.objs.size + 1) (.lst ((ordA ps j ns).map V.int))) { s2 with heap := h', toks := tk } := I2.laid kp (Nat.le_succ _) ⟨by rw [List.length_map]; show (ns.mergeSort _).length ≤ _; rw [List.length_mergeSort]; exact sz5 hall.2, out, c2, hv, hD⟩
    have lA : Le X.K H2 as1 (upd H2 (s2.heap.objs.size + 1) (.lst ((ordA ps j ns).map V.int))) (as1 ++ [s2.heap.objs.size + 1]) := (Kp.new hp).leA _
    have ro : RelO X.K (upd H2 (s2.heap.objs.size + 1) (.lst ((ordA ps j ns).map V.int))) (as1 ++ [s2.heap.objs.size + 1]) (.lst ((ordA ps j ns).map .int)) (s2.heap.objs.size + 1) := ⟨_, upd_same, ints_rel _⟩
    exact ⟨.ref (s2.heap.objs.size + 1), _, I3, rfl, f2 (.ref (s2.heap.objs.size + 1)) _ _ lA (r2.alloc hp ro) (.ob (by rw [← r2.len]; simp))⟩
end
end Sx

set_option Elab.async false
set_option linter.all false
set_option maxRecDepth 100000
set_option maxHeartbeats 1000000
namespace Sx
open PySem PySem.Spec PyProof.Rows L2
/-! ### a hall in the store -/
structure Ids where
  la : Nat
  pe : Nat
  go : Nat
  ro : Nat
  no : Nat
structure Ha where
  kept : A
  lasts : List (Key × A)
  people : List A
  gone : List (Key × A)
  rows : List A
  now : List A
  room : Int
  cut : Bool
def flds (i : Ids) (h : Ha) : List (Str × A) := [("kept", h.kept), ("lasts", .ob i.la), ("people", .ob i.pe), ("gone", .ob i.go), ("rows", .ob i.ro), ("now", .ob i.no), ("room", .int h.room), ("cut", .bl h.cut)]
def wr (C : Addr) (S : Sto) (n : Nat) (i : Ids) (h : Ha) : Sto :=
  (((((S.set n (.ins C (flds i h))).set i.la (.dic h.lasts)).set i.pe (.lst h.people)).set i.go (.dic h.gone)).set i.ro (.lst h.rows)).set i.no (.lst h.now)
structure OkI (S : Sto) (n : Nat) (i : Ids) : Prop where
  nd : [n, i.la, i.pe, i.go, i.ro, i.no].Nodup
  lt : ∀ k ∈ [n, i.la, i.pe, i.go, i.ro, i.no], k < S.length
instance {S : Sto} {n : Nat} {i : Ids} : Decidable (OkI S n i) :=
  if h : [n, i.la, i.pe, i.go, i.ro, i.no].Nodup ∧ ∀ k ∈ [n, i.la, i.pe, i.go, i.ro, i.no], k < S.length then .isTrue ⟨h.1, h.2⟩ else .isFalse fun z => h ⟨z.nd, z.lt⟩
section
variable {C : Addr} {S E : Sto} {n : Nat} {i : Ids} {h h' : Ha}
theorem wr_length : (wr C S n i h).length = S.length := by simp [wr]
theorem OkI.all (ok : OkI S n i) : (n < S.length ∧ i.la < S.length ∧ i.pe < S.length ∧ i.go < S.length ∧ i.ro < S.length ∧ i.no < S.length) ∧ (n ≠ i.la ∧ n ≠ i.pe ∧ n ≠ i.go ∧ n ≠ i.ro ∧ n ≠ i.no) ∧ (i.la ≠ i.pe ∧ i.la ≠ i.go ∧ i.la ≠ i.ro ∧ i.la ≠ i.no) ∧ (i.pe ≠ i.go ∧ i.pe ≠ i.ro ∧ i.pe ≠ i.no) ∧ (i.go ≠ i.ro ∧ i.go ≠ i.no) ∧ i.ro ≠ i.no := by
  obtain ⟨nd, lt⟩ := ok
  simp only [List.nodup_cons, List.mem_cons, List.not_mem_nil, or_false, not_or, List.nodup_nil, and_true, not_false_eq_true] at nd
  simp only [List.mem_cons, List.not_mem_nil, or_false, forall_eq_or_imp, forall_eq] at lt
  exact ⟨lt, nd.1, nd.2.1, nd.2.2.1, nd.2.2.2.1, nd.2.2.2.2⟩
theorem wr_get_n (ok : OkI S n i) : (wr C S n i h ++ E)[n]? = some (.ins C (flds i h)) := by
  obtain ⟨l, a, b, c, d, e⟩ := ok.all
  rw [List.getElem?_append_left (by rw [wr_length]; exact l.1)]
  unfold wr
  rw [List.getElem?_set_ne (Ne.symm a.2.2.2.2), List.getElem?_set_ne (Ne.symm a.2.2.2.1), List.getElem?_set_ne (Ne.symm a.2.2.1), List.getElem?_set_ne (Ne.symm a.2.1), List.getElem?_set_ne (Ne.symm a.1), List.getElem?_set_self l.1]
theorem wr_get_la (ok : OkI S n i) : (wr C S n i h ++ E)[i.la]? = some (.dic h.lasts) := by
  obtain ⟨l, a, b, c, d, e⟩ := ok.all
  rw [List.getElem?_append_left (by rw [wr_length]; exact l.2.1)]
  unfold wr
  rw [List.getElem?_set_ne (Ne.symm b.2.2.2), List.getElem?_set_ne (Ne.symm b.2.2.1), List.getElem?_set_ne (Ne.symm b.2.1), List.getElem?_set_ne (Ne.symm b.1), List.getElem?_set_self (by simpa using l.2.1)]
theorem wr_get_pe (ok : OkI S n i) : (wr C S n i h ++ E)[i.pe]? = some (.lst h.people) := by
  obtain ⟨l, a, b, c, d, e⟩ := ok.all
  rw [List.getElem?_append_left (by rw [wr_length]; exact l.2.2.1)]
  unfold wr
  rw [List.getElem?_set_ne (Ne.symm c.2.2), List.getElem?_set_ne (Ne.symm c.2.1), List.getElem?_set_ne (Ne.symm c.1), List.getElem?_set_self (by simpa using l.2.2.1)]
theorem wr_get_go (ok : OkI S n i) : (wr C S n i h ++ E)[i.go]? = some (.dic h.gone) := by
  obtain ⟨l, a, b, c, d, e⟩ := ok.all
  rw [List.getElem?_append_left (by rw [wr_length]; exact l.2.2.2.1)]
  unfold wr
  rw [List.getElem?_set_ne (Ne.symm d.2), List.getElem?_set_ne (Ne.symm d.1), List.getElem?_set_self (by simpa using l.2.2.2.1)]
theorem wr_get_ro (ok : OkI S n i) : (wr C S n i h ++ E)[i.ro]? = some (.lst h.rows) := by
  obtain ⟨l, a, b, c, d, e⟩ := ok.all
  rw [List.getElem?_append_left (by rw [wr_length]; exact l.2.2.2.2.1)]
  unfold wr
  rw [List.getElem?_set_ne (Ne.symm e), List.getElem?_set_self (by simpa using l.2.2.2.2.1)]
theorem wr_get_no (ok : OkI S n i) : (wr C S n i h ++ E)[i.no]? = some (.lst h.now) := by
  obtain ⟨l, a, b, c, d, e⟩ := ok.all
  rw [List.getElem?_append_left (by rw [wr_length]; exact l.2.2.2.2.2)]
  unfold wr
  rw [List.getElem?_set_self (by simpa using l.2.2.2.2.2)]
/-- what a store with a hall in it holds, place by place -/
theorem wr_get (ok : OkI S n i) (k : Nat) : (wr C S n i h)[k]? = if k = i.no then some (.lst h.now) else if k = i.ro then some (.lst h.rows) else if k = i.go then some (.dic h.gone) else if k = i.pe then some (.lst h.people) else if k = i.la then some (.dic h.lasts) else if k = n then some (.ins C (flds i h)) else S[k]? := by
  obtain ⟨l, a, b, c, d, e⟩ := ok.all
  unfold wr
  by_cases h1 : k = i.no
  · subst h1; rw [if_pos rfl, List.getElem?_set_self (by simpa using l.2.2.2.2.2)]
  rw [if_neg h1, List.getElem?_set_ne (Ne.symm h1)]
  by_cases h2 : k = i.ro
  · subst h2; rw [if_pos rfl, List.getElem?_set_self (by simpa using l.2.2.2.2.1)]
  rw [if_neg h2, List.getElem?_set_ne (Ne.symm h2)]
  by_cases h3 : k = i.go
  · subst h3; rw [if_pos rfl, List.getElem?_set_self (by simpa using l.2.2.2.1)]
  rw [if_neg h3, List.getElem?_set_ne (Ne.symm h3)]
  by_cases h4 : k = i.pe
  · subst h4; rw [if_pos rfl, List.getElem?_set_self (by simpa using l.2.2.1)]
  rw [if_neg h4, List.getElem?_set_ne (Ne.symm h4)]
  by_cases h5 : k = i.la
  · subst h5; rw [if_pos rfl, List.getElem?_set_self (by simpa using l.2.1)]
  rw [if_neg h5, List.getElem?_set_ne (Ne.symm h5)]
  by_cases h6 : k = n
  · subst h6; rw [if_pos rfl, List.getElem?_set_self l.1]
  rw [if_neg h6, List.getElem?_set_ne (Ne.symm h6)]
theorem ok_wr (ok : OkI S n i) : OkI (wr C S n i h ++ E) n i := ⟨ok.nd, fun k hk => by rw [List.length_append, wr_length]; have := ok.lt k hk; omega⟩
/-- written again -/
theorem wr_wr (ok : OkI S n i) : wr C (wr C S n i h ++ E) n i h' = wr C S n i h' ++ E := by
  have ok2 : OkI (wr C S n i h ++ E) n i := ok_wr ok
  apply List.ext_getElem?
  intro k
  rw [wr_get ok2]
  by_cases hk : k < S.length
  · rw [List.getElem?_append_left (by rw [wr_length]; exact hk), List.getElem?_append_left (by rw [wr_length]; exact hk), wr_get ok, wr_get ok]
    repeat' split <;> first | rfl | skip
  · have o : ∀ j ∈ [n, i.la, i.pe, i.go, i.ro, i.no], k ≠ j := fun j hj z => hk (z ▸ ok.lt j hj)
    simp only [List.mem_cons, List.not_mem_nil, or_false, forall_eq_or_imp, forall_eq] at o
    rw [if_neg o.2.2.2.2.2, if_neg o.2.2.2.2.1, if_neg o.2.2.2.1, if_neg o.2.2.1, if_neg o.2.1, if_neg o.1, List.getElem?_append_right (by rw [wr_length]; omega), List.getElem?_append_right (by rw [wr_length]; omega), wr_length, wr_length]
theorem app_set {S' : Sto} {k : Nat} {o : O} (h : k < S'.length) : (S' ++ E).set k o = S'.set k o ++ E := List.set_append_left _ _ h
theorem set_of (ok : OkI S n i) {k : Nat} {o : O} (hk : k < S.length) (e : ∀ j, (if k = j then some o else (wr C S n i h)[j]?) = (wr C S n i h')[j]?) : (wr C S n i h ++ E).set k o = wr C S n i h' ++ E := by
  rw [app_set (by rw [wr_length]; exact hk)]
  congr 1
  apply List.ext_getElem?
  intro j
  rw [List.getElem?_set, ← e j]
  by_cases hj : k = j
  · rw [if_pos hj, if_pos hj, if_pos (by rw [wr_length]; exact hk)]
  · rw [if_neg hj, if_neg hj]
theorem wr_set_ro (ok : OkI S n i) (l : List A) : (wr C S n i h ++ E).set i.ro (.lst l) = wr C S n i { h with rows := l } ++ E := by
  obtain ⟨lt, a, b, c, d, e⟩ := ok.all
  refine set_of ok lt.2.2.2.2.1 fun j => ?_
  rw [wr_get ok, wr_get ok]
  by_cases hj : i.ro = j
  · subst hj; rw [if_pos rfl, if_neg e, if_pos rfl]
  · rw [if_neg hj]
    have : ¬ j = i.ro := fun z => hj z.symm
    rw [if_neg this, if_neg this]
    rfl
theorem wr_set_no (ok : OkI S n i) (l : List A) : (wr C S n i h ++ E).set i.no (.lst l) = wr C S n i { h with now := l } ++ E := by
  obtain ⟨lt, a, b, c, d, e⟩ := ok.all
  refine set_of ok lt.2.2.2.2.2 fun j => ?_
  rw [wr_get ok, wr_get ok]
  by_cases hj : i.no = j
  · subst hj; rw [if_pos rfl, if_pos rfl]
  · rw [if_neg hj]
    have : ¬ j = i.no := fun z => hj z.symm
    rw [if_neg this, if_neg this]
    rfl
theorem wr_set_pe (ok : OkI S n i) (l : List A) : (wr C S n i h ++ E).set i.pe (.lst l) = wr C S n i { h with people := l } ++ E := by
  obtain ⟨lt, a, b, c, d, e⟩ := ok.all
  refine set_of ok lt.2.2.1 fun j => ?_
  rw [wr_get ok, wr_get ok]
  by_cases hj : i.pe = j
  · subst hj; rw [if_pos rfl, if_neg c.2.2, if_neg c.2.1, if_neg c.1, if_pos rfl]
  · rw [if_neg hj]
    have : ¬ j = i.pe := fun z => hj z.symm
    rw [if_neg this, if_neg this]
    rfl
theorem wr_set_go (ok : OkI S n i) (l : List (Key × A)) : (wr C S n i h ++ E).set i.go (.dic l) = wr C S n i { h with gone := l } ++ E := by
  obtain ⟨lt, a, b, c, d, e⟩ := ok.all
  refine set_of ok lt.2.2.2.1 fun j => ?_
  rw [wr_get ok, wr_get ok]
  by_cases hj : i.go = j
  · subst hj; rw [if_pos rfl, if_neg d.2, if_neg d.1, if_pos rfl]
  · rw [if_neg hj]
    have : ¬ j = i.go := fun z => hj z.symm
    rw [if_neg this, if_neg this]
    rfl
theorem wr_set_la (ok : OkI S n i) (l : List (Key × A)) : (wr C S n i h ++ E).set i.la (.dic l) = wr C S n i { h with lasts := l } ++ E := by
  obtain ⟨lt, a, b, c, d, e⟩ := ok.all
  refine set_of ok lt.2.1 fun j => ?_
  rw [wr_get ok, wr_get ok]
  by_cases hj : i.la = j
  · subst hj; rw [if_pos rfl, if_neg b.2.2.2, if_neg b.2.2.1, if_neg b.2.1, if_neg b.1, if_pos rfl]
  · rw [if_neg hj]
    have : ¬ j = i.la := fun z => hj z.symm
    rw [if_neg this, if_neg this]
    rfl
theorem wr_set_n (ok : OkI S n i) (r : Int) (c : Bool) : (wr C S n i h ++ E).set n (.ins C (flds i { h with room := r, cut := c })) = wr C S n i { h with room := r, cut := c } ++ E := by
  obtain ⟨lt, a, b, c, d, e⟩ := ok.all
  refine set_of ok lt.1 fun j => ?_
  rw [wr_get ok, wr_get ok]
  by_cases hj : n = j
  · subst hj; rw [if_pos rfl, if_neg a.2.2.2.2, if_neg a.2.2.2.1, if_neg a.2.2.1, if_neg a.2.1, if_neg a.1, if_pos rfl]
  · rw [if_neg hj]
    have : ¬ j = n := fun z => hj z.symm
    rw [if_neg this, if_neg this]
theorem lk_kept : (flds i h).lookup ("kept" : Str) = some h.kept := rfl
theorem lk_lasts : (flds i h).lookup ("lasts" : Str) = some (.ob i.la) := rfl
theorem lk_people : (flds i h).lookup ("people" : Str) = some (.ob i.pe) := rfl
theorem lk_gone : (flds i h).lookup ("gone" : Str) = some (.ob i.go) := rfl
theorem lk_rows : (flds i h).lookup ("rows" : Str) = some (.ob i.ro) := rfl
theorem lk_now : (flds i h).lookup ("now" : Str) = some (.ob i.no) := rfl
theorem lk_room : (flds i h).lookup ("room" : Str) = some (.int h.room) := rfl
theorem lk_cut : (flds i h).lookup ("cut" : Str) = some (.bl h.cut) := rfl
theorem put_room (r : Int) : putA "room" (.int r) (flds i h) = flds i { h with room := r } := rfl
theorem put_cut (c : Bool) : putA "cut" (.bl c) (flds i h) = flds i { h with cut := c } := rfl
theorem flds_len : (flds i h).length = 8 := rfl
/-- reading -/
def rdH (C : Addr) (S : Sto) (o : A) : Option (Nat × Ids × Ha) := match o with
  | .ob n => (match S[n]? with
    | some (.ins C' [(f1, kept), (f2, .ob la), (f3, .ob pe), (f4, .ob go), (f5, .ob ro), (f6, .ob no), (f7, .int room), (f8, .bl cut)]) =>
      if C' = C ∧ f1 = "kept" ∧ f2 = "lasts" ∧ f3 = "people" ∧ f4 = "gone" ∧ f5 = "rows" ∧ f6 = "now" ∧ f7 = "room" ∧ f8 = "cut" ∧ OkI S n ⟨la, pe, go, ro, no⟩ then (match S[la]?, S[pe]?, S[go]?, S[ro]?, S[no]? with
        | some (.dic l), some (.lst p), some (.dic g), some (.lst r), some (.lst nw) => some (n, ⟨la, pe, go, ro, no⟩, ⟨kept, l, p, g, r, nw, room, cut⟩)
        | _, _, _, _, _ => none) else none
    | _ => none)
  | _ => none
theorem rd_wr (ok : OkI S n i) : rdH C (wr C S n i h ++ E) (.ob n) = some (n, i, h) := by
  have ok2 : OkI (wr C S n i h ++ E) n i := ok_wr ok
  show (match (wr C S n i h ++ E)[n]? with
    | some (.ins C' [(f1, kept), (f2, .ob la), (f3, .ob pe), (f4, .ob go), (f5, .ob ro), (f6, .ob no), (f7, .int room), (f8, .bl cut)]) => _
    | _ => none) = _
  rw [wr_get_n ok]
  dsimp only [flds]
  rw [if_pos ⟨rfl, rfl, rfl, rfl, rfl, rfl, rfl, rfl, rfl, ok2⟩, wr_get_la ok, wr_get_pe ok, wr_get_go ok, wr_get_ro ok, wr_get_no ok]
theorem rd_some {o : A} (e : rdH C S o = some (n, i, h)) : o = .ob n ∧ OkI S n i ∧ wr C S n i h = S := by
  unfold rdH at e
  split at e
  · rename_i m
    split at e
    · rename_i C' f1 kept f2 la f3 pe f4 go f5 ro f6 no f7 room f8 cut hn
      split at e
      · rename_i hc
        obtain ⟨rfl, rfl, rfl, rfl, rfl, rfl, rfl, rfl, rfl, ok⟩ := hc
        split at e
        · rename_i l p g r nw h1 h2 h3 h4 h5
          cases e
          refine ⟨rfl, ok, ?_⟩
          apply List.ext_getElem?
          intro k
          rw [wr_get ok]
          repeat' split
          all_goals first | (rename_i z; subst z; symm; assumption) | rfl
        · cases e
      · cases e
    · cases e
  · cases e
theorem bel_wr (b : BelS S) (ok : OkI S n i) (h1 : ∀ m, Bel m h.kept) (h2 : ∀ m, ∀ p ∈ h.lasts, Bel m p.2) (h3 : ∀ m, ∀ x ∈ h.people, Bel m x) (h4 : ∀ m, ∀ p ∈ h.gone, Bel m p.2) (h5 : ∀ m, ∀ x ∈ h.rows, Bel m x) (h6 : ∀ m, ∀ x ∈ h.now, Bel m x) : BelS (wr C S n i h) := by
  intro o ho
  rw [wr_length]
  obtain ⟨k, hk⟩ := List.mem_iff_getElem?.mp ho
  rw [wr_get ok] at hk
  obtain ⟨lt, _⟩ := ok.all
  repeat' split at hk
  · cases hk; exact h6 _
  · cases hk; exact h5 _
  · cases hk; exact h4 _
  · cases hk; exact h3 _
  · cases hk; exact h2 _
  · cases hk
    intro p hp
    simp only [flds, List.mem_cons, List.not_mem_nil, or_false] at hp
    rcases hp with e | e | e | e | e | e | e | e <;> subst e
    · exact h1 _
    · exact .ob lt.2.1
    · exact .ob lt.2.2.1
    · exact .ob lt.2.2.2.1
    · exact .ob lt.2.2.2.2.1
    · exact .ob lt.2.2.2.2.2
    · exact .int _
    · exact .bl _
  · exact b o (List.mem_of_getElem? hk)
end
end Sx

set_option Elab.async false
set_option linter.all false
set_option maxRecDepth 100000
set_option maxHeartbeats 1000000
namespace Sx
open PySem PySem.Spec PyProof.Rows L2
/-! ### xs.index(y) -/
def vIndex : A → List A → Sto → RE := fun a l S => match a, l with
  | .ob n, [y] => (match itemsAt S n with
    | some xs => if (flatA y && xs.all flatA) = true then (match xs.findIdx? (fun z => eqF z y) with
      | some j => .ok (.int (j : Nat)) S
      | none => .stuck) else .stuck
    | none => .stuck)
  | _, _ => .stuck
section
variable {X : Cx} {T : Tbs} {W : WX}
theorem ms_index : MtS X T "list.index" vIndex := mt_imp mt_index fun x xs H Q a l S as r ra rl fv => by
  unfold vIndex at fv
  split at fv
  · rename_i n y
    cases rl with
    | cons ry rn =>
      cases rn
      obtain ⟨p, e, ea⟩ := RelA.list ra
      subst e
      split at fv
      · rename_i ys hys
        split at fv
        · rename_i hf
          obtain ⟨f1, f2⟩ := Bool.and_eq_true_iff.mp hf
          split at fv
          · rename_i j hj
            obtain ⟨vs, hq, rlv⟩ := r.sql hys ea
            obtain ⟨hlt, h1, h2⟩ := List.findIdx?_eq_some_iff_getElem.mp hj
            have e1 : ys[j]? = some ys[j] := List.getElem?_eq_getElem hlt
            obtain ⟨z, hz, rz⟩ := rlv.get e1
            have fl : ∀ w ∈ ys, flatA w = true := List.all_eq_true.mp f2
            refine ⟨p, vs, _, j, z, rfl, rfl, hq, by rw [ry.flat]; exact f1, by rw [rlv.flat]; exact f2, hz, ?_, fun m z' hm hz' => ?_, fv _ as H .refl r (.int _)⟩
            · rw [rz.eqF ry (fl _ (List.getElem_mem hlt)) f1]
              exact h1
            · have hml : m < ys.length := by omega
              have e2 : ys[m]? = some ys[m] := List.getElem?_eq_getElem hml
              obtain ⟨z2, hz2, rz2⟩ := rlv.get e2
              rw [hz2] at hz'
              cases hz'
              rw [rz2.eqF ry (fl _ (List.getElem_mem hml)) f1]
              have := h2 m hm
              simpa using this
          · exact False.elim fv
        · exact False.elim fv
      · exact False.elim fv
  · exact False.elim fv
end
/-! ### a hall, plainly -/
def owA : A → Str
  | .tup (.str o :: _) => o
  | _ => ""
def tpA : A → Str
  | .tup (_ :: .str t :: _) => t
  | _ => ""
def hwA : A → Str
  | .tup (_ :: _ :: _ :: .str w :: _) => w
  | _ => ""
def tsA : A → A
  | .tup (_ :: _ :: _ :: _ :: ts :: _) => ts
  | _ => .non
def dsA : A → List A
  | .tup [_, _, _, _, _, .tup ds] => ds
  | _ => []
def pAt (h : Ha) (x : Int) : A := h.people.getD x.toNat .non
def goneB (h : Ha) (x : Int) : Bool := (valA h.gone (.inl x)).isSome
def rngI (n : Nat) : List Int := (List.range n).map fun (k : Nat) => (k : Int)
def thereH (h : Ha) (p : A → Bool) : List Int := (rngI h.people.length).filter fun x => !goneB h x && p (pAt h x)
def orderH (h : Ha) (t : Str) : List Int := ordA h.people 2 (thereH h fun a => decide (tpA a = t))
def rCut : A := .tup [.str "cut"]
def rHeard (x : Int) (t : Str) (v : Int) : A := .tup [.str "heard", .int x, .str t, .int v]
def rRing (l : List A) : A := .tup [.str "ring", .tup l]
def Ha.row (h : Ha) (r : A) : Ha := { h with rows := h.rows ++ [r] }
def Ha.go (h : Ha) (x : Int) : Ha := { h with gone := putD h.gone (.inl x) (.bl true) }
def Ha.cutIt (h : Ha) : Ha := ({ h with cut := true } : Ha).row rCut
def keptL (h : Ha) : List A := match h.kept with
  | .tup l => l
  | _ => []
def inL (t : Str) (l : List A) : Bool := inF (.str t) l
def ringOf (t : Str) (l : List A) : List A := l.drop ((l.findIdx? fun z => eqF z (.str t)).getD 0) ++ [.str t]
def toldL (h : Ha) (t : Str) (v : Int) : Ha := if inL t (keptL h) = true then { h with lasts := putD h.lasts (.inr t) (.int v) } else h
abbrev Hear := Ha → Int → Int → Bool × Ha
def spLoop (hear : Hear) (v : Int) : List Int → Ha → Ha
  | [], h => h
  | x :: r, h => if (!goneB h x && !h.cut && fitT (tsA (pAt h x)) v) = true then (if (hear h x v).1 = true then (hear h x v).2 else spLoop hear v r (hear h x v).2) else spLoop hear v r h
def spreadW (hear : Hear) (h : Ha) (t : Str) (v : Int) : Ha :=
  if inL t h.now = true then h.row (rRing (ringOf t h.now)) else spLoop hear v (orderH (toldL h t v) t) (toldL h t v)
def lastI (h : Ha) (t : Str) : Option Int := match valA h.lasts (.inr t) with
  | some (.int v) => some v
  | _ => none
def comeW (hear : Hear) (h : Ha) (p : A) : Ha := match lastI h (tpA p) with
  | some v => if fitT (tsA p) v = true then (hear { h with people := h.people ++ [p] } (h.people.length : Nat) v).2 else { h with people := h.people ++ [p] }
  | none => { h with people := h.people ++ [p] }
def goL : List Int → Ha → Ha
  | [], h => h
  | x :: r, h => goL r (h.go x)
def dropL (h : Ha) (o : Str) : List Int := thereH h fun a => decide (owA a = o)
def dropW (h : Ha) (o : Str) : Ha := goL (dropL h o) h
def doW (hear : Hear) (d : A) (x v : Int) (h : Ha) : Ha := match d with
  | .tup [.str k, .str t, .int j] => if k = "tell" then spreadW hear h t ((v + j) % 10000) else h
  | .tup [.str k, a] => if k = "join" then comeW hear h a else if k = "leave" then (match a with
    | .str o => dropW h o
    | _ => h) else h
  | .tup [.str k] => if k = "done" then h.go x else h
  | _ => h
def isStop : A → Bool
  | .tup [.str k] => decide (k = "stop")
  | _ => false
def dsLoop (hear : Hear) (x v : Int) : List A → Bool → Ha → Bool × Ha
  | [], s, h => (s, h)
  | d :: r, s, h => if h.cut = true then dsLoop hear x v r s h else dsLoop hear x v r (isStop d || s) (doW hear d x v h)
def heardH (h : Ha) (x v : Int) : Ha :=
  let h1 := ({ h with room := h.room - 1 } : Ha).row (rHeard x (tpA (pAt h x)) v)
  let h2 := if hwA (pAt h x) = "once" then h1.go x else h1
  { h2 with now := h2.now ++ [.str (tpA (pAt h x))] }
def hearW (hear : Hear) : Hear := fun h x v =>
  if h.room = 0 then (true, h.cutIt) else
    let z := dsLoop hear x v (dsA (pAt h x)) false (heardH h x v)
    (z.1, { z.2 with now := z.2.now.dropLast })
def hearH : Nat → Hear
  | 0 => fun h _ _ => (true, h.cutIt)
  | n + 1 => hearW (hearH n)
end Sx

set_option Elab.async false
set_option linter.all false
set_option maxRecDepth 100000
set_option maxHeartbeats 1000000
namespace Sx
open PySem PySem.Spec PyProof.Rows L2
/-! ### halls that are well, and what a step keeps -/
theorem nodup_le {α : Type} [DecidableEq α] : ∀ (l r : List α), l.Nodup → (∀ x ∈ l, x ∈ r) → l.length ≤ r.length
  | [], _, _, _ => Nat.zero_le _
  | a :: l, r, hn, hs => by
    obtain ⟨ha, hn2⟩ := List.nodup_cons.mp hn
    have har : a ∈ r := hs a (by simp)
    have h2 := nodup_le l (r.erase a) hn2 fun x hx => (List.mem_erase_of_ne (show x ≠ a from fun e => ha (by rw [← e]; exact hx))).mpr (hs x (by simp [hx]))
    rw [List.length_erase_of_mem har] at h2
    have : 0 < r.length := List.length_pos_of_mem har
    simp only [List.length_cons]
    omega
section
variable {κ : Type} [DecidableEq κ]
theorem putD_keys (kvs : List (κ × A)) (k : κ) (v : A) : (putD kvs k v).map (·.1) = if k ∈ kvs.map (·.1) then kvs.map (·.1) else kvs.map (·.1) ++ [k] := by
  unfold putD
  have e : (kvs.any fun kv => decide (kv.1 = k)) = true ↔ k ∈ kvs.map (·.1) := by
    simp only [List.any_eq_true, decide_eq_true_eq, List.mem_map]
  by_cases h : k ∈ kvs.map (·.1)
  · rw [if_pos (e.mpr h), if_pos h, List.map_map]
    refine List.map_congr_left fun p hp => ?_
    simp only [Function.comp]
    split <;> rfl
  · rw [if_neg (fun z => h (e.mp z)), if_neg h, List.map_append]
    rfl
theorem putD_nodup {kvs : List (κ × A)} (h : (kvs.map (·.1)).Nodup) (k : κ) (v : A) : ((putD kvs k v).map (·.1)).Nodup := by
  rw [putD_keys]
  split
  · exact h
  · rename_i hk
    rw [List.nodup_append]
    refine ⟨h, by simp, fun a ha b hb => ?_⟩
    simp at hb
    subst hb
    exact fun z => hk (z ▸ ha)
theorem putD_mem {kvs : List (κ × A)} {k : κ} {v : A} {p : κ × A} (h : p ∈ putD kvs k v) : p = (k, v) ∨ p ∈ kvs := by
  unfold putD at h
  split at h
  · obtain ⟨q, hq, e⟩ := List.mem_map.mp h
    split at e
    · rename_i z
      exact .inl (by rw [← e, z])
    · exact .inr (e ▸ hq)
  · rcases List.mem_append.mp h with h | h
    · exact .inr h
    · exact .inl (by simpa using h)
theorem valA_isSome {kvs : List (κ × A)} {k : κ} : (valA kvs k).isSome = true ↔ k ∈ kvs.map (·.1) := by
  unfold valA
  rw [Option.isSome_map, List.find?_isSome]
  simp only [decide_eq_true_eq, List.mem_map]
theorem valA_mem {kvs : List (κ × A)} {k : κ} {v : A} (h : valA kvs k = some v) : (k, v) ∈ kvs := by
  unfold valA at h
  cases e : kvs.find? fun kv => decide (kv.1 = k) with
  | none => rw [e] at h; cases h
  | some p =>
    rw [e] at h
    cases h
    have h1 := List.mem_of_find?_eq_some e
    have h2 := List.find?_some e
    simp only [decide_eq_true_eq] at h2
    rw [← h2]
    exact h1
end
structure Wf (h : Ha) : Prop where
  kept : ∃ ks : List Str, h.kept = .tup (ks.map .str) ∧ (∀ k ∈ ks, isWordS k = true) ∧ ks.length ≤ 1000
  lasts : ∀ p ∈ h.lasts, ∃ t v, p = (.inr t, .int v) ∧ .str t ∈ keptL h ∧ 0 ≤ v ∧ v ≤ 9999
  lnd : (h.lasts.map (·.1)).Nodup
  people : ∀ a ∈ h.people, isHr 3 a = true
  gone : ∀ p ∈ h.gone, ∃ x : Int, p = (.inl x, .bl true) ∧ 0 ≤ x ∧ x < h.people.length
  gnd : (h.gone.map (·.1)).Nodup
  rows : ∀ r ∈ h.rows, nice 3 r = true
  now : ∀ a ∈ h.now, isWord a = true
  room : 0 ≤ h.room ∧ h.room ≤ 100
/-- rows, people, room, and the cut row -/
def Mh (h : Ha) : Nat := h.rows.length + h.people.length + 8 * h.room.toNat + (if h.cut = true then 0 else 1)
/-- what every step keeps -/
structure Stp (h h' : Ha) : Prop where
  kept : h'.kept = h.kept
  people : ∃ l, h'.people = h.people ++ l
  rows : ∃ l, h'.rows = h.rows ++ l
  room : h'.room ≤ h.room
  gone : ∀ x, goneB h x = true → goneB h' x = true
theorem Stp.refl (h : Ha) : Stp h h := ⟨rfl, ⟨[], by simp⟩, ⟨[], by simp⟩, Int.le_refl _, fun _ z => z⟩
theorem Stp.trans {a b c : Ha} (x : Stp a b) (y : Stp b c) : Stp a c := by
  obtain ⟨l1, e1⟩ := x.people
  obtain ⟨l2, e2⟩ := y.people
  obtain ⟨m1, f1⟩ := x.rows
  obtain ⟨m2, f2⟩ := y.rows
  exact ⟨y.kept.trans x.kept, ⟨l1 ++ l2, by rw [e2, e1, List.append_assoc]⟩, ⟨m1 ++ m2, by rw [f2, f1, List.append_assoc]⟩, Int.le_trans y.room x.room, fun z h => y.gone z (x.gone z h)⟩
theorem Stp.len {h h' : Ha} (s : Stp h h') : h.people.length ≤ h'.people.length := by
  obtain ⟨l, e⟩ := s.people
  rw [e, List.length_append]
  omega
theorem goneB_iff {h : Ha} {x : Int} : goneB h x = true ↔ Sum.inl x ∈ h.gone.map (·.1) := valA_isSome
theorem gone_len {h : Ha} (w : Wf h) : h.gone.length ≤ h.people.length := by
  have := nodup_le (h.gone.map (·.1)) ((rngI h.people.length).map Sum.inl) w.gnd fun k hk => by
    obtain ⟨p, hp, rfl⟩ := List.mem_map.mp hk
    obtain ⟨x, e, h1, h2⟩ := w.gone p hp
    rw [e]
    refine List.mem_map.mpr ⟨x, ?_, rfl⟩
    unfold rngI
    exact List.mem_map.mpr ⟨x.toNat, by simp; omega, by simp; omega⟩
  simpa [rngI] using this
theorem lasts_len {h : Ha} (w : Wf h) : h.lasts.length ≤ 1000 := by
  obtain ⟨ks, e, _, hl⟩ := w.kept
  have := nodup_le (h.lasts.map (·.1)) (ks.map Sum.inr) w.lnd fun k hk => by
    obtain ⟨p, hp, rfl⟩ := List.mem_map.mp hk
    obtain ⟨t, v, e2, h1, _⟩ := w.lasts p hp
    rw [e2]
    unfold keptL at h1
    rw [e] at h1
    simp at h1
    exact List.mem_map.mpr ⟨t, h1, rfl⟩
  simp at this
  omega
/-! single steps -/
theorem wf_row {h : Ha} (w : Wf h) {r : A} (hr : nice 3 r = true) : Wf (h.row r) :=
  ⟨w.kept, w.lasts, w.lnd, w.people, w.gone, w.gnd, fun x hx => (List.mem_append.mp hx).elim (w.rows x) fun hx => by simp at hx; subst hx; exact hr, w.now, w.room⟩
theorem stp_row (h : Ha) (r : A) : Stp h (h.row r) := ⟨rfl, ⟨[], by simp [Ha.row]⟩, ⟨[r], rfl⟩, Int.le_refl _, fun _ z => z⟩
theorem mh_row (h : Ha) (r : A) : Mh (h.row r) = Mh h + 1 := by
  unfold Mh Ha.row
  simp
  omega
theorem wf_go {h : Ha} (w : Wf h) {x : Int} (h0 : 0 ≤ x) (h1 : x < h.people.length) : Wf (h.go x) :=
  ⟨w.kept, w.lasts, w.lnd, w.people, fun p hp => (putD_mem hp).elim (fun e => ⟨x, e, h0, h1⟩) (w.gone p), putD_nodup w.gnd _ _, w.rows, w.now, w.room⟩
theorem goneB_go {h : Ha} {x y : Int} : goneB (h.go x) y = (decide (x = y) || goneB h y) := by
  rw [Bool.eq_iff_iff]
  simp only [Bool.or_eq_true, decide_eq_true_eq]
  rw [goneB_iff, goneB_iff]
  show _ ∈ (putD h.gone (.inl x) (.bl true)).map (·.1) ↔ _
  rw [putD_keys]
  split
  · rename_i hx
    constructor
    · exact fun z => .inr z
    · rintro (z | z)
      · subst z; exact hx
      · exact z
  · rw [List.mem_append]
    constructor
    · rintro (z | z)
      · exact .inr z
      · simp at z; exact .inl z.symm
    · rintro (z | z)
      · exact .inr (by simp [z])
      · exact .inl z
theorem stp_go (h : Ha) (x : Int) : Stp h (h.go x) := ⟨rfl, ⟨[], by simp [Ha.go]⟩, ⟨[], by simp [Ha.go]⟩, Int.le_refl _, fun y z => by rw [goneB_go, z, Bool.or_true]⟩
theorem mh_go (h : Ha) (x : Int) : Mh (h.go x) = Mh h := rfl
theorem pAt_hr {h : Ha} (w : Wf h) {x : Int} (h0 : 0 ≤ x) (h1 : x < h.people.length) : isHr 3 (pAt h x) = true := by
  unfold pAt
  have hx : x.toNat < h.people.length := by omega
  rw [List.getD_eq_getElem?_getD, List.getElem?_eq_getElem hx]
  exact w.people _ (List.getElem_mem hx)
theorem there_mem {h : Ha} {p : A → Bool} {x : Int} : x ∈ thereH h p ↔ (0 ≤ x ∧ x < h.people.length) ∧ goneB h x = false ∧ p (pAt h x) = true := by
  unfold thereH rngI
  simp only [List.mem_filter, List.mem_map, List.mem_range, Bool.and_eq_true, Bool.not_eq_true']
  constructor
  · rintro ⟨⟨k, hk, rfl⟩, h2⟩
    exact ⟨⟨by omega, by omega⟩, h2⟩
  · rintro ⟨⟨h0, h1⟩, h2⟩
    exact ⟨⟨x.toNat, by omega, by omega⟩, h2⟩
theorem order_mem {h : Ha} {t : Str} {x : Int} : x ∈ orderH h t ↔ (0 ≤ x ∧ x < h.people.length) ∧ goneB h x = false ∧ tpA (pAt h x) = t := by
  unfold orderH ordA
  rw [List.mem_mergeSort, there_mem]
  simp
end Sx

set_option Elab.async false
set_option linter.all false
set_option maxRecDepth 100000
set_option maxHeartbeats 1000000
namespace Sx
open PySem PySem.Spec PyProof.Rows L2
/-- a step's promise: k rows or people more at the most, beyond what the room paid -/
structure St1 (k : Nat) (h h' : Ha) : Prop where
  wf : Wf h'
  stp : Stp h h'
  mh : Mh h' ≤ Mh h + k
  now : h'.now = h.now
theorem St1.refl {h : Ha} (w : Wf h) : St1 0 h h := ⟨w, .refl h, Nat.le_refl _, rfl⟩
theorem St1.trans {a b c : Ha} {j k : Nat} (x : St1 j a b) (y : St1 k b c) : St1 (j + k) a c := ⟨y.wf, x.stp.trans y.stp, by have := x.mh; have := y.mh; omega, y.now.trans x.now⟩
theorem St1.mono {a b : Ha} {j k : Nat} (x : St1 j a b) (h : j ≤ k) : St1 k a b := ⟨x.wf, x.stp, by have := x.mh; omega, x.now⟩
def HearOk (r : Int) (hear : Hear) : Prop := ∀ h x v, Wf h → h.room ≤ r → h.cut = false → 0 ≤ x → x < (h.people.length : Int) → 0 ≤ v → v ≤ 9999 → St1 0 h (hear h x v).2
theorem sp_ok {hear : Hear} {r v : Int} (ok : HearOk r hear) (v0 : 0 ≤ v) (v1 : v ≤ 9999) : ∀ (l : List Int) (h : Ha), (∀ x ∈ l, 0 ≤ x ∧ x < (h.people.length : Int)) → Wf h → h.room ≤ r → St1 0 h (spLoop hear v l h)
  | [], h, _, w, _ => .refl w
  | x :: l, h, hl, w, hr => by
    unfold spLoop
    split
    · rename_i hc
      simp only [Bool.and_eq_true, Bool.not_eq_true'] at hc
      have s := ok h x v w hr hc.1.2 (hl x (by simp)).1 (hl x (by simp)).2 v0 v1
      split
      · exact s
      · exact s.trans (sp_ok ok v0 v1 l _ (fun y hy => ⟨(hl y (by simp [hy])).1, Int.lt_of_lt_of_le (hl y (by simp [hy])).2 (by have := s.stp.len; omega)⟩) s.wf (Int.le_trans s.stp.room hr))
    · exact sp_ok ok v0 v1 l h (fun y hy => hl y (by simp [hy])) w hr
theorem eqF_str {a : A} {t : Str} (h : eqF a (.str t) = true) : a = .str t := by
  cases a <;> simp [eqF] at h
  rw [h]
theorem inL_mem {t : Str} {l : List A} (h : inL t l = true) : A.str t ∈ l := by
  unfold inL inF at h
  obtain ⟨y, hy, e⟩ := List.any_eq_true.mp h
  rw [← eqF_str e]
  exact hy
theorem inL_iff {t : Str} {l : List A} : inL t l = true ↔ A.str t ∈ l := ⟨inL_mem, fun h => List.any_eq_true.mpr ⟨_, h, by simp [eqF]⟩⟩
theorem told_ok {h : Ha} {t : Str} {v : Int} (w : Wf h) (v0 : 0 ≤ v) (v1 : v ≤ 9999) : St1 0 h (toldL h t v) := by
  unfold toldL
  split
  · rename_i hk
    refine ⟨⟨w.kept, fun p hp => (putD_mem hp).elim (fun e => ⟨t, v, e, inL_mem hk, v0, v1⟩) (w.lasts p), putD_nodup w.lnd _ _, w.people, w.gone, w.gnd, w.rows, w.now, w.room⟩, ⟨rfl, ⟨[], by simp⟩, ⟨[], by simp⟩, Int.le_refl _, fun _ z => z⟩, Nat.le_refl _, rfl⟩
  · exact .refl w
theorem nice_ring {h : Ha} (w : Wf h) {t : Str} (ht : isWordS t = true) : nice 3 (rRing (ringOf t h.now)) = true := by
  refine nice_tupI fun x hx => ?_
  simp only [List.mem_cons, List.not_mem_nil, or_false] at hx
  rcases hx with e | e <;> subst e
  · exact nice_str (by decide +kernel)
  · refine nice_tupI fun x hx => ?_
    unfold ringOf at hx
    rcases List.mem_append.mp hx with hx | hx
    · exact nice_word (w.now x (List.mem_of_mem_drop hx))
    · simp at hx; subst hx; exact nice_word (a := .str t) ht
theorem spread_ok {hear : Hear} {r v : Int} {t : Str} {h : Ha} (ok : HearOk r hear) (v0 : 0 ≤ v) (v1 : v ≤ 9999) (ht : isWordS t = true) (w : Wf h) (hr : h.room ≤ r) : St1 1 h (spreadW hear h t v) := by
  unfold spreadW
  split
  · exact ⟨wf_row w (nice_ring w ht), stp_row _ _, Nat.le_of_eq (mh_row _ _), rfl⟩
  · have s := told_ok (t := t) w v0 v1
    have s2 := sp_ok ok v0 v1 (orderH (toldL h t v) t) (toldL h t v) (fun x hx => (order_mem.mp hx).1) s.wf (Int.le_trans s.stp.room hr)
    exact (s.trans s2).mono (by decide)
theorem add_ok {h : Ha} {p : A} (w : Wf h) (hp : isHr 3 p = true) : St1 1 h { h with people := h.people ++ [p] } := by
  refine ⟨⟨w.kept, w.lasts, w.lnd, fun a ha => (List.mem_append.mp ha).elim (w.people a) fun z => by simp at z; subst z; exact hp, fun q hq => ?_, w.gnd, w.rows, w.now, w.room⟩, ⟨rfl, ⟨[p], rfl⟩, ⟨[], by simp⟩, Int.le_refl _, fun _ z => z⟩, ?_, rfl⟩
  · obtain ⟨x, e, h0, h1⟩ := w.gone q hq
    exact ⟨x, e, h0, by simp; omega⟩
  · unfold Mh
    simp
    omega
theorem lastI_some {h : Ha} {t : Str} {v : Int} (w : Wf h) (e : lastI h t = some v) : valA h.lasts (.inr t) = some (.int v) ∧ 0 ≤ v ∧ v ≤ 9999 := by
  unfold lastI at e
  split at e
  · rename_i u hu
    cases e
    obtain ⟨t2, v2, e2, _, h0, h1⟩ := w.lasts _ (valA_mem hu)
    cases e2
    exact ⟨hu, h0, h1⟩
  · cases e
theorem come_ok {hear : Hear} {r : Int} {p : A} {h : Ha} (ok : HearOk r hear) (hp : isHr 3 p = true) (w : Wf h) (hr : h.room ≤ r) (hc : h.cut = false) : St1 1 h (comeW hear h p) := by
  have s := add_ok w hp
  unfold comeW
  split
  · rename_i v hv
    obtain ⟨_, v0, v1⟩ := lastI_some w hv
    split
    · exact s.trans (ok _ _ v s.wf hr hc (by omega) (by simp; omega) v0 v1)
    · exact s
  · exact s
theorem goL_ok : ∀ (l : List Int) (h : Ha), (∀ x ∈ l, 0 ≤ x ∧ x < (h.people.length : Int)) → Wf h → St1 0 h (goL l h) ∧ (goL l h).cut = h.cut ∧ (goL l h).people = h.people
  | [], h, _, w => ⟨.refl w, rfl, rfl⟩
  | x :: l, h, hl, w => by
    have w2 := wf_go w (hl x (by simp)).1 (hl x (by simp)).2
    have s1 : St1 0 h (h.go x) := ⟨w2, stp_go _ _, Nat.le_of_eq (mh_go h x), rfl⟩
    obtain ⟨s2, e1, e2⟩ := goL_ok l (h.go x) (fun y hy => hl y (by simp [hy])) w2
    exact ⟨s1.trans s2, e1, e2⟩
theorem drop_ok {h : Ha} {o : Str} (w : Wf h) : St1 0 h (dropW h o) := (goL_ok _ h (fun x hx => (there_mem.mp hx).1) w).1
/-- a good deed's kinds -/
theorem deed_cases {f : A → Bool} {d : A} (h : isDeedW f d = true) : (d = .tup [.str "stop"] ∨ d = .tup [.str "done"]) ∨ (∃ t j, d = .tup [.str "tell", .str t, .int j] ∧ isWordS t = true ∧ 0 ≤ j ∧ j ≤ 9999) ∨ (∃ o, d = .tup [.str "leave", .str o] ∧ isWordS o = true) ∨ ∃ p, d = .tup [.str "join", p] ∧ f p = true := by
  unfold isDeedW at h
  split at h
  · rename_i s r
    split at h
    · rename_i hs
      have : r = [] := by simpa using h
      subst this
      rcases hs with hs | hs <;> subst hs
      · exact .inl (.inl rfl)
      · exact .inl (.inr rfl)
    · split at h
      · rename_i hs
        subst hs
        split at h
        · rename_i a b
          simp only [Bool.and_eq_true] at h
          cases a with
          | str t => cases b with
            | int j =>
              have h2 := h.2
              simp [isIn] at h2
              exact .inr (.inl ⟨t, j, rfl, h.1, h2.1, h2.2⟩)
            | _ => simp [isIn] at h
          | _ => simp [isWord] at h
        · cases h
      · split at h
        · rename_i hs
          subst hs
          split at h
          · rename_i a
            cases a with
            | str t => exact .inr (.inr (.inl ⟨t, rfl, h⟩))
            | _ => simp [isWord] at h
          · cases h
        · simp only [Bool.and_eq_true, decide_eq_true_eq] at h
          obtain ⟨hs, h⟩ := h
          subst hs
          split at h
          · exact .inr (.inr (.inr ⟨_, rfl, h⟩))
          · cases h
  · cases h
theorem do_stop {hear : Hear} {x v : Int} {h : Ha} : doW hear (.tup [.str "stop"]) x v h = h := by
  unfold doW
  dsimp only
  rw [if_neg (by decide)]
theorem do_done {hear : Hear} {x v : Int} {h : Ha} : doW hear (.tup [.str "done"]) x v h = h.go x := by
  unfold doW
  dsimp only
  rw [if_pos rfl]
theorem do_tell {hear : Hear} {x v j : Int} {t : Str} {h : Ha} : doW hear (.tup [.str "tell", .str t, .int j]) x v h = spreadW hear h t ((v + j) % 10000) := by
  unfold doW
  dsimp only
  rw [if_pos rfl]
theorem do_leave {hear : Hear} {x v : Int} {o : Str} {h : Ha} : doW hear (.tup [.str "leave", .str o]) x v h = dropW h o := by
  unfold doW
  dsimp only
  rw [if_neg (by decide), if_pos rfl]
theorem do_join {hear : Hear} {x v : Int} {p : A} {h : Ha} : doW hear (.tup [.str "join", p]) x v h = comeW hear h p := by
  unfold doW
  cases p with
  | _ => dsimp only; rw [if_pos rfl]
theorem do_ok {hear : Hear} {r x v : Int} {d : A} {h : Ha} (ok : HearOk r hear) (hd : isDeedW (isHr 2) d = true) (w : Wf h) (hr : h.room ≤ r) (hc : h.cut = false) (x0 : 0 ≤ x) (x1 : x < (h.people.length : Int)) : St1 1 h (doW hear d x v h) := by
  rcases deed_cases hd with (e | e) | ⟨t, j, e, ht, j0, j1⟩ | ⟨o, e, ho⟩ | ⟨p, e, hp⟩ <;> subst e
  · rw [do_stop]
    exact (St1.refl w).mono (by decide)
  · rw [do_done]
    exact ⟨wf_go w x0 x1, stp_go _ _, Nat.le_succ_of_le (Nat.le_of_eq (mh_go h x)), rfl⟩
  · rw [do_tell]
    obtain ⟨a, b⟩ := emod_lt' (a := v + j) (b := 10000) (by decide)
    exact spread_ok ok a (by omega) ht w hr
  · rw [do_leave]
    exact (drop_ok w).mono (by decide)
  · rw [do_join]
    exact come_ok ok (isHr_succ hp) w hr hc
theorem ds_ok {hear : Hear} {r x v : Int} (ok : HearOk r hear) : ∀ (l : List A) (s : Bool) (h : Ha), (∀ d ∈ l, isDeedW (isHr 2) d = true) → Wf h → h.room ≤ r → 0 ≤ x → x < (h.people.length : Int) → St1 l.length h (dsLoop hear x v l s h).2
  | [], s, h, _, w, _, _, _ => .refl w
  | d :: l, s, h, hl, w, hr, x0, x1 => by
    unfold dsLoop
    split
    · exact (ds_ok ok l s h (fun y hy => hl y (by simp [hy])) w hr x0 x1).mono (by simp)
    · rename_i hc
      have s1 := do_ok (v := v) ok (hl d (by simp)) w hr (by simpa using hc) x0 x1
      have s2 := ds_ok (v := v) ok l (isStop d || s) (doW hear d x v h) (fun y hy => hl y (by simp [hy])) s1.wf (Int.le_trans s1.stp.room hr) x0 (Int.lt_of_lt_of_le x1 (by have := s1.stp.len; omega))
      exact (s1.trans s2).mono (by simp; omega)
theorem cut_ok {h : Ha} (w : Wf h) (hc : h.cut = false) : St1 0 h h.cutIt := by
  refine ⟨⟨w.kept, w.lasts, w.lnd, w.people, w.gone, w.gnd, fun x hx => (List.mem_append.mp hx).elim (w.rows x) fun z => by simp at z; subst z; decide +kernel, w.now, w.room⟩, ⟨rfl, ⟨[], by simp [Ha.cutIt, Ha.row]⟩, ⟨[rCut], rfl⟩, Int.le_refl _, fun _ z => z⟩, ?_, rfl⟩
  unfold Mh Ha.cutIt Ha.row
  simp [hc]
  omega
theorem hr3_parts {a : A} (h : isHr 3 a = true) : ∃ o t r w ts ds, a = .tup [.str o, .str t, .int r, .str w, ts, .tup ds] ∧ isWordS o = true ∧ isWordS t = true ∧ (0 ≤ r ∧ r ≤ 9) ∧ isHow (.str w) = true ∧ isTest ts = true ∧ ds.length ≤ 3 ∧ ∀ x ∈ ds, isDeedW (isHr 2) x = true := by
  obtain ⟨o, t, r, w, ts, ds, e, h1, h2, h3, h4, h5, h6, h7⟩ := isHr_cases h
  cases o with
  | str o => cases t with
    | str t => cases r with
      | int r => cases w with
        | str w =>
          simp [isIn] at h3
          exact ⟨o, t, r, w, ts, ds, e, h1, h2, h3, h4, h5, h6, h7⟩
        | _ => cases h4
      | _ => cases h3
    | _ => cases h2
  | _ => cases h1
theorem heard_ok {h : Ha} {x v : Int} (w : Wf h) (hr : 0 < h.room) (x0 : 0 ≤ x) (x1 : x < (h.people.length : Int)) : Wf (heardH h x v) ∧ Stp h (heardH h x v) ∧ Mh (heardH h x v) + 7 ≤ Mh h ∧ (heardH h x v).now = h.now ++ [.str (tpA (pAt h x))] ∧ (heardH h x v).people = h.people ∧ (heardH h x v).room = h.room - 1 ∧ (heardH h x v).cut = h.cut := by
  obtain ⟨o, t, r, hw, ts, ds, e, h1, h2, h3, h4, h5, h6, h7⟩ := hr3_parts (pAt_hr w x0 x1)
  have et : tpA (pAt h x) = t := by rw [e]; rfl
  have w1 : Wf { h with room := h.room - 1 } := ⟨w.kept, w.lasts, w.lnd, w.people, w.gone, w.gnd, w.rows, w.now, by have := w.room; show 0 ≤ h.room - 1 ∧ h.room - 1 ≤ 100; omega⟩
  have nr : nice 3 (rHeard x (tpA (pAt h x)) v) = true := by
    rw [et]
    refine nice_tupI fun y hy => ?_
    simp only [List.mem_cons, List.not_mem_nil, or_false] at hy
    rcases hy with z | z | z | z <;> subst z
    · exact nice_str (by decide +kernel)
    · exact nice_int
    · exact nice_word (a := .str t) h2
    · exact nice_int
  have w2 := wf_row w1 nr
  have key : ∀ h2 : Ha, Wf h2 → h2.now = h.now → Wf { h2 with now := h2.now ++ [.str (tpA (pAt h x))] } := fun h2 w' en => ⟨w'.kept, w'.lasts, w'.lnd, w'.people, w'.gone, w'.gnd, w'.rows, fun a ha => (List.mem_append.mp ha).elim (w'.now a) fun z => by simp at z; subst z; rw [et]; exact ‹isWordS t = true›, w'.room⟩
  have mh : Mh ({ h with room := h.room - 1 } : Ha) + 8 = Mh h := by
    unfold Mh
    simp
    omega
  unfold heardH
  dsimp only
  split
  · refine ⟨key _ (wf_go w2 x0 x1) rfl, ?_, ?_, rfl, rfl, rfl, rfl⟩
    · exact ⟨rfl, ⟨[], by simp [Ha.go, Ha.row]⟩, ⟨[_], rfl⟩, by show h.room - 1 ≤ h.room; omega, fun y z => (stp_go _ x).gone y z⟩
    · have := mh_row ({ h with room := h.room - 1 } : Ha) (rHeard x (tpA (pAt h x)) v)
      show Mh (({ h with room := h.room - 1 } : Ha).row (rHeard x (tpA (pAt h x)) v)) + 7 ≤ _
      omega
  · refine ⟨key _ w2 rfl, ?_, ?_, rfl, rfl, rfl, rfl⟩
    · exact ⟨rfl, ⟨[], by simp [Ha.row]⟩, ⟨[_], rfl⟩, by show h.room - 1 ≤ h.room; omega, fun y z => z⟩
    · have := mh_row ({ h with room := h.room - 1 } : Ha) (rHeard x (tpA (pAt h x)) v)
      show Mh (({ h with room := h.room - 1 } : Ha).row (rHeard x (tpA (pAt h x)) v)) + 7 ≤ _
      omega
theorem hearW_ok {hear : Hear} {r : Int} (ok : HearOk r hear) : HearOk (r + 1) (hearW hear) := fun h x v w hr hc x0 x1 v0 v1 => by
  unfold hearW
  split
  · exact cut_ok w hc
  · rename_i h0
    have h1 : 0 < h.room := by have := w.room; omega
    obtain ⟨w1, s1, m1, n1, p1, r1, c1⟩ := heard_ok (v := v) w h1 x0 x1
    obtain ⟨o, t, rk, hw, ts, ds, e, _, _, _, _, _, h6, h7⟩ := hr3_parts (pAt_hr w x0 x1)
    have ed : dsA (pAt h x) = ds := by rw [e]; rfl
    have s2 := ds_ok (v := v) (x := x) ok ds false (heardH h x v) h7 w1 (by rw [r1]; omega) x0 (by rw [p1]; exact x1)
    dsimp only
    rw [ed]
    have w2 := s2.wf
    refine ⟨⟨w2.kept, w2.lasts, w2.lnd, w2.people, w2.gone, w2.gnd, w2.rows, fun a ha => w2.now a ((List.dropLast_sublist _).subset ha), w2.room⟩, ?_, ?_, ?_⟩
    · have s3 := s1.trans s2.stp
      exact ⟨s3.kept, s3.people, s3.rows, s3.room, s3.gone⟩
    · have := s2.mh
      show Mh (dsLoop hear x v ds false (heardH h x v)).2 ≤ _
      omega
    · show (dsLoop hear x v ds false (heardH h x v)).2.now.dropLast = h.now
      rw [s2.now, n1]
      simp
theorem hear_ok : ∀ n : Nat, HearOk (n : Int) (hearH n)
  | 0 => fun h x v w hr hc _ _ _ _ => cut_ok w hc
  | n + 1 => by
    have := hearW_ok (hear_ok n)
    exact_mod_cast this
end Sx

set_option Elab.async false
set_option linter.all false
set_option maxRecDepth 100000
set_option maxHeartbeats 1000000
namespace Sx
open PySem PySem.Spec PyProof.Rows L2
/-! ### rules for a store with a hall -/
section
variable {C : Addr} {S E : Sto} {n : Nat} {i : Ids} {h h' : Ha}
theorem ins_wr (ok : OkI S n i) : insAt C (.ob n) (wr C S n i h ++ E) = some (n, flds i h) := by
  show (match (wr C S n i h ++ E)[n]? with
    | some (.ins C' fs) => if C' = C then some (n, fs) else none
    | _ => none) = _
  rw [wr_get_n ok]
  exact if_pos rfl
theorem it_pe (ok : OkI S n i) : itemsAt (wr C S n i h ++ E) i.pe = some h.people := by
  unfold itemsAt
  rw [wr_get_pe ok]
  rfl
theorem it_ro (ok : OkI S n i) : itemsAt (wr C S n i h ++ E) i.ro = some h.rows := by
  unfold itemsAt
  rw [wr_get_ro ok]
  rfl
theorem it_no (ok : OkI S n i) : itemsAt (wr C S n i h ++ E) i.no = some h.now := by
  unfold itemsAt
  rw [wr_get_no ok]
  rfl
theorem di_go (ok : OkI S n i) : dicAt (wr C S n i h ++ E) (.ob i.go) = some (i.go, h.gone) := by
  show (match (wr C S n i h ++ E)[i.go]? with
    | some (.dic kvs) => some (i.go, kvs)
    | _ => none) = _
  rw [wr_get_go ok]
theorem di_la (ok : OkI S n i) : dicAt (wr C S n i h ++ E) (.ob i.la) = some (i.la, h.lasts) := by
  show (match (wr C S n i h ++ E)[i.la]? with
    | some (.dic kvs) => some (i.la, kvs)
    | _ => none) = _
  rw [wr_get_la ok]
theorem ty_ro (ok : OkI S n i) : tyB "list" (wr C S n i h ++ E) (.ob i.ro) = true := tyB_list (wr_get_ro ok)
theorem ty_no (ok : OkI S n i) : tyB "list" (wr C S n i h ++ E) (.ob i.no) = true := tyB_list (wr_get_no ok)
theorem ty_pe (ok : OkI S n i) : tyB "list" (wr C S n i h ++ E) (.ob i.pe) = true := tyB_list (wr_get_pe ok)
theorem app_ro (ok : OkI S n i) (y : A) (hl : h.rows.length < 4000000) : vAppend (.ob i.ro) [y] (wr C S n i h ++ E) = .ok .non (wr C S n i (h.row y) ++ E) := by
  rw [append_at (wr_get_ro ok) hl, wr_set_ro ok]
  rfl
theorem app_no (ok : OkI S n i) (y : A) (hl : h.now.length < 4000000) : vAppend (.ob i.no) [y] (wr C S n i h ++ E) = .ok .non (wr C S n i { h with now := h.now ++ [y] } ++ E) := by
  rw [append_at (wr_get_no ok) hl, wr_set_no ok]
theorem app_pe (ok : OkI S n i) (y : A) (hl : h.people.length < 4000000) : vAppend (.ob i.pe) [y] (wr C S n i h ++ E) = .ok .non (wr C S n i { h with people := h.people ++ [y] } ++ E) := by
  rw [append_at (wr_get_pe ok) hl, wr_set_pe ok]
theorem pop_no (ok : OkI S n i) {y : A} {l : List A} (hn : h.now = l ++ [y]) : vPop (.ob i.no) [] (wr C S n i h ++ E) = .ok y (wr C S n i { h with now := l } ++ E) := by
  show (match (wr C S n i h ++ E)[i.no]? with
    | some (.lst xs) => (match xs[xs.length - 1]? with
      | some y => RE.ok y ((wr C S n i h ++ E).set i.no (.lst xs.dropLast))
      | none => .stuck)
    | _ => .stuck) = _
  rw [wr_get_no ok, hn]
  have e : (l ++ [y])[(l ++ [y]).length - 1]? = some y := by simp
  simp only [e]
  rw [wr_set_no ok]
  simp
theorem put_go (ok : OkI S n i) (x : Int) (hl : h.gone.length < 4000000) : dput (wr C S n i h ++ E) (.ob i.go) (.int x) (.bl true) = some (wr C S n i (h.go x) ++ E) := by
  unfold dput
  rw [di_go ok]
  show (if h.gone.length < 4000000 then some ((wr C S n i h ++ E).set i.go (.dic (putD h.gone (.inl x) (.bl true)))) else none) = _
  rw [if_pos hl, wr_set_go ok]
  rfl
theorem put_la (ok : OkI S n i) (t : Str) (v : Int) (hl : h.lasts.length < 4000000) : dput (wr C S n i h ++ E) (.ob i.la) (.str t) (.int v) = some (wr C S n i { h with lasts := putD h.lasts (.inr t) (.int v) } ++ E) := by
  unfold dput
  rw [di_la ok]
  show (if h.lasts.length < 4000000 then some ((wr C S n i h ++ E).set i.la (.dic (putD h.lasts (.inr t) (.int v)))) else none) = _
  rw [if_pos hl, wr_set_la ok]
theorem set_room (ok : OkI S n i) (r : Int) : (wr C S n i h ++ E).set n (.ins C (flds i { h with room := r })) = wr C S n i { h with room := r } ++ E := wr_set_n ok r h.cut
theorem set_cut (ok : OkI S n i) (c : Bool) : (wr C S n i h ++ E).set n (.ins C (flds i { h with cut := c })) = wr C S n i { h with cut := c } ++ E := wr_set_n ok h.room c
theorem notin_go (ok : OkI S n i) (x : Int) : vDnotin (.int x) (.ob i.go) (wr C S n i h ++ E) = .ok (.bl (!goneB h x)) (wr C S n i h ++ E) := by
  unfold vDnotin
  rw [di_go ok]
  rfl
theorem ix_pe (ok : OkI S n i) {x : Int} (h0 : 0 ≤ x) (h1 : x < (h.people.length : Int)) : vIx (.ob i.pe) (.int x) (wr C S n i h ++ E) = .ok (pAt h x) (wr C S n i h ++ E) := by
  rw [vIx_obE, it_pe ok]
  simp only [atI_getD A.non h0 h1]
  rfl
theorem len_pe (ok : OkI S n i) : vLen [.ob i.pe] (wr C S n i h ++ E) = .ok (.int h.people.length) (wr C S n i h ++ E) := by
  show (match itemsAt (wr C S n i h ++ E) i.pe with
    | some xs => RE.ok (.int xs.length) (wr C S n i h ++ E)
    | none => .stuck) = _
  rw [it_pe ok]
theorem len_ro (ok : OkI S n i) : vLen [.ob i.ro] (wr C S n i h ++ E) = .ok (.int h.rows.length) (wr C S n i h ++ E) := by
  show (match itemsAt (wr C S n i h ++ E) i.ro with
    | some xs => RE.ok (.int xs.length) (wr C S n i h ++ E)
    | none => .stuck) = _
  rw [it_ro ok]
end
def intP (q : Int → Bool) : A → Bool
  | .int x => q x
  | _ => false
theorem filter_rng (q : Int → Bool) (n : Nat) : (rngA 0 n).filter (intP q) = ((rngI n).filter q).map A.int := by
  unfold rngA rngI
  rw [List.filter_map, List.filter_map, List.map_map]
  have e : (fun (k : Nat) => A.int (0 + (k : Int))) = fun (k : Nat) => A.int (k : Int) := by funext k; rw [Int.zero_add]
  rw [e]
  rfl
theorem rk_some {h : Ha} (w : Wf h) {x : Int} (h0 : 0 ≤ x) (h1 : x < (h.people.length : Int)) : (rkAt h.people 2 x).isSome = true := by
  obtain ⟨o, t, r, hw, ts, ds, e, _⟩ := hr3_parts (pAt_hr w h0 h1)
  have ha : L2.atI h.people x = some (pAt h x) := atI_getD A.non h0 h1
  unfold rkAt
  rw [ha, e]
  simp only [at2]
  rfl
/-- a well hall's values hold no objects -/
theorem wf_bel {C : Addr} {S : Sto} {n : Nat} {i : Ids} {h : Ha} (b : BelS S) (ok : OkI S n i) (w : Wf h) : BelS (wr C S n i h) := by
  refine bel_wr b ok (fun m => ?_) (fun m p hp => ?_) (fun m x hx => nice_bel (nice_hr (w.people x hx)) m) (fun m p hp => ?_) (fun m x hx => nice_bel (w.rows x hx) m) (fun m x hx => nice_bel (n := 0) (nice_word (w.now x hx)) m)
  · obtain ⟨ks, e, _⟩ := w.kept
    rw [e]
    exact .tup fun x hx => by
      obtain ⟨k, _, rfl⟩ := List.mem_map.mp hx
      exact .str k
  · obtain ⟨t, v, e, _⟩ := w.lasts p hp
    rw [e]
    exact .int v
  · obtain ⟨x, e, _⟩ := w.gone p hp
    rw [e]
    exact .bl true
/-- a body's end over a hall -/
theorem fitH {C : Addr} {S E : Sto} {n : Nat} {i : Ids} {h : Ha} {a : A} (b : BelS S) (ok : OkI S n i) (w : Wf h) (ba : Bel S.length a) : Fit S.length (.ok a (wr C S n i h)) (.ret a (wr C S n i h ++ E)) :=
  Fit.ret (by rw [wr_length]; exact ba) (wf_bel b ok w) (by rw [wr_length]; exact Nat.le_refl _)
theorem fitHN {C : Addr} {S E : Sto} {n : Nat} {i : Ids} {h : Ha} {ρ : Ro} (b : BelS S) (ok : OkI S n i) (w : Wf h) : Fit S.length (.ok .non (wr C S n i h)) (.nx ρ (wr C S n i h ++ E)) :=
  Fit.nx (wf_bel b ok w) (by rw [wr_length]; exact Nat.le_refl _)
theorem dk_stop_stop : decide (("stop" : Str) = "stop") = true := by decide
theorem dk_stop_done : decide (("stop" : Str) = "done") = false := by decide
theorem dk_stop_tell : decide (("stop" : Str) = "tell") = false := by decide
theorem dk_stop_leave : decide (("stop" : Str) = "leave") = false := by decide
theorem dk_stop_join : decide (("stop" : Str) = "join") = false := by decide
theorem dk_done_stop : decide (("done" : Str) = "stop") = false := by decide
theorem dk_done_done : decide (("done" : Str) = "done") = true := by decide
theorem dk_done_tell : decide (("done" : Str) = "tell") = false := by decide
theorem dk_done_leave : decide (("done" : Str) = "leave") = false := by decide
theorem dk_done_join : decide (("done" : Str) = "join") = false := by decide
theorem dk_tell_stop : decide (("tell" : Str) = "stop") = false := by decide
theorem dk_tell_done : decide (("tell" : Str) = "done") = false := by decide
theorem dk_tell_tell : decide (("tell" : Str) = "tell") = true := by decide
theorem dk_tell_leave : decide (("tell" : Str) = "leave") = false := by decide
theorem dk_tell_join : decide (("tell" : Str) = "join") = false := by decide
theorem dk_leave_stop : decide (("leave" : Str) = "stop") = false := by decide
theorem dk_leave_done : decide (("leave" : Str) = "done") = false := by decide
theorem dk_leave_tell : decide (("leave" : Str) = "tell") = false := by decide
theorem dk_leave_leave : decide (("leave" : Str) = "leave") = true := by decide
theorem dk_leave_join : decide (("leave" : Str) = "join") = false := by decide
theorem dk_join_stop : decide (("join" : Str) = "stop") = false := by decide
theorem dk_join_done : decide (("join" : Str) = "done") = false := by decide
theorem dk_join_tell : decide (("join" : Str) = "tell") = false := by decide
theorem dk_join_leave : decide (("join" : Str) = "leave") = false := by decide
theorem dk_join_join : decide (("join" : Str) = "join") = true := by decide
section
variable {C : Addr} {S E : Sto} {n : Nat} {i : Ids} {h h' : Ha}
theorem flat_words {l : List A} (hw : ∀ a ∈ l, isWord a = true) : l.all flatA = true := List.all_eq_true.mpr fun a ha => by
  have := hw a ha
  cases a with
  | str x => rfl
  | _ => cases this
theorem in_no (ok : OkI S n i) (w : Wf h) (t : Str) : vIn (.str t) (.ob i.no) (wr C S n i h ++ E) = .ok (.bl (inL t h.now)) (wr C S n i h ++ E) := by
  show (match itemsAt (wr C S n i h ++ E) i.no with
    | some xs => if (true && xs.all flatA) = true then RE.ok (.bl (inF (.str t) xs)) (wr C S n i h ++ E) else .stuck
    | none => .stuck) = _
  rw [it_no ok]
  dsimp only
  rw [flat_words w.now]
  rfl
theorem in_kept (w : Wf h) (t : Str) (S' : Sto) : vIn (.str t) h.kept S' = .ok (.bl (inL t (keptL h))) S' := by
  obtain ⟨ks, e, hk, _⟩ := w.kept
  have el : keptL h = ks.map .str := by unfold keptL; rw [e]
  rw [el, e]
  show (if (true && (ks.map A.str).all flatA) = true then RE.ok (.bl (inF (.str t) (ks.map .str))) S' else .stuck) = _
  have : (ks.map A.str).all flatA = true := by simp [flatA]
  rw [this]
  rfl
theorem index_no (ok : OkI S n i) (w : Wf h) {t : Str} (hi : inL t h.now = true) : ∃ j : Nat, j ≤ h.now.length ∧ ringOf t h.now = h.now.drop j ++ [.str t] ∧ ∀ E, vIndex (.ob i.no) [.str t] (wr C S n i h ++ E) = .ok (.int (j : Nat)) (wr C S n i h ++ E) := by
  have hs : (h.now.findIdx? fun z => eqF z (.str t)).isSome = true := by
    rw [List.findIdx?_isSome]
    exact hi
  obtain ⟨j, hj⟩ := Option.isSome_iff_exists.mp hs
  obtain ⟨hlt, _⟩ := List.findIdx?_eq_some_iff_getElem.mp hj
  refine ⟨j, by omega, by unfold ringOf; rw [hj]; rfl, fun E => ?_⟩
  show (match itemsAt (wr C S n i h ++ E) i.no with
    | some xs => if (true && xs.all flatA) = true then (match xs.findIdx? (fun z => eqF z (.str t)) with
      | some j => RE.ok (.int (j : Nat)) (wr C S n i h ++ E)
      | none => .stuck) else .stuck
    | none => .stuck) = _
  rw [it_no ok]
  dsimp only
  rw [flat_words w.now, hj]
  rfl
theorem cut_from {xs : List A} {j : Nat} (hj : j ≤ xs.length) : cutA xs (some (j : Int)) none = xs.drop j := by
  unfold cutA
  have e1 : HT.sIx xs.length 0 (some (j : Int)) = j := by
    rw [HT.sIx_nat]
    omega
  have e2 : HT.sIx xs.length xs.length none = xs.length := rfl
  rw [e1, e2]
  exact List.take_of_length_le (by simp)
end
end Sx

set_option Elab.async false
set_option linter.all false
set_option maxRecDepth 100000
set_option maxHeartbeats 1000000
namespace Sx
open PySem PySem.Spec PyProof.Rows L2
/-! ### deeds from outside, plainly -/
def Ha.begin (h : Ha) : Ha := { h with room := 100, cut := false }
def tellH (h : Ha) (t : Str) (v : Int) : Ha := spreadW (hearH 100) h.begin t v
def enterH (h : Ha) (p : A) : Ha := comeW (hearH 100) h.begin p
/-- a hall between deeds from outside -/
structure Rest (h : Ha) : Prop where
  wf : Wf h
  now : h.now = []
  cap : h.rows.length + h.people.length ≤ 80000
theorem Rest.pe {h : Ha} (r : Rest h) : h.people.length ≤ 90000 := by have := r.cap; omega
theorem Rest.ro {h : Ha} (r : Rest h) : h.rows.length ≤ 90000 := by have := r.cap; omega
theorem wf_beg {h : Ha} (w : Wf h) : Wf h.begin := ⟨w.kept, w.lasts, w.lnd, w.people, w.gone, w.gnd, w.rows, w.now, (by decide : (0 : Int) ≤ 100 ∧ (100 : Int) ≤ 100)⟩
theorem mh_beg (h : Ha) : Mh h.begin = h.rows.length + h.people.length + 801 := by
  unfold Mh Ha.begin
  simp
theorem tell_ok {h : Ha} {t : Str} {v : Int} (w : Wf h) (ht : isWordS t = true) (v0 : 0 ≤ v) (v1 : v ≤ 9999) : St1 1 h.begin (tellH h t v) := spread_ok (hear_ok 100) v0 v1 ht (wf_beg w) (Int.le_refl _)
theorem enter_ok {h : Ha} {p : A} (w : Wf h) (hp : isHr 3 p = true) : St1 1 h.begin (enterH h p) := come_ok (hear_ok 100) hp (wf_beg w) (Int.le_refl _) rfl
/-- rows and people grow by 801 at the most -/
theorem tell_cap {h : Ha} {t : Str} {v : Int} (w : Wf h) (ht : isWordS t = true) (v0 : 0 ≤ v) (v1 : v ≤ 9999) : (tellH h t v).rows.length + (tellH h t v).people.length ≤ h.rows.length + h.people.length + 802 := by
  have := (tell_ok w ht v0 v1).mh
  rw [mh_beg] at this
  unfold Mh at this
  omega
theorem enter_cap {h : Ha} {p : A} (w : Wf h) (hp : isHr 3 p = true) : (enterH h p).rows.length + (enterH h p).people.length ≤ h.rows.length + h.people.length + 802 := by
  have := (enter_ok w hp).mh
  rw [mh_beg] at this
  unfold Mh at this
  omega
def strA : A → Str
  | .str x => x
  | _ => ""
def intA : A → Int
  | .int x => x
  | _ => 0
theorem isWord_str {a : A} (h : isWord a = true) : a = .str (strA a) ∧ isWordS (strA a) = true := by
  cases a with
  | str x => exact ⟨rfl, h⟩
  | _ => cases h
theorem isIn_int' {a : A} {lo hi : Int} (h : isIn a lo hi = true) : a = .int (intA a) ∧ lo ≤ intA a ∧ intA a ≤ hi := by
  cases a with
  | int x => simp [isIn] at h; exact ⟨rfl, h⟩
  | _ => cases h
/-- topics that are kept: words, rising -/
def riseAt (l : List A) (k : Int) : Bool := match L2.atI l (k - 1), L2.atI l k with
  | some a, some b => (match vGe a b [] with
    | .ok (.bl c) _ => c
    | _ => false)
  | _, _ => false
def keptOk : A → Bool
  | .tup l => l.all isWord && ((rngA 1 (l.length - 1)).filter (intP (riseAt l))).isEmpty
  | _ => false
def newHa (x : A) : Ha := ⟨x, [], [], [], [], [], 100, false⟩
def newIds (n : Nat) : Ids := ⟨n + 1, n + 2, n + 3, n + 4, n + 5⟩
theorem new_rest {x : A} {ks : List Str} (e : x = .tup (ks.map .str)) (hw : ∀ k ∈ ks, isWordS k = true) (hl : ks.length ≤ 1000) : Rest (newHa x) := by
  refine ⟨⟨⟨ks, e, hw, hl⟩, fun p hp => ?_, List.nodup_nil, fun a ha => ?_, fun p hp => ?_, List.nodup_nil, fun a ha => ?_, fun a ha => ?_, (by decide : (0 : Int) ≤ 100 ∧ (100 : Int) ≤ 100)⟩, rfl, (by decide : 0 + 0 ≤ 80000)⟩
  · cases hp
  · cases ha
  · cases hp
  · cases ha
  · cases ha
end Sx

set_option Elab.async false
set_option linter.all false
set_option maxRecDepth 100000
set_option maxHeartbeats 1000000
namespace Sx
open PySem PySem.Spec PyProof.Rows L2
/-! ### comprehensions and loops, by general steps -/
theorem gLc_ok {gi : GI} {gg : GG} {gt ge : GE} {vs : List Nat} {ρ ρ0 : Ro} {S S1 : Sto} {items : List A} {chk : Sto → Bool} (h : gi ρ S = .ok items chk S1) (hw : wipeR ρ vs = ρ0) : gLc gi gg gt ge vs ρ S = lcGo chk gg gt ge ρ0 S1.length items (S1 ++ [.lst []]) := by
  unfold gLc
  rw [h, ← hw]
theorem gFor_ok {gi : GI} {gg : GG} {body : GS} {ρ : Ro} {S S1 : Sto} {items : List A} {chk : Sto → Bool} (h : gi ρ S = .ok items chk S1) : gFor gi gg body ρ S = forGo chk gg body items ρ S1 := by
  unfold gFor
  rw [h]
/-- a comprehension that leaves the store, at once -/
theorem lc_all {gi : GI} {gg : GG} {gt ge : GE} {vs : List Nat} {ρ ρ0 : Ro} {S S0 : Sto} {items : List A} {chk : Sto → Bool} (h : gi ρ S = .ok items chk S0) (hw : wipeR ρ vs = ρ0) (p : A → Bool) (f : A → A) (hc : ∀ l, chk (S0 ++ [.lst l]) = true) (hl : items.length ≤ 4000000)
    (hx : ∀ x ∈ items, ∃ ρ1, (∀ S, gg x ρ0 S = some (ρ1, S)) ∧ ∀ l, gt ρ1 (S0 ++ [.lst l]) = .ok (.bl (p x)) (S0 ++ [.lst l]) ∧ (p x = true → ge ρ1 (S0 ++ [.lst l]) = .ok (f x) (S0 ++ [.lst l]))) :
    gLc gi gg gt ge vs ρ S = .ok (.ob S0.length) (S0 ++ [.lst ((items.filter p).map f)]) := by
  rw [gLc_ok h hw, lc_eq (gg := gg) (gt := gt) (ge := ge) (ρ0 := ρ0) p f hc items [] hx (by simpa using hl)]
  rfl
/-- a loop by its invariant -/
theorem for_ind {chk : Sto → Bool} {gg : GG} {body : GS} (I : Nat → Ro → Sto → Prop) (hc : ∀ k ρ S, I k ρ S → chk S = true) : ∀ (items : List A) (k : Nat) (ρ : Ro) (S : Sto), I k ρ S →
    (∀ j x ρ S, items[j]? = some x → I (k + j) ρ S → ∃ ρ1 S1 ρ2 S2, gg x ρ S = some (ρ1, S1) ∧ (body ρ1 S1 = .nx ρ2 S2 ∨ body ρ1 S1 = .ct ρ2 S2) ∧ I (k + j + 1) ρ2 S2) →
    ∃ ρ' S', forGo chk gg body items ρ S = .nx ρ' S' ∧ I (k + items.length) ρ' S'
  | [], k, ρ, S, h0, _ => ⟨ρ, S, by rw [forGo, if_pos (hc k ρ S h0)], h0⟩
  | x :: r, k, ρ, S, h0, st => by
    obtain ⟨ρ1, S1, ρ2, S2, e1, e2, h2⟩ := st 0 x ρ S rfl h0
    obtain ⟨ρ', S', e3, h3⟩ := for_ind I hc r (k + 1) ρ2 S2 h2 fun j y ρ S hy hi => by
      have := st (j + 1) y ρ S (by simpa using hy) (by have e : k + (j + 1) = k + 1 + j := by omega
                                                       rw [e]; exact hi)
      have e : k + (j + 1) + 1 = k + 1 + j + 1 := by omega
      rw [e] at this
      exact this
    refine ⟨ρ', S', ?_, by have e : k + (x :: r).length = k + 1 + r.length := by simp; omega
                           rw [e]; exact h3⟩
    rw [forGo, if_pos (hc k ρ S h0), e1]
    dsimp only
    rcases e2 with e2 | e2 <;> rw [e2] <;> exact e3
/-! ### a hall's block -/
def hB (C : Addr) (n : Nat) (h : Ha) : Sto := [.ins C (flds (newIds n) h), .dic h.lasts, .lst h.people, .dic h.gone, .lst h.rows, .lst h.now]
section
variable {C : Addr} {pre E : Sto} {n : Nat} {h h' : Ha}
theorem hB_len : (hB C n h).length = 6 := rfl
theorem hB_ok (hn : pre.length = n) : OkI (pre ++ (hB C n h ++ E)) n (newIds n) := by
  refine ⟨?_, fun k hk => ?_⟩
  · simp [newIds, List.nodup_cons]
  · have : (pre ++ (hB C n h ++ E)).length = n + 6 + E.length := by simp [hB, hn]; omega
    rw [this]
    simp [newIds] at hk
    omega
theorem hB_get (hn : pre.length = n) (k : Nat) : (pre ++ (hB C n h ++ E))[k]? = if k = n + 5 then some (.lst h.now) else if k = n + 4 then some (.lst h.rows) else if k = n + 3 then some (.dic h.gone) else if k = n + 2 then some (.lst h.people) else if k = n + 1 then some (.dic h.lasts) else if k = n then some (.ins C (flds (newIds n) h)) else (pre ++ (hB C n h ++ E))[k]? := by
  have g : ∀ j, (pre ++ (hB C n h ++ E))[n + j]? = (hB C n h ++ E)[j]? := fun j => by
    rw [← hn, List.getElem?_append_right (by omega)]
    congr 1
    omega
  split
  · rename_i e; subst e; rw [g]; rfl
  split
  · rename_i e; subst e; rw [g]; rfl
  split
  · rename_i e; subst e; rw [g]; rfl
  split
  · rename_i e; subst e; rw [g]; rfl
  split
  · rename_i e; subst e; rw [g]; rfl
  split
  · rename_i e; subst e; have := g 0; rw [Nat.add_zero] at this; rw [this]; rfl
  rfl
theorem hB_wr (hn : pre.length = n) : wr C (pre ++ (hB C n h ++ E)) n (newIds n) h' = pre ++ (hB C n h' ++ E) := by
  apply List.ext_getElem?
  intro k
  rw [wr_get (hB_ok hn), hB_get hn k (h := h')]
  by_cases h1 : k = (newIds n).no
  · rw [if_pos h1, if_pos (show k = n + 5 from h1)]
  rw [if_neg h1, if_neg (show ¬ k = n + 5 from h1)]
  by_cases h2 : k = (newIds n).ro
  · rw [if_pos h2, if_pos (show k = n + 4 from h2)]
  rw [if_neg h2, if_neg (show ¬ k = n + 4 from h2)]
  by_cases h3 : k = (newIds n).go
  · rw [if_pos h3, if_pos (show k = n + 3 from h3)]
  rw [if_neg h3, if_neg (show ¬ k = n + 3 from h3)]
  by_cases h4 : k = (newIds n).pe
  · rw [if_pos h4, if_pos (show k = n + 2 from h4)]
  rw [if_neg h4, if_neg (show ¬ k = n + 2 from h4)]
  by_cases h5 : k = (newIds n).la
  · rw [if_pos h5, if_pos (show k = n + 1 from h5)]
  rw [if_neg h5, if_neg (show ¬ k = n + 1 from h5)]
  by_cases h6 : k = n
  · rw [if_pos h6, if_pos h6]
  rw [if_neg h6, if_neg h6]
  simp only [newIds] at h1 h2 h3 h4 h5
  by_cases hk : k < n
  · rw [List.getElem?_append_left (by omega), List.getElem?_append_left (by omega)]
  · have g : ∀ z : Ha, (pre ++ (hB C n z ++ E))[k]? = E[k - n - 6]? := fun z => by
      rw [List.getElem?_append_right (by omega), List.getElem?_append_right (by rw [hB_len]; omega), hB_len, hn]
    rw [g, g]
theorem hB_rd (hn : pre.length = n) : rdH C (pre ++ (hB C n h ++ E)) (.ob n) = some (n, newIds n, h) := by
  have := rd_wr (C := C) (h := h) (E := []) (hB_ok (C := C) (E := E) (h := h) hn)
  rw [hB_wr hn, List.append_nil] at this
  exact this
theorem it_hB (k : Nat) : itemsAt (hB C n h ++ E) (k + 6) = itemsAt E k := rfl
theorem get_hB (k : Nat) : (hB C n h ++ E)[k + 6]? = E[k]? := rfl
theorem set_hB (k : Nat) (o : O) : (hB C n h ++ E).set (k + 6) o = hB C n h ++ E.set k o := rfl
theorem len_hB : (hB C n h ++ E).length = E.length + 6 := by rw [List.length_append, hB_len, Nat.add_comm]
end
theorem Bel.mono {n m : Nat} {a : A} (h : Bel n a) (l : n ≤ m) : Bel m a := by
  induction h with
  | non => exact .non
  | bl b => exact .bl b
  | int i => exact .int i
  | str x => exact .str x
  | tup _ ih => exact .tup fun x hx => ih x hx
  | ob h => exact .ob (by omega)
theorem BelO.mono {n m : Nat} {o : O} (h : BelO n o) (l : n ≤ m) : BelO m o := by
  cases o with
  | lst xs => exact fun x hx => Bel.mono (h x hx) l
  | rol xs => exact fun x hx => Bel.mono (h x hx) l
  | dic xs => exact fun x hx => Bel.mono (h x hx) l
  | dit xs => exact fun x hx => Bel.mono (h x hx) l
  | ins C xs => exact fun x hx => Bel.mono (h x hx) l
end Sx

set_option Elab.async false
set_option linter.all false
set_option maxRecDepth 100000
set_option maxHeartbeats 1000000
namespace Sx
open PySem PySem.Spec PyProof.Rows L2
/-! ### values as data, ==, sorted -/
mutual
def dA : A → PyData
  | .non => .none
  | .bl b => .bool b
  | .int i => .int i
  | .str x => .str x
  | .tup l => .tuple (dL l)
  | .ob _ => .none
def dL : List A → List PyData
  | [] => []
  | a :: l => dA a :: dL l
end
theorem dL_map : ∀ l : List A, dL l = l.map dA
  | [] => by rw [dL]; rfl
  | a :: l => by rw [dL, dL_map l]; rfl
mutual
theorem nice_dA : ∀ {a : A} {n : Nat}, nice n a = true → (∀ f, rdA f a = some (dA a)) ∧ (dA a).canLay0 = true ∧ (dA a).depth ≤ n
  | .tup l, n, h => by
    obtain ⟨m, e, h2⟩ := nice_tup h
    obtain ⟨h3, h4, h5⟩ := nice_dL h2
    refine ⟨fun f => by rw [rdA, h3 f, dA]; rfl, by rw [dA, PyData.canLay0]; exact h4, ?_⟩
    rw [dA, PyData.depth]
    omega
  | .non, _, _ => ⟨fun f => by rw [rdA, dA], by rw [dA, PyData.canLay0], by rw [dA, PyData.depth]; omega⟩
  | .bl b, _, _ => ⟨fun f => by rw [rdA, dA], by rw [dA, PyData.canLay0], by rw [dA, PyData.depth]; omega⟩
  | .int i, _, _ => ⟨fun f => by rw [rdA, dA], by rw [dA, PyData.canLay0], by rw [dA, PyData.depth]; omega⟩
  | .str x, n, h => by
    have h : niceS x = true := by cases n <;> simpa [nice] using h
    simp only [niceS, Bool.and_eq_true] at h
    exact ⟨fun f => by rw [rdA, dA], by rw [dA, PyData.canLay0]; exact h.2, by rw [dA, PyData.depth]; omega⟩
  | .ob k, n, h => by cases n <;> simp [nice] at h
theorem nice_dL : ∀ {l : List A} {n : Nat}, (∀ x ∈ l, nice n x = true) → (∀ f, rdL f l = some (dL l)) ∧ PyData.canLayAll0 (dL l) = true ∧ PyData.depthAll (dL l) ≤ n
  | [], _, _ => ⟨fun f => by rw [rdL, dL], by rw [dL, PyData.canLayAll0], by rw [dL, PyData.depthAll]; omega⟩
  | a :: l, n, h => by
    obtain ⟨h1, h2, h3⟩ := nice_dA (h a (by simp))
    obtain ⟨h4, h5, h6⟩ := nice_dL (l := l) (n := n) fun x hx => h x (by simp [hx])
    refine ⟨fun f => by rw [rdL, h1 f, h4 f, dL], by rw [dL, PyData.canLayAll0, h2, h5]; rfl, ?_⟩
    rw [dL, PyData.depthAll]
    omega
end
def eqA (a b : A) : Bool := PyData.eqv (dA a) (dA b)
def eqL (l m : List A) : Bool := PyData.eqvAll (dL l) (dL m)
theorem eqA_refl {a : A} {n : Nat} (h : nice n a = true) : eqA a a = true := SeqAt.eqv_refl _ (nice_dA h).2.1
theorem eqL_refl {l : List A} {n : Nat} (h : ∀ x ∈ l, nice n x = true) : eqL l l = true := SeqAt.eqvAll_refl _ (nice_dL h).2.1
theorem eqL_nil (l : List A) : eqL l [] = l.isEmpty := by
  cases l with
  | nil => simp [eqL, dL, PyData.eqvAll]
  | cons a l => simp [eqL, dL, PyData.eqvAll]
theorem eqL_nil' (l : List A) : eqL [] l = l.isEmpty := by
  cases l with
  | nil => simp [eqL, dL, PyData.eqvAll]
  | cons a l => simp [eqL, dL, PyData.eqvAll]
theorem eqL_cons (a b : A) (l m : List A) : eqL (a :: l) (b :: m) = (eqA a b && eqL l m) := by
  unfold eqL eqA
  rw [dL, dL, PyData.eqvAll]
theorem shaped_nice {a : A} {n : Nat} (h : nice n a = true) (hn : n ≤ 63) : SeqAt.shaped (dA a) = true := by
  obtain ⟨_, h2, h3⟩ := nice_dA h
  unfold SeqAt.shaped
  rw [h2]
  simp
  omega
theorem vEq_nice {a b : A} {n : Nat} (ha : nice n a = true) (hb : nice n b = true) (hn : n ≤ 60) (S : Sto) : vEq a b S = .ok (.bl (eqA a b)) S := by
  cases hs : isScal a b with
  | true =>
    cases a with
    | str x => cases b with
      | str y =>
        have e : decide (x = y) = (x == y) := by by_cases h : x = y <;> simp [h]
        simp only [vEq, eqA, dA, PyData.eqv, e]
      | _ => cases hs
    | int x => cases b with
      | int y =>
        have e : decide (x = y) = (x == y) := by by_cases h : x = y <;> simp [h]
        simp only [vEq, eqA, dA, PyData.eqv, e]
      | _ => cases hs
    | bl x => cases b with
      | bl y =>
        have e : decide (x = y) = (x == y) := by by_cases h : x = y <;> simp [h]
        simp only [vEq, eqA, dA, PyData.eqv, e]
      | _ => cases hs
    | _ => cases b <;> cases hs
  | false =>
    have e1 : dat S a = some (dA a) := (nice_dA ha).1 _
    have e2 : dat S b = some (dA b) := (nice_dA hb).1 _
    rw [vEq_data hs, e1, e2]
    simp only [shaped_nice ha (by omega), shaped_nice hb (by omega), Bool.and_self, if_true]
    rfl
theorem vNe_nice {a b : A} {n : Nat} (ha : nice n a = true) (hb : nice n b = true) (hn : n ≤ 60) (S : Sto) : vNe a b S = .ok (.bl (!eqA a b)) S := by
  unfold vNe
  rw [vEq_nice ha hb hn S]
theorem dat_list {S : Sto} {n : Nat} {xs : List A} {k : Nat} (h : itemsAt S n = some xs) (hx : ∀ x ∈ xs, nice k x = true) : dat S (.ob n) = some (.list (dL xs)) := by
  show rdA (rd2 S) (.ob n) = _
  rw [rdA]
  unfold rd2
  rw [h]
  dsimp only
  rw [(nice_dL hx).1]
  rfl
theorem shaped_list {xs : List A} {k : Nat} (hx : ∀ x ∈ xs, nice k x = true) (hk : k ≤ 62) : SeqAt.shaped (.list (dL xs)) = true := by
  obtain ⟨_, h2, h3⟩ := nice_dL hx
  unfold SeqAt.shaped
  rw [PyData.canLay0, h2, PyData.depth]
  simp
  omega
theorem vEq_list {S : Sto} {n m : Nat} {xs ys : List A} {k : Nat} (h1 : itemsAt S n = some xs) (h2 : itemsAt S m = some ys) (hx : ∀ x ∈ xs, nice k x = true) (hy : ∀ x ∈ ys, nice k x = true) (hk : k ≤ 60) : vEq (.ob n) (.ob m) S = .ok (.bl (eqL xs ys)) S := by
  rw [vEq_data rfl, dat_list h1 hx, dat_list h2 hy]
  simp only [shaped_list hx (by omega), shaped_list hy (by omega), Bool.and_self, if_true]
  rw [PyData.eqv]
  rfl
theorem vNe_list {S : Sto} {n m : Nat} {xs ys : List A} {k : Nat} (h1 : itemsAt S n = some xs) (h2 : itemsAt S m = some ys) (hx : ∀ x ∈ xs, nice k x = true) (hy : ∀ x ∈ ys, nice k x = true) (hk : k ≤ 60) : vNe (.ob n) (.ob m) S = .ok (.bl (!eqL xs ys)) S := by
  unfold vNe
  rw [vEq_list h1 h2 hx hy hk]
theorem vEq_lists {S : Sto} {n m : Nat} {xs : List A} {k : Nat} (h1 : itemsAt S n = some xs) (h2 : itemsAt S m = some xs) (hx : ∀ x ∈ xs, nice k x = true) (hk : k ≤ 60) : vEq (.ob n) (.ob m) S = .ok (.bl true) S := by
  rw [vEq_list h1 h2 hx hx hk, eqL_refl hx]
theorem vNe_lists {S : Sto} {n m : Nat} {xs : List A} {k : Nat} (h1 : itemsAt S n = some xs) (h2 : itemsAt S m = some xs) (hx : ∀ x ∈ xs, nice k x = true) (hk : k ≤ 60) : vNe (.ob n) (.ob m) S = .ok (.bl false) S := by
  rw [vNe_list h1 h2 hx hx hk, eqL_refl hx]
  rfl
/-! sorted(xs), of data -/
def leD (a b : A) : Bool := PySem.W.dataLe false dA a b
def sortOk (xs : List A) : Prop := xs.length ≤ 4000000 ∧ (∀ x ∈ xs, nice 50 x = true) ∧ PySem.W.AllAlike (xs.map dA) ∧ PySem.W.Sortable (xs.map dA)
open Classical in
noncomputable def vSorted : List A → Sto → RE := fun l S => match l with
  | [.ob n] => (match itemsAt S n with
    | some xs => if sortOk xs then .ok (.ob S.length) (S ++ [.lst (xs.mergeSort leD)]) else .stuck
    | none => .stuck)
  | _ => .stuck
theorem vSorted_at {n : Nat} {xs : List A} {S : Sto} (h : itemsAt S n = some xs) (ok : sortOk xs) : vSorted [.ob n] S = .ok (.ob S.length) (S ++ [.lst (xs.mergeSort leD)]) := by
  unfold vSorted
  simp only [h, if_pos ok]
section
variable {X : Cx} {T : Tbs}
theorem each_rel {K : Frg} {H : Hp} {as : List Addr} : ∀ {xs : List A} {vs : List V} {us : List Value}, RelL K H as xs vs → Vals vs us → PySem.W.EachIs (fun (u : Value) (a : A) => ∃ v, RelV v u ∧ RelA K H as a v) us xs
  | [], vs, us, h, g => by cases h; cases g; exact .nil
  | a :: xs, vs, us, h, g => by
    cases h with
    | cons h1 h2 => cases g with
      | cons g1 g2 => exact .cons ⟨_, g1, h1⟩ (each_rel h2 g2)
theorem rel_each {K : Frg} {H : Hp} {as : List Addr} {us : List Value} {xs : List A} (h : PySem.W.EachIs (fun (u : Value) (a : A) => ∃ v, RelV v u ∧ RelA K H as a v) us xs) : ∃ vs, Vals vs us ∧ RelL K H as xs vs := by
  induction h with
  | nil => exact ⟨[], .nil, .nil⟩
  | cons h1 _ ih =>
    obtain ⟨v, r1, r2⟩ := h1
    obtain ⟨vs, r3, r4⟩ := ih
    exact ⟨v :: vs, .cons r1 r3, .cons r2 r4⟩
theorem cs_sorted (hu : X.A.units + 64 < cLine) : CallS X T (.builtin "sorted") vSorted := fun pins s σ H xs us Q I rx ⟨l, S, as, r, rl, fv⟩ => by
  unfold vSorted at fv
  split at fv
  rotate_left
  · exact False.elim fv
  rename_i n
  split at fv
  rotate_left
  · exact False.elim fv
  rename_i ys hys
  split at fv
  rotate_left
  · exact False.elim fv
  rename_i ok
  obtain ⟨hl, hn, hal, hso⟩ := ok
  cases rl with
  | cons ra rn =>
  cases rn
  obtain ⟨a, e, ea⟩ := RelA.list ra
  subst e
  obtain ⟨vs, sq, rlv⟩ := r.sql hys ea
  obtain ⟨its, rits, pls, hz⟩ := I.list sq
  rw [Vals.ref1 rx]
  have er := each_rel rlv rits
  have em : PySem.W.EachIs (fun (u : Value) (a : A) => (∃ v, RelV v u ∧ RelA X.K H as a v) ∧ a ∈ ys) its ys := PySem.W.each_mem er
  have er2 : PySem.W.EachIs (fun (v : Value) (b : A) => ∃ as, Reads s.heap v (dA b) as) its ys := em.mono fun u b hb => by
    obtain ⟨⟨v, rv, rb⟩, hb⟩ := hb
    exact Dp.reads I _ v u (dp_dat r rb ((nice_dA (hn b hb)).1 _)) rv
  have hu2 : ∀ b, b ∈ ys → X.A.units + 2 + (dA b).depth < cLine := fun b hb => by
    have := (nice_dA (hn b hb)).2.2
    omega
  refine PySem.W.sorted_data (enc := dA) pls.isList er er2 hal hso (sz5 hl) hu2 fun out hlen eo => ?_
  · obtain ⟨ws, rv2, rl2⟩ := rel_each eo
    obtain ⟨ep, he'⟩ := PyProof.Rows.sortedAll_at s.heap its out.toArray
    have hlen2 : ws.length ≤ sizeLine := by rw [← rl2.length, List.length_mergeSort]; exact sz5 hl
    have hp : H (s.heap.objs.size + 1) = none := I.hok.fresh (Nat.le_succ _)
    refine ⟨.ref _, upd H (s.heap.objs.size + 1) (.lst ws), I.laid (t' := s.toks) (fun _ _ => PyProof.Rows.sortedAll_old) (Nat.le_succ _) ⟨hlen2, out, ep, rv2, by simpa using he'⟩, rfl, ?_⟩
    exact fin_new r (xs := ys.mergeSort leD) rl2 fv _ hp
end
end Sx

set_option Elab.async false
set_option linter.all false
set_option maxRecDepth 100000
set_option maxHeartbeats 1000000
namespace Sx
open PySem PySem.Spec PyProof.Rows L2
/-! ### loops, forwards -/
theorem for_wp {chk : Sto → Bool} {gg : GG} {body : GS} (I : Nat → Ro → Sto → Prop) (hc : ∀ k ρ S, I k ρ S → chk S = true) : ∀ (items : List A) (k : Nat) (ρ : Ro) (S : Sto), I k ρ S →
    (∀ j x ρ S, items[j]? = some x → I (k + j) ρ S → ∃ ρ1 S1, gg x ρ S = some (ρ1, S1) ∧ ∀ Q : RS → Prop, (∀ ρ2 S2, I (k + j + 1) ρ2 S2 → Q (.nx ρ2 S2) ∧ Q (.ct ρ2 S2)) → Q (body ρ1 S1)) →
    ∀ Q : RS → Prop, (∀ ρ' S', I (k + items.length) ρ' S' → Q (.nx ρ' S')) → Q (forGo chk gg body items ρ S) := by
  intro items k ρ S h0 st Q hQ
  obtain ⟨ρ', S', e, h⟩ := for_ind (chk := chk) (gg := gg) (body := body) I hc items k ρ S h0 fun j x ρ S hx hi => by
    obtain ⟨ρ1, S1, e1, h1⟩ := st j x ρ S hx hi
    obtain ⟨ρ2, S2, h2, h3⟩ := h1 (fun r => ∃ ρ2 S2, (r = .nx ρ2 S2 ∨ r = .ct ρ2 S2) ∧ I (k + j + 1) ρ2 S2) fun ρ2 S2 h => ⟨⟨ρ2, S2, .inl rfl, h⟩, ⟨ρ2, S2, .inr rfl, h⟩⟩
    exact ⟨ρ1, S1, ρ2, S2, e1, h2, h3⟩
  rw [e]
  exact hQ ρ' S' h
/-! ### enumerate by numbers -/
theorem enumA_rng (xs : List A) : enumA xs = (rngI xs.length).map fun x => .tup [.int x, xs.getD x.toNat .non] := by
  unfold enumA rngI
  apply List.ext_getElem?
  intro i
  simp only [List.getElem?_map, List.getElem?_zipIdx, List.map_map]
  by_cases hi : i < xs.length
  · rw [List.getElem?_eq_getElem hi]
    have e : (List.range xs.length)[i]? = some i := by simp [hi]
    rw [e]
    simp [hi]
  · rw [List.getElem?_eq_none (by omega)]
    have e : (List.range xs.length)[i]? = none := by simp; omega
    rw [e]
    rfl
theorem rngA_rngI (n : Nat) : rngA 0 n = (rngI n).map A.int := by
  unfold rngA rngI
  rw [List.map_map]
  refine List.map_congr_left fun k _ => ?_
  simp
theorem rngI_mem {n : Nat} {x : Int} : x ∈ rngI n ↔ 0 ≤ x ∧ x < n := by
  unfold rngI
  simp only [List.mem_map, List.mem_range]
  constructor
  · rintro ⟨k, hk, rfl⟩; omega
  · rintro ⟨h0, h1⟩; exact ⟨x.toNat, by omega, by omega⟩
theorem rngI_length (n : Nat) : (rngI n).length = n := by simp [rngI]
theorem rngI_nodup (n : Nat) : (rngI n).Nodup := by
  unfold rngI
  exact List.Pairwise.map _ (fun a b h z => h (by omega)) List.nodup_range
/-! ### sorted pairs of numbers -/
def pairI (f : Int → Int) (x : Int) : A := .tup [.int (9 - f x), .int x]
theorem leD_pair (f : Int → Int) (x y : Int) : leD (pairI f x) (pairI f y) = leK f x y := by
  show (!PySem.W.dataLt (dA (pairI f y)) (dA (pairI f x))) = _
  have e : ∀ z, dA (pairI f z) = .tuple [.int (9 - f z), .int z] := fun z => by simp [pairI, dA, dL]
  rw [e, e, PySem.W.dataLt_ii]
  unfold leK
  rw [Bool.eq_iff_iff]
  simp only [Bool.not_eq_true', decide_eq_false_iff_not, Bool.or_eq_true, Bool.and_eq_true, decide_eq_true_eq]
  omega
theorem sort_pairs (f : Int → Int) (ns : List Int) : (ns.map (pairI f)).mergeSort leD = (ns.mergeSort (leK f)).map (pairI f) :=
  (List.map_mergeSort (fun x _ y _ => (leD_pair f x y).symm)).symm
theorem nice_pair (f : Int → Int) (x : Int) : nice 50 (pairI f x) = true := nice_tupI fun y hy => by
  simp only [List.mem_cons, List.not_mem_nil, or_false] at hy
  rcases hy with e | e <;> subst e <;> exact nice_int
theorem sortOk_pairs (f : Int → Int) {ns : List Int} (hl : ns.length ≤ 4000000) : sortOk (ns.map (pairI f)) := by
  have e : ∀ z, dA (pairI f z) = .tuple [.int (9 - f z), .int z] := fun z => by simp [pairI, dA, dL]
  refine ⟨by simpa using hl, fun x hx => ?_, ?_, ?_⟩
  · obtain ⟨y, _, rfl⟩ := List.mem_map.mp hx
    exact nice_pair f y
  · rw [List.map_map]
    refine PySem.W.AllAlike.of fun x y => ?_
    simp [e, PySem.W.alike, PySem.W.alikeAll]
  · rw [List.map_map]
    exact PySem.W.Sortable.tuples fun x => ⟨_, _, e x⟩
theorem leK_trans (f : Int → Int) (a b c : Int) (h1 : leK f a b = true) (h2 : leK f b c = true) : leK f a c = true := by
  unfold leK at *
  simp only [Bool.or_eq_true, Bool.and_eq_true, decide_eq_true_eq] at *
  omega
theorem leK_total (f : Int → Int) (a b : Int) : (leK f a b || leK f b a) = true := by
  unfold leK
  simp only [Bool.or_eq_true, Bool.and_eq_true, decide_eq_true_eq]
  omega
theorem ordA_nodup {ps : List A} {j : Int} {ns : List Int} (h : ns.Nodup) : (ordA ps j ns).Nodup := by
  unfold ordA
  exact (List.mergeSort_perm _ _).nodup_iff.mpr h
/-- the hearers of a topic as the law's rows sort them -/
theorem rk_at {ps : List A} {x : Int} (hp : ∀ a ∈ ps, isHr 3 a = true) (h0 : 0 ≤ x) (h1 : x < ps.length) : ∃ o t w ts ds, ps.getD x.toNat .non = .tup [.str o, .str t, .int (rkOf ps 2 x), .str w, ts, .tup ds] ∧ isWordS o = true ∧ isWordS t = true ∧ isHow (.str w) = true ∧ isTest ts = true ∧ ds.length ≤ 3 ∧ ∀ d ∈ ds, isDeedW (isHr 2) d = true := by
  have hx : x.toNat < ps.length := by omega
  have hm : ps.getD x.toNat .non ∈ ps := by
    rw [List.getD_eq_getElem?_getD, List.getElem?_eq_getElem hx]
    exact List.getElem_mem hx
  obtain ⟨o, t, r, w, ts, ds, e, h2, h3, h4, h5, h6, h7, h8⟩ := hr3_parts (hp _ hm)
  have er : rkOf ps 2 x = r := by
    have ha : L2.atI ps x = some (ps.getD x.toNat .non) := atI_getD A.non h0 h1
    unfold rkOf rkAt
    rw [ha, e]
    simp only [at2]
    rfl
  exact ⟨o, t, w, ts, ds, by rw [e, er], h2, h3, h5, h6, h7, h8⟩
end Sx

set_option Elab.async false
set_option linter.all false
set_option maxRecDepth 100000
set_option maxHeartbeats 1000000
namespace Sx
open PySem PySem.Spec PyProof.Rows L2
/-! ### hearing without deeds -/
def quietStep (h : Ha) (x v : Int) : Ha := { h with room := h.room - 1, rows := h.rows ++ [rHeard x (tpA (pAt h x)) v], gone := if hwA (pAt h x) = "once" then putD h.gone (.inl x) (.bl true) else h.gone }
theorem hear_quiet {m : Nat} {h : Ha} {x v : Int} (hr : h.room ≠ 0) (hd : dsA (pAt h x) = []) : hearH (m + 1) h x v = (false, quietStep h x v) := by
  show hearW (hearH m) h x v = _
  unfold hearW
  rw [if_neg hr, hd]
  simp only [dsLoop, heardH, quietStep, Ha.row, Ha.go]
  split <;> simp
theorem quiet_gone {h : Ha} {x v y : Int} : goneB (quietStep h x v) y = (goneB h y || (decide (x = y) && decide (hwA (pAt h x) = "once"))) := by
  by_cases ho : hwA (pAt h x) = "once"
  · have e : goneB (quietStep h x v) y = goneB (h.go x) y := by
      unfold goneB quietStep Ha.go
      simp only [ho, if_true]
    rw [e, goneB_go, ho, Bool.or_comm]
    simp
  · have e : goneB (quietStep h x v) y = goneB h y := by
      unfold goneB quietStep
      simp only [ho, if_false]
    rw [e]
    simp [ho]
structure Quiet (h h' : Ha) (t : Str) (v : Int) (l : List Int) : Prop where
  kept : h'.kept = h.kept
  lasts : h'.lasts = h.lasts
  people : h'.people = h.people
  now : h'.now = h.now
  cut : h'.cut = false
  rows : h'.rows = h.rows ++ l.map fun x => rHeard x t v
  gone : ∀ y, goneB h' y = (goneB h y || decide (y ∈ l ∧ hwA (pAt h y) = "once"))
theorem sp_quiet {m : Nat} {t : Str} {v : Int} : ∀ (l : List Int) (h : Ha), l.Nodup → (∀ x ∈ l, goneB h x = false ∧ dsA (pAt h x) = [] ∧ tpA (pAt h x) = t) → h.cut = false → (l.length : Int) ≤ h.room →
    Quiet h (spLoop (hearH (m + 1)) v l h) t v (l.filter fun x => fitT (tsA (pAt h x)) v)
  | [], h, _, _, _, _ => ⟨rfl, rfl, rfl, rfl, ‹h.cut = false›, by simp [spLoop], fun y => by simp [spLoop]⟩
  | x :: l, h, hn, hx, hc, hr => by
    obtain ⟨hxl, hnl⟩ := List.nodup_cons.mp hn
    obtain ⟨g1, d1, t1⟩ := hx x (by simp)
    unfold spLoop
    rw [g1, hc]
    simp only [List.length_cons] at hr
    cases hf : fitT (tsA (pAt h x)) v with
    | false =>
      rw [if_neg (by decide)]
      have := sp_quiet (m := m) (v := v) l h hnl (fun y hy => hx y (by simp [hy])) hc (by omega)
      rw [List.filter_cons, hf, if_neg (by decide)]
      exact this
    | true =>
      rw [if_pos (by decide), hear_quiet (by omega) d1]
      simp only
      rw [if_neg (by decide)]
      have pa : ∀ y, pAt (quietStep h x v) y = pAt h y := fun y => rfl
      have := sp_quiet (m := m) (v := v) (t := t) l (quietStep h x v) hnl (fun y hy => ⟨?_, (hx y (by simp [hy])).2⟩) hc (by show _ ≤ h.room - 1; omega)
      · rw [List.filter_cons, hf, if_pos rfl]
        refine ⟨this.kept, this.lasts, this.people, this.now, this.cut, ?_, fun y => ?_⟩
        · rw [this.rows]
          show (h.rows ++ [rHeard x (tpA (pAt h x)) v]) ++ _ = _
          rw [t1, List.append_assoc]
          rfl
        · rw [this.gone, quiet_gone, Bool.or_assoc]
          congr 1
          simp only [pa]
          rw [Bool.eq_iff_iff]
          simp only [Bool.or_eq_true, Bool.and_eq_true, decide_eq_true_eq, List.mem_cons]
          constructor
          · rintro (⟨rfl, z⟩ | ⟨z1, z2⟩)
            · exact ⟨.inl rfl, z⟩
            · exact ⟨.inr z1, z2⟩
          · rintro ⟨z1 | z1, z2⟩
            · subst z1; exact .inl ⟨rfl, z2⟩
            · exact .inr ⟨z1, z2⟩
      · rw [quiet_gone, (hx y (by simp [hy])).1]
        have : x ≠ y := fun z => hxl (z ▸ hy)
        simp [this]
/-- a telling to hearers without deeds, nothing kept -/
theorem tell_quiet {h : Ha} {t : Str} {v : Int} (r : Rest h) (hk : h.kept = .tup []) (hd : ∀ a ∈ h.people, dsA a = []) (hl : h.people.length ≤ 100) : Quiet h (tellH h t v) t v ((orderH h t).filter fun x => fitT (tsA (pAt h x)) v) := by
  have e1 : inL t h.begin.now = false := by
    show inL t h.now = false
    rw [r.now]; rfl
  have e2 : toldL h.begin t v = h.begin := by
    unfold toldL keptL
    have : h.begin.kept = .tup [] := hk
    rw [this]
    rfl
  have e3 : tellH h t v = spLoop (hearH 100) v (orderH h.begin t) h.begin := by
    unfold tellH spreadW
    rw [e1, e2]
    rfl
  have e4 : orderH h.begin t = orderH h t := rfl
  have hlen : (orderH h t).length ≤ h.people.length := by
    unfold orderH ordA thereH
    rw [List.length_mergeSort]
    exact Nat.le_trans (List.length_filter_le _ _) (by rw [rngI_length]; exact Nat.le_refl _)
  rw [e3, e4]
  have q := sp_quiet (m := 99) (t := t) (v := v) (orderH h t) h.begin ?_ ?_ rfl ?_
  · exact ⟨q.kept, q.lasts, q.people, q.now.trans rfl, q.cut, q.rows, q.gone⟩
  · unfold orderH
    exact ordA_nodup ((rngI_nodup _).filter _)
  · intro x hx
    obtain ⟨⟨x0, x1⟩, g, tp⟩ := order_mem.mp hx
    refine ⟨g, hd _ ?_, tp⟩
    show h.people.getD x.toNat .non ∈ _
    have hx : x.toNat < h.people.length := by omega
    rw [List.getD_eq_getElem?_getD, List.getElem?_eq_getElem hx]
    exact List.getElem_mem hx
  · show _ ≤ (100 : Int)
    omega
end Sx

set_option Elab.async false
set_option linter.all false
set_option maxRecDepth 100000
set_option maxHeartbeats 1000000
namespace Sx
open PySem PySem.Spec PyProof.Rows L2
/-! ### parts of bodies, by general steps -/
section
variable {g : GE} {gs : GA} {ρ : Ro} {S S1 : Sto} {n m : Nat} {xs ys : List A}
theorem gIR1_ok {j : Int} (h : gs ρ S = .ok [.int j] S1) (h0 : -1000000 < j) (h1 : j < 1000000) : gIR1 gs ρ S = .ok (rngA 0 j.toNat) (fun _ => true) S1 := by
  unfold gIR1
  rw [h]
  exact if_pos ⟨h1, h0⟩
theorem gIR2_ok {i j : Int} (h : gs ρ S = .ok [.int i, .int j] S1) (h0 : -1000000 < j) (h1 : j < 1000000) (h2 : -1000000 < i) (h3 : i < 1000000) : gIR2 gs ρ S = .ok (rngA i (j - i).toNat) (fun _ => true) S1 := by
  unfold gIR2
  rw [h]
  exact if_pos ⟨⟨h1, h0⟩, h3, h2⟩
theorem gIE_ok (h : gs ρ S = .ok [.ob n] S1) (hx : itemsAt S1 n = some xs) : gIE gs ρ S = .ok (enumA xs) (okAt n xs) S1 := by
  unfold gIE
  rw [h]
  simp only [hx]
theorem gIL_ok (h : g ρ S = .ok (.ob n) S1) (hx : itemsAt S1 n = some xs) : gIL g ρ S = .ok xs (okAt n xs) S1 := by
  unfold gIL
  rw [h]
  simp only [hx]
theorem gIT_ok (h : g ρ S = .ok (.tup xs) S1) : gIT g ρ S = .ok xs (fun _ => true) S1 := by
  unfold gIT
  rw [h]
theorem gIZ_ok (h : gs ρ S = .ok [.ob n, .ob m] S1) (hx : itemsAt S1 n = some xs) (hy : itemsAt S1 m = some ys) : gIZ gs ρ S = .ok (zipA xs ys) (fun S => okAt n xs S && okAt m ys S) S1 := by
  unfold gIZ
  rw [h]
  simp only [hx, hy]
theorem okAt_of (h : itemsAt S n = some xs) : okAt n xs S = true := okAt_iff.mpr h
theorem vLen_ob (h : itemsAt S n = some xs) : vLen [.ob n] S = .ok (.int xs.length) S := by
  show (match itemsAt S n with
    | some xs => RE.ok (.int xs.length) S
    | none => .stuck) = _
  rw [h]
theorem flat_ints (l : List Int) : (l.map A.int).all flatA = true := by simp [flatA]
theorem inF_ints (x : Int) (l : List Int) : inF (.int x) (l.map .int) = decide (x ∈ l) := by
  unfold inF
  rw [Bool.eq_iff_iff, List.any_map]
  simp only [List.any_eq_true, Function.comp, eqF, beq_iff_eq, decide_eq_true_eq]
  constructor
  · rintro ⟨y, hy, rfl⟩; exact hy
  · intro h; exact ⟨x, h, rfl⟩
theorem vIn_ints {x : Int} {l : List Int} (h : itemsAt S n = some (l.map .int)) : vIn (.int x) (.ob n) S = .ok (.bl (decide (x ∈ l))) S := by
  show (match itemsAt S n with
    | some xs => if (true && xs.all flatA) = true then RE.ok (.bl (inF (.int x) xs)) S else .stuck
    | none => .stuck) = _
  rw [h]
  dsimp only
  rw [flat_ints, inF_ints]
  rfl
theorem vNotIn_ints {x : Int} {l : List Int} (h : itemsAt S n = some (l.map .int)) : vNotIn (.int x) (.ob n) S = .ok (.bl (!decide (x ∈ l))) S := by
  unfold vNotIn
  rw [vIn_ints h]
theorem flat_strs (l : List Str) : (l.map A.str).all flatA = true := by simp [flatA]
theorem inF_strs (x : Str) (l : List Str) : inF (.str x) (l.map .str) = decide (x ∈ l) := by
  unfold inF
  rw [Bool.eq_iff_iff, List.any_map]
  simp only [List.any_eq_true, Function.comp, eqF, decide_eq_true_eq]
  constructor
  · rintro ⟨y, hy, rfl⟩; exact hy
  · intro h; exact ⟨x, h, rfl⟩
theorem vIn_strs {x : Str} {l : List Str} (h : itemsAt S n = some (l.map .str)) : vIn (.str x) (.ob n) S = .ok (.bl (decide (x ∈ l))) S := by
  show (match itemsAt S n with
    | some xs => if (true && xs.all flatA) = true then RE.ok (.bl (inF (.str x) xs)) S else .stuck
    | none => .stuck) = _
  rw [h]
  dsimp only
  rw [flat_strs, inF_strs]
  rfl
theorem vNotIn_strs {x : Str} {l : List Str} (h : itemsAt S n = some (l.map .str)) : vNotIn (.str x) (.ob n) S = .ok (.bl (!decide (x ∈ l))) S := by
  unfold vNotIn
  rw [vIn_strs h]
theorem vAdd_lists (h1 : S[n]? = some (O.lst xs)) (h2 : S[m]? = some (O.lst ys)) (hl : xs.length + ys.length ≤ 4000000) : vAdd (.ob n) (.ob m) S = .ok (.ob S.length) (S ++ [O.lst (xs ++ ys)]) := by
  show (match S[n]?, S[m]? with
    | some (O.lst xs), some (O.lst ys) => if xs.length + ys.length ≤ 4000000 then RE.ok (.ob S.length) (S ++ [O.lst (xs ++ ys)]) else .stuck
    | _, _ => .stuck) = _
  rw [h1, h2]
  exact if_pos hl
theorem vCut_ob {lo hi : Option Int} (h : itemsAt S n = some xs) : vCut (.ob n) lo hi S = .ok (.ob S.length) (S ++ [O.lst (cutA xs lo hi)]) := by
  show (match itemsAt S n with
    | some xs => RE.ok (.ob S.length) (S ++ [O.lst (cutA xs lo hi)])
    | none => .stuck) = _
  rw [h]
theorem items_of_get {xs : List A} (h : S[n]? = some (O.lst xs)) : itemsAt S n = some xs := by
  unfold itemsAt
  rw [h]
  rfl
theorem vIx_at {i : Int} (h : itemsAt S n = some xs) (h0 : 0 ≤ i) (h1 : i < xs.length) : vIx (.ob n) (.int i) S = .ok (xs.getD i.toNat .non) S := by
  rw [vIx_obE, h]
  simp only [atI_getD A.non h0 h1]
theorem cut5 (a b c d e f : A) : cutA [a, b, c, d, e, f] none (some 5) = [a, b, c, d, e] := rfl
theorem isi_list {xs : List A} (h : S[n]? = some (O.lst xs)) : tyA S (.ob n) = some "list" := by
  unfold tyA
  simp only [h]
end
theorem rngA_at {n j : Nat} {x : A} (h : (rngA 0 n)[j]? = some x) : j < n ∧ x = .int (j : Int) := by
  have hlt := (List.getElem?_eq_some_iff.mp h).1
  have hlt2 : j < n := by simpa [rngA] using hlt
  refine ⟨hlt2, ?_⟩
  unfold rngA at h
  rw [List.getElem?_map, List.getElem?_range hlt2] at h
  simp only [Option.map_some, Option.some.injEq] at h
  rw [← h]
  simp
theorem rngA_len (lo : Int) (n : Nat) : (rngA lo n).length = n := by simp [rngA]
end Sx

set_option Elab.async false
set_option linter.all false
set_option maxRecDepth 100000
set_option maxHeartbeats 1000000
namespace Sx
open PySem PySem.Spec PyProof.Rows L2
/-! ### deeds from outside: the laws' making of them, and what they do -/
def mixOf (c p m : Int) : Int := (c * 48271 % p) ^ 3 % p % m
def keptS : List Str := ["a", "b", "c", "log", "news"]
def keptG (s : Int) : List Str := ((rngI 5).filter fun k => decide (pickOf (seedOf s k) 3 = 0)).map fun k => keptS.getD k.toNat ""
def keptT (s : Int) : A := .tup ((keptG s).map .str)
theorem rngI5 : rngI 5 = [0, 1, 2, 3, 4] := by decide
theorem kept_all (p : Int → Bool) : (keptOk (.tup ((((rngI 5).filter p).map fun k => keptS.getD k.toNat "").map .str)) = true) ∧ ((rngI 5).filter p).length ≤ 5 := by
  rw [rngI5]
  simp only [List.filter_cons, List.filter_nil]
  cases p 0 <;> cases p 1 <;> cases p 2 <;> cases p 3 <;> cases p 4 <;> decide +kernel
theorem kept_ok (s : Int) : keptOk (keptT s) = true ∧ (keptG s).length ≤ 5 := by
  obtain ⟨h1, h2⟩ := kept_all fun k => decide (pickOf (seedOf s k) 3 = 0)
  exact ⟨h1, by unfold keptG; rw [List.length_map]; exact h2⟩
theorem kept_words (s : Int) : ∀ k ∈ keptG s, isWordS k = true := fun k hk => by
  unfold keptG at hk
  obtain ⟨x, hx, rfl⟩ := List.mem_map.mp hk
  obtain ⟨h0, h1⟩ := rngI_mem.mp (List.mem_filter.mp hx).1
  have e : ∀ k : Nat, k < 5 → isWordS (keptS.getD k "") = true := by decide +kernel
  exact e _ (by omega)
theorem nice_kept (s : Int) : nice 1 (keptT s) = true := nice_tupI fun x hx => by
  obtain ⟨k, hk, rfl⟩ := List.mem_map.mp hx
  exact nice_word (a := .str k) (kept_words s k hk)
def outerD (s : Int) : A :=
  if pickOf s 8 < 4 then .tup [.str "enter", hrG 3 (seedOf s 1)]
  else if pickOf s 8 < 5 then .tup [.str "leave", .str (wordOf (seedOf s 2))]
  else .tup [.str "tell", .str (wordOf (seedOf s 3)), .int (s / 7 % 10000)]
def outerS (ns : List Int) (at_ k : Int) : Int := seedOf (cellOf ns (at_ + k % 9) + 13 * k) k
def outerG (ns : List Int) (at_ : Int) (m : Nat) : List A := (List.range m).map fun (k : Nat) => outerD (outerS ns at_ k)
def isOuter : A → Bool
  | .tup (.str k :: r) => if k = "enter" then (match r with
      | [a] => isHr 3 a
      | _ => false)
    else if k = "leave" then (match r with
      | [a] => isWord a
      | _ => false)
    else decide (k = "tell") && (match r with
      | [a, b] => isWord a && isIn b 0 9999
      | _ => false)
  | _ => false
theorem outer_cases {d : A} (h : isOuter d = true) : (∃ p, d = .tup [.str "enter", p] ∧ isHr 3 p = true) ∨ (∃ o, d = .tup [.str "leave", .str o] ∧ isWordS o = true) ∨ ∃ t v, d = .tup [.str "tell", .str t, .int v] ∧ isWordS t = true ∧ 0 ≤ v ∧ v ≤ 9999 := by
  unfold isOuter at h
  split at h
  · rename_i k r
    split at h
    · rename_i hk
      subst hk
      split at h
      · exact .inl ⟨_, rfl, h⟩
      · cases h
    · split at h
      · rename_i hk
        subst hk
        split at h
        · rename_i a
          cases a with
          | str o => exact .inr (.inl ⟨o, rfl, h⟩)
          | _ => cases h
        · cases h
      · simp only [Bool.and_eq_true, decide_eq_true_eq] at h
        obtain ⟨hk, h⟩ := h
        subst hk
        split at h
        · rename_i a b
          simp only [Bool.and_eq_true] at h
          cases a with
          | str t => cases b with
            | int v =>
              have h2 := h.2
              simp [isIn] at h2
              exact .inr (.inr ⟨t, v, rfl, h.1, h2.1, h2.2⟩)
            | _ => simp [isIn] at h
          | _ => simp [isWord] at h
        · cases h
  · cases h
theorem isOuter_enter {p : A} (h : isHr 3 p = true) : isOuter (.tup [.str "enter", p]) = true := by
  unfold isOuter
  dsimp only
  rw [if_pos rfl]
  exact h
theorem isOuter_leave {o : Str} (h : isWordS o = true) : isOuter (.tup [.str "leave", .str o]) = true := by
  unfold isOuter
  dsimp only
  rw [if_neg (by decide), if_pos rfl]
  exact h
theorem isOuter_tell {t : Str} {v : Int} (h : isWordS t = true) (v0 : 0 ≤ v) (v1 : v ≤ 9999) : isOuter (.tup [.str "tell", .str t, .int v]) = true := by
  unfold isOuter
  dsimp only
  rw [if_neg (by decide), if_neg (by decide)]
  simp only [decide_true, Bool.true_and, Bool.and_eq_true]
  exact ⟨h, isIn_int v0 v1⟩
theorem outerD_ok (s : Int) : isOuter (outerD s) = true := by
  unfold outerD
  split
  · exact isOuter_enter (hr_ok 3 (by decide) _)
  · split
    · exact isOuter_leave (word_ok _)
    · obtain ⟨h1, h2⟩ := emod_lt' (a := s / 7) (b := 10000) (by decide)
      exact isOuter_tell (word_ok _) h1 (by omega)
theorem outerG_ok {ns : List Int} {at_ : Int} {m : Nat} : ∀ d ∈ outerG ns at_ m, isOuter d = true := fun d hd => by
  obtain ⟨k, _, rfl⟩ := List.mem_map.mp hd
  exact outerD_ok _
theorem outerG_len {ns : List Int} {at_ : Int} {m : Nat} : (outerG ns at_ m).length = m := by simp [outerG]
theorem nice_outer {d : A} (h : isOuter d = true) : nice 12 d = true := by
  rcases outer_cases h with ⟨p, rfl, hp⟩ | ⟨o, rfl, ho⟩ | ⟨t, v, rfl, ht, _⟩
  · refine nice_tupI fun x hx => ?_
    simp only [List.mem_cons, List.not_mem_nil, or_false] at hx
    rcases hx with z | z <;> subst z
    · exact nice_str (by decide +kernel)
    · exact nice_mono (nice_hr hp) _ (by decide)
  · refine nice_tupI fun x hx => ?_
    simp only [List.mem_cons, List.not_mem_nil, or_false] at hx
    rcases hx with z | z <;> subst z
    · exact nice_str (by decide +kernel)
    · exact nice_word (a := .str o) ho
  · refine nice_tupI fun x hx => ?_
    simp only [List.mem_cons, List.not_mem_nil, or_false] at hx
    rcases hx with z | z | z <;> subst z
    · exact nice_str (by decide +kernel)
    · exact nice_word (a := .str t) ht
    · exact nice_int
/-! what a deed from outside does -/
def doneH (h : Ha) (d : A) : Ha := match d with
  | .tup [.str k, a] => if k = "enter" then enterH h a else dropW h (strA a)
  | .tup [_, t, v] => tellH h (strA t) (intA v)
  | _ => h
theorem done_enter (h : Ha) (p : A) : doneH h (.tup [.str "enter", p]) = enterH h p := by
  unfold doneH
  dsimp only
  rw [if_pos rfl]
theorem done_leave (h : Ha) (o : Str) : doneH h (.tup [.str "leave", .str o]) = dropW h o := by
  unfold doneH
  dsimp only
  rw [if_neg (by decide)]
  rfl
theorem done_tell (h : Ha) (t : Str) (v : Int) : doneH h (.tup [.str "tell", .str t, .int v]) = tellH h t v := rfl
/-- a hall behind k deeds from outside -/
structure RestK (k : Nat) (h : Ha) : Prop where
  wf : Wf h
  now : h.now = []
  cap : h.rows.length + h.people.length ≤ 802 * k
theorem RestK.rest {k : Nat} {h : Ha} (r : RestK k h) (hk : k ≤ 99) : Rest h := ⟨r.wf, r.now, by have := r.cap; omega⟩
theorem goL_rows : ∀ (l : List Int) (h : Ha), (goL l h).rows = h.rows ∧ (goL l h).kept = h.kept ∧ (goL l h).lasts = h.lasts ∧ (goL l h).now = h.now ∧ (goL l h).people = h.people
  | [], h => ⟨rfl, rfl, rfl, rfl, rfl⟩
  | x :: l, h => by
    unfold goL
    exact goL_rows l (h.go x)
theorem RestK.done {k : Nat} {h : Ha} {d : A} (r : RestK k h) (hd : isOuter d = true) : RestK (k + 1) (doneH h d) := by
  have hc := r.cap
  rcases outer_cases hd with ⟨p, rfl, hp⟩ | ⟨o, rfl, ho⟩ | ⟨t, v, rfl, ht, v0, v1⟩
  · rw [done_enter]
    have s := enter_ok r.wf hp
    have c := enter_cap r.wf hp
    exact ⟨s.wf, s.now.trans r.now, by omega⟩
  · rw [done_leave]
    obtain ⟨e1, _, _, e4, e5⟩ := goL_rows (dropL h o) h
    refine ⟨(drop_ok r.wf).wf, e4.trans r.now, ?_⟩
    show (goL (dropL h o) h).rows.length + (goL (dropL h o) h).people.length ≤ _
    rw [e1, e5]
    omega
  · rw [done_tell]
    have s := tell_ok r.wf ht v0 v1
    have c := tell_cap r.wf ht v0 v1
    exact ⟨s.wf, s.now.trans r.now, by omega⟩
theorem new_restK {s : Int} : RestK 0 (newHa (keptT s)) := by
  have r := new_rest (x := keptT s) (ks := keptG s) rfl (kept_words s) (by have := (kept_ok s).2; omega)
  exact ⟨r.wf, r.now, Nat.le_refl 0⟩
def runH (h : Ha) (ds : List A) : Ha := ds.foldl doneH h
theorem RestK.run : ∀ {ds : List A} {k : Nat} {h : Ha}, RestK k h → (∀ d ∈ ds, isOuter d = true) → RestK (k + ds.length) (runH h ds)
  | [], k, h, r, _ => r
  | d :: ds, k, h, r, hd => by
    have := RestK.run (ds := ds) (r.done (hd d (by simp))) fun x hx => hd x (by simp [hx])
    have e : k + (d :: ds).length = k + 1 + ds.length := by simp; omega
    rw [e]
    exact this
theorem runH_snoc (h : Ha) (ds : List A) (d : A) : runH h (ds ++ [d]) = doneH (runH h ds) d := by
  unfold runH
  rw [List.foldl_append]
  rfl
/-! a def whose result is told as it is -/
inductive Fit2 (n : Nat) : RE → RS → Prop
  | of {r : RE} {z : RS} : Fit n r z → Fit2 n r z
  | same {a : A} {S : Sto} : Fit2 n (.ok a S) (.ret a S)
  | sameN {S : Sto} {ρ : Ro} : Fit2 n (.ok .non S) (.nx ρ S)
  | sameX {c : Value} {S : Sto} {ρ : Ro} : Fit2 n (.exc c S) (.exc c ρ S)
theorem Fit2.fin {K : Frg} {T : Tbs} {H : Hp} {as : List Addr} {r : RE} {z : RS} {Q : VK} {E : XK} {n : Nat} (h : Fit2 n r z) (hn : as.length = n) (f : FinE K T (fun c d _ H' => E c d H') [] H as Q r) : FinS K T (fun c d _ H' => E c d H') { nx := fun _ H' => Q .non H', rt := Q } H as z := by
  cases h with
  | of h => exact h.fin hn f
  | same => exact fun v as' H' l r ra => f v as' H' l r ra
  | sameN => exact fun σ' as' H' l rs => f _ as' H' l rs.rel .non
  | sameX => exact fun σ' as' H' l rs => f as' H' l rs.rel
theorem fnF2 {P : Program} {w : World} {K : Frg} {T : Tbs} {mg : Str → Option Value} {base : Heap} {d : Nat} {f : Addr} {name qual : Str} {params : Arguments} {body : List Stmt} {scope : Scope} {dvs : List V} {kws : List (Str × V)} {fd : FuncData} {N ps : List Str} {F : List A → Sto → RE}
    (D : FunD K name qual params body scope dvs kws f fd) (S : FnScope N ps scope) (len : ∀ l S, F l S ≠ .stuck → l.length = ps.length) (q : GS)
    (hb : ∀ (cdv : Value) (A : Around) (outer : List Env) (s : Shared) (H : Hp) (E : XK), Rm d (A.deeper (envOfC qual scope s.heap.objs.size f cdv)) →
      SB (cxOf (L2.CX P w) P w K mg base N qual scope f cdv A outer s H E) T (fun c d _ H' => E c d H') body q)
    (hq : ∀ l S, BelS S → (∀ x, x ∈ l → Bel S.length x) → F l S ≠ .stuck → Fit2 S.length (F l S) (q (startR N.length l) S)) : FnR P w K mg base (d + 1) f fd ps (spF K T F) := by
  have ns : ∀ {l : List A} {S : Sto} {H : Hp} {as : List Addr} {Q : VK} {E : XK}, FinE K T (fun c d _ H' => E c d H') [] H as Q (F l S) → F l S ≠ .stuck := fun f e => by rw [e] at f; exact f
  refine fnr_of D S (fun vs H Q E h => ?_) fun cdv A outer s H vs Q E hr h => ⟨_, hb cdv A outer s H E hr, ?_⟩
  · obtain ⟨l, St, as, r, rl, f⟩ := h
    rw [← rl.length]
    exact len l St (ns f)
  · obtain ⟨l, St, as, r, rl, f⟩ := h
    refine ⟨_, St, as, relSt_start r rl, (hq l St r.bel (fun x hx => ?_) (ns f)).fin r.len f⟩
    have := rl.bel x hx
    rw [r.len] at this
    exact this
end Sx

set_option Elab.async false
set_option linter.all false
set_option maxRecDepth 100000
set_option maxHeartbeats 1000000
namespace Sx
open PySem PySem.Spec PyProof.Rows L2
/-! ### journals: rows of three kinds, who hears once is heard once -/
def heardBy (x : Int) : A → Bool
  | .tup [.str k, .int y, _, _] => decide (k = "heard") && decide (y = x)
  | _ => false
def hcount (l : List A) (x : Int) : Nat := l.countP (heardBy x)
theorem hcount_append (l m : List A) (x : Int) : hcount (l ++ m) x = hcount l x + hcount m x := List.countP_append
theorem by_heard (x y : Int) (t : Str) (v : Int) : heardBy x (rHeard y t v) = decide (y = x) := by
  unfold heardBy rHeard
  simp
theorem by_ring (x : Int) (l : List A) : heardBy x (rRing l) = false := rfl
theorem by_cut (x : Int) : heardBy x rCut = false := rfl
def RowK (h : Ha) (r : A) : Prop := (∃ x t v, r = rHeard x t v ∧ (0 ≤ x ∧ x < (h.people.length : Int)) ∧ tpA (pAt h x) = t ∧ fitT (tsA (pAt h x)) v = true ∧ isWordS t = true ∧ 0 ≤ v ∧ v ≤ 9999) ∨ (∃ l : List Str, r = rRing (l.map .str) ∧ ∀ t ∈ l, isWordS t = true) ∨ r = rCut
structure Jn (h : Ha) : Prop where
  row : ∀ r ∈ h.rows, RowK h r
  cnt : ∀ x, hwA (pAt h x) = "once" → hcount h.rows x ≤ if goneB h x = true then 1 else 0
/-- new rows are of those who had not left -/
def Js (h h' : Ha) : Prop := ∃ l, h'.rows = h.rows ++ l ∧ ∀ x, goneB h x = true → hcount l x = 0
theorem Js.refl (h : Ha) : Js h h := ⟨[], by simp, fun _ _ => rfl⟩
theorem Js.trans {a b c : Ha} (s : Stp a b) (x : Js a b) (y : Js b c) : Js a c := by
  obtain ⟨l, e1, h1⟩ := x
  obtain ⟨m, e2, h2⟩ := y
  exact ⟨l ++ m, by rw [e2, e1, List.append_assoc], fun z hz => by rw [hcount_append, h1 z hz, h2 z (s.gone z hz)]⟩
theorem pAt_stp {h h' : Ha} (s : Stp h h') {x : Int} (x0 : 0 ≤ x) (x1 : x < (h.people.length : Int)) : pAt h' x = pAt h x := by
  obtain ⟨l, e⟩ := s.people
  unfold pAt
  rw [e, List.getD_eq_getElem?_getD, List.getD_eq_getElem?_getD, List.getElem?_append_left (by omega)]
theorem RowK.stp {h h' : Ha} {r : A} (k : RowK h r) (s : Stp h h') : RowK h' r := by
  rcases k with ⟨x, t, v, e, ⟨x0, x1⟩, h1, h2, h3, h4⟩ | k
  · have := s.len
    exact .inl ⟨x, t, v, e, ⟨x0, by omega⟩, by rw [pAt_stp s x0 x1]; exact h1, by rw [pAt_stp s x0 x1]; exact h2, h3, h4⟩
  · exact .inr k
theorem pAt_out {h : Ha} {x : Int} (hx : (h.people.length : Int) ≤ x) : pAt h x = .non := by
  unfold pAt
  rw [List.getD_eq_getElem?_getD, List.getElem?_eq_none (by omega)]
  rfl
theorem heard_in {h : Ha} (j : ∀ r ∈ h.rows, RowK h r) {x : Int} (hx : 0 < hcount h.rows x) : 0 ≤ x ∧ x < (h.people.length : Int) := by
  obtain ⟨r, hr, hb⟩ := List.countP_pos_iff.mp hx
  rcases j r hr with ⟨y, t, v, e, hy, _⟩ | ⟨l, e, _⟩ | e
  · subst e
    rw [by_heard] at hb
    simp at hb
    subst hb
    exact hy
  · subst e; rw [by_ring] at hb; cases hb
  · subst e; rw [by_cut] at hb; cases hb
/-- a step that adds no heard row -/
theorem Jn.quiet {h h' : Ha} (j : Jn h) (s : Stp h h') {l : List A} (e : h'.rows = h.rows ++ l) (hl : ∀ r ∈ l, RowK h' r) (h0 : ∀ x, hcount l x = 0) : Jn h' ∧ Js h h' := by
  refine ⟨⟨fun r hr => ?_, fun x hx => ?_⟩, l, e, fun x _ => h0 x⟩
  · rw [e] at hr
    rcases List.mem_append.mp hr with hr | hr
    · exact (j.row r hr).stp s
    · exact hl r hr
  · rw [e, hcount_append, h0, Nat.add_zero]
    by_cases hp : 0 < hcount h.rows x
    · obtain ⟨x0, x1⟩ := heard_in j.row hp
      rw [pAt_stp s x0 x1] at hx
      have := j.cnt x hx
      by_cases hg : goneB h x = true
      · rw [s.gone x hg, if_pos rfl]
        rw [if_pos hg] at this
        exact this
      · rw [if_neg hg] at this
        omega
    · have : hcount h.rows x = 0 := by omega
      rw [this]
      exact Nat.zero_le _
structure HearJ (r : Int) (hear : Hear) : Prop where
  ok : HearOk r hear
  j : ∀ h x v, Wf h → h.room ≤ r → h.cut = false → 0 ≤ x → x < (h.people.length : Int) → 0 ≤ v → v ≤ 9999 → Jn h → goneB h x = false → fitT (tsA (pAt h x)) v = true → Jn (hear h x v).2 ∧ Js h (hear h x v).2
theorem sp_j {hear : Hear} {r v : Int} (ok : HearJ r hear) (v0 : 0 ≤ v) (v1 : v ≤ 9999) : ∀ (l : List Int) (h : Ha), (∀ x ∈ l, 0 ≤ x ∧ x < (h.people.length : Int)) → Wf h → h.room ≤ r → Jn h → Jn (spLoop hear v l h) ∧ Js h (spLoop hear v l h)
  | [], h, _, w, _, j => ⟨j, .refl h⟩
  | x :: l, h, hl, w, hr, j => by
    unfold spLoop
    split
    · rename_i hc
      simp only [Bool.and_eq_true, Bool.not_eq_true'] at hc
      have s := ok.ok h x v w hr hc.1.2 (hl x (by simp)).1 (hl x (by simp)).2 v0 v1
      obtain ⟨j1, j2⟩ := ok.j h x v w hr hc.1.2 (hl x (by simp)).1 (hl x (by simp)).2 v0 v1 j hc.1.1 hc.2
      split
      · exact ⟨j1, j2⟩
      · obtain ⟨j3, j4⟩ := sp_j ok v0 v1 l _ (fun y hy => ⟨(hl y (by simp [hy])).1, Int.lt_of_lt_of_le (hl y (by simp [hy])).2 (by have := s.stp.len; omega)⟩) s.wf (Int.le_trans s.stp.room hr) j1
        exact ⟨j3, j2.trans s.stp j4⟩
    · exact sp_j ok v0 v1 l h (fun y hy => hl y (by simp [hy])) w hr j
theorem ring_strs {h : Ha} (w : Wf h) {t : Str} (ht : isWordS t = true) : ∃ l : List Str, ringOf t h.now = l.map .str ∧ ∀ t ∈ l, isWordS t = true := by
  refine ⟨(ringOf t h.now).map strA, ?_, fun s hs => ?_⟩
  · rw [List.map_map]
    conv => lhs; rw [← List.map_id (ringOf t h.now)]
    refine List.map_congr_left fun a ha => ?_
    unfold ringOf at ha
    rcases List.mem_append.mp ha with ha | ha
    · exact (isWord_str (w.now a (List.mem_of_mem_drop ha))).1
    · simp at ha; subst ha; rfl
  · obtain ⟨a, ha, rfl⟩ := List.mem_map.mp hs
    unfold ringOf at ha
    rcases List.mem_append.mp ha with ha | ha
    · exact (isWord_str (w.now a (List.mem_of_mem_drop ha))).2
    · simp at ha; subst ha; exact ht
theorem spread_j {hear : Hear} {r v : Int} {t : Str} {h : Ha} (ok : HearJ r hear) (v0 : 0 ≤ v) (v1 : v ≤ 9999) (ht : isWordS t = true) (w : Wf h) (hr : h.room ≤ r) (j : Jn h) : Jn (spreadW hear h t v) ∧ Js h (spreadW hear h t v) := by
  unfold spreadW
  split
  · obtain ⟨l, e, hl⟩ := ring_strs w ht
    exact j.quiet (stp_row _ _) (l := [rRing (ringOf t h.now)]) rfl (fun r hr => by simp at hr; subst hr; rw [e]; exact .inr (.inl ⟨l, rfl, hl⟩)) fun x => rfl
  · have s := told_ok (t := t) w v0 v1
    have j1 := j.quiet s.stp (l := []) (by unfold toldL; split <;> simp) (fun r hr => by cases hr) fun x => rfl
    obtain ⟨j3, j4⟩ := sp_j ok v0 v1 (orderH (toldL h t v) t) (toldL h t v) (fun x hx => (order_mem.mp hx).1) s.wf (Int.le_trans s.stp.room hr) j1.1
    exact ⟨j3, j1.2.trans s.stp j4⟩
theorem gone_out {h : Ha} (w : Wf h) {x : Int} (hx : (h.people.length : Int) ≤ x) : goneB h x = false := by
  cases hg : goneB h x with
  | false => rfl
  | true =>
    obtain ⟨p, hp, e⟩ := List.mem_map.mp (goneB_iff.mp hg)
    obtain ⟨y, e2, _, h1⟩ := w.gone p hp
    rw [e2] at e
    simp at e
    omega
theorem come_j {hear : Hear} {r : Int} {p : A} {h : Ha} (ok : HearJ r hear) (hp : isHr 3 p = true) (w : Wf h) (hr : h.room ≤ r) (hc : h.cut = false) (j : Jn h) : Jn (comeW hear h p) ∧ Js h (comeW hear h p) := by
  have s := add_ok w hp
  have j1 := j.quiet s.stp (l := []) (by simp) (fun r hr => by cases hr) fun x => rfl
  unfold comeW
  split
  · rename_i v hv
    obtain ⟨_, v0, v1⟩ := lastI_some w hv
    split
    · rename_i hf
      have hg : goneB ({ h with people := h.people ++ [p] } : Ha) (h.people.length : Nat) = false := gone_out (h := h) w (Int.le_refl _)
      have hpa : pAt ({ h with people := h.people ++ [p] } : Ha) (h.people.length : Nat) = p := by
        unfold pAt
        simp
      obtain ⟨j3, j4⟩ := ok.j _ _ v s.wf hr hc (by omega) (by simp; omega) v0 v1 j1.1 hg (by rw [hpa]; exact hf)
      exact ⟨j3, j1.2.trans s.stp j4⟩
    · exact j1
  · exact j1
theorem goL_j : ∀ (l : List Int) (h : Ha), (∀ x ∈ l, 0 ≤ x ∧ x < (h.people.length : Int)) → Wf h → Jn h → Jn (goL l h) ∧ Js h (goL l h)
  | [], h, _, _, j => ⟨j, .refl h⟩
  | x :: l, h, hl, w, j => by
    have w2 := wf_go w (hl x (by simp)).1 (hl x (by simp)).2
    have j1 := j.quiet (stp_go h x) (l := []) (by simp [Ha.go]) (fun r hr => by cases hr) fun x => rfl
    obtain ⟨j3, j4⟩ := goL_j l (h.go x) (fun y hy => hl y (by simp [hy])) w2 j1.1
    exact ⟨j3, j1.2.trans (stp_go h x) j4⟩
theorem drop_j {h : Ha} {o : Str} (w : Wf h) (j : Jn h) : Jn (dropW h o) ∧ Js h (dropW h o) := goL_j _ h (fun x hx => (there_mem.mp hx).1) w j
theorem do_j {hear : Hear} {r x v : Int} {d : A} {h : Ha} (ok : HearJ r hear) (hd : isDeedW (isHr 2) d = true) (w : Wf h) (hr : h.room ≤ r) (hc : h.cut = false) (x0 : 0 ≤ x) (x1 : x < (h.people.length : Int)) (j : Jn h) : Jn (doW hear d x v h) ∧ Js h (doW hear d x v h) := by
  rcases deed_cases hd with (e | e) | ⟨t, k, e, ht, j0, j1⟩ | ⟨o, e, ho⟩ | ⟨p, e, hp⟩ <;> subst e
  · rw [do_stop]
    exact ⟨j, .refl h⟩
  · rw [do_done]
    exact j.quiet (stp_go h x) (l := []) (by simp [Ha.go]) (fun r hr => by cases hr) fun x => rfl
  · rw [do_tell]
    obtain ⟨a, b⟩ := emod_lt' (a := v + k) (b := 10000) (by decide)
    exact spread_j ok a (by omega) ht w hr j
  · rw [do_leave]
    exact drop_j w j
  · rw [do_join]
    exact come_j ok (isHr_succ hp) w hr hc j
theorem ds_j {hear : Hear} {r x v : Int} (ok : HearJ r hear) : ∀ (l : List A) (s : Bool) (h : Ha), (∀ d ∈ l, isDeedW (isHr 2) d = true) → Wf h → h.room ≤ r → 0 ≤ x → x < (h.people.length : Int) → Jn h → Jn (dsLoop hear x v l s h).2 ∧ Js h (dsLoop hear x v l s h).2
  | [], s, h, _, w, _, _, _, j => ⟨j, .refl h⟩
  | d :: l, s, h, hl, w, hr, x0, x1, j => by
    unfold dsLoop
    split
    · exact ds_j ok l s h (fun y hy => hl y (by simp [hy])) w hr x0 x1 j
    · rename_i hc
      have s1 := do_ok (v := v) ok.ok (hl d (by simp)) w hr (by simpa using hc) x0 x1
      obtain ⟨j1, j2⟩ := do_j (v := v) ok (hl d (by simp)) w hr (by simpa using hc) x0 x1 j
      obtain ⟨j3, j4⟩ := ds_j (v := v) ok l (isStop d || s) (doW hear d x v h) (fun y hy => hl y (by simp [hy])) s1.wf (Int.le_trans s1.stp.room hr) x0 (Int.lt_of_lt_of_le x1 (by have := s1.stp.len; omega)) j1
      exact ⟨j3, j2.trans s1.stp j4⟩
theorem heard_rows (h : Ha) (x v : Int) : (heardH h x v).rows = h.rows ++ [rHeard x (tpA (pAt h x)) v] := by
  unfold heardH
  dsimp only
  split <;> rfl
theorem heard_gone (h : Ha) (x v y : Int) : goneB (heardH h x v) y = (goneB h y || (decide (x = y) && decide (hwA (pAt h x) = "once"))) := by
  unfold heardH
  dsimp only
  split
  · rename_i ho
    show goneB (Ha.go _ x) y = _
    rw [goneB_go]
    show (decide (x = y) || goneB h y) = _
    rw [ho, Bool.or_comm]
    simp
  · rename_i ho
    show goneB h y = _
    simp [ho]
theorem heard_j {h : Ha} {x v : Int} (w : Wf h) (hr : 0 < h.room) (x0 : 0 ≤ x) (x1 : x < (h.people.length : Int)) (v0 : 0 ≤ v) (v1 : v ≤ 9999) (j : Jn h) (hg : goneB h x = false) (hf : fitT (tsA (pAt h x)) v = true) : Jn (heardH h x v) ∧ Js h (heardH h x v) := by
  obtain ⟨w1, s1, m1, n1, p1, r1, c1⟩ := heard_ok (v := v) w hr x0 x1
  obtain ⟨o, t, rk, hw, ts, ds, e, _, ht, _⟩ := hr3_parts (pAt_hr w x0 x1)
  have et : tpA (pAt h x) = t := by rw [e]; rfl
  refine ⟨⟨fun r hr => ?_, fun y hy => ?_⟩, [rHeard x (tpA (pAt h x)) v], heard_rows h x v, fun y hy => ?_⟩
  · rw [heard_rows] at hr
    rcases List.mem_append.mp hr with hr | hr
    · exact (j.row r hr).stp s1
    · simp at hr
      subst hr
      refine .inl ⟨x, _, v, rfl, ⟨x0, by rw [p1]; exact x1⟩, by rw [pAt_stp s1 x0 x1], by rw [pAt_stp s1 x0 x1]; exact hf, by rw [et]; exact ht, v0, v1⟩
  · have hy : hwA (pAt h y) = "once" := by
      have : pAt (heardH h x v) y = pAt h y := by unfold pAt; rw [p1]
      rw [this] at hy
      exact hy
    rw [heard_rows, hcount_append, heard_gone]
    have c := j.cnt y hy
    have e1 : hcount [rHeard x (tpA (pAt h x)) v] y = if x = y then 1 else 0 := by
      unfold hcount
      rw [List.countP_cons, by_heard]
      simp
    rw [e1]
    by_cases hxy : x = y
    · subst hxy
      rw [hg] at c
      rw [hy]
      simp at c ⊢
      omega
    · rw [if_neg hxy]
      simp only [hxy, decide_false, Bool.false_and, Bool.or_false]
      omega
  · unfold hcount
    rw [List.countP_cons, by_heard]
    have : ¬ x = y := fun z => by subst z; rw [hg] at hy; cases hy
    simp [this]
theorem hearW_j {hear : Hear} {r : Int} (ok : HearJ r hear) : HearJ (r + 1) (hearW hear) := ⟨hearW_ok ok.ok, fun h x v w hr hc x0 x1 v0 v1 j hg hf => by
  unfold hearW
  split
  · have s := cut_ok w hc
    exact j.quiet s.stp (l := [rCut]) rfl (fun r hr => by simp at hr; subst hr; exact .inr (.inr rfl)) fun x => rfl
  · rename_i h0
    have h1 : 0 < h.room := by have := w.room; omega
    obtain ⟨w1, s1, m1, n1, p1, r1, c1⟩ := heard_ok (v := v) w h1 x0 x1
    obtain ⟨j1, j2⟩ := heard_j (v := v) w h1 x0 x1 v0 v1 j hg hf
    obtain ⟨o, t, rk, hw, ts, ds, e, _, _, _, _, _, h6, h7⟩ := hr3_parts (pAt_hr w x0 x1)
    have ed : dsA (pAt h x) = ds := by rw [e]; rfl
    obtain ⟨j3, j4⟩ := ds_j (v := v) (x := x) ok ds false (heardH h x v) h7 w1 (by rw [r1]; omega) x0 (by rw [p1]; exact x1) j1
    dsimp only
    rw [ed]
    have j5 := j2.trans s1 j4
    exact ⟨⟨j3.row, j3.cnt⟩, j5⟩⟩
theorem hear_j : ∀ n : Nat, HearJ (n : Int) (hearH n)
  | 0 => ⟨hear_ok 0, fun h x v w hr hc _ _ _ _ j _ _ => by
    have s := cut_ok w hc
    exact j.quiet s.stp (l := [rCut]) rfl (fun r hr => by simp at hr; subst hr; exact .inr (.inr rfl)) fun x => rfl⟩
  | n + 1 => by
    have := hearW_j (hear_j n)
    exact_mod_cast this
theorem Jn.beg {h : Ha} (j : Jn h) : Jn h.begin := ⟨j.row, j.cnt⟩
/-- deeds from outside -/
theorem Jn.done {h : Ha} {d : A} (w : Wf h) (j : Jn h) (hd : isOuter d = true) : Jn (doneH h d) ∧ Js h (doneH h d) := by
  rcases outer_cases hd with ⟨p, rfl, hp⟩ | ⟨o, rfl, ho⟩ | ⟨t, v, rfl, ht, v0, v1⟩
  · rw [done_enter]
    exact come_j (hear_j 100) hp (wf_beg w) (Int.le_refl _) rfl j.beg
  · rw [done_leave]
    exact drop_j w j
  · rw [done_tell]
    exact spread_j (hear_j 100) v0 v1 ht (wf_beg w) (Int.le_refl _) j.beg
theorem stp_done {h : Ha} {d : A} (w : Wf h) (hd : isOuter d = true) : Stp h.begin (doneH h d) ∨ Stp h (doneH h d) := by
  rcases outer_cases hd with ⟨p, rfl, hp⟩ | ⟨o, rfl, ho⟩ | ⟨t, v, rfl, ht, v0, v1⟩
  · rw [done_enter]
    exact .inl (enter_ok w hp).stp
  · rw [done_leave]
    exact .inr (drop_ok w).stp
  · rw [done_tell]
    exact .inl (tell_ok w ht v0 v1).stp
/-- what a deed from outside leaves: people, who has left, rows -/
theorem done_grow {h : Ha} {d : A} (w : Wf h) (hd : isOuter d = true) : (∃ l, (doneH h d).people = h.people ++ l) ∧ (∃ l, (doneH h d).rows = h.rows ++ l) ∧ (∀ x, goneB h x = true → goneB (doneH h d) x = true) ∧ (doneH h d).kept = h.kept := by
  rcases stp_done w hd with s | s
  · exact ⟨s.people, s.rows, s.gone, s.kept⟩
  · exact ⟨s.people, s.rows, s.gone, s.kept⟩
theorem new_jn (x : A) : Jn (newHa x) := ⟨fun r hr => (nomatch hr), fun x _ => Nat.zero_le _⟩
end Sx

set_option Elab.async false
set_option linter.all false
set_option maxRecDepth 100000
set_option maxHeartbeats 1000000
namespace Sx
open PySem PySem.Spec PyProof.Rows L2
/-! ### a topic told: who hears it, and who comes meanwhile -/
/-- new rows of a topic that is being told: by newcomers, its last word -/
structure Nw (t : Str) (n0 : Nat) (L : Option Int) (h h' : Ha) : Prop where
  rows : ∃ l, h'.rows = h.rows ++ l ∧ ∀ x u, rHeard x t u ∈ l → (n0 : Int) ≤ x ∧ L = some u
  last : lastI h' t = lastI h t
theorem Nw.refl {t : Str} {n0 : Nat} {L : Option Int} (h : Ha) : Nw t n0 L h h := ⟨⟨[], by simp, fun _ _ z => (nomatch z)⟩, rfl⟩
theorem Nw.trans {t : Str} {n0 : Nat} {L : Option Int} {a b c : Ha} (x : Nw t n0 L a b) (y : Nw t n0 L b c) : Nw t n0 L a c := by
  obtain ⟨l, e1, h1⟩ := x.rows
  obtain ⟨m, e2, h2⟩ := y.rows
  exact ⟨⟨l ++ m, by rw [e2, e1, List.append_assoc], fun z u hz => (List.mem_append.mp hz).elim (h1 z u) (h2 z u)⟩, y.last.trans x.last⟩
theorem Nw.quiet {t : Str} {n0 : Nat} {L : Option Int} {h h' : Ha} (e : h'.rows = h.rows) (el : h'.lasts = h.lasts) : Nw t n0 L h h' := ⟨⟨[], by simp [e], fun _ _ z => (nomatch z)⟩, by unfold lastI; rw [el]⟩
theorem heard_inj {x y : Int} {t s : Str} {u v : Int} (e : rHeard x t u = rHeard y s v) : x = y ∧ t = s ∧ u = v := by
  unfold rHeard at e
  simp at e
  exact e
theorem heard_ne_ring {x : Int} {t : Str} {u : Int} {l : List A} : rHeard x t u ≠ rRing l := fun e => by
  unfold rHeard rRing at e
  simp at e
theorem heard_ne_cut {x : Int} {t : Str} {u : Int} : rHeard x t u ≠ rCut := fun e => by
  unfold rHeard rCut at e
  simp at e
def HearN (t : Str) (n0 : Nat) (r : Int) (hear : Hear) : Prop := ∀ h x u, Wf h → h.room ≤ r → h.cut = false → 0 ≤ x → x < (h.people.length : Int) → 0 ≤ u → u ≤ 9999 → inL t h.now = true → n0 ≤ h.people.length → (tpA (pAt h x) = t → (n0 : Int) ≤ x ∧ lastI h t = some u) → Nw t n0 (lastI h t) h (hear h x u).2
theorem sp_n {t : Str} {n0 : Nat} {hear : Hear} {r v : Int} (ok : HearOk r hear) (on : HearN t n0 r hear) (v0 : 0 ≤ v) (v1 : v ≤ 9999) : ∀ (l : List Int) (h : Ha), (∀ x ∈ l, (0 ≤ x ∧ x < (h.people.length : Int)) ∧ tpA (pAt h x) ≠ t) → Wf h → h.room ≤ r → inL t h.now = true → n0 ≤ h.people.length → Nw t n0 (lastI h t) h (spLoop hear v l h)
  | [], h, _, w, _, _, _ => .refl h
  | x :: l, h, hl, w, hr, hi, hn => by
    unfold spLoop
    split
    · rename_i hc
      simp only [Bool.and_eq_true, Bool.not_eq_true'] at hc
      obtain ⟨⟨x0, x1⟩, xt⟩ := hl x (by simp)
      have s := ok h x v w hr hc.1.2 x0 x1 v0 v1
      have n1 := on h x v w hr hc.1.2 x0 x1 v0 v1 hi hn fun z => absurd z xt
      split
      · exact n1
      · have n2 := sp_n (t := t) (n0 := n0) ok on v0 v1 l (hear h x v).2 (fun y hy => by
          obtain ⟨⟨y0, y1⟩, yt⟩ := hl y (by simp [hy])
          exact ⟨⟨y0, Int.lt_of_lt_of_le y1 (by have := s.stp.len; omega)⟩, by rw [pAt_stp s.stp y0 y1]; exact yt⟩) s.wf (Int.le_trans s.stp.room hr) (by rw [s.now]; exact hi) (by have := s.stp.len; omega)
        rw [n1.last] at n2
        exact n1.trans n2
    · exact sp_n ok on v0 v1 l h (fun y hy => hl y (by simp [hy])) w hr hi hn
theorem valA_put_ne {κ : Type} [DecidableEq κ] {kvs : List (κ × A)} {k k' : κ} {v : A} (h : k ≠ k') : valA (putD kvs k v) k' = valA kvs k' := by
  unfold putD
  split
  · unfold valA
    induction kvs with
    | nil => rfl
    | cons p l ih =>
      rw [List.map_cons, List.find?_cons, List.find?_cons]
      by_cases hp : p.1 = k
      · rw [if_pos hp]
        have : ¬ p.1 = k' := fun z => h (hp.symm.trans z)
        simp only [this, decide_false]
        cases hq : (l.any fun kv => decide (kv.1 = k)) with
        | true => exact ih (by rw [hq])
        | false =>
          have e : (l.map fun kv => if kv.1 = k then (kv.1, v) else kv) = l := by
            conv => rhs; rw [← List.map_id l]
            refine List.map_congr_left fun q hq2 => ?_
            have := (List.any_eq_false.mp hq) q hq2
            simp at this
            rw [if_neg this]
            rfl
          rw [e]
      · rw [if_neg hp]
        by_cases hk : p.1 = k'
        · simp only [hk, decide_true]
        · simp only [hk, decide_false]
          refine ih ?_
          rename_i hany
          simpa [hp] using hany
  · unfold valA
    rw [List.find?_append]
    have : ¬ k = k' := h
    cases kvs.find? (fun kv => decide (kv.1 = k')) <;> simp [this]
theorem valA_put {κ : Type} [DecidableEq κ] {kvs : List (κ × A)} {k : κ} {v : A} : valA (putD kvs k v) k = some v := by
  unfold putD
  split
  · rename_i hany
    unfold valA
    induction kvs with
    | nil => simp at hany
    | cons p l ih =>
      rw [List.map_cons, List.find?_cons]
      by_cases hp : p.1 = k
      · rw [if_pos hp]
        simp [hp]
      · rw [if_neg hp]
        simp only [hp, decide_false]
        refine ih ?_
        simpa [hp] using hany
  · rename_i hany
    unfold valA
    rw [List.find?_append]
    have : kvs.find? (fun kv => decide (kv.1 = k)) = none := by
      rw [List.find?_eq_none]
      intro q hq
      have h2 : (kvs.any fun kv => decide (kv.1 = k)) = false := Bool.eq_false_iff.mpr hany
      have h3 := List.any_eq_false.mp h2 q hq
      simpa using h3
    rw [this]
    simp
theorem told_last_ne {h : Ha} {t s : Str} {v : Int} (hs : s ≠ t) : lastI (toldL h s v) t = lastI h t := by
  unfold toldL
  split
  · unfold lastI
    show (match valA (putD h.lasts (.inr s) (.int v)) (.inr t) with
      | some (.int v) => some v
      | _ => none) = _
    rw [valA_put_ne (fun z => hs (by simpa using z))]
    try rfl
  · rfl
theorem spread_n {t s : Str} {n0 : Nat} {hear : Hear} {r v : Int} {h : Ha} (ok : HearOk r hear) (on : HearN t n0 r hear) (v0 : 0 ≤ v) (v1 : v ≤ 9999) (w : Wf h) (hr : h.room ≤ r) (hi : inL t h.now = true) (hn : n0 ≤ h.people.length) : Nw t n0 (lastI h t) h (spreadW hear h s v) := by
  unfold spreadW
  split
  · exact ⟨⟨[rRing (ringOf s h.now)], rfl, fun x u z => by simp at z; exact absurd z heard_ne_ring⟩, rfl⟩
  · rename_i hs
    have hst : s ≠ t := fun z => hs (z ▸ hi)
    have st := told_ok (t := s) w v0 v1
    have q : Nw t n0 (lastI h t) h (toldL h s v) := ⟨⟨[], by unfold toldL; split <;> simp, fun _ _ z => (nomatch z)⟩, told_last_ne hst⟩
    have n2 := sp_n (t := t) (n0 := n0) ok on v0 v1 (orderH (toldL h s v) s) (toldL h s v) (fun x hx => by
      obtain ⟨a, _, b⟩ := order_mem.mp hx
      exact ⟨a, by rw [b]; exact hst⟩) st.wf (Int.le_trans st.stp.room hr) (by rw [st.now]; exact hi) (by have := st.stp.len; omega)
    rw [q.last] at n2
    exact q.trans n2
theorem come_n {t : Str} {n0 : Nat} {hear : Hear} {r : Int} {p : A} {h : Ha} (on : HearN t n0 r hear) (hp : isHr 3 p = true) (w : Wf h) (hr : h.room ≤ r) (hc : h.cut = false) (hi : inL t h.now = true) (hn : n0 ≤ h.people.length) : Nw t n0 (lastI h t) h (comeW hear h p) := by
  have s := add_ok w hp
  have q : Nw t n0 (lastI h t) h ({ h with people := h.people ++ [p] } : Ha) := .quiet rfl rfl
  unfold comeW
  split
  · rename_i v hv
    obtain ⟨_, v0, v1⟩ := lastI_some w hv
    split
    · have hpa : pAt ({ h with people := h.people ++ [p] } : Ha) (h.people.length : Nat) = p := by
        unfold pAt
        simp
      have n2 := on _ (h.people.length : Nat) v s.wf hr hc (by omega) (by simp; omega) v0 v1 hi (by simp; omega) fun z => by
        rw [hpa] at z
        refine ⟨by omega, ?_⟩
        rw [z] at hv
        exact hv
      exact q.trans n2
    · exact q
  · exact q
theorem goL_n {t : Str} {n0 : Nat} {L : Option Int} : ∀ (l : List Int) (h : Ha), Nw t n0 L h (goL l h) := fun l h => by
  obtain ⟨e1, _, e3, _⟩ := goL_rows l h
  exact .quiet e1 e3
theorem do_n {t : Str} {n0 : Nat} {hear : Hear} {r x v : Int} {d : A} {h : Ha} (ok : HearOk r hear) (on : HearN t n0 r hear) (hd : isDeedW (isHr 2) d = true) (w : Wf h) (hr : h.room ≤ r) (hc : h.cut = false) (hi : inL t h.now = true) (hn : n0 ≤ h.people.length) : Nw t n0 (lastI h t) h (doW hear d x v h) := by
  rcases deed_cases hd with (e | e) | ⟨s, k, e, ht, j0, j1⟩ | ⟨o, e, ho⟩ | ⟨p, e, hp⟩ <;> subst e
  · rw [do_stop]
    exact .refl h
  · rw [do_done]
    exact .quiet rfl rfl
  · rw [do_tell]
    obtain ⟨a, b⟩ := emod_lt' (a := v + k) (b := 10000) (by decide)
    exact spread_n ok on a (by omega) w hr hi hn
  · rw [do_leave]
    exact goL_n _ _
  · rw [do_join]
    exact come_n on (isHr_succ hp) w hr hc hi hn
theorem ds_n {t : Str} {n0 : Nat} {hear : Hear} {r x v : Int} (ok : HearOk r hear) (on : HearN t n0 r hear) : ∀ (l : List A) (s : Bool) (h : Ha), (∀ d ∈ l, isDeedW (isHr 2) d = true) → Wf h → h.room ≤ r → 0 ≤ x → x < (h.people.length : Int) → inL t h.now = true → n0 ≤ h.people.length → Nw t n0 (lastI h t) h (dsLoop hear x v l s h).2
  | [], s, h, _, w, _, _, _, _, _ => .refl h
  | d :: l, s, h, hl, w, hr, x0, x1, hi, hn => by
    unfold dsLoop
    split
    · exact ds_n ok on l s h (fun y hy => hl y (by simp [hy])) w hr x0 x1 hi hn
    · rename_i hc
      have s1 := do_ok (v := v) ok (hl d (by simp)) w hr (by simpa using hc) x0 x1
      have n1 := do_n (t := t) (n0 := n0) (x := x) (v := v) ok on (hl d (by simp)) w hr (by simpa using hc) hi hn
      have n2 := ds_n (t := t) (n0 := n0) (v := v) ok on l (isStop d || s) (doW hear d x v h) (fun y hy => hl y (by simp [hy])) s1.wf (Int.le_trans s1.stp.room hr) x0 (Int.lt_of_lt_of_le x1 (by have := s1.stp.len; omega)) (by rw [s1.now]; exact hi) (by have := s1.stp.len; omega)
      rw [n1.last] at n2
      exact n1.trans n2
theorem inL_app {t : Str} {l m : List A} (h : inL t l = true) : inL t (l ++ m) = true := inL_iff.mpr (List.mem_append_left _ (inL_mem h))
theorem heard_lasts (h : Ha) (x v : Int) : (heardH h x v).lasts = h.lasts := by
  unfold heardH
  dsimp only
  split <;> rfl
/-- behind the row of the one who hears: what its deeds lead to -/
theorem deeds_n {t : Str} {n0 : Nat} {hear : Hear} {r : Int} {h : Ha} {x v : Int} (ok : HearOk r hear) (on : HearN t n0 r hear) (w : Wf h) (hr : h.room ≤ r + 1) (h0 : h.room ≠ 0) (x0 : 0 ≤ x) (x1 : x < (h.people.length : Int)) (hi : inL t (h.now ++ [.str (tpA (pAt h x))]) = true) (hn : n0 ≤ h.people.length) :
    (∃ l, (hearW hear h x v).2.rows = h.rows ++ (rHeard x (tpA (pAt h x)) v :: l) ∧ ∀ y u, rHeard y t u ∈ l → (n0 : Int) ≤ y ∧ lastI h t = some u) ∧ lastI (hearW hear h x v).2 t = lastI h t := by
  have h1 : 0 < h.room := by have := w.room; omega
  obtain ⟨w1, s1, m1, n1, p1, r1, c1⟩ := heard_ok (v := v) w h1 x0 x1
  obtain ⟨o, tt, rk, hw, ts, ds, e, _, _, _, _, _, h6, h7⟩ := hr3_parts (pAt_hr w x0 x1)
  have ed : dsA (pAt h x) = ds := by rw [e]; rfl
  have el : lastI (heardH h x v) t = lastI h t := by unfold lastI; rw [heard_lasts]
  have n2 := ds_n (t := t) (n0 := n0) (x := x) (v := v) ok on ds false (heardH h x v) h7 w1 (by rw [r1]; omega) x0 (by rw [p1]; exact x1) (by rw [n1]; exact hi) (by rw [p1]; exact hn)
  rw [el] at n2
  obtain ⟨⟨l, e1, h2⟩, e3⟩ := n2
  unfold hearW
  rw [if_neg h0, ed]
  refine ⟨⟨l, ?_, h2⟩, e3.trans el⟩
  show (dsLoop hear x v ds false (heardH h x v)).2.rows = _
  rw [e1, heard_rows, List.append_assoc]
  rfl
theorem hearW_n {t : Str} {n0 : Nat} {hear : Hear} {r : Int} (ok : HearOk r hear) (on : HearN t n0 r hear) : HearN t n0 (r + 1) (hearW hear) := fun h x u w hr hc x0 x1 u0 u1 hi hn hx => by
  by_cases h0 : h.room = 0
  · unfold hearW
    rw [if_pos h0]
    exact ⟨⟨[rCut], rfl, fun x u z => by simp at z; exact absurd z heard_ne_cut⟩, rfl⟩
  · obtain ⟨⟨l, e, hl⟩, el⟩ := deeds_n (t := t) (n0 := n0) (v := u) ok on w hr h0 x0 x1 (inL_app hi) hn
    refine ⟨⟨_, e, fun y z hy => ?_⟩, el⟩
    rcases List.mem_cons.mp hy with q | q
    · obtain ⟨rfl, e2, rfl⟩ := heard_inj q
      exact hx e2.symm
    · exact hl y z q
theorem hear_n {t : Str} {n0 : Nat} : ∀ n : Nat, HearN t n0 (n : Int) (hearH n)
  | 0 => fun h x u w hr hc _ _ _ _ _ _ _ => ⟨⟨[rCut], rfl, fun x u z => by simp at z; exact absurd z heard_ne_cut⟩, rfl⟩
  | n + 1 => by
    have := hearW_n (t := t) (n0 := n0) (hear_ok n) (hear_n n)
    exact_mod_cast this
/-! the telling itself -/
def ofT (t : Str) : A → Bool
  | .tup [.str k, .int _, .str s, .int _] => decide (k = "heard") && decide (s = t)
  | _ => false
def rowN : A → Int
  | .tup [_, .int x, _, _] => x
  | _ => 0
def mineL (t : Str) (n0 : Nat) (R : List A) : List Int := ((R.filter (ofT t)).map rowN).filter fun x => decide (x < (n0 : Int))
theorem ofT_heard {t : Str} {r : A} (h : ofT t r = true) : ∃ x u, r = rHeard x t u := by
  unfold ofT at h
  split at h
  · rename_i k x s u
    simp only [Bool.and_eq_true, decide_eq_true_eq] at h
    exact ⟨x, u, by rw [h.1, h.2]; rfl⟩
  · cases h
theorem mine_none {t : Str} {n0 : Nat} {l : List A} (h : ∀ y u, rHeard y t u ∈ l → (n0 : Int) ≤ y) : mineL t n0 l = [] := by
  unfold mineL
  rw [List.filter_eq_nil_iff]
  intro x hx
  obtain ⟨r, hr, rfl⟩ := List.mem_map.mp hx
  obtain ⟨h1, h2⟩ := List.mem_filter.mp hr
  obtain ⟨y, u, rfl⟩ := ofT_heard h2
  have := h y u h1
  have e : rowN (rHeard y t u) = y := rfl
  rw [e]
  simp
  omega
theorem mine_app {t : Str} {n0 : Nat} (l m : List A) : mineL t n0 (l ++ m) = mineL t n0 l ++ mineL t n0 m := by
  unfold mineL
  rw [List.filter_append, List.map_append, List.filter_append]
structure Bn (t : Str) (v : Int) (n0 : Nat) (kept : Bool) (R : List A) (l : List Int) : Prop where
  mine : (mineL t n0 R).Sublist l
  vals : ∀ y u, rHeard y t u ∈ R → u = v ∧ (y < (n0 : Int) ∨ kept = true)
theorem sp_b {t : Str} {n : Nat} {v : Int} {L : Option Int} (hL : L = none ∨ L = some v) (v0 : 0 ≤ v) (v1 : v ≤ 9999) {n0 : Nat} : ∀ (l : List Int) (h : Ha), (∀ x ∈ l, (0 ≤ x ∧ x < (n0 : Int)) ∧ tpA (pAt h x) = t) → n0 ≤ h.people.length → Wf h → h.room ≤ n + 1 → lastI h t = L →
    ∃ R, (spLoop (hearH (n + 1)) v l h).rows = h.rows ++ R ∧ Bn t v n0 L.isSome R l
  | [], h, _, _, w, _, _ => ⟨[], by simp [spLoop], ⟨.slnil, fun _ _ z => (nomatch z)⟩⟩
  | x :: l, h, hl, hn, w, hr, el => by
    unfold spLoop
    split
    · rename_i hc
      simp only [Bool.and_eq_true, Bool.not_eq_true'] at hc
      obtain ⟨⟨x0, x1⟩, xt⟩ := hl x (by simp)
      have x1' : x < (h.people.length : Int) := by omega
      have s := hear_ok (n + 1) h x v w (by exact_mod_cast hr) hc.1.2 x0 x1' v0 v1
      by_cases h0 : h.room = 0
      · have e1 : hearH (n + 1) h x v = (true, h.cutIt) := by
          show hearW (hearH n) h x v = _
          unfold hearW
          rw [if_pos h0]
        rw [e1, if_pos rfl]
        refine ⟨[rCut], rfl, ⟨?_, fun y u z => by simp at z; exact absurd z heard_ne_cut⟩⟩
        rw [mine_none fun y u z => by simp at z; exact absurd z heard_ne_cut]
        exact List.nil_sublist _
      · have hi : inL t (h.now ++ [.str (tpA (pAt h x))]) = true := inL_iff.mpr (by rw [xt]; simp)
        obtain ⟨⟨R1, e1, hR1⟩, el1⟩ := deeds_n (t := t) (n0 := n0) (v := v) (hear_ok n) (hear_n n) w hr h0 x0 x1' hi hn
        have e1 : (hearH (n + 1) h x v).2.rows = h.rows ++ (rHeard x t v :: R1) := by rw [xt] at e1; exact e1
        have el1 : lastI (hearH (n + 1) h x v).2 t = lastI h t := el1
        rw [el] at hR1
        have v1' : ∀ y u, rHeard y t u ∈ rHeard x t v :: R1 → u = v ∧ (y < (n0 : Int) ∨ L.isSome = true) := fun y u hy => by
          rcases List.mem_cons.mp hy with q | q
          · obtain ⟨rfl, _, rfl⟩ := heard_inj q
            exact ⟨rfl, .inl x1⟩
          · obtain ⟨_, e2⟩ := hR1 y u q
            rcases hL with z | z
            · rw [z] at e2; cases e2
            · rw [z] at e2
              cases e2
              exact ⟨rfl, .inr (by rw [z]; rfl)⟩
        have m1 : mineL t n0 (rHeard x t v :: R1) = [x] := by
          have e3 := mine_app (t := t) (n0 := n0) [rHeard x t v] R1
          rw [mine_none (l := R1) fun y u z => (hR1 y u z).1, List.append_nil] at e3
          have e4 : mineL t n0 [rHeard x t v] = [x] := by
            unfold mineL ofT rHeard
            simp [rowN, x1]
          exact e3.trans e4
        split
        · exact ⟨_, e1, ⟨by rw [m1]; exact List.Sublist.cons_cons _ (List.nil_sublist _), v1'⟩⟩
        · obtain ⟨R2, e2, b2⟩ := sp_b (n := n) (v := v) hL v0 v1 l (hearH (n + 1) h x v).2 (fun y hy => by
            obtain ⟨⟨y0, y1⟩, yt⟩ := hl y (by simp [hy])
            exact ⟨⟨y0, y1⟩, by rw [pAt_stp s.stp y0 (by omega)]; exact yt⟩) (by have := s.stp.len; omega) s.wf (Int.le_trans s.stp.room hr) (el1.trans el)
          refine ⟨(rHeard x t v :: R1) ++ R2, by rw [e2, e1, List.append_assoc], ⟨?_, fun y u hy => (List.mem_append.mp hy).elim (v1' y u) (b2.vals y u)⟩⟩
          rw [mine_app, m1]
          exact List.Sublist.cons_cons _ b2.mine
    · obtain ⟨R, e, b⟩ := sp_b (n := n) (v := v) hL v0 v1 l h (fun y hy => hl y (by simp [hy])) hn w hr el
      exact ⟨R, e, ⟨List.Sublist.cons _ b.mine, b.vals⟩⟩
/-- its last word stays the value told -/
theorem sp_last {t : Str} {n : Nat} {v : Int} (v0 : 0 ≤ v) (v1 : v ≤ 9999) : ∀ (l : List Int) (h : Ha), (∀ x ∈ l, (0 ≤ x ∧ x < (h.people.length : Int)) ∧ tpA (pAt h x) = t) → Wf h → h.room ≤ n + 1 → lastI (spLoop (hearH (n + 1)) v l h) t = lastI h t
  | [], h, _, w, _ => rfl
  | x :: l, h, hl, w, hr => by
    unfold spLoop
    split
    · rename_i hc
      simp only [Bool.and_eq_true, Bool.not_eq_true'] at hc
      obtain ⟨⟨x0, x1⟩, xt⟩ := hl x (by simp)
      have s := hear_ok (n + 1) h x v w (by exact_mod_cast hr) hc.1.2 x0 x1 v0 v1
      by_cases h0 : h.room = 0
      · have e1 : hearH (n + 1) h x v = (true, h.cutIt) := by
          show hearW (hearH n) h x v = _
          unfold hearW
          rw [if_pos h0]
        rw [e1, if_pos rfl]
        rfl
      · have hi : inL t (h.now ++ [.str (tpA (pAt h x))]) = true := inL_iff.mpr (by rw [xt]; simp)
        obtain ⟨_, el1⟩ := deeds_n (t := t) (n0 := 0) (v := v) (hear_ok n) (hear_n n) w hr h0 x0 x1 hi (Nat.zero_le _)
        have el1 : lastI (hearH (n + 1) h x v).2 t = lastI h t := el1
        split
        · exact el1
        · rw [sp_last (n := n) v0 v1 l (hearH (n + 1) h x v).2 (fun y hy => by
            obtain ⟨⟨y0, y1⟩, yt⟩ := hl y (by simp [hy])
            exact ⟨⟨y0, Int.lt_of_lt_of_le y1 (by have := s.stp.len; omega)⟩, by rw [pAt_stp s.stp y0 y1]; exact yt⟩) s.wf (Int.le_trans s.stp.room hr), el1]
    · exact sp_last (n := n) v0 v1 l h (fun y hy => hl y (by simp [hy])) w hr
theorem told_last {h : Ha} {t : Str} {v : Int} (w : Wf h) : lastI (toldL h t v) t = if inL t (keptL h) = true then some v else none := by
  unfold toldL
  split
  · unfold lastI
    show (match valA (putD h.lasts (.inr t) (.int v)) (.inr t) with
      | some (.int v) => some v
      | _ => none) = _
    rw [valA_put]
  · rename_i hk
    cases hq : lastI h t with
    | none => rfl
    | some u =>
      obtain ⟨z, _⟩ := lastI_some w hq
      obtain ⟨t2, v2, e2, hm, _⟩ := w.lasts _ (valA_mem z)
      cases e2
      exact absurd (inL_iff.mpr hm) hk
/-- a telling from outside: its rows, and its last word -/
theorem tell_new {h : Ha} {t : Str} {v : Int} (r : Rest h) (ht : isWordS t = true) (v0 : 0 ≤ v) (v1 : v ≤ 9999) :
    (∃ R, (tellH h t v).rows = h.rows ++ R ∧ Bn t v h.people.length (inL t (keptL h)) R (orderH h t)) ∧ lastI (tellH h t v) t = if inL t (keptL h) = true then some v else none := by
  have w := wf_beg r.wf
  have s := told_ok (t := t) w v0 v1
  have e1 : inL t h.begin.now = false := by
    show inL t h.now = false
    rw [r.now]; rfl
  have e3 : tellH h t v = spLoop (hearH 100) v (orderH (toldL h.begin t v) t) (toldL h.begin t v) := by
    unfold tellH spreadW
    rw [e1]
    rfl
  have eo : orderH (toldL h.begin t v) t = orderH h t := by
    have : ∀ g : Ha, g.people = h.people → g.gone = h.gone → orderH g t = orderH h t := fun g e1 e2 => by
      unfold orderH thereH pAt goneB
      rw [e1, e2]
    refine this _ ?_ ?_
    · unfold toldL; split <;> rfl
    · unfold toldL; split <;> rfl
  have ep : (toldL h.begin t v).people = h.people := by unfold toldL; split <;> rfl
  have er : (toldL h.begin t v).rows = h.rows := by unfold toldL; split <;> rfl
  have ek : lastI (toldL h.begin t v) t = if inL t (keptL h) = true then some v else none := told_last w
  have hx : ∀ x ∈ orderH h t, (0 ≤ x ∧ x < (h.people.length : Int)) ∧ tpA (pAt (toldL h.begin t v) x) = t := fun x hx => by
    obtain ⟨a, _, b⟩ := order_mem.mp hx
    refine ⟨a, ?_⟩
    have : pAt (toldL h.begin t v) x = pAt h x := by unfold pAt; rw [ep]
    rw [this]
    exact b
  have hr : (toldL h.begin t v).room ≤ (99 : Nat) + 1 := Int.le_trans s.stp.room (Int.le_refl _)
  rw [e3, eo]
  constructor
  · obtain ⟨R, e, b⟩ := sp_b (n := 99) (v := v) (L := if inL t (keptL h) = true then some v else none) (by split; exact .inr rfl; exact .inl rfl) v0 v1 (n0 := h.people.length) (orderH h t) (toldL h.begin t v) hx (by rw [ep]; exact Nat.le_refl _) s.wf hr ek
    refine ⟨R, by rw [← er]; exact e, ?_⟩
    have : (if inL t (keptL h) = true then some v else none).isSome = inL t (keptL h) := by
      cases inL t (keptL h) <;> rfl
    rw [this] at b
    exact b
  · rw [← ek]
    exact sp_last (n := 99) v0 v1 (orderH h t) (toldL h.begin t v) (fun x hx2 => by rw [ep]; exact hx x hx2) s.wf hr
theorem sublist_filter {l m : List Int} (h : l.Sublist m) (hn : m.Nodup) : m.filter (fun x => decide (x ∈ l)) = l := by
  induction h with
  | slnil => rfl
  | cons a _ ih =>
    rename_i l1 l2 hs
    obtain ⟨ha, hn2⟩ := List.nodup_cons.mp hn
    rw [List.filter_cons]
    have : a ∉ l1 := fun z => ha (hs.subset z)
    simp only [this, decide_false, Bool.false_eq_true, if_false]
    exact ih hn2
  | cons_cons a _ ih =>
    rename_i l1 l2 hs
    obtain ⟨ha, hn2⟩ := List.nodup_cons.mp hn
    rw [List.filter_cons]
    simp only [List.mem_cons, true_or, decide_true, if_true]
    congr 1
    have e : l2.filter (fun x => decide (x = a ∨ x ∈ l1)) = l2.filter (fun x => decide (x ∈ l1)) := by
      refine List.filter_congr fun x hx => ?_
      have : ¬ x = a := fun z => ha (z ▸ hx)
      simp [this]
    rw [e]
    exact ih hn2
theorem order_nodup {h : Ha} {t : Str} : (orderH h t).Nodup := by
  unfold orderH
  exact ordA_nodup ((rngI_nodup _).filter _)
end Sx

set_option Elab.async false
set_option linter.all false
set_option maxRecDepth 100000
set_option maxHeartbeats 1000000
namespace Sx
open PySem PySem.Spec PyProof.Rows L2
/-! ### sorted(d): a dict's keys, ints or texts, any number -/
def keyV : Key → A
  | .inl i => .int i
  | .inr x => .str x
def keysA (kvs : List (Key × A)) : List A := kvs.map fun p => keyV p.1
open Classical in
noncomputable def vSortedD : List A → Sto → RE := fun l S => match l with
  | [.ob n] => (match S[n]? with
    | some (.dic kvs) => if sortOk (keysA kvs) then .ok (.ob S.length) (S ++ [.lst ((keysA kvs).mergeSort leD)]) else .stuck
    | _ => .stuck)
  | _ => .stuck
theorem vSortedD_at {n : Nat} {kvs : List (Key × A)} {S : Sto} (h : S[n]? = some (.dic kvs)) (ok : sortOk (keysA kvs)) : vSortedD [.ob n] S = .ok (.ob S.length) (S ++ [.lst ((keysA kvs).mergeSort leD)]) := by
  unfold vSortedD
  simp only [h, if_pos ok]
section
variable {X : Cx} {T : Tbs}
def keyR (v : Value) (k : Key) : Prop := keyIs k v = true
theorem each_keys2 : ∀ {us : List Value} {ks : List Key}, us.length = ks.length → (∀ (j : Nat) (v : Value), us[j]? = some v → ∃ k, ks[j]? = some k ∧ keyIs k v = true) → PySem.W.EachIs keyR us ks
  | [], [], _, _ => .nil
  | u :: us, k :: ks, hl, h => by
    obtain ⟨k', e1, e2⟩ := h 0 u rfl
    have e1' : k = k' := Option.some.inj e1
    subst e1'
    refine .cons e2 (each_keys2 (by simpa using hl) fun j v e => ?_)
    obtain ⟨x, a, b⟩ := h (j + 1) v (by simpa using e)
    exact ⟨x, by simpa using a, b⟩
  | [], _ :: _, hl, _ => by simp at hl
  | _ :: _, [], hl, _ => by simp at hl
theorem dA_key (k : Key) : dA (keyV k) = (match k with
    | .inl i => .int i
    | .inr x => .str x) := by
  cases k <;> rfl
theorem vals_keys {K : Frg} {H : Hp} {as : List Addr} {us : List Value} {ks : List Key} (h : PySem.W.EachIs keyR us ks) : ∃ vs, Vals vs us ∧ RelL K H as (ks.map keyV) vs := by
  induction h with
  | nil => exact ⟨[], .nil, .nil⟩
  | cons h1 _ ih =>
    obtain ⟨vs, r3, r4⟩ := ih
    rcases keyIs_shape h1 with ⟨i, t, ek, ev⟩ | ⟨z, t, ek, ev⟩
    · subst ek
      exact ⟨.int i :: vs, .cons ⟨t, ev⟩ r3, .cons (.int i) r4⟩
    · subst ek
      exact ⟨.str z :: vs, .cons ⟨t, ev⟩ r3, .cons (.str z) r4⟩
theorem sort_keys (kvs : List (Key × A)) : (keysA kvs).mergeSort leD = ((kvs.map (·.1)).mergeSort (PySem.W.dataLe false fun k => dA (keyV k))).map keyV := by
  have e : ((kvs.map (·.1)).mergeSort (PySem.W.dataLe false fun k => dA (keyV k))).map keyV = ((kvs.map (·.1)).map keyV).mergeSort leD := List.map_mergeSort (fun a _ b _ => rfl)
  rw [e, List.map_map]
  rfl
theorem cs_sortedD (hcalm : X.calm = true) (hu : X.A.units + 64 < cLine) : CallS X T (.builtin "sorted") vSortedD := fun pins s σ H xs us Q I rx ⟨l, S, as, r, rl, fv⟩ => by
  unfold vSortedD at fv
  split at fv
  rotate_left
  · exact False.elim fv
  rename_i n
  split at fv
  rotate_left
  · exact False.elim fv
  rename_i kvs hkv
  split at fv
  rotate_left
  · exact False.elim fv
  rename_i ok
  obtain ⟨hl0, hn, hal, hso⟩ := ok
  cases rl with
  | cons ra rn =>
  cases rn
  obtain ⟨a, e, ea⟩ := RelA.list ra
  subst e
  obtain ⟨kv, hH, rkv⟩ := r.obj n _ a hkv ea
  rw [Vals.ref1 rx]
  have hd : Rd H a (.dK kv) := .inl hH
  obtain ⟨z, lo, vs, rel, dd⟩ := dk_rd I.hok hd
  obtain ⟨ep, hat⟩ := dd.dictAt
  have k1 : ∀ {x : List (Key × A)} {y : List (Key × V)}, RelKV X.K H as x y → x.map (·.1) = y.map (·.1) := fun {x y} h => by
    induction h with
    | nil => rfl
    | cons _ _ ih => rw [List.map_cons, List.map_cons, ih]
  have hkeys : vs.map (·.1) = kvs.map (·.1) := rel.keys.symm.trans (k1 rkv).symm
  have hl : vs.length = kvs.length := by
    have e := congrArg List.length hkeys
    rw [List.length_map, List.length_map] at e
    exact e
  have h16 : vs.length ≤ sizeLine := by rw [← rel.length]; exact z
  refine Calls.call_function_entry PyProof.Rows.kind_sorted PyProof.Rows.plain_sorted PyProof.Rows.entry_sorted (PyProof.Rows.args_sorted1 _) ?_
  unfold Builtin.«sorted»
  refine wpAny_bind (m := checkCount "sorted" 1 1 _) (wpAny_pure ?_)
  refine wpAny_bind (PySem.W.kdu_collect (A := X.A.in1) (PySem.W.kdl_dict (knd := mixKind X.prog X.w) (kvs := vs) (ep := ep) lo) (I.ok.hd hcalm) hat h16 fun h' tk acc hk hacc => ?_)
  have hal2 : acc.toList.length = (kvs.map (·.1)).length := by rw [Array.length_toList, hacc.1, hl, List.length_map]
  have hS : PySem.W.EachIs keyR acc.toList (kvs.map (·.1)) := each_keys2 hal2 fun j v e => by
    obtain ⟨k, x, e1, e2⟩ := hacc.2 j v (by rw [← Array.getElem?_toList]; exact e)
    have e3 : (vs.map (·.1))[j]? = some k := by rw [List.getElem?_map, e1]; rfl
    rw [hkeys] at e3
    exact ⟨k, e3, e2⟩
  have I1 : L2.Inv X pins σ H { s with heap := h', toks := tk } := I.kept hk
  refine wpAny_bind (wpAny_newList ?_ (by rw [hal2, List.length_map, ← hl]; exact h16))
  have hoL : (h'.push (seqObj "list" acc.toList.toArray 0)).get? h'.objs.size = some (seqObj "list" acc.toList.toArray 0) := Heap.get?_push_size _ rfl
  show wpAny _ _ _ _ _ { s with heap := h'.push (seqObj "list" acc.toList.toArray 0), toks := tk }
  have er : PySem.W.EachIs (fun (v : Value) (k : Key) => ∃ as, Reads (h'.push (seqObj "list" acc.toList.toArray 0)) v (dA (keyV k)) as ∧ h'.objs.size ∉ as) acc.toList (kvs.map (·.1)) := hS.mono fun v k hvk => by
    rcases keyIs_shape hvk with ⟨i, t, ek, ev⟩ | ⟨z, t, ek, ev⟩
    · subst ek ev
      exact ⟨[], Reads.int i t, by simp⟩
    · subst ek ev
      exact ⟨[], Reads.str z t, by simp⟩
  have emap : (kvs.map (·.1)).map (fun k => dA (keyV k)) = (keysA kvs).map dA := by
    unfold keysA
    rw [List.map_map, List.map_map]
    rfl
  have hdep : ∀ k, (dA (keyV k)).depth = 0 := fun k => by cases k <;> simp [keyV, dA, PyData.depth]
  have hl4 : (kvs.map (·.1)).length ≤ sizeLine := by
    have : (keysA kvs).length = kvs.length := by unfold keysA; rw [List.length_map]
    rw [List.length_map, ← this]
    exact sz5 hl0
  refine wpAny_bind (wpAny_holding (PySem.W.list_sort_data (enc := fun k => dA (keyV k)) (s := { s with heap := h'.push (seqObj "list" acc.toList.toArray 0), toks := tk }) hoL hS er (by rw [emap]; exact hal) (by rw [emap]; exact hso) hl4 (fun b _ => by rw [hdep]; show X.A.in1.units + 1 + 0 < cLine; show X.A.units + 1 + 1 + 0 < cLine; omega) fun out hlen eo => ?_))
  obtain ⟨e', he'⟩ := PyProof.Rows.sortedHeap_at (vs := acc.toList) (out := out.toArray) hoL
  obtain ⟨ws, rv2, rl2⟩ := vals_keys (K := X.K) (H := H) (as := as) eo
  rw [← sort_keys] at rl2
  have hlen2 : ws.length ≤ sizeLine := by rw [← rl2.length, List.length_mergeSort]; exact sz5 hl0
  have hp : H h'.objs.size = none := I1.hok.fresh (Nat.le_refl _)
  refine wpAny_pure ⟨_, rfl, .ref h'.objs.size, upd H h'.objs.size (.lst ws), I1.laid (t' := tk) (fun b u e => ?_) (Nat.le_refl _)
    (show ObjOk X.prog X.w _ _ _ (.lst ws) from ⟨hlen2, out, e', rv2, he'⟩), rfl, fin_new r rl2 fv _ hp⟩
  have hb : b < h'.objs.size := Heap.lt_size e
  rw [PyProof.Rows.sortedHeap_old (Nat.ne_of_lt hb) (by rw [size_push']; exact Nat.lt_succ_of_lt hb)]
  exact Heap.get?_push_of_some _ e
end
end Sx

set_option Elab.async false
set_option linter.all false
set_option maxRecDepth 100000
set_option maxHeartbeats 1000000
namespace Sx
open PySem PySem.Spec PyProof.Rows L2
/-! ### rows of deeds: what is told of each -/
theorem lc_ind {chk : Sto → Bool} {gg : GG} {gt ge : GE} {ρ0 : Ro} {d : Nat} (I : Nat → Sto → Prop) (hc : ∀ k S, I k S → chk S = true) : ∀ (items : List A) (k : Nat) (S : Sto), I k S →
    (∀ j x S, items[j]? = some x → I (k + j) S → ∃ ρ1 S1 S2 y S3 acc, gg x ρ0 S = some (ρ1, S1) ∧ gt ρ1 S1 = .ok (.bl true) S2 ∧ ge ρ1 S2 = .ok y S3 ∧ S3[d]? = some (.lst acc) ∧ acc.length < 4000000 ∧ I (k + j + 1) (S3.set d (.lst (acc ++ [y])))) →
    ∃ S', lcGo chk gg gt ge ρ0 d items S = .ok (.ob d) S' ∧ I (k + items.length) S'
  | [], k, S, h0, _ => ⟨S, by rw [lcGo, if_pos (hc k S h0)], h0⟩
  | x :: r, k, S, h0, st => by
    obtain ⟨ρ1, S1, S2, y, S3, acc, e1, e2, e3, e4, e5, h2⟩ := st 0 x S rfl h0
    obtain ⟨S', e6, h3⟩ := lc_ind I hc r (k + 1) _ h2 fun j y S hy hi => by
      have := st (j + 1) y S (by simpa using hy) (by have e : k + (j + 1) = k + 1 + j := by omega
                                                     rw [e]; exact hi)
      have e : k + (j + 1) + 1 = k + 1 + j + 1 := by omega
      rw [e] at this
      exact this
    refine ⟨S', ?_, by have e : k + (x :: r).length = k + 1 + r.length := by simp; omega
                       rw [e]; exact h3⟩
    rw [lcGo, if_pos (hc k S h0), e1]
    dsimp only
    rw [e2]
    simp only [RE.nox_ok, RE.bindT_ok, if_true]
    rw [e3]
    simp only [RE.nox_ok, RE.bind_ok]
    rw [e4]
    simp only [if_pos e5]
    exact e6
/-- what a hall tells of a deed; b: the number of a new list -/
def outVal (h : Ha) (d : A) (b : Nat) : A := match d with
  | .tup [.str k, a] => if k = "enter" then .int h.people.length else .int (dropL h (strA a)).length
  | .tup [_, _, _] => .ob b
  | _ => .non
def outLst (h : Ha) (d : A) : List O := match d with
  | .tup [_, _, _] => [.lst ((doneH h d).rows.drop h.rows.length)]
  | _ => []
def runV (b : Nat) : Ha → List A → List A
  | _, [] => []
  | h, d :: ds => outVal h d b :: runV (b + (outLst h d).length) (doneH h d) ds
def runL : Ha → List A → List O
  | _, [] => []
  | h, d :: ds => outLst h d ++ runL (doneH h d) ds
def runD : Ha → List A → List PyData
  | _, [] => []
  | h, d :: ds => (match outLst h d with
    | [.lst rs] => .list (dL rs)
    | _ => dA (outVal h d 0)) :: runD (doneH h d) ds
theorem runV_snoc (b : Nat) : ∀ (h : Ha) (ds : List A) (d : A), runV b h (ds ++ [d]) = runV b h ds ++ [outVal (runH h ds) d (b + (runL h ds).length)] := fun h ds d => by
  induction ds generalizing b h with
  | nil => simp [runV, runL, runH]
  | cons x ds ih =>
    rw [List.cons_append, runV, runV, ih, runL, List.length_append, List.cons_append, Nat.add_assoc]
    rfl
theorem runL_snoc : ∀ (h : Ha) (ds : List A) (d : A), runL h (ds ++ [d]) = runL h ds ++ outLst (runH h ds) d := fun h ds d => by
  induction ds generalizing h with
  | nil => simp [runL, runH]
  | cons x ds ih =>
    rw [List.cons_append, runL, runL, ih, List.append_assoc]
    rfl
theorem runV_len (b : Nat) (h : Ha) (ds : List A) : (runV b h ds).length = ds.length := by
  induction ds generalizing b h with
  | nil => rfl
  | cons x ds ih => rw [runV, List.length_cons, ih, List.length_cons]
theorem outLst_cases {h : Ha} {d : A} (hd : isOuter d = true) : (outLst h d = [] ∧ ∀ b, ∃ i : Int, outVal h d b = .int i) ∨ ∃ t v, d = .tup [.str "tell", .str t, .int v] ∧ isWordS t = true ∧ 0 ≤ v ∧ v ≤ 9999 := by
  rcases outer_cases hd with ⟨p, rfl, hp⟩ | ⟨o, rfl, ho⟩ | ⟨t, v, rfl, ht, v0, v1⟩
  · refine .inl ⟨rfl, fun b => ⟨h.people.length, ?_⟩⟩
    unfold outVal
    dsimp only
    rw [if_pos rfl]
  · refine .inl ⟨rfl, fun b => ⟨(dropL h o).length, ?_⟩⟩
    unfold outVal
    dsimp only
    rw [if_neg (by decide)]
    rfl
  · exact .inr ⟨t, v, rfl, ht, v0, v1⟩
/-- the values told read as data -/
theorem runD_read {S : Sto} : ∀ (ds : List A) (h : Ha) (b k : Nat), RestK k h → (∀ d ∈ ds, isOuter d = true) → (∀ j o, (runL h ds)[j]? = some o → S[b + j]? = some o) → rdL (rd1 S) (runV b h ds) = some (runD h ds) ∧ PyData.canLayAll0 (runD h ds) = true ∧ PyData.depthAll (runD h ds) ≤ 5
  | [], h, b, k, r, _, _ => ⟨by rw [runV, rdL, runD], by rw [runD, PyData.canLayAll0], by rw [runD, PyData.depthAll]; omega⟩
  | d :: ds, h, b, k, r, hd, hS => by
    have r2 := r.done (hd d (by simp))
    have ih := runD_read ds (doneH h d) (b + (outLst h d).length) (k + 1) r2 (fun x hx => hd x (by simp [hx])) fun j o e => by
      have := hS ((outLst h d).length + j) o (by rw [runL, List.getElem?_append_right (by omega)]; simpa using e)
      rw [← Nat.add_assoc] at this
      exact this
    obtain ⟨i1, i2, i3⟩ := ih
    rcases outLst_cases (h := h) (hd d (by simp)) with ⟨e0, ev⟩ | ⟨t, v, rfl, ht, v0, v1⟩
    · obtain ⟨i, ei⟩ := ev b
      obtain ⟨i', ei'⟩ := ev 0
      have same : outVal h d b = outVal h d 0 := by
        unfold outVal at ei ei' ⊢
        split
        · rfl
        · rename_i x y z
          unfold outLst at e0
          simp at e0
        · rfl
      have ed : runD h (d :: ds) = .int i :: runD (doneH h d) ds := by
        rw [runD, e0, ← same, ei]
        simp [dA]
      have evv : runV b h (d :: ds) = .int i :: runV (b + (outLst h d).length) (doneH h d) ds := by rw [runV, ei]
      rw [ed, evv]
      refine ⟨by rw [rdL, rdA, i1], by rw [PyData.canLayAll0, PyData.canLay0, i2]; rfl, ?_⟩
      rw [PyData.depthAll, PyData.depth]
      omega
    · have el : outLst h (.tup [.str "tell", .str t, .int v]) = [.lst ((tellH h t v).rows.drop h.rows.length)] := rfl
      have hb := hS 0 _ (by rw [runL, el]; rfl)
      have hnice : ∀ x ∈ (tellH h t v).rows.drop h.rows.length, nice 3 x = true := fun x hx => r2.wf.rows x (List.mem_of_mem_drop hx)
      obtain ⟨n1, n2, n3⟩ := nice_dL hnice
      have ed : runD h (.tup [.str "tell", .str t, .int v] :: ds) = .list (dL ((tellH h t v).rows.drop h.rows.length)) :: runD (doneH h (.tup [.str "tell", .str t, .int v])) ds := by
        rw [runD, el]
      have evv : runV b h (.tup [.str "tell", .str t, .int v] :: ds) = .ob b :: runV (b + 1) (doneH h (.tup [.str "tell", .str t, .int v])) ds := rfl
      have i1 : rdL (rd1 S) (runV (b + 1) (doneH h (.tup [.str "tell", .str t, .int v])) ds) = some (runD (doneH h (.tup [.str "tell", .str t, .int v])) ds) := i1
      rw [ed, evv]
      refine ⟨?_, by rw [PyData.canLayAll0, PyData.canLay0, n2, i2]; rfl, ?_⟩
      · rw [rdL, rdA]
        have e1 : rd1 S b = some (.list (dL ((tellH h t v).rows.drop h.rows.length))) := by
          unfold rd1
          have hb : S[b]? = some (.lst ((tellH h t v).rows.drop h.rows.length)) := hb
          rw [items_of_get hb]
          dsimp only
          rw [n1]
          rfl
        rw [e1, i1]
      · rw [PyData.depthAll, PyData.depth]
        omega
theorem dat_told {S : Sto} {n b : Nat} {h : Ha} {ds : List A} {k : Nat} (r : RestK k h) (hd : ∀ d ∈ ds, isOuter d = true) (hn : itemsAt S n = some (runV b h ds)) (hS : ∀ j o, (runL h ds)[j]? = some o → S[b + j]? = some o) : dat S (.ob n) = some (.list (runD h ds)) ∧ SeqAt.shaped (.list (runD h ds)) = true := by
  obtain ⟨h1, h2, h3⟩ := runD_read ds h b k r hd hS
  constructor
  · show rdA (rd2 S) (.ob n) = _
    rw [rdA]
    unfold rd2
    rw [hn]
    dsimp only
    rw [h1]
    rfl
  · unfold SeqAt.shaped
    rw [PyData.canLay0, h2, PyData.depth]
    simp
    omega
theorem vNe_dat {a b : A} {S : Sto} {d : PyData} (hs : isScal a b = false) (ha : dat S a = some d) (hb : dat S b = some d) (hd : SeqAt.shaped d = true) : vNe a b S = .ok (.bl false) S := by
  have hc : d.canLay0 = true := by
    unfold SeqAt.shaped at hd
    simp at hd
    exact hd.1
  unfold vNe
  rw [vEq_data hs, ha, hb]
  simp only [hd, Bool.and_self, if_true, SeqAt.eqv_refl d hc]
  rfl
theorem vEq_dat {a b : A} {S : Sto} {d : PyData} (hs : isScal a b = false) (ha : dat S a = some d) (hb : dat S b = some d) (hd : SeqAt.shaped d = true) : vEq a b S = .ok (.bl true) S := by
  have hc : d.canLay0 = true := by
    unfold SeqAt.shaped at hd
    simp at hd
    exact hd.1
  rw [vEq_data hs, ha, hb]
  simp only [hd, Bool.and_self, if_true, SeqAt.eqv_refl d hc]
/-! ### a hall as plain things -/
def goneL (h : Ha) : List A := (keysA h.gone).mergeSort leD
def lastsL (h : Ha) : List A := ((keysA h.lasts).mergeSort leD).map fun k => .tup [k, (valA h.lasts (.inr (strA k))).getD .non]
def savedT (h : Ha) : A := .tup [h.kept, .tup (lastsL h), .tup h.people, .tup (goneL h), .tup h.rows]
theorem keys_lasts {h : Ha} (w : Wf h) : ∀ a ∈ keysA h.lasts, ∃ t v, a = .str t ∧ valA h.lasts (.inr t) = some (.int v) ∧ isWordS t = true := fun a ha => by
  obtain ⟨p, hp, rfl⟩ := List.mem_map.mp ha
  obtain ⟨t, v, e, hk, _⟩ := w.lasts p hp
  subst e
  obtain ⟨ks, ek, hw, _⟩ := w.kept
  have ht : isWordS t = true := by
    unfold keptL at hk
    rw [ek] at hk
    simp at hk
    exact hw t hk
  cases hv : valA h.lasts (.inr t) with
  | none =>
    have := valA_isSome.mpr (List.mem_map.mpr ⟨_, hp, rfl⟩)
    rw [hv] at this
    cases this
  | some u =>
    obtain ⟨t2, v2, e2, _⟩ := w.lasts _ (valA_mem hv)
    cases e2
    exact ⟨t, v2, rfl, hv, ht⟩
theorem keys_gone {h : Ha} (w : Wf h) : ∀ a ∈ keysA h.gone, ∃ x : Int, a = .int x := fun a ha => by
  obtain ⟨p, hp, rfl⟩ := List.mem_map.mp ha
  obtain ⟨x, e, _⟩ := w.gone p hp
  subst e
  exact ⟨x, rfl⟩
theorem sortOk_strs {l : List A} (h : ∀ a ∈ l, ∃ t, a = .str t ∧ niceS t = true) (hl : l.length ≤ 4000000) : sortOk l := by
  refine ⟨hl, fun x hx => ?_, fun d hd d' hd' => ?_, .inr fun d hd => ?_⟩
  · obtain ⟨t, rfl, ht⟩ := h x hx
    exact nice_str ht
  · obtain ⟨a, ha, rfl⟩ := List.mem_map.mp hd
    obtain ⟨b, hb, rfl⟩ := List.mem_map.mp hd'
    obtain ⟨t, rfl, _⟩ := h a ha
    obtain ⟨s, rfl, _⟩ := h b hb
    simp [dA, PySem.W.alike]
  · obtain ⟨a, ha, rfl⟩ := List.mem_map.mp hd
    obtain ⟨t, rfl, _⟩ := h a ha
    simp [dA]
theorem sortOk_ints {l : List A} (h : ∀ a ∈ l, ∃ t, a = .int t) (hl : l.length ≤ 4000000) : sortOk l := by
  refine ⟨hl, fun x hx => ?_, fun d hd d' hd' => ?_, .inr fun d hd => ?_⟩
  · obtain ⟨t, rfl⟩ := h x hx
    exact nice_int
  · obtain ⟨a, ha, rfl⟩ := List.mem_map.mp hd
    obtain ⟨b, hb, rfl⟩ := List.mem_map.mp hd'
    obtain ⟨t, rfl⟩ := h a ha
    obtain ⟨s, rfl⟩ := h b hb
    simp [dA, PySem.W.alike]
  · obtain ⟨a, ha, rfl⟩ := List.mem_map.mp hd
    obtain ⟨t, rfl⟩ := h a ha
    simp [dA]
theorem ok_lasts {h : Ha} (w : Wf h) : sortOk (keysA h.lasts) := sortOk_strs (fun a ha => by
  obtain ⟨t, v, e, _, ht⟩ := keys_lasts w a ha
  exact ⟨t, e, niceS_word ht⟩) (by unfold keysA; rw [List.length_map]; have := lasts_len w; omega)
theorem ok_gone {h : Ha} (w : Wf h) (hp : h.people.length ≤ 90000) : sortOk (keysA h.gone) := sortOk_ints (keys_gone w) (by unfold keysA; rw [List.length_map]; have := gone_len w; omega)
theorem nice_saved {h : Ha} (w : Wf h) : nice 20 (savedT h) = true := by
  refine nice_tupI fun x hx => ?_
  simp only [List.mem_cons, List.not_mem_nil, or_false] at hx
  rcases hx with e | e | e | e | e <;> subst e
  · obtain ⟨ks, ek, hw, _⟩ := w.kept
    rw [ek]
    exact nice_tupI fun y hy => by
      obtain ⟨k, hk, rfl⟩ := List.mem_map.mp hy
      exact nice_word (a := .str k) (hw k hk)
  · refine nice_tupI fun y hy => ?_
    unfold lastsL at hy
    obtain ⟨k, hk, rfl⟩ := List.mem_map.mp hy
    rw [List.mem_mergeSort] at hk
    obtain ⟨t, v, rfl, hv, ht⟩ := keys_lasts w k hk
    refine nice_tupI fun z hz => ?_
    simp only [List.mem_cons, List.not_mem_nil, or_false, strA, hv] at hz
    rcases hz with e | e <;> subst e
    · exact nice_word (a := .str t) ht
    · exact nice_int
  · exact nice_tupI fun y hy => nice_mono (nice_hr (w.people y hy)) _ (by decide)
  · refine nice_tupI fun y hy => ?_
    unfold goneL at hy
    rw [List.mem_mergeSort] at hy
    obtain ⟨x, rfl⟩ := keys_gone w y hy
    exact nice_int
  · exact nice_tupI fun y hy => nice_mono (w.rows y hy) _ (by decide)
end Sx

set_option Elab.async false
set_option linter.all false
set_option maxRecDepth 100000
set_option maxHeartbeats 1000000
namespace Sx
open PySem PySem.Spec PyProof.Rows L2
/-! ### isinstance(x, (T1, T2)) -/
def gIsi2 (n m : String) (g : GE) : GE := fun ρ S => (g ρ S).bind fun a S1 => match tyA S1 a with
  | some t => .ok (.bl (isT t n || isT t m)) S1
  | none => .stuck
section
variable {X : Cx} {T : Tbs} {W : WX}
theorem se_isi2 {e : Expr} {n m : Str} {s r : String} {p p2 p3 p4 pos : Pos} {x1 : Nat} {g : GE} (hn : s ∈ ["int", "bool", "str", "tuple", "list"]) (hr : r ∈ ["int", "bool", "str", "tuple", "list"]) (hb : bootBuiltins n = some (.type s)) (hb2 : bootBuiltins m = some (.type r)) (hm : X.mg "isinstance" = none) (hmn : X.mg n = none) (hmm : X.mg m = none) (he : SE X T W e g) (hg : Gl X "isinstance" := by rfl) (hgn : Gl X n := by rfl) (hgm : Gl X m := by rfl)
    (hnn : n ≠ "__name__" := by decide) (hd : (n == ("__debug__" : Str)) = false := by decide) (hmn2 : m ≠ "__name__" := by decide) (hd2 : (m == ("__debug__" : Str)) = false := by decide)
    (h1 : starEach [.Name m p3] X.env = (false, eval (.Name m p3) X.env) :: starEach [] X.env := by rfl) (h2 : starEach [.Name n p2, .Name m p3] X.env = (false, eval (.Name n p2) X.env) :: starEach [.Name m p3] X.env := by rfl)
    (h3 : starEach [.Tuple [.Name n p2, .Name m p3] x1 p4] X.env = (false, eval (.Tuple [.Name n p2, .Name m p3] x1 p4) X.env) :: starEach [] X.env := by rfl)
    (hs : starEach [e, .Tuple [.Name n p2, .Name m p3] x1 p4] X.env = (false, eval e X.env) :: starEach [.Tuple [.Name n p2, .Name m p3] x1 p4] X.env := by rfl) (hpl : (backTo pos (starEach [.Tuple [.Name n p2, .Name m p3] x1 p4] X.env)).any (·.1) = false := by rfl) :
    SE X T W (.Call (.Name "isinstance" p) [e, .Tuple [.Name n p2, .Name m p3] x1 p4] [] pos) (gIsi2 s r g) :=
  pe_imp (pe_callB call_isiT hg hm (by decide +kernel) (pa_cons he (pa_cons (pe_tup (pa_cons (pe_bltn (v := .ty s) hgn hmn hb rfl hnn hd) (pa_cons (pe_bltn (v := .ty r) hgm hmm hb2 rfl hmn2 hd2) pa_nil h1) h2)) pa_nil h3) hs) (he := hs) (hpl := hpl)) fun σ H Q ⟨ρ, S, as, rs, f⟩ => by
    refine seqE rs f fun x S1 v as1 H1 rs1 rx f1 l1 => ?_
    split at f1
    · rename_i t ht
      refine ⟨show 2 ≤ sizeLine by decide, fun q hq => ?_⟩
      have k := Kp.new (o := HO.tup [V.ty s, V.ty r]) hq
      have r2 := rs1.rel.tup (vs := [V.ty s, V.ty r]) hq
      refine ⟨v, q, [.ty s, .ty r], .type t, [.type s, .type r], _, rfl, upd_same, .cons (.ty s) (.cons (.ty r) .nil), tyX_of r2 (rx.mono k.le) ht, ?_, f1 _ as1 _ k.le r2 (.bl _)⟩
      refine kitAny_cons (kit_ty (isT_ok hn (tyA_mem ht))) (fun z => kitAny_cons (kit_ty (isT_ok hr (tyA_mem ht))) (fun z2 => ?_) fun z2 => ?_) fun z => ?_
      · rw [z, z2]; exact kitAny_nil
      · rw [z, z2]; rfl
      · rw [z]; rfl
    · exact False.elim f1
end
end Sx

set_option Elab.async false
set_option linter.all false
set_option maxRecDepth 100000
set_option maxHeartbeats 1000000
namespace Sx
open PySem PySem.Spec PyProof.Rows L2
/-! ### halls that are alike: last words and who left, as maps -/
structure Hq (h g : Ha) : Prop where
  kept : g.kept = h.kept
  lasts : ∀ t, lastI g t = lastI h t
  people : g.people = h.people
  gone : ∀ x, goneB g x = goneB h x
  rows : g.rows = h.rows
  now : g.now = h.now
  room : g.room = h.room
  cut : g.cut = h.cut
theorem Hq.refl (h : Ha) : Hq h h := ⟨rfl, fun _ => rfl, rfl, fun _ => rfl, rfl, rfl, rfl, rfl⟩
theorem Hq.symm {h g : Ha} (q : Hq h g) : Hq g h := ⟨q.kept.symm, fun t => (q.lasts t).symm, q.people.symm, fun x => (q.gone x).symm, q.rows.symm, q.now.symm, q.room.symm, q.cut.symm⟩
theorem Hq.pAt {h g : Ha} (q : Hq h g) (x : Int) : pAt g x = pAt h x := by unfold Sx.pAt; rw [q.people]
theorem Hq.there {h g : Ha} (q : Hq h g) (p : A → Bool) : thereH g p = thereH h p := by
  unfold thereH
  rw [q.people]
  refine List.filter_congr fun x _ => ?_
  rw [q.gone, q.pAt]
theorem Hq.order {h g : Ha} (q : Hq h g) (t : Str) : orderH g t = orderH h t := by
  unfold orderH
  rw [q.there, q.people]
theorem Hq.row {h g : Ha} (q : Hq h g) (r : A) : Hq (h.row r) (g.row r) := ⟨q.kept, q.lasts, q.people, q.gone, by show g.rows ++ [r] = h.rows ++ [r]; rw [q.rows], q.now, q.room, q.cut⟩
theorem Hq.go {h g : Ha} (q : Hq h g) (x : Int) : Hq (h.go x) (g.go x) := ⟨q.kept, q.lasts, q.people, fun y => by rw [goneB_go, goneB_go, q.gone], q.rows, q.now, q.room, q.cut⟩
theorem Hq.cutIt {h g : Ha} (q : Hq h g) : Hq h.cutIt g.cutIt := ⟨q.kept, q.lasts, q.people, q.gone, by show g.rows ++ [rCut] = h.rows ++ [rCut]; rw [q.rows], q.now, q.room, rfl⟩
theorem lastI_told {h : Ha} {s t : Str} {v : Int} : lastI (toldL h s v) t = if inL s (keptL h) = true ∧ s = t then some v else lastI h t := by
  by_cases hst : s = t
  · subst hst
    unfold toldL
    split
    · rename_i hk
      rw [if_pos ⟨hk, rfl⟩]
      unfold lastI
      show (match valA (putD h.lasts (.inr s) (.int v)) (.inr s) with
        | some (.int v) => some v
        | _ => none) = _
      rw [valA_put]
    · rename_i hk
      rw [if_neg (fun z => hk z.1)]
  · rw [told_last_ne hst, if_neg (fun z => hst z.2)]
theorem Hq.keptL {h g : Ha} (q : Hq h g) : keptL g = keptL h := by unfold Sx.keptL; rw [q.kept]
theorem Hq.told {h g : Ha} (q : Hq h g) (t : Str) (v : Int) : Hq (toldL h t v) (toldL g t v) := by
  have e : ∀ h : Ha, (toldL h t v).kept = h.kept ∧ (toldL h t v).people = h.people ∧ (toldL h t v).rows = h.rows ∧ (toldL h t v).now = h.now ∧ (toldL h t v).room = h.room ∧ (toldL h t v).cut = h.cut ∧ (toldL h t v).gone = h.gone := fun h => by
    unfold toldL
    split <;> exact ⟨rfl, rfl, rfl, rfl, rfl, rfl, rfl⟩
  obtain ⟨a1, a2, a3, a4, a5, a6, a7⟩ := e h
  obtain ⟨b1, b2, b3, b4, b5, b6, b7⟩ := e g
  refine ⟨by rw [a1, b1]; exact q.kept, fun s => by rw [lastI_told, lastI_told, q.keptL, q.lasts], by rw [a2, b2]; exact q.people, fun x => ?_, by rw [a3, b3]; exact q.rows, by rw [a4, b4]; exact q.now, by rw [a5, b5]; exact q.room, by rw [a6, b6]; exact q.cut⟩
  unfold goneB
  rw [a7, b7]
  exact q.gone x
def HearQ (hear : Hear) : Prop := ∀ h g x v, Hq h g → (hear g x v).1 = (hear h x v).1 ∧ Hq (hear h x v).2 (hear g x v).2
theorem sp_q {hear : Hear} (hc : HearQ hear) (v : Int) : ∀ (l : List Int) (h g : Ha), Hq h g → Hq (spLoop hear v l h) (spLoop hear v l g)
  | [], h, g, q => q
  | x :: l, h, g, q => by
    unfold spLoop
    obtain ⟨e1, q1⟩ := hc h g x v q
    rw [q.gone, q.cut, q.pAt, e1]
    split
    · split
      · exact q1
      · exact sp_q hc v l _ _ q1
    · exact sp_q hc v l h g q
theorem spread_q {hear : Hear} (hc : HearQ hear) {h g : Ha} (q : Hq h g) (t : Str) (v : Int) : Hq (spreadW hear h t v) (spreadW hear g t v) := by
  unfold spreadW
  rw [q.now]
  split
  · exact q.row _
  · have q2 := q.told t v
    rw [q2.order]
    exact sp_q hc v _ _ _ q2
theorem come_q {hear : Hear} (hc : HearQ hear) {h g : Ha} (q : Hq h g) (p : A) : Hq (comeW hear h p) (comeW hear g p) := by
  have qa : Hq { h with people := h.people ++ [p] } { g with people := g.people ++ [p] } := ⟨q.kept, q.lasts, by show g.people ++ [p] = h.people ++ [p]; rw [q.people], q.gone, q.rows, q.now, q.room, q.cut⟩
  unfold comeW
  rw [q.lasts]
  split
  · split
    · have := (hc _ _ ((h.people.length : Nat) : Int) (by assumption) qa).2
      rw [show ((g.people.length : Nat) : Int) = ((h.people.length : Nat) : Int) by rw [q.people]]
      exact this
    · exact qa
  · exact qa
theorem goL_q : ∀ (l : List Int) {h g : Ha}, Hq h g → Hq (goL l h) (goL l g)
  | [], _, _, q => q
  | x :: l, _, _, q => goL_q l (q.go x)
theorem drop_q {h g : Ha} (q : Hq h g) (o : Str) : Hq (dropW h o) (dropW g o) ∧ dropL g o = dropL h o := by
  have e : dropL g o = dropL h o := q.there _
  unfold dropW
  rw [e]
  exact ⟨goL_q _ q, rfl⟩
theorem do_q {hear : Hear} (hc : HearQ hear) {h g : Ha} (q : Hq h g) (d : A) (x v : Int) : Hq (doW hear d x v h) (doW hear d x v g) := by
  unfold doW
  split
  · split
    · exact spread_q hc q _ _
    · exact q
  · split
    · exact come_q hc q _
    · split
      · split
        · exact (drop_q q _).1
        · exact q
      · exact q
  · split
    · exact q.go x
    · exact q
  · exact q
theorem ds_q {hear : Hear} (hc : HearQ hear) (x v : Int) : ∀ (l : List A) (s : Bool) {h g : Ha}, Hq h g → (dsLoop hear x v l s g).1 = (dsLoop hear x v l s h).1 ∧ Hq (dsLoop hear x v l s h).2 (dsLoop hear x v l s g).2
  | [], s, h, g, q => ⟨rfl, q⟩
  | d :: l, s, h, g, q => by
    unfold dsLoop
    rw [q.cut]
    split
    · exact ds_q hc x v l s q
    · exact ds_q hc x v l _ (do_q hc q d x v)
theorem heard_q {h g : Ha} (q : Hq h g) (x v : Int) : Hq (heardH h x v) (heardH g x v) := by
  have e1 : Hq (({ h with room := h.room - 1 } : Ha).row (rHeard x (tpA (pAt h x)) v)) (({ g with room := g.room - 1 } : Ha).row (rHeard x (tpA (pAt g x)) v)) := by
    rw [q.pAt]
    have e0 : Hq ({ h with room := h.room - 1 } : Ha) ({ g with room := g.room - 1 } : Ha) := ⟨q.kept, q.lasts, q.people, q.gone, q.rows, q.now, by show g.room - 1 = h.room - 1; rw [q.room], q.cut⟩
    exact e0.row _
  have key : ∀ {a b : Ha}, Hq a b → Hq { a with now := a.now ++ [.str (tpA (pAt h x))] } { b with now := b.now ++ [.str (tpA (pAt g x))] } := fun {a b} z => ⟨z.kept, z.lasts, z.people, z.gone, z.rows, by show b.now ++ [.str (tpA (pAt g x))] = a.now ++ [.str (tpA (pAt h x))]; rw [z.now, q.pAt], z.room, z.cut⟩
  unfold heardH
  dsimp only
  rw [q.pAt]
  rw [q.pAt] at e1 key
  split
  · exact key (e1.go x)
  · exact key e1
theorem hearW_q {hear : Hear} (hc : HearQ hear) : HearQ (hearW hear) := fun h g x v q => by
  unfold hearW
  rw [q.room, q.pAt]
  split
  · exact ⟨rfl, q.cutIt⟩
  · obtain ⟨e, q2⟩ := ds_q hc x v (dsA (pAt h x)) false (heard_q q x v)
    exact ⟨e, ⟨q2.kept, q2.lasts, q2.people, q2.gone, q2.rows, by show _ = _; dsimp only; rw [q2.now], q2.room, q2.cut⟩⟩
theorem hear_q : ∀ n : Nat, HearQ (hearH n)
  | 0 => fun h g x v q => ⟨rfl, q.cutIt⟩
  | n + 1 => hearW_q (hear_q n)
/-- between deeds from outside -/
def Rq (h g : Ha) : Prop := Hq h.begin g.begin
theorem Rq.tell {h g : Ha} (q : Rq h g) (t : Str) (v : Int) : Hq (tellH h t v) (tellH g t v) := spread_q (hear_q 100) q t v
theorem Rq.enter {h g : Ha} (q : Rq h g) (p : A) : Hq (enterH h p) (enterH g p) := come_q (hear_q 100) q p
theorem Hq.rq {h g : Ha} (q : Hq h g) : Rq h g := ⟨q.kept, q.lasts, q.people, q.gone, q.rows, q.now, rfl, rfl⟩
theorem goL_beg : ∀ (l : List Int) (h : Ha), (goL l h).begin = goL l h.begin
  | [], h => rfl
  | x :: l, h => goL_beg l (h.go x)
theorem Rq.drop {h g : Ha} (q : Rq h g) (o : Str) : Rq (dropW h o) (dropW g o) ∧ dropL g o = dropL h o := by
  obtain ⟨q1, e1⟩ := drop_q q o
  refine ⟨?_, e1⟩
  have e : ∀ h : Ha, (dropW h o).begin = dropW h.begin o := fun h => goL_beg _ _
  unfold Rq
  rw [e, e]
  exact q1
theorem Rq.done {h g : Ha} (q : Rq h g) (d : A) : Rq (doneH h d) (doneH g d) := by
  unfold doneH
  split
  · split
    · exact (q.enter _).rq
    · exact (q.drop _).1
  · exact (q.tell _ _).rq
  · exact q
theorem Rq.out {h g : Ha} (q : Rq h g) (d : A) (b : Nat) : outVal g d b = outVal h d b ∧ outLst g d = outLst h d := by
  constructor
  · unfold outVal
    split
    · split
      · rw [show g.people = h.people from q.people]
      · rw [(q.drop _).2]
    · rfl
    · rfl
  · unfold outLst
    split
    · rw [show (doneH g _).rows = (doneH h _).rows from (q.done _).rows, show g.rows = h.rows from q.rows]
    · rfl
theorem Rq.symm {h g : Ha} (q : Rq h g) : Rq g h := Hq.symm q
theorem Rq.refl (h : Ha) : Rq h h := Hq.refl _
end Sx

set_option Elab.async false
set_option linter.all false
set_option maxRecDepth 100000
set_option maxHeartbeats 1000000
namespace Sx
open PySem PySem.Spec PyProof.Rows L2
/-! ### sorting by data: one list for all orders of coming -/
theorem leD_tot : PySem.W.TotalLe leD := by
  have e : leD = PySem.W.dataLe false dA := rfl
  rw [e]
  unfold PySem.W.dataLe
  exact PySem.W.sortLe_total _ _ _
theorem leD_str (a b : Str) : leD (.str a) (.str b) = decide (a.cps.toList ≤ b.cps.toList) := by
  have e := congrFun (congrFun (PySem.W.dataLe_str (fun (s : Str) => s)) a) b
  have e2 : leD (.str a) (.str b) = PySem.W.dataLe false (fun (b : Str) => PyData.str b) a b := by
    unfold leD
    rw [PySem.W.dataLe_eq, PySem.W.dataLe_eq]
    simp [dA]
  rw [e2, e]
theorem leD_int (a b : Int) : leD (.int a) (.int b) = decide (a ≤ b) := by
  have e := congrFun (congrFun (PySem.W.dataLe_int (fun (s : Int) => s)) a) b
  have e2 : leD (.int a) (.int b) = PySem.W.dataLe false (fun (b : Int) => PyData.int b) a b := by
    unfold leD
    rw [PySem.W.dataLe_eq, PySem.W.dataLe_eq]
    simp [dA]
  rw [e2, e]
theorem str_ext {a b : Str} (h : a.cps.toList = b.cps.toList) : a = b := by
  cases a with
  | mk x => cases b with
    | mk y =>
      have : x = y := by
        cases x; cases y
        simpa using h
      rw [this]
theorem leD_anti {a b : A} (h : (∃ s t, a = .str s ∧ b = .str t) ∨ (∃ i j, a = .int i ∧ b = .int j)) (h1 : leD a b = true) (h2 : leD b a = true) : a = b := by
  rcases h with ⟨s, t, rfl, rfl⟩ | ⟨i, j, rfl, rfl⟩
  · rw [leD_str, decide_eq_true_eq] at h1 h2
    rw [str_ext (List.le_antisymm h1 h2)]
  · rw [leD_int, decide_eq_true_eq] at h1 h2
    have : i = j := by omega
    rw [this]
theorem sort_perm {l m : List A} (p : l.Perm m) (h : ∀ a ∈ l, ∀ b ∈ l, (∃ s t, a = .str s ∧ b = .str t) ∨ (∃ i j, a = .int i ∧ b = .int j)) : l.mergeSort leD = m.mergeSort leD := by
  have q : (l.mergeSort leD).Perm (m.mergeSort leD) := (List.mergeSort_perm _ _).trans (p.trans (List.mergeSort_perm _ _).symm)
  refine List.Perm.eq_of_pairwise (le := fun a b => leD a b = true) (fun a b ha hb h1 h2 => ?_) (List.pairwise_mergeSort leD_tot.trans (fun a b => by rcases leD_tot.total a b with z | z <;> simp [z]) l) (List.pairwise_mergeSort leD_tot.trans (fun a b => by rcases leD_tot.total a b with z | z <;> simp [z]) m) q
  rw [List.mem_mergeSort] at ha hb
  exact leD_anti (h a ha b (p.mem_iff.mpr hb)) h1 h2
theorem key_inj {a b : Key} (h : keyV a = keyV b) : a = b := by
  cases a <;> cases b <;> simp [keyV] at h <;> rw [h]
theorem keysA_nodup {kvs : List (Key × A)} (h : (kvs.map (·.1)).Nodup) : (keysA kvs).Nodup := by
  have e : keysA kvs = (kvs.map (·.1)).map keyV := by unfold keysA; rw [List.map_map]; rfl
  rw [e]
  exact List.Pairwise.map _ (fun a b hab z => hab (key_inj z)) h
theorem mem_keysA {kvs : List (Key × A)} {k : Key} : keyV k ∈ keysA kvs ↔ k ∈ kvs.map (·.1) := by
  unfold keysA
  constructor
  · intro h
    obtain ⟨p, hp, e⟩ := List.mem_map.mp h
    exact List.mem_map.mpr ⟨p, hp, key_inj e⟩
  · intro h
    obtain ⟨p, hp, e⟩ := List.mem_map.mp h
    exact List.mem_map.mpr ⟨p, hp, by rw [e]⟩
theorem lastI_val {h : Ha} (w : Wf h) (t : Str) : valA h.lasts (.inr t) = (lastI h t).map .int := by
  unfold lastI
  cases hv : valA h.lasts (.inr t) with
  | none => rfl
  | some a =>
    obtain ⟨t2, v2, e2, _⟩ := w.lasts _ (valA_mem hv)
    cases e2
    rfl
/-- halls alike are saved alike -/
theorem saved_eq {h g : Ha} (wh : Wf h) (wg : Wf g) (q : Rq h g) : savedT g = savedT h := by
  have ql : ∀ t, lastI g t = lastI h t := q.lasts
  have qg : ∀ x, goneB g x = goneB h x := q.gone
  have ev : ∀ t, valA g.lasts (.inr t) = valA h.lasts (.inr t) := fun t => by rw [lastI_val wg, lastI_val wh, ql]
  have kl : (keysA g.lasts).Perm (keysA h.lasts) := by
    rw [List.perm_ext_iff_of_nodup (keysA_nodup wg.lnd) (keysA_nodup wh.lnd)]
    intro a
    have one : ∀ {x y : Ha}, Wf x → (∀ t, valA y.lasts (.inr t) = valA x.lasts (.inr t)) → a ∈ keysA x.lasts → a ∈ keysA y.lasts := fun {x y} wx e ha => by
      obtain ⟨t, v, rfl, hv, _⟩ := keys_lasts wx a ha
      have : valA y.lasts (.inr t) = some (.int v) := by rw [e]; exact hv
      exact mem_keysA (k := .inr t).mpr (valA_isSome.mp (by rw [this]; rfl))
    exact ⟨one wg fun t => (ev t).symm, one wh ev⟩
  have kg : (keysA g.gone).Perm (keysA h.gone) := by
    rw [List.perm_ext_iff_of_nodup (keysA_nodup wg.gnd) (keysA_nodup wh.gnd)]
    intro a
    have one : ∀ {x y : Ha}, Wf x → (∀ t, goneB y t = goneB x t) → a ∈ keysA x.gone → a ∈ keysA y.gone := fun {x y} wx e ha => by
      obtain ⟨t, rfl⟩ := keys_gone wx a ha
      have h1 : goneB x t = true := goneB_iff.mpr (mem_keysA (k := .inl t).mp ha)
      exact mem_keysA (k := .inl t).mpr (goneB_iff.mp (by rw [e]; exact h1))
    exact ⟨one wg fun t => (qg t).symm, one wh qg⟩
  unfold savedT
  have e1 : g.kept = h.kept := q.kept
  have e2 : g.people = h.people := q.people
  have e3 : g.rows = h.rows := q.rows
  have e4 : goneL g = goneL h := by
    unfold goneL
    exact sort_perm kg fun a ha b hb => by
      obtain ⟨i, rfl⟩ := keys_gone wg a ha
      obtain ⟨j, rfl⟩ := keys_gone wg b hb
      exact .inr ⟨i, j, rfl, rfl⟩
  have e5 : lastsL g = lastsL h := by
    unfold lastsL
    rw [sort_perm kl fun a ha b hb => by
      obtain ⟨i, _, rfl, _⟩ := keys_lasts wg a ha
      obtain ⟨j, _, rfl, _⟩ := keys_lasts wg b hb
      exact .inl ⟨i, j, rfl, rfl⟩]
    exact List.map_congr_left fun k _ => by rw [ev]
  rw [e1, e2, e3, e4, e5]
/-! ### a hall woken -/
def wakeL1 (acc : List (Key × A)) (p : A) : List (Key × A) := match p with
  | .tup [k, v] => putD acc (.inr (strA k)) v
  | _ => acc
def wakeG1 (acc : List (Key × A)) (a : A) : List (Key × A) := putD acc (.inl (intA a)) (.bl true)
def wokenH (k : A) (ls ps gs rs : List A) : Ha := ⟨k, ls.foldl wakeL1 [], ps, gs.foldl wakeG1 [], rs, [], 100, false⟩
def wakeH (h : Ha) : Ha := wokenH h.kept (lastsL h) h.people (goneL h) h.rows
theorem wakeL_val (f : Str → A) : ∀ (ks : List Str) (acc : List (Key × A)) (t : Str), valA ((ks.map fun k => A.tup [.str k, f k]).foldl wakeL1 acc) (.inr t) = if t ∈ ks then some (f t) else valA acc (.inr t)
  | [], acc, t => by simp
  | k :: ks, acc, t => by
    rw [List.map_cons, List.foldl_cons, wakeL_val f ks]
    show (if t ∈ ks then some (f t) else valA (putD acc (.inr k) (f k)) (.inr t)) = _
    by_cases h1 : t ∈ ks
    · simp [h1]
    · by_cases h2 : t = k
      · subst h2
        rw [if_neg h1, valA_put]
        simp
      · have : ¬ t ∈ k :: ks := by simp [h1, h2]
        rw [if_neg h1, if_neg this, valA_put_ne (fun z => h2 (by simpa using z.symm))]
theorem wakeG_mem : ∀ (ks : List Int) (acc : List (Key × A)) (x : Int), (Sum.inl x : Key) ∈ ((ks.map A.int).foldl wakeG1 acc).map (·.1) ↔ x ∈ ks ∨ (Sum.inl x : Key) ∈ acc.map (·.1)
  | [], acc, x => by simp
  | k :: ks, acc, x => by
    rw [List.map_cons, List.foldl_cons, wakeG_mem ks]
    show x ∈ ks ∨ (Sum.inl x : Key) ∈ (putD acc (.inl k) (.bl true)).map (·.1) ↔ _
    rw [putD_keys]
    split
    · rename_i hk
      constructor
      · rintro (z | z)
        · exact .inl (List.mem_cons_of_mem _ z)
        · exact .inr z
      · rintro (z | z)
        · rcases List.mem_cons.mp z with z | z
          · subst z; exact .inr hk
          · exact .inl z
        · exact .inr z
    · rw [List.mem_append]
      constructor
      · rintro (z | z | z)
        · exact .inl (List.mem_cons_of_mem _ z)
        · exact .inr z
        · simp at z; subst z; exact .inl List.mem_cons_self
      · rintro (z | z)
        · rcases List.mem_cons.mp z with z | z
          · subst z; exact .inr (.inr (by simp))
          · exact .inl z
        · exact .inr (.inl z)
theorem goneL_ints {h : Ha} (w : Wf h) : ∃ ks : List Int, goneL h = ks.map .int ∧ ∀ x, x ∈ ks ↔ goneB h x = true := by
  refine ⟨(goneL h).map intA, ?_, fun x => ?_⟩
  · rw [List.map_map]
    conv => lhs; rw [← List.map_id (goneL h)]
    refine List.map_congr_left fun a ha => ?_
    unfold goneL at ha
    rw [List.mem_mergeSort] at ha
    obtain ⟨i, rfl⟩ := keys_gone w a ha
    rfl
  · rw [goneB_iff, ← mem_keysA (k := .inl x)]
    constructor
    · intro hx
      obtain ⟨a, ha, e⟩ := List.mem_map.mp hx
      unfold goneL at ha
      rw [List.mem_mergeSort] at ha
      obtain ⟨i, rfl⟩ := keys_gone w a ha
      have : i = x := e
      subst this
      exact ha
    · intro hx
      refine List.mem_map.mpr ⟨.int x, ?_, rfl⟩
      unfold goneL
      rw [List.mem_mergeSort]
      exact hx
theorem lastsL_strs {h : Ha} (w : Wf h) : ∃ ks : List Str, lastsL h = ks.map (fun k => A.tup [.str k, (valA h.lasts (.inr k)).getD .non]) ∧ ∀ t, t ∈ ks ↔ (valA h.lasts (.inr t)).isSome = true := by
  refine ⟨((keysA h.lasts).mergeSort leD).map strA, ?_, fun t => ?_⟩
  · unfold lastsL
    rw [List.map_map]
    refine List.map_congr_left fun a ha => ?_
    rw [List.mem_mergeSort] at ha
    obtain ⟨s, v, rfl, _⟩ := keys_lasts w a ha
    rfl
  · rw [valA_isSome, ← mem_keysA (k := .inr t)]
    constructor
    · intro hx
      obtain ⟨a, ha, e⟩ := List.mem_map.mp hx
      rw [List.mem_mergeSort] at ha
      obtain ⟨s, v, rfl, _⟩ := keys_lasts w a ha
      have : s = t := e
      subst this
      exact ha
    · intro hx
      exact List.mem_map.mpr ⟨.str t, by rw [List.mem_mergeSort]; exact hx, rfl⟩
theorem fold_nodup {f : List (Key × A) → A → List (Key × A)} (hf : ∀ acc a, (acc.map (·.1)).Nodup → ((f acc a).map (·.1)).Nodup) : ∀ (l : List A) (acc : List (Key × A)), (acc.map (·.1)).Nodup → ((l.foldl f acc).map (·.1)).Nodup
  | [], _, h => h
  | a :: l, acc, h => fold_nodup hf l _ (hf acc a h)
theorem fold_mem {f : List (Key × A) → A → List (Key × A)} {Pr : Key × A → Prop} : ∀ (l : List A) (acc : List (Key × A)), (∀ p ∈ acc, Pr p) → (∀ acc a, a ∈ l → (∀ p ∈ acc, Pr p) → ∀ p ∈ f acc a, Pr p) → ∀ p ∈ l.foldl f acc, Pr p
  | [], _, h, _ => h
  | a :: l, acc, h, hf => fold_mem l _ (hf acc a List.mem_cons_self h) fun acc b hb => hf acc b (List.mem_cons_of_mem _ hb)
theorem wake_lasts {h : Ha} (w : Wf h) (t : Str) : valA (wakeH h).lasts (.inr t) = valA h.lasts (.inr t) := by
  obtain ⟨ks, e, hk⟩ := lastsL_strs w
  show valA ((lastsL h).foldl wakeL1 []) (.inr t) = _
  rw [e, wakeL_val (fun k => (valA h.lasts (.inr k)).getD .non)]
  split
  · rename_i ht
    have := (hk t).mp ht
    cases hv : valA h.lasts (.inr t) with
    | none => rw [hv] at this; cases this
    | some a => rfl
  · rename_i ht
    cases hv : valA h.lasts (.inr t) with
    | none => rfl
    | some a => exact absurd ((hk t).mpr (by rw [hv]; rfl)) ht
theorem wake_gone {h : Ha} (w : Wf h) (x : Int) : goneB (wakeH h) x = goneB h x := by
  obtain ⟨ks, e, hk⟩ := goneL_ints w
  rw [Bool.eq_iff_iff, goneB_iff]
  show (Sum.inl x : Key) ∈ ((goneL h).foldl wakeG1 []).map (·.1) ↔ _
  rw [e, wakeG_mem, hk]
  simp
theorem wake_rq {h : Ha} (w : Wf h) (hn : h.now = []) : Rq h (wakeH h) := ⟨rfl, fun t => by
  show lastI (wakeH h).begin t = lastI h.begin t
  unfold lastI
  show (match valA (wakeH h).lasts (.inr t) with
    | some (.int v) => some v
    | _ => none) = _
  rw [wake_lasts w]
  try rfl, rfl, fun x => wake_gone w x, rfl, hn.symm, rfl, rfl⟩
theorem wake_wf {h : Ha} (w : Wf h) : Wf (wakeH h) := by
  obtain ⟨ks, e, hk⟩ := goneL_ints w
  obtain ⟨ls, el, hl⟩ := lastsL_strs w
  refine ⟨w.kept, ?_, ?_, w.people, ?_, ?_, w.rows, fun a ha => (nomatch ha), (by decide : (0 : Int) ≤ 100 ∧ (100 : Int) ≤ 100)⟩
  · refine fold_mem (f := wakeL1) (lastsL h) [] (fun p hp => (nomatch hp)) fun acc a ha hacc p hp => ?_
    rw [el] at ha
    obtain ⟨k, hk2, rfl⟩ := List.mem_map.mp ha
    rcases putD_mem (show p ∈ putD acc (.inr k) ((valA h.lasts (.inr k)).getD .non) from hp) with z | z
    · have hs := (hl k).mp hk2
      cases hv : valA h.lasts (.inr k) with
      | none => rw [hv] at hs; cases hs
      | some u =>
        obtain ⟨t2, v2, e2, h1, h2⟩ := w.lasts _ (valA_mem hv)
        cases e2
        exact ⟨k, v2, by rw [z, hv]; rfl, h1, h2⟩
    · exact hacc p z
  · exact fold_nodup (f := wakeL1) (fun acc a hn => by unfold wakeL1; split; exact putD_nodup hn _ _; exact hn) _ _ List.nodup_nil
  · refine fold_mem (f := wakeG1) (goneL h) [] (fun p hp => (nomatch hp)) fun acc a ha hacc p hp => ?_
    rw [e] at ha
    obtain ⟨k, hk2, rfl⟩ := List.mem_map.mp ha
    rcases putD_mem (show p ∈ putD acc (.inl k) (.bl true) from hp) with z | z
    · obtain ⟨q, hq, e3⟩ := List.mem_map.mp (goneB_iff.mp ((hk k).mp hk2))
      obtain ⟨y, e4, y0, y1⟩ := w.gone q hq
      rw [e4] at e3
      simp at e3
      subst e3
      exact ⟨y, z, y0, y1⟩
    · exact hacc p z
  · exact fold_nodup (f := wakeG1) (fun acc a hn => putD_nodup hn _ _) _ _ List.nodup_nil
theorem wake_rest {h : Ha} (r : Rest h) : Rest (wakeH h) := ⟨wake_wf r.wf, rfl, r.cap⟩
theorem wake_saved {h : Ha} (r : Rest h) : savedT (wakeH h) = savedT h := saved_eq r.wf (wake_wf r.wf) (wake_rq r.wf r.now)
end Sx

set_option Elab.async false
set_option linter.all false
set_option maxRecDepth 100000
set_option maxHeartbeats 1000000
namespace Sx
open PySem PySem.Spec PyProof.Rows L2
/-! ### blocks of halls, new or woken -/
def idsW (n : Nat) : Ids := ⟨n + 1, n + 6, n + 3, n + 7, n + 5⟩
def hW (C : Addr) (n : Nat) (h : Ha) : Sto := [.ins C (flds (idsW n) h), .dic h.lasts, .lst [], .dic h.gone, .lst [], .lst h.now, .lst h.people, .lst h.rows]
/-- a block of m objects that holds a hall, from place n on -/
structure Blk (C : Addr) (n m : Nat) (i : Ids) (blk : Ha → Sto) : Prop where
  len : ∀ h, (blk h).length = m
  ok : ∀ {pre E : Sto} {h : Ha}, pre.length = n → OkI (pre ++ (blk h ++ E)) n i
  wr : ∀ {pre E : Sto} {h h' : Ha}, pre.length = n → wr C (pre ++ (blk h ++ E)) n i h' = pre ++ (blk h' ++ E)
theorem Blk.rd {C : Addr} {n m : Nat} {i : Ids} {blk : Ha → Sto} (B : Blk C n m i blk) {pre E : Sto} {h : Ha} (hn : pre.length = n) : rdH C (pre ++ (blk h ++ E)) (.ob n) = some (n, i, h) := by
  have := rd_wr (C := C) (h := h) (E := []) (B.ok (E := E) (h := h) hn)
  rw [B.wr hn, List.append_nil] at this
  exact this
theorem blkB (C : Addr) (n : Nat) : Blk C n 6 (newIds n) (hB C n) := ⟨fun _ => rfl, hB_ok, hB_wr⟩
section
variable {C : Addr} {pre E : Sto} {n : Nat} {h h' : Ha}
theorem hW_ok (hn : pre.length = n) : OkI (pre ++ (hW C n h ++ E)) n (idsW n) := by
  refine ⟨?_, fun k hk => ?_⟩
  · simp [idsW, List.nodup_cons]
  · have : (pre ++ (hW C n h ++ E)).length = n + 8 + E.length := by simp [hW, hn]; omega
    rw [this]
    simp [idsW] at hk
    omega
theorem hW_wr (hn : pre.length = n) : wr C (pre ++ (hW C n h ++ E)) n (idsW n) h' = pre ++ (hW C n h' ++ E) := by
  have s : ∀ (X : Sto) (k : Nat) (o : O), (pre ++ X).set (n + k) o = pre ++ X.set k o := fun X k o => by rw [← hn]; exact set_off k o
  have s0 : ∀ (X : Sto) (o : O), (pre ++ X).set n o = pre ++ X.set 0 o := fun X o => s X 0 o
  unfold wr
  simp only [idsW, s, s0]
  rfl
end
theorem blkW (C : Addr) (n : Nat) : Blk C n 8 (idsW n) (hW C n) := ⟨fun _ => rfl, hW_ok, hW_wr⟩
end Sx

set_option Elab.async false
set_option linter.all false
set_option maxRecDepth 100000
set_option maxHeartbeats 1000000
namespace Sx
open PySem PySem.Spec PyProof.Rows L2
/-- a comprehension that finds nothing -/
theorem lc_none {gi : GI} {gg : GG} {gt ge : GE} {vs : List Nat} {ρ ρ0 : Ro} {S S0 : Sto} {items : List A} {chk : Sto → Bool} (h : gi ρ S = .ok items chk S0) (hw : wipeR ρ vs = ρ0) (hc : chk (S0 ++ [.lst []]) = true)
    (hx : ∀ x ∈ items, ∃ ρ1, gg x ρ0 (S0 ++ [.lst []]) = some (ρ1, S0 ++ [.lst []]) ∧ gt ρ1 (S0 ++ [.lst []]) = .ok (.bl false) (S0 ++ [.lst []])) : gLc gi gg gt ge vs ρ S = .ok (.ob S0.length) (S0 ++ [.lst []]) := by
  rw [gLc_ok h hw]
  have go : ∀ items : List A, (∀ x ∈ items, ∃ ρ1, gg x ρ0 (S0 ++ [.lst []]) = some (ρ1, S0 ++ [.lst []]) ∧ gt ρ1 (S0 ++ [.lst []]) = .ok (.bl false) (S0 ++ [.lst []])) → lcGo chk gg gt ge ρ0 S0.length items (S0 ++ [.lst []]) = .ok (.ob S0.length) (S0 ++ [.lst []]) := fun items => by
    induction items with
    | nil => intro _; rw [lcGo, if_pos hc]
    | cons x l ih =>
      intro hx
      obtain ⟨ρ1, e1, e2⟩ := hx x (by simp)
      rw [lcGo, if_pos hc, e1]
      dsimp only
      rw [e2]
      simp only [RE.nox_ok, RE.bindT_ok, Bool.false_eq_true, if_false]
      exact ih fun y hy => hx y (by simp [hy])
  exact go items hx
end Sx

set_option Elab.async false
set_option linter.all false
set_option maxRecDepth 100000
set_option maxHeartbeats 1000000
namespace Sx
open PySem PySem.Spec PyProof.Rows L2
/-! few hearers, plainly: one topic kept -/
def aAny : A := .tup [.str "any"]
def hearerY : A := .tup [.str "y", .str "c", .int 4, .str "always", aAny, .tup []]
def newX (t : Str) (ts : A) (ds : List A) : A := .tup [.str "x", .str t, .int 4, .str "always", ts, .tup ds]
def joinW (p : A) : A := .tup [.str "w", .str "d", .int 4, .str "once", aAny, .tup [.tup [.str "join", p]]]
theorem inL_one {t k : Str} : inL t [.str k] = decide (k = t) := by
  by_cases h : k = t
  · subst h; simp [inL, inF, eqF]
  · simp [inL, inF, eqF, h]
    try exact fun e => h e.symm
theorem inL_nil {t : Str} : inL t [] = false := rfl
theorem tell_none {k t : Str} {ls : List (Key × A)} {r v : Int} {c : Bool} : tellH ⟨.tup [.str k], ls, [], [], [], [], r, c⟩ t v = ⟨.tup [.str k], if k = t then putD ls (.inr t) (.int v) else ls, [], [], [], [], 100, false⟩ := by
  unfold tellH spreadW
  have e : inL t (keptL (⟨.tup [.str k], ls, [], [], [], [], r, c⟩ : Ha).begin) = decide (k = t) := inL_one
  show spLoop _ v (orderH (toldL _ t v) t) (toldL _ t v) = _
  unfold toldL
  rw [e]
  by_cases h : k = t
  · simp only [h, decide_true, ↓reduceIte]
    simp [orderH, thereH, rngI, Ha.begin, ordA, spLoop]
  · simp only [h, decide_false, Bool.false_eq_true, ↓reduceIte]
    simp [orderH, thereH, rngI, Ha.begin, ordA, spLoop]
/-- one hears without deeds -/
theorem hear_plain {m : Nat} {h : Ha} {x v : Int} {o t w : Str} {rk ts : A} (hr : h.room ≠ 0) (hp : pAt h x = .tup [.str o, .str t, rk, .str w, ts, .tup []]) (hw : w ≠ "once") : hearH (m + 1) h x v = (false, { h with room := h.room - 1, rows := h.rows ++ [rHeard x t v] }) := by
  rw [hear_quiet hr (by rw [hp]; rfl)]
  unfold quietStep
  rw [hp]
  show (false, ({ h with room := h.room - 1, rows := h.rows ++ [rHeard x t v], gone := if w = "once" then _ else h.gone } : Ha)) = _
  rw [if_neg hw]
def dsX (j : Int) : List A := [.tup [.str "tell", .str "c", .int j], .tup [.str "done"]]
theorem order_eq {h g : Ha} (hp : g.people = h.people) (hg : g.gone = h.gone) (t : Str) : orderH g t = orderH h t := by
  have e : thereH g (fun a => decide (tpA a = t)) = thereH h (fun a => decide (tpA a = t)) := by
    unfold thereH
    rw [hp]
    refine List.filter_congr fun x _ => ?_
    unfold goneB pAt
    rw [hp, hg]
  unfold orderH
  rw [e, hp]
/-- c is told, Y hears it -/
theorem tell_c {m : Nat} {h : Ha} {k : Str} {v : Int} (hk : h.kept = .tup [.str k]) (hkc : k ≠ "c") (hn : inL "c" h.now = false) (ho : orderH h "c" = [0]) (hy : pAt h 0 = hearerY) (hg : goneB h 0 = false) (hc : h.cut = false) (hr : h.room ≠ 0) : spreadW (hearH (m + 1)) h "c" v = { h with room := h.room - 1, rows := h.rows ++ [rHeard 0 "c" v] } := by
  unfold spreadW
  rw [hn]
  have e : toldL h "c" v = h := by
    unfold toldL keptL
    rw [hk]
    dsimp only
    rw [inL_one, decide_eq_false hkc]
    rfl
  rw [e, ho]
  have hp := hear_plain (m := m) (x := 0) (v := v) (o := "y") (t := "c") (w := "always") (rk := .int 4) (ts := aAny) hr hy (by decide)
  have hf : fitT (tsA (pAt h 0)) v = true := by rw [hy]; rfl
  simp only [spLoop, hg, hc, hf, hp, Bool.not_false, Bool.and_self, Bool.and_true, ↓reduceIte, Bool.false_eq_true]
theorem hear_new {m : Nat} {h : Ha} {k t : Str} {ts : A} {x v j : Int} {q : Nat} (hx : pAt h x = newX t ts ((dsX j).take q)) (hk : h.kept = .tup [.str k]) (hkc : k ≠ "c") (hn : inL "c" (h.now ++ [.str t]) = false) (ho : orderH h "c" = [0]) (hy : pAt h 0 = hearerY) (hg : goneB h 0 = false) (hc : h.cut = false) (hr : 2 ≤ h.room) :
    hearH (m + 2) h x v = (false, { h with room := h.room - (if q = 0 then 1 else 2), rows := h.rows ++ (rHeard x t v :: (if q = 0 then [] else [rHeard 0 "c" ((v + j) % 10000)])), gone := if q < 2 then h.gone else putD h.gone (.inl x) (.bl true) }) := by
  have hr0 : h.room ≠ 0 := by omega
  have hh : heardH h x v = { h with room := h.room - 1, rows := h.rows ++ [rHeard x t v], now := h.now ++ [.str t] } := by
    unfold heardH
    rw [hx]
    rfl
  show hearW (hearH (m + 1)) h x v = _
  unfold hearW
  rw [if_neg hr0, hx, hh]
  show (let z := dsLoop (hearH (m + 1)) x v ((dsX j).take q) false _; (z.1, { z.2 with now := z.2.now.dropLast })) = _
  have tc := tell_c (m := m) (h := { h with room := h.room - 1, rows := h.rows ++ [rHeard x t v], now := h.now ++ [.str t] }) (k := k) (v := (v + j) % 10000) hk hkc hn ((order_eq rfl rfl _).trans ho) hy hg hc (by show h.room - 1 ≠ 0; omega)
  have ed : ∀ g : Ha, doW (hearH (m + 1)) (.tup [.str "tell", .str "c", .int j]) x v g = spreadW (hearH (m + 1)) g "c" ((v + j) % 10000) := fun g => rfl
  have e2 : ∀ g : Ha, doW (hearH (m + 1)) (.tup [.str "done"]) x v g = g.go x := fun g => rfl
  have s1 : isStop (.tup [.str "tell", .str "c", .int j]) = false := rfl
  have s2 : isStop (.tup [.str "done"]) = false := by decide
  have a1 : h.room - 1 - 1 = h.room - 2 := by omega
  simp only [hc] at tc
  match q with
  | 0 => simp [dsLoop]
  | 1 =>
    simp only [dsX, List.take_succ_cons, List.take_zero, dsLoop, hc, Bool.false_eq_true, ↓reduceIte, ed, tc, s1, Bool.or_false]
    simp [a1, hc]
  | n + 2 =>
    simp only [dsX, List.take_succ_cons, List.take_nil, dsLoop, hc, Bool.false_eq_true, ↓reduceIte, ed, tc, s1, s2, Bool.or_false, e2]
    simp [a1, Ha.go]
    try (intro; omega)
theorem ord_one {ps : List A} {x : Int} : ordA ps 2 [x] = [x] := List.mergeSort_singleton _
theorem orderA {kk : A} {ls : List (Key × A)} {t : Str} {ts : A} {ds rr nn : List A} {r : Int} {c : Bool} (ht : t ≠ "c") : orderH ⟨kk, ls, [hearerY, newX t ts ds], [], rr, nn, r, c⟩ "c" = [0] := by
  unfold orderH
  have e : thereH ⟨kk, ls, [hearerY, newX t ts ds], [], rr, nn, r, c⟩ (fun a => decide (tpA a = "c")) = [0] := by
    unfold thereH
    have e1 : rngI 2 = [0, 1] := rfl
    show (rngI 2).filter _ = _
    rw [e1]
    have e2 : decide (tpA (newX t ts ds) = "c") = false := decide_eq_false ht
    have e3 : decide (tpA hearerY = "c") = true := by decide
    simp only [List.filter, goneB, valA, pAt, List.getD, Int.toNat_zero]
    simp [e2, e3, valA]
  rw [e]
  exact ord_one
theorem orderB {kk : A} {ls : List (Key × A)} {t : Str} {ts p : A} {ds rr nn : List A} {r : Int} {c : Bool} (ht : t ≠ "c") : orderH ⟨kk, ls, [hearerY, joinW p, newX t ts ds], [(.inl 1, .bl true)], rr, nn, r, c⟩ "c" = [0] := by
  unfold orderH
  have e : thereH ⟨kk, ls, [hearerY, joinW p, newX t ts ds], [(.inl 1, .bl true)], rr, nn, r, c⟩ (fun a => decide (tpA a = "c")) = [0] := by
    unfold thereH
    have e1 : rngI 3 = [0, 1, 2] := rfl
    show (rngI 3).filter _ = _
    rw [e1]
    have e2 : decide (tpA (newX t ts ds) = "c") = false := decide_eq_false ht
    have e3 : decide (tpA hearerY = "c") = true := by decide
    have e4 : decide (tpA (joinW p) = "c") = false := decide_eq_false (show ("d" : Str) ≠ "c" by decide)
    simp only [List.filter, goneB, valA, pAt, List.getD, Int.toNat_zero]
    simp [e2, e3, e4, valA]
  rw [e]
  exact ord_one
end Sx

set_option Elab.async false
set_option linter.all false
set_option maxRecDepth 100000
set_option maxHeartbeats 1000000
namespace Sx
open PySem PySem.Spec PyProof.Rows L2
/-- whether the newcomer hears, and the rows then -/
def hearsX (o : Option Int) (ts : A) : Bool := match o with
  | some v => fitT ts v
  | none => false
def rowsX (x : Int) (t : Str) (o : Option Int) (ts : A) (j : Int) (q : Nat) : List A := match o with
  | some v => if fitT ts v = true then rHeard x t v :: (if q = 0 then [] else [rHeard 0 "c" ((v + j) % 10000)]) else []
  | none => []
theorem come_new {m : Nat} {h : Ha} {k t : Str} {ts : A} {j : Int} {q : Nat} (hk : h.kept = .tup [.str k]) (hkc : k ≠ "c") (hn : inL "c" (h.now ++ [.str t]) = false) (ho : orderH { h with people := h.people ++ [newX t ts ((dsX j).take q)] } "c" = [0]) (hy : pAt { h with people := h.people ++ [newX t ts ((dsX j).take q)] } 0 = hearerY) (hg : goneB h 0 = false) (hc : h.cut = false) (hr : 2 ≤ h.room) :
    ∃ r, comeW (hearH (m + 2)) h (newX t ts ((dsX j).take q)) = { h with people := h.people ++ [newX t ts ((dsX j).take q)], rows := h.rows ++ rowsX (h.people.length : Nat) t (lastI h t) ts j q, gone := if (hearsX (lastI h t) ts && decide (2 ≤ q)) = true then putD h.gone (.inl ((h.people.length : Nat) : Int)) (.bl true) else h.gone, room := r } := by
  unfold comeW
  have e0 : tpA (newX t ts ((dsX j).take q)) = t := rfl
  have e1 : tsA (newX t ts ((dsX j).take q)) = ts := rfl
  rw [e0, e1]
  have hx : pAt { h with people := h.people ++ [newX t ts ((dsX j).take q)] } ((h.people.length : Nat) : Int) = newX t ts ((dsX j).take q) := by
    unfold pAt
    simp
  cases hl : lastI h t with
  | none => exact ⟨h.room, by simp [rowsX, hearsX]⟩
  | some v =>
    by_cases hf : fitT ts v = true
    · refine ⟨h.room - (if q = 0 then 1 else 2), ?_⟩
      have hh := hear_new (m := m) (v := v) hx hk hkc hn ho hy hg hc hr
      dsimp only
      rw [if_pos hf, hh]
      have a1 : rowsX ((h.people.length : Nat) : Int) t (some v) ts j q = rHeard ((h.people.length : Nat) : Int) t v :: (if q = 0 then [] else [rHeard 0 "c" ((v + j) % 10000)]) := if_pos hf
      have a2 : hearsX (some v) ts = true := hf
      rw [a1]
      by_cases h2 : q < 2
      · have h3 : ¬ 2 ≤ q := by omega
        simp [a2, h2, h3]
      · have h3 : 2 ≤ q := by omega
        simp [a2, h2, h3]
    · refine ⟨h.room, ?_⟩
      dsimp only
      rw [if_neg hf]
      have a1 : rowsX ((h.people.length : Nat) : Int) t (some v) ts j q = [] := if_neg hf
      have a2 : hearsX (some v) ts = false := by
        show fitT ts v = false
        simpa using hf
      rw [a1]
      simp [a2]
/-- the newcomer comes from outside -/
theorem enterA {k t : Str} {ls : List (Key × A)} {ts : A} {j r0 : Int} {q : Nat} {c0 : Bool} (hkc : k ≠ "c") (ht : t ≠ "c") : ∃ r, enterH ⟨.tup [.str k], ls, [hearerY], [], [], [], r0, c0⟩ (newX t ts ((dsX j).take q)) =
    ⟨.tup [.str k], ls, [hearerY, newX t ts ((dsX j).take q)], if (hearsX (lastI ⟨.tup [.str k], ls, [], [], [], [], 100, false⟩ t) ts && decide (2 ≤ q)) = true then [(.inl 1, .bl true)] else [], rowsX 1 t (lastI ⟨.tup [.str k], ls, [], [], [], [], 100, false⟩ t) ts j q, [], r, false⟩ := by
  have hn : inL "c" [A.str t] = false := by rw [inL_one]; exact decide_eq_false ht
  obtain ⟨r, e⟩ := come_new (m := 98) (h := ⟨.tup [.str k], ls, [hearerY], [], [], [], 100, false⟩) (ts := ts) (j := j) (q := q) rfl hkc hn (orderA ht) rfl rfl rfl (show (2 : Int) ≤ 100 by decide)
  exact ⟨r, e⟩
/-- Y comes -/
theorem enterY {k : Str} {ls : List (Key × A)} {r0 : Int} {c0 : Bool} (hl : lastI ⟨.tup [.str k], ls, [], [], [], [], 100, false⟩ "c" = none) : enterH ⟨.tup [.str k], ls, [], [], [], [], r0, c0⟩ hearerY = ⟨.tup [.str k], ls, [hearerY], [], [], [], 100, false⟩ := by
  have e : lastI (⟨.tup [.str k], ls, [], [], [], [], r0, c0⟩ : Ha).begin (tpA hearerY) = none := hl
  unfold enterH comeW
  rw [e]
  rfl
theorem enterW {k : Str} {ls : List (Key × A)} {r0 : Int} {c0 : Bool} {p : A} (hl : lastI ⟨.tup [.str k], ls, [], [], [], [], 100, false⟩ "d" = none) : enterH ⟨.tup [.str k], ls, [hearerY], [], [], [], r0, c0⟩ (joinW p) = ⟨.tup [.str k], ls, [hearerY, joinW p], [], [], [], 100, false⟩ := by
  have e : lastI (⟨.tup [.str k], ls, [hearerY], [], [], [], r0, c0⟩ : Ha).begin (tpA (joinW p)) = none := hl
  unfold enterH comeW
  rw [e]
  rfl
/-- d is told: W hears it once and lets the newcomer join -/
theorem tellD {k t : Str} {ls : List (Key × A)} {ts : A} {j r0 : Int} {q : Nat} {c0 : Bool} (hkc : k ≠ "c") (hkd : k ≠ "d") (ht : t ≠ "c") : ∃ r, tellH ⟨.tup [.str k], ls, [hearerY, joinW (newX t ts ((dsX j).take q))], [], [], [], r0, c0⟩ "d" 7 =
    ⟨.tup [.str k], ls, [hearerY, joinW (newX t ts ((dsX j).take q)), newX t ts ((dsX j).take q)], if (hearsX (lastI ⟨.tup [.str k], ls, [], [], [], [], 100, false⟩ t) ts && decide (2 ≤ q)) = true then [(.inl 1, .bl true), (.inl 2, .bl true)] else [(.inl 1, .bl true)], rHeard 1 "d" 7 :: rowsX 2 t (lastI ⟨.tup [.str k], ls, [], [], [], [], 100, false⟩ t) ts j q, [], r, false⟩ := by
  have hn : inL "c" ([A.str "d"] ++ [.str t]) = false := by
    have d1 : ("d" : Str) ≠ "c" := by decide
    have d2 : ("c" : Str) ≠ "d" := by decide
    simp [inL, inF, eqF, d1, d2, ht, Ne.symm ht]
  obtain ⟨r, e⟩ := come_new (m := 97) (h := ⟨.tup [.str k], ls, [hearerY, joinW (newX t ts ((dsX j).take q))], [(.inl 1, .bl true)], [rHeard 1 "d" 7], [.str "d"], 99, false⟩) (ts := ts) (j := j) (q := q) rfl hkc hn (orderB ht) rfl rfl rfl (show (2 : Int) ≤ 99 by decide)
  refine ⟨r, ?_⟩
  unfold tellH spreadW
  rw [show inL "d" (⟨.tup [.str k], ls, [hearerY, joinW (newX t ts ((dsX j).take q))], [], [], [], r0, c0⟩ : Ha).begin.now = false from rfl]
  have et : toldL (⟨.tup [.str k], ls, [hearerY, joinW (newX t ts ((dsX j).take q))], [], [], [], r0, c0⟩ : Ha).begin "d" 7 = ⟨.tup [.str k], ls, [hearerY, joinW (newX t ts ((dsX j).take q))], [], [], [], 100, false⟩ := by
    unfold toldL
    rw [show inL "d" (keptL (⟨.tup [.str k], ls, [hearerY, joinW (newX t ts ((dsX j).take q))], [], [], [], r0, c0⟩ : Ha).begin) = decide (k = "d") from inL_one, decide_eq_false hkd]
    rfl
  have eo : orderH ⟨.tup [.str k], ls, [hearerY, joinW (newX t ts ((dsX j).take q))], [], [], [], 100, false⟩ "d" = [1] := by
    unfold orderH
    have e2 : thereH ⟨.tup [.str k], ls, [hearerY, joinW (newX t ts ((dsX j).take q))], [], [], [], 100, false⟩ (fun a => decide (tpA a = "d")) = [1] := by
      unfold thereH
      have e1 : rngI 2 = [0, 1] := rfl
      show (rngI 2).filter _ = _
      rw [e1]
      have e2 : decide (tpA (joinW (newX t ts ((dsX j).take q))) = "d") = true := decide_eq_true rfl
      have e3 : decide (tpA hearerY = "d") = false := by decide
      simp only [List.filter, goneB, valA, pAt, List.getD, Int.toNat_zero]
      simp [e2, e3, valA]
    rw [e2]
    exact ord_one
  rw [et, eo]
  have eh : hearH 100 ⟨.tup [.str k], ls, [hearerY, joinW (newX t ts ((dsX j).take q))], [], [], [], 100, false⟩ 1 7 = (false, { comeW (hearH 99) ⟨.tup [.str k], ls, [hearerY, joinW (newX t ts ((dsX j).take q))], [(.inl 1, .bl true)], [rHeard 1 "d" 7], [.str "d"], 99, false⟩ (newX t ts ((dsX j).take q)) with now := (comeW (hearH 99) ⟨.tup [.str k], ls, [hearerY, joinW (newX t ts ((dsX j).take q))], [(.inl 1, .bl true)], [rHeard 1 "d" 7], [.str "d"], 99, false⟩ (newX t ts ((dsX j).take q))).now.dropLast }) := rfl
  unfold spLoop
  rw [eh, e]
  have hf : (!goneB (⟨.tup [.str k], ls, [hearerY, joinW (newX t ts ((dsX j).take q))], [], [], [], 100, false⟩ : Ha) 1 && !(⟨.tup [.str k], ls, [hearerY, joinW (newX t ts ((dsX j).take q))], [], [], [], 100, false⟩ : Ha).cut && fitT (tsA (pAt (⟨.tup [.str k], ls, [hearerY, joinW (newX t ts ((dsX j).take q))], [], [], [], 100, false⟩ : Ha) 1)) 7) = true := rfl
  simp only [hf, ↓reduceIte, Bool.false_eq_true, spLoop]
  rfl
end Sx

set_option Elab.async false
set_option linter.all false
set_option maxRecDepth 100000
set_option maxHeartbeats 4000000
/-! tuple * 1 is the tuple itself, tuple * 0 an empty one -/
namespace L2
open PySem PySem.Spec PyProof.Rows
theorem tuple_mul1 (l : Addr) (items : Array Value) (n : Nat) (dd : Option Addr) (sl : Array (Option Value)) (u : Tok) :
    Meets (Builtin.«tuple.__mul__» ⟨[.ref l, .int 1 u], []⟩) (fun _ R s => s.heap.get? l = some { cls := .type "tuple", dict := dd, data := .seq items n, slots := sl } ∧ R (.ok (.ret (Value.ref l))) s) :=
  .of_wp fun prog w A R s h => by
    obtain ⟨hp, g, d, tk, os⟩ := s
    obtain ⟨hl, h⟩ := h
    have f1 := AutoSeq1.idx_int
    have c0 : (decide ((1:Int) < -(2 ^ 63)) || decide ((1:Int) ≥ 2 ^ 63)) = false := by decide
    have c1 : (items.isEmpty || (1:Int) == 1) = true := by simp
    wp_walk using wpAny_loadPart' hl
    repeat (first
      | (refine wpAny_ite_false (decide_eq_false (by rw [c0]; exact Bool.false_ne_true)) ?_; wp_walk using wpAny_loadPart' hl)
      | (refine wpAny_ite_true (decide_eq_true (by rw [c1])) ?_; wp_walk using wpAny_loadPart' hl))
    all_goals first | exact ⟨_, rfl, h⟩ | skip
theorem tuple_mul0 (l : Addr) (items : Array Value) (n : Nat) (dd : Option Addr) (sl : Array (Option Value)) (u : Tok) (hi : items.isEmpty = false) :
    Meets (Builtin.«tuple.__mul__» ⟨[.ref l, .int 0 u], []⟩) (fun _ R s => s.heap.get? l = some { cls := .type "tuple", dict := dd, data := .seq items n, slots := sl } ∧
      R (.ok (.ret (Value.ref s.heap.objs.size))) { s with heap := s.heap.push { cls := Value.type "tuple", data := Data.seq #[] }, toks := s.toks }) :=
  .of_wp fun prog w A R s h => by
    obtain ⟨hp, g, d, tk, os⟩ := s
    obtain ⟨hl, h⟩ := h
    have f1 := AutoSeq1.idx_int
    have c0 : (decide ((0:Int) < -(2 ^ 63)) || decide ((0:Int) ≥ 2 ^ 63)) = false := by decide
    have c1 : (items.isEmpty || (0:Int) == 1) = false := by rw [hi]; rfl
    have c2 : (decide ((0:Int) ≤ 0) || items.isEmpty) = true := rfl
    wp_walk using wpAny_loadPart' hl
    repeat (first
      | (refine wpAny_ite_false (decide_eq_false (by rw [c0]; exact Bool.false_ne_true)) ?_; wp_walk using wpAny_loadPart' hl)
      | (refine wpAny_ite_false (decide_eq_false (by rw [c1]; exact Bool.false_ne_true)) ?_; wp_walk using wpAny_loadPart' hl)
      | (refine wpAny_ite_true (decide_eq_true (by rw [c2])) ?_; wp_walk using wpAny_loadPart' hl))
    all_goals first | exact ⟨_, rfl, h⟩ | skip
def rRep01 (K : PySem.W.Frag) : R2 := fun x y H Q => ∃ l k xs, x = .ref l ∧ y = .int k ∧ SqT K H l xs ∧ xs ≠ [] ∧ ((k = 1 ∧ Q (.ref l) H) ∨ (k = 0 ∧ ∀ p, H p = none → Q (.ref p) (upd H p (.tup []))))
section
variable {X : Cx}
theorem op_rep01 : OpR X (binaryOp .Mult) (rRep01 X.K) := by
  intro pins s σ H x y v u Q I rx ry h
  obtain ⟨l, k, xs, rfl, rfl, hT, hne, q⟩ := h
  cases rx
  obtain ⟨t, rfl⟩ := ry
  obtain ⟨its, r, ⟨⟨cls, dd, data, sl⟩, ho, hc, n, hd⟩, hs⟩ := I.tuple hT
  simp only at hc hd
  subst hc hd
  have hle : its.length = xs.length := r.length.symm
  have hn : its ≠ [] := fun e => hne (by
    rw [e] at hle
    exact List.eq_nil_of_length_eq_zero hle.symm)
  have hi : its.toArray.isEmpty = false := by
    cases its with
    | nil => exact absurd rfl hn
    | cons a b => rfl
  rcases q with ⟨rfl, q⟩ | ⟨rfl, q⟩
  · refine wpAny_binaryOp_repeat_ref (T := "tuple") (U := "int") (by decide) ⟨_, ho, rfl⟩ (fun s' => typeIs_int s' 1 t) noFill_tuple_mul F.fills_int_mul F.slot_int_rmul repeat_tuple F.slot_int_index.lookup
      (call_meets F.slot_int_rmul (typeIs_int s 1 t) F.entry_int_rmul (F.args_int_rmul_2 _ _) (int_rmul_tuple 1 t l its.toArray n dd sl)
        ⟨ho, rfl, ⟨_, ho, rfl⟩, call_meets F.slot_tuple_mul ⟨_, ho, rfl⟩ F.entry_tuple_mul (F.args_tuple_mul_2 _ _) (tuple_mul1 l its.toArray n dd sl t) ⟨ho, ?_⟩⟩)
    exact ⟨.ref l, _, I, rfl, q⟩
  · refine wpAny_binaryOp_repeat_ref (T := "tuple") (U := "int") (by decide) ⟨_, ho, rfl⟩ (fun s' => typeIs_int s' 0 t) noFill_tuple_mul F.fills_int_mul F.slot_int_rmul repeat_tuple F.slot_int_index.lookup
      (call_meets F.slot_int_rmul (typeIs_int s 0 t) F.entry_int_rmul (F.args_int_rmul_2 _ _) (int_rmul_tuple 0 t l its.toArray n dd sl)
        ⟨ho, rfl, ⟨_, ho, rfl⟩, call_meets F.slot_tuple_mul ⟨_, ho, rfl⟩ F.entry_tuple_mul (F.args_tuple_mul_2 _ _) (tuple_mul0 l its.toArray n dd sl t hi) ⟨ho, ?_⟩⟩)
    refine ⟨.ref s.heap.objs.size, _, I.laid (t' := s.toks) (o := .tup []) (fun b ob q => Heap.get?_push_of_some _ q) (Nat.le_refl _) ?_, rfl, q _ (I.hok.fresh (Nat.le_refl _))⟩
    exact ⟨Nat.zero_le _, [], .nil, IsTup.new _ _⟩
end
end L2
namespace Sx
open PySem PySem.Spec PyProof.Rows L2
section
variable {X : Cx} {T : Tbs}
/-- a tuple that is not empty, * 0 or * 1 -/
def vMulT : A → A → Sto → RE := fun a b S => match a, b with
  | .tup xs, .int k => if xs.length ≠ 0 then (if k = 1 then .ok (.tup xs) S else if k = 0 then .ok (.tup []) S else .stuck) else .stuck
  | _, _ => .stuck
theorem os_mulT : OpS X T (binaryOp .Mult) vMulT := op_imp op_rep01 fun x y H Q a b S as r ra rb fv => by
  cases ra with
  | @tup xs p vs hs rl => cases rb with
    | int k =>
      unfold vMulT at fv
      dsimp only at fv
      split at fv
      · rename_i h
        have hv : vs ≠ [] := fun z => h (by rw [rl.length, z]; rfl)
        split at fv
        · rename_i h1
          exact ⟨_, k, vs, rfl, rfl, hs, hv, .inl ⟨h1, fv _ as H .refl r (.tup hs rl)⟩⟩
        · split at fv
          · rename_i h1 h2
            exact ⟨_, k, vs, rfl, rfl, hs, hv, .inr ⟨h2, fin_tup r .nil fv⟩⟩
          · exact False.elim fv
      · exact False.elim fv
    | _ => exact False.elim fv
  | _ => exact False.elim fv
end
end Sx

set_option Elab.async false
set_option linter.all false
set_option maxRecDepth 100000
set_option maxHeartbeats 1000000
namespace Sx
open PySem PySem.Spec PyProof.Rows L2
/-! rows that come one by one, cut off when there is no room -/
def emit : List A → Ha → Ha
  | [], h => h
  | e :: es, h => if h.cut = true then h else if h.room = 0 then h.cutIt else emit es { h with room := h.room - 1, rows := h.rows ++ [e] }
theorem emit_cons (e : A) (es : List A) (h : Ha) : emit (e :: es) h = if h.cut = true then h else if h.room = 0 then h.cutIt else emit es { h with room := h.room - 1, rows := h.rows ++ [e] } := rfl
theorem emit_cut {es : List A} {h : Ha} (hc : h.cut = true) : emit es h = h := by
  cases es with
  | nil => rfl
  | cons e es => unfold emit; rw [if_pos hc]
theorem emit_app : ∀ (xs ys : List A) (h : Ha), emit (xs ++ ys) h = emit ys (emit xs h)
  | [], ys, h => rfl
  | x :: xs, ys, h => by
    rw [List.cons_append, emit_cons, emit_cons]
    by_cases hc : h.cut = true
    · rw [if_pos hc, if_pos hc, emit_cut hc]
    · rw [if_neg hc, if_neg hc]
      by_cases hr : h.room = 0
      · rw [if_pos hr, if_pos hr, emit_cut (show h.cutIt.cut = true from rfl)]
      · rw [if_neg hr, if_neg hr]
        exact emit_app xs ys { h with room := h.room - 1, rows := h.rows ++ [x] }
theorem emit_like : ∀ (es : List A) (h : Ha), ∃ r ro c, emit es h = { h with room := r, rows := ro, cut := c }
  | [], h => ⟨_, _, _, rfl⟩
  | e :: es, h => by
    unfold emit
    by_cases hc : h.cut = true
    · rw [if_pos hc]; exact ⟨_, _, _, rfl⟩
    · rw [if_neg hc]
      by_cases hr : h.room = 0
      · rw [if_pos hr]; exact ⟨_, _, _, rfl⟩
      · rw [if_neg hr]
        obtain ⟨r, ro, c, e⟩ := emit_like es { h with room := h.room - 1, rows := h.rows ++ [e] }
        exact ⟨r, ro, c, by rw [e]⟩
theorem emit_now : ∀ (es : List A) (h : Ha) (n : List A), emit es { h with now := n } = { emit es h with now := n }
  | [], h, n => rfl
  | e :: es, h, n => by
    unfold emit
    by_cases hc : h.cut = true
    · rw [if_pos hc, if_pos (show ({ h with now := n } : Ha).cut = true from hc)]
    · rw [if_neg hc, if_neg (show ¬ ({ h with now := n } : Ha).cut = true from hc)]
      by_cases hr : h.room = 0
      · rw [if_pos hr, if_pos (show ({ h with now := n } : Ha).room = 0 from hr)]
        rfl
      · rw [if_neg hr, if_neg (show ¬ ({ h with now := n } : Ha).room = 0 from hr)]
        exact emit_now es { h with room := h.room - 1, rows := h.rows ++ [e] } n
/-- the rows that come -/
theorem emit_rows : ∀ (es : List A) (h : Ha) (k : Nat), h.cut = false → h.room = (k : Int) → (emit es h).rows = h.rows ++ (if k < es.length then es.take k ++ [rCut] else es)
  | [], h, k, _, _ => by simp [emit]
  | e :: es, h, k, hc, hr => by
    unfold emit
    rw [if_neg (by rw [hc]; exact Bool.false_ne_true)]
    cases k with
    | zero =>
      rw [if_pos (by rw [hr]; rfl)]
      simp [Ha.cutIt, Ha.row]
    | succ k =>
      rw [if_neg (by omega)]
      rw [emit_rows es { h with room := h.room - 1, rows := h.rows ++ [e] } k hc (by show h.room - 1 = _; omega)]
      by_cases hk : k < es.length
      · rw [if_pos hk, if_pos (by rw [List.length_cons]; omega)]
        simp
      · rw [if_neg hk, if_neg (by rw [List.length_cons]; omega)]
        simp
/-- a spread, if each hearing makes its rows -/
theorem sp_emit {hear : Hear} {v : Int} {ev : Int → List A} (Pr : Ha → Prop) (hP : ∀ h r ro c, Pr h → Pr { h with room := r, rows := ro, cut := c }) : ∀ (l : List Int) (h : Ha), (∀ h x, Pr h → x ∈ l → h.cut = false → goneB h x = false ∧ fitT (tsA (pAt h x)) v = true ∧ (hear h x v).2 = emit (ev x) h ∧ ((hear h x v).1 = true → (emit (ev x) h).cut = true)) → Pr h → spLoop hear v l h = emit (l.flatMap ev) h
  | [], h, _, _ => rfl
  | x :: l, h, hh, p => by
    have ih := fun g => sp_emit (hear := hear) (v := v) (ev := ev) Pr hP l g (fun h y p hy => hh h y p (List.mem_cons_of_mem _ hy))
    unfold spLoop
    rw [List.flatMap_cons, emit_app]
    cases hc : h.cut with
    | true =>
      rw [emit_cut hc]
      simp only [Bool.not_true, Bool.and_false, Bool.false_and, Bool.false_eq_true, ↓reduceIte]
      exact ih h p
    | false =>
      obtain ⟨h1, h2, h3, h4⟩ := hh h x p (List.mem_cons_self ..) hc
      simp only [h1, h2, Bool.not_false, Bool.and_self, ↓reduceIte]
      obtain ⟨r, ro, c, e⟩ := emit_like (ev x) h
      split
      · rename_i hs
        rw [h3, emit_cut (h4 hs)]
      · rw [h3]
        exact ih _ (by rw [e]; exact hP _ _ _ _ p)
theorem hear_one {m : Nat} {h : Ha} {x v : Int} {o t w : Str} {rk ts : A} (hc : h.cut = false) (hp : pAt h x = .tup [.str o, .str t, rk, .str w, ts, .tup []]) (hw : w ≠ "once") : (hearH (m + 1) h x v).2 = emit [rHeard x t v] h ∧ ((hearH (m + 1) h x v).1 = true → (emit [rHeard x t v] h).cut = true) := by
  by_cases hr : h.room = 0
  · have e : hearH (m + 1) h x v = (true, h.cutIt) := if_pos hr
    have e2 : emit [rHeard x t v] h = h.cutIt := by simp [emit, hc, hr]
    rw [e, e2]
    exact ⟨rfl, fun _ => rfl⟩
  · have e := hear_plain (m := m) (v := v) hr hp hw
    have e2 : emit [rHeard x t v] h = { h with room := h.room - 1, rows := h.rows ++ [rHeard x t v] } := by simp [emit, hc, hr]
    rw [e, e2]
    exact ⟨rfl, fun z => nomatch z⟩
theorem hear_tell {m : Nat} {h : Ha} {x v j : Int} {o t t2 w : Str} {rk ts : A} {es : List A} (hc : h.cut = false) (hp : pAt h x = .tup [.str o, .str t, rk, .str w, ts, .tup [.tup [.str "tell", .str t2, .int j]]]) (hw : w ≠ "once") (hs : spreadW (hearH m) { h with room := h.room - 1, rows := h.rows ++ [rHeard x t v], now := h.now ++ [.str t] } t2 ((v + j) % 10000) = emit es { h with room := h.room - 1, rows := h.rows ++ [rHeard x t v], now := h.now ++ [.str t] }) : (hearH (m + 1) h x v).2 = emit (rHeard x t v :: es) h ∧ ((hearH (m + 1) h x v).1 = true → (emit (rHeard x t v :: es) h).cut = true) := by
  by_cases hr : h.room = 0
  · have e : hearH (m + 1) h x v = (true, h.cutIt) := if_pos hr
    have e2 : emit (rHeard x t v :: es) h = h.cutIt := by simp [emit, hc, hr]
    rw [e, e2]
    exact ⟨rfl, fun _ => rfl⟩
  · have e2 : emit (rHeard x t v :: es) h = emit es { h with room := h.room - 1, rows := h.rows ++ [rHeard x t v] } := by
      conv => lhs; unfold emit
      rw [if_neg (by rw [hc]; exact Bool.false_ne_true), if_neg hr]
    have e1 : heardH h x v = { h with room := h.room - 1, rows := h.rows ++ [rHeard x t v], now := h.now ++ [.str t] } := by
      have hw2 : ¬ hwA (.tup [.str o, .str t, rk, .str w, ts, .tup [.tup [.str "tell", .str t2, .int j]]]) = "once" := hw
      unfold heardH
      rw [hp]
      dsimp only
      rw [if_neg hw2]
      rfl
    have e3 : hearH (m + 1) h x v = (false, { emit es { h with room := h.room - 1, rows := h.rows ++ [rHeard x t v] } with now := h.now }) := by
      show (if h.room = 0 then (true, h.cutIt) else _) = _
      rw [if_neg hr, e1, hp]
      have e4 : dsLoop (hearH m) x v [.tup [.str "tell", .str t2, .int j]] false { h with room := h.room - 1, rows := h.rows ++ [rHeard x t v], now := h.now ++ [.str t] } = (false, emit es { h with room := h.room - 1, rows := h.rows ++ [rHeard x t v], now := h.now ++ [.str t] }) := by
        unfold dsLoop
        rw [if_neg (show ¬ h.cut = true by rw [hc]; exact Bool.false_ne_true), do_tell, hs]
        rfl
      show ((dsLoop (hearH m) x v [.tup [.str "tell", .str t2, .int j]] false _).1, _) = _
      dsimp only [dsA]
      rw [e4]
      have e5 := emit_now es { h with room := h.room - 1, rows := h.rows ++ [rHeard x t v] } (h.now ++ [.str t])
      dsimp only at e5 ⊢
      rw [e5]
      simp
    obtain ⟨r, ro, c, e5⟩ := emit_like es { h with room := h.room - 1, rows := h.rows ++ [rHeard x t v] }
    rw [e3, e2, e5]
    exact ⟨rfl, fun z => nomatch z⟩
/-! the hall of k09 -/
def hrX : A := .tup [.str "x", .str "a", .int 5, .str "always", aAny, .tup [.tup [.str "tell", .str "b", .int 1]]]
def hrY (d : Bool) : A := .tup [.str "y", .str "b", .int 5, .str "always", aAny, .tup (if d = true then [.tup [.str "tell", .str "c", .int 2]] else [])]
def hrZ : A := .tup [.str "z", .str "c", .int 5, .str "always", aAny, .tup []]
def ppl (m f : Nat) (d : Bool) : List A := List.replicate m hrX ++ (List.replicate f (hrY d) ++ [hrZ])
def evZ (m f : Nat) (v : Int) : List A := [rHeard ((m + f : Nat) : Int) "c" v]
def evY (m f : Nat) (d : Bool) (v x : Int) : List A := rHeard x "b" v :: (if d = true then evZ m f ((v + 2) % 10000) else [])
def nmA (m : Nat) : List Int := rngI m
def nmB (m f : Nat) : List Int := (rngI f).map fun j => (m : Int) + j
def evX (m f : Nat) (d : Bool) (v x : Int) : List A := rHeard x "a" v :: (nmB m f).flatMap (evY m f d ((v + 1) % 10000))
def due9 (m f : Nat) (d : Bool) (v : Int) : List A := (nmA m).flatMap (evX m f d v)
theorem rng_parts (m f : Nat) : rngI (m + (f + 1)) = nmA m ++ (nmB m f ++ [((m + f : Nat) : Int)]) := by
  unfold nmA nmB rngI
  rw [List.range_add, List.range_succ]
  simp
theorem ppl_len {m f : Nat} {d : Bool} : (ppl m f d).length = m + (f + 1) := by
  unfold ppl
  simp
theorem pAtX {h : Ha} {m f : Nat} {d : Bool} (hp : h.people = ppl m f d) {x : Int} (hx : x ∈ nmA m) : pAt h x = hrX := by
  obtain ⟨k, hk, rfl⟩ := List.mem_map.mp hx
  have hk : k < m := List.mem_range.mp hk
  unfold pAt
  rw [hp]
  unfold ppl
  show List.getD _ k A.non = _
  rw [List.getD_eq_getElem?_getD, List.getElem?_append_left (by rw [List.length_replicate]; exact hk), List.getElem?_replicate, if_pos hk]
  rfl
theorem pAtY {h : Ha} {m f : Nat} {d : Bool} (hp : h.people = ppl m f d) {x : Int} (hx : x ∈ nmB m f) : pAt h x = hrY d := by
  obtain ⟨y, hy, rfl⟩ := List.mem_map.mp hx
  obtain ⟨k, hk, rfl⟩ := List.mem_map.mp hy
  have hk : k < f := List.mem_range.mp hk
  have e : ((m : Int) + (k : Int)).toNat = m + k := by omega
  unfold pAt
  rw [hp, e]
  unfold ppl
  rw [List.getD_eq_getElem?_getD, List.getElem?_append_right (by rw [List.length_replicate]; omega), List.length_replicate, show m + k - m = k by omega, List.getElem?_append_left (by rw [List.length_replicate]; exact hk), List.getElem?_replicate, if_pos hk]
  rfl
theorem pAtZ {h : Ha} {m f : Nat} {d : Bool} (hp : h.people = ppl m f d) : pAt h ((m + f : Nat) : Int) = hrZ := by
  unfold pAt
  rw [hp, Int.toNat_natCast]
  unfold ppl
  rw [List.getD_eq_getElem?_getD, List.getElem?_append_right (by rw [List.length_replicate]; omega), List.length_replicate, show m + f - m = f by omega, List.getElem?_append_right (by rw [List.length_replicate]; omega), List.length_replicate, show f - f = 0 by omega]
  rfl
theorem gone_nil {h : Ha} (hg : h.gone = []) (x : Int) : goneB h x = false := by
  unfold goneB
  rw [hg]
  rfl
theorem there_parts {h : Ha} {m f : Nat} {d : Bool} (hp : h.people = ppl m f d) (hg : h.gone = []) (t : Str) : thereH h (fun a => decide (tpA a = t)) = (if t = "a" then nmA m else []) ++ ((if t = "b" then nmB m f else []) ++ (if t = "c" then [((m + f : Nat) : Int)] else [])) := by
  unfold thereH
  rw [show h.people.length = m + (f + 1) by rw [hp, ppl_len], rng_parts, List.filter_append, List.filter_append]
  congr 1
  · have : ∀ x ∈ nmA m, (!goneB h x && decide (tpA (pAt h x) = t)) = decide (t = "a") := fun x hx => by
      rw [gone_nil hg, pAtX hp hx]
      show (true && decide (("a" : Str) = t)) = _
      rw [Bool.true_and]
      exact decide_eq_decide.mpr eq_comm
    rw [List.filter_congr this]
    by_cases ht : t = "a" <;> simp [ht]
  congr 1
  · have : ∀ x ∈ nmB m f, (!goneB h x && decide (tpA (pAt h x) = t)) = decide (t = "b") := fun x hx => by
      rw [gone_nil hg, pAtY hp hx]
      show (true && decide (("b" : Str) = t)) = _
      rw [Bool.true_and]
      exact decide_eq_decide.mpr eq_comm
    rw [List.filter_congr this]
    by_cases ht : t = "b" <;> simp [ht]
  · have : (!goneB h ((m + f : Nat) : Int) && decide (tpA (pAt h ((m + f : Nat) : Int)) = t)) = decide (t = "c") := by
      rw [gone_nil hg, pAtZ hp]
      show (true && decide (("c" : Str) = t)) = _
      rw [Bool.true_and]
      exact decide_eq_decide.mpr eq_comm
    rw [List.filter_cons, this]
    by_cases ht : t = "c" <;> simp [ht]
end Sx

set_option Elab.async false
set_option linter.all false
set_option maxRecDepth 100000
set_option maxHeartbeats 1000000
namespace Sx
open PySem PySem.Spec PyProof.Rows L2
theorem rk_of {h : Ha} {x r : Int} {o t : Str} {w ts ds : A} (h0 : 0 ≤ x) (h1 : x < (h.people.length : Int)) (e : pAt h x = .tup [.str o, .str t, .int r, w, ts, ds]) : rkOf h.people 2 x = r := by
  have ha : L2.atI h.people x = some (pAt h x) := atI_getD A.non h0 h1
  unfold rkOf rkAt
  rw [ha, e]
  simp only [at2]
  rfl
theorem ord_flat {ps : List A} {r : Int} {l : List Int} (hr : ∀ x ∈ l, rkOf ps 2 x = r) (hl : l.Pairwise (· ≤ ·)) : ordA ps 2 l = l := by
  unfold ordA
  refine List.mergeSort_of_pairwise (hl.imp_of_mem fun {a b} ha hb hab => ?_)
  unfold leK
  rw [hr a ha, hr b hb]
  simp [hab]
theorem rngI_sorted (n : Nat) : (rngI n).Pairwise (· ≤ ·) := by
  unfold rngI
  rw [List.pairwise_map]
  exact (List.pairwise_lt_range).imp fun h => by omega
theorem nmB_sorted (m f : Nat) : (nmB m f).Pairwise (· ≤ ·) := by
  unfold nmB
  rw [List.pairwise_map]
  exact (rngI_sorted f).imp fun h => by omega
theorem mem_nmA {m : Nat} {x : Int} (h : x ∈ nmA m) : 0 ≤ x ∧ x < m := by
  obtain ⟨k, hk, rfl⟩ := List.mem_map.mp h
  have := List.mem_range.mp hk
  omega
theorem mem_nmB {m f : Nat} {x : Int} (h : x ∈ nmB m f) : 0 ≤ x ∧ x < (m : Int) + f := by
  obtain ⟨y, hy, rfl⟩ := List.mem_map.mp h
  obtain ⟨k, hk, rfl⟩ := List.mem_map.mp hy
  have := List.mem_range.mp hk
  omega
section
variable {h : Ha} {m f : Nat} {d : Bool}
theorem order_a (hp : h.people = ppl m f d) (hg : h.gone = []) : orderH h "a" = nmA m := by
  unfold orderH
  rw [there_parts hp hg, if_pos rfl, if_neg (by decide), if_neg (by decide), List.append_nil, List.append_nil]
  refine ord_flat (r := 5) (fun x hx => ?_) (rngI_sorted m)
  obtain ⟨h0, h1⟩ := mem_nmA hx
  exact rk_of h0 (by rw [hp, ppl_len]; omega) (pAtX hp hx)
theorem order_b (hp : h.people = ppl m f d) (hg : h.gone = []) : orderH h "b" = nmB m f := by
  unfold orderH
  rw [there_parts hp hg, if_neg (by decide), if_pos rfl, if_neg (by decide), List.append_nil, List.nil_append]
  refine ord_flat (r := 5) (fun x hx => ?_) (nmB_sorted m f)
  obtain ⟨h0, h1⟩ := mem_nmB hx
  exact rk_of h0 (by rw [hp, ppl_len]; omega) (pAtY hp hx)
theorem order_c (hp : h.people = ppl m f d) (hg : h.gone = []) : orderH h "c" = [((m + f : Nat) : Int)] := by
  unfold orderH
  rw [there_parts hp hg, if_neg (by decide), if_neg (by decide), if_pos rfl, List.nil_append, List.nil_append]
  exact ord_one
structure Lk (ps : List A) (nw : List A) (h : Ha) : Prop where
  people : h.people = ps
  gone : h.gone = []
  kept : h.kept = .tup []
  now : h.now = nw
theorem lk_with {ps nw : List A} (h : Ha) (r : Int) (ro : List A) (c : Bool) (l : Lk ps nw h) : Lk ps nw { h with room := r, rows := ro, cut := c } := ⟨l.people, l.gone, l.kept, l.now⟩
theorem told_nil {h : Ha} {t : Str} {v : Int} (hk : h.kept = .tup []) : toldL h t v = h := by
  unfold toldL keptL
  rw [hk]
  rfl
theorem fit_any {v : Int} : fitT aAny v = true := rfl
theorem sprC9 {n : Nat} {nw : List A} {v : Int} (l : Lk (ppl m f d) nw h) (hn : inL "c" nw = false) : spreadW (hearH (n + 1)) h "c" v = emit (evZ m f v) h := by
  unfold spreadW
  rw [l.now, hn, told_nil l.kept, order_c l.people l.gone]
  rw [if_neg Bool.false_ne_true]
  rw [sp_emit (ev := fun x => [rHeard x "c" v]) (Lk (ppl m f d) nw) lk_with _ h (fun g x lg hx hc => ?_) l]
  · rfl
  · simp only [List.mem_singleton] at hx
    subst hx
    have e := pAtZ lg.people
    exact ⟨gone_nil lg.gone _, by rw [e]; rfl, hear_one (o := "z") (t := "c") (w := "always") hc e (by decide)⟩
theorem sprB9 {n : Nat} {nw : List A} {v : Int} (l : Lk (ppl m f d) nw h) (hn : inL "b" nw = false) (hn2 : inL "c" (nw ++ [.str "b"]) = false) : spreadW (hearH (n + 2)) h "b" v = emit ((nmB m f).flatMap (evY m f d v)) h := by
  unfold spreadW
  rw [l.now, hn, told_nil l.kept, order_b l.people l.gone]
  rw [if_neg Bool.false_ne_true]
  refine sp_emit (ev := evY m f d v) (Lk (ppl m f d) nw) lk_with _ h (fun g x lg hx hc => ?_) l
  have e := pAtY lg.people hx
  refine ⟨gone_nil lg.gone _, by rw [e]; rfl, ?_⟩
  cases d with
  | false => exact hear_one (o := "y") (t := "b") (w := "always") hc e (by decide)
  | true =>
    refine hear_tell (o := "y") (t := "b") (w := "always") hc e (by decide) (sprC9 ⟨lg.people, lg.gone, lg.kept, ?_⟩ hn2)
    show g.now ++ _ = _
    rw [lg.now]
theorem sprA9 {n : Nat} {v : Int} (l : Lk (ppl m f d) [] h) : spreadW (hearH (n + 3)) h "a" v = emit (due9 m f d v) h := by
  unfold spreadW
  rw [l.now, told_nil l.kept, order_a l.people l.gone]
  rw [if_neg (show ¬ inL "a" [] = true from Bool.false_ne_true)]
  refine sp_emit (ev := evX m f d v) (Lk (ppl m f d) []) lk_with _ h (fun g x lg hx hc => ?_) l
  have e := pAtX lg.people hx
  refine ⟨gone_nil lg.gone _, by rw [e]; rfl, ?_⟩
  refine hear_tell (o := "x") (t := "a") (w := "always") hc e (by decide) (sprB9 (nw := [.str "a"]) ⟨lg.people, lg.gone, lg.kept, ?_⟩ (by decide +kernel) (by decide +kernel))
  show g.now ++ _ = _
  rw [lg.now]
  rfl
def cut9 (l : List A) : List A := if 100 < l.length then l.take 100 ++ [rCut] else l
/-- a is told in this hall -/
theorem tell9 {v : Int} (l : Lk (ppl m f d) [] h) : (tellH h "a" v).rows = h.rows ++ cut9 (due9 m f d v) ∧ Lk (ppl m f d) [] (tellH h "a" v) := by
  have lb : Lk (ppl m f d) [] h.begin := ⟨l.people, l.gone, l.kept, l.now⟩
  have e : tellH h "a" v = emit (due9 m f d v) h.begin := sprA9 (n := 97) lb
  rw [e]
  refine ⟨emit_rows (due9 m f d v) h.begin 100 rfl rfl, ?_⟩
  obtain ⟨r, ro, c, e2⟩ := emit_like (due9 m f d v) h.begin
  rw [e2]
  exact lk_with _ _ _ _ lb
end
theorem enter9 {h : Ha} {p : A} (hl : h.lasts = []) : enterH h p = { h with people := h.people ++ [p], room := 100, cut := false } := by
  unfold enterH comeW lastI Ha.begin
  rw [hl]
  rfl
end Sx

set_option Elab.async false
set_option linter.all false
set_option maxRecDepth 100000
set_option maxHeartbeats 0
namespace Hd
open PySem PySem.Spec PyProof.Rows L2
def top (i : Nat) : Stmt := PySem.Challenge.pw_hearlines_k09_cut.main.body.getD i (.Pass ⟨0, 0, 0, 0⟩)
def mkD (c : Str) (m : Option Str) (nm ql : Str) (st : Stmt) : He.DefD := ⟨(c, m), nm, ql, defArgs st, defBody st, defScope st, [], []⟩
abbrev s__wall : Stmt := top 0
def d__wall : He.DefD := mkD "_wall" none "_wall" "_wall" s__wall
abbrev s_is_within : Stmt := top 12
def d_is_within : He.DefD := mkD "is_within" none "is_within" "is_within" s_is_within
abbrev s_is_word : Stmt := top 13
def d_is_word : He.DefD := mkD "is_word" none "is_word" "is_word" s_is_word
abbrev s_is_value : Stmt := top 14
def d_is_value : He.DefD := mkD "is_value" none "is_value" "is_value" s_is_value
abbrev s_is_test : Stmt := top 15
def d_is_test : He.DefD := mkD "is_test" none "is_test" "is_test" s_is_test
abbrev s_is_deed : Stmt := top 16
def d_is_deed : He.DefD := mkD "is_deed" none "is_deed" "is_deed" s_is_deed
abbrev s_is_hearer_so : Stmt := top 17
def d_is_hearer_so : He.DefD := mkD "is_hearer_so" none "is_hearer_so" "is_hearer_so" s_is_hearer_so
abbrev s_is_hearer : Stmt := top 18
def d_is_hearer : He.DefD := mkD "is_hearer" none "is_hearer" "is_hearer" s_is_hearer
abbrev s_checked : Stmt := top 19
def d_checked : He.DefD := mkD "checked" none "checked" "checked" s_checked
abbrev s_look_topic : Stmt := top 20
def d_look_topic : He.DefD := mkD "look_topic" none "look_topic" "look_topic" s_look_topic
abbrev s_look_value : Stmt := top 21
def d_look_value : He.DefD := mkD "look_value" none "look_value" "look_value" s_look_value
abbrev s_is_fit : Stmt := top 22
def d_is_fit : He.DefD := mkD "is_fit" none "is_fit" "is_fit" s_is_fit
abbrev s_look_kept : Stmt := top 24
def d_look_kept : He.DefD := mkD "look_kept" none "look_kept" "look_kept" s_look_kept
abbrev s_Hall___init__ : Stmt := inClass (top 27) 0
def d_Hall___init__ : He.DefD := mkD "Hall" (some "__init__") "__init__" "Hall.__init__" s_Hall___init__
abbrev s_Hall_order : Stmt := inClass (top 27) 1
def d_Hall_order : He.DefD := mkD "Hall" (some "order") "order" "Hall.order" s_Hall_order
abbrev s_Hall_begin : Stmt := inClass (top 27) 2
def d_Hall_begin : He.DefD := mkD "Hall" (some "begin") "begin" "Hall.begin" s_Hall_begin
abbrev s_Hall_hear : Stmt := inClass (top 27) 3
def d_Hall_hear : He.DefD := mkD "Hall" (some "hear") "hear" "Hall.hear" s_Hall_hear
abbrev s_Hall_do : Stmt := inClass (top 27) 4
def d_Hall_do : He.DefD := mkD "Hall" (some "do") "do" "Hall.do" s_Hall_do
abbrev s_Hall_spread : Stmt := inClass (top 27) 5
def d_Hall_spread : He.DefD := mkD "Hall" (some "spread") "spread" "Hall.spread" s_Hall_spread
abbrev s_Hall_come : Stmt := inClass (top 27) 6
def d_Hall_come : He.DefD := mkD "Hall" (some "come") "come" "Hall.come" s_Hall_come
abbrev s_Hall_drop_all : Stmt := inClass (top 27) 7
def d_Hall_drop_all : He.DefD := mkD "Hall" (some "drop_all") "drop_all" "Hall.drop_all" s_Hall_drop_all
abbrev s_Hall_tell : Stmt := inClass (top 27) 8
def d_Hall_tell : He.DefD := mkD "Hall" (some "tell") "tell" "Hall.tell" s_Hall_tell
abbrev s_Hall_enter : Stmt := inClass (top 27) 9
def d_Hall_enter : He.DefD := mkD "Hall" (some "enter") "enter" "Hall.enter" s_Hall_enter
abbrev s_Hall_leave : Stmt := inClass (top 27) 10
def d_Hall_leave : He.DefD := mkD "Hall" (some "leave") "leave" "Hall.leave" s_Hall_leave
abbrev s_Hall_journal : Stmt := inClass (top 27) 11
def d_Hall_journal : He.DefD := mkD "Hall" (some "journal") "journal" "Hall.journal" s_Hall_journal
abbrev s_Hall_hearers : Stmt := inClass (top 27) 12
def d_Hall_hearers : He.DefD := mkD "Hall" (some "hearers") "hearers" "Hall.hearers" s_Hall_hearers
abbrev s_Hall_last : Stmt := inClass (top 27) 13
def d_Hall_last : He.DefD := mkD "Hall" (some "last") "last" "Hall.last" s_Hall_last
abbrev s_Hall_look_number : Stmt := inClass (top 27) 14
def d_Hall_look_number : He.DefD := mkD "Hall" (some "look_number") "look_number" "Hall.look_number" s_Hall_look_number
abbrev s_Hall_hearer : Stmt := inClass (top 27) 15
def d_Hall_hearer : He.DefD := mkD "Hall" (some "hearer") "hearer" "Hall.hearer" s_Hall_hearer
abbrev s_Hall_is_there : Stmt := inClass (top 27) 16
def d_Hall_is_there : He.DefD := mkD "Hall" (some "is_there") "is_there" "Hall.is_there" s_Hall_is_there
abbrev s__law_cell : Stmt := top 29
def d__law_cell : He.DefD := mkD "_law_cell" none "_law_cell" "_law_cell" s__law_cell
abbrev s_law : Stmt := top 30
def d_law : He.DefD := mkD "law" none "law" "law" s_law
def fn : List He.DefD := [d__wall, d_is_within, d_is_word, d_is_value, d_is_test, d_is_deed, d_is_hearer_so, d_is_hearer, d_checked, d_look_topic, d_look_value, d_is_fit, d_look_kept, d_Hall___init__, d_Hall_order, d_Hall_begin, d_Hall_hear, d_Hall_do, d_Hall_spread, d_Hall_come, d_Hall_drop_all, d_Hall_tell, d_Hall_enter, d_Hall_leave, d_Hall_journal, d_Hall_hearers, d_Hall_last, d_Hall_look_number, d_Hall_hearer, d_Hall_is_there, d__law_cell, d_law]
def fa : List He.Fa := [
  .glo "_wall",
  .glo "is_within",
  .glo "is_word",
  .glo "is_value",
  .glo "is_test",
  .glo "is_deed",
  .glo "is_hearer_so",
  .glo "is_hearer",
  .glo "checked",
  .glo "look_topic",
  .glo "look_value",
  .glo "is_fit",
  .glo "look_kept",
  .glo "_law_cell",
  .glo "law",
  .glo "HallError",
  .exc "HallError",
  .glo "BadTopic",
  .exc "BadTopic",
  .glo "BadValue",
  .exc "BadValue",
  .glo "BadHearer",
  .exc "BadHearer",
  .exm "HallError" "HallError" true,
  .exm "HallError" "BadTopic" false,
  .exm "HallError" "BadValue" false,
  .exm "HallError" "BadHearer" false,
  .exm "BadTopic" "HallError" true,
  .exm "BadTopic" "BadTopic" true,
  .exm "BadTopic" "BadValue" false,
  .exm "BadTopic" "BadHearer" false,
  .exm "BadValue" "HallError" true,
  .exm "BadValue" "BadTopic" false,
  .exm "BadValue" "BadValue" true,
  .exm "BadValue" "BadHearer" false,
  .exm "BadHearer" "HallError" true,
  .exm "BadHearer" "BadTopic" false,
  .exm "BadHearer" "BadValue" false,
  .exm "BadHearer" "BadHearer" true,
  .str "SMALL" "abcdefghijklmnopqrstuvwxyz",
  .int "MOST_VALUE" 9999,
  .int "MOST_DEEDS" 3,
  .int "DEEPEST" 3,
  .glo "HOWS",
  .int "MOST_HEARD" 100,
  .free "isinstance",
  .free "len",
  .free "str",
  .free "int",
  .free "sorted",
  .free "range",
  .free "list",
  .free "tuple",
  .free "bool",
  .glo "Hall",
  .cls "Hall",
  .mkr "Hall",
  .meth "Hall" "__init__",
  .meth "Hall" "order",
  .meth "Hall" "begin",
  .meth "Hall" "hear",
  .meth "Hall" "do",
  .meth "Hall" "spread",
  .meth "Hall" "come",
  .meth "Hall" "drop_all",
  .meth "Hall" "tell",
  .meth "Hall" "enter",
  .meth "Hall" "leave",
  .meth "Hall" "journal",
  .meth "Hall" "hearers",
  .meth "Hall" "last",
  .meth "Hall" "look_number",
  .meth "Hall" "hearer",
  .meth "Hall" "is_there",
  .noat "Hall" "cut",
  .noat "Hall" "gone",
  .noat "Hall" "kept",
  .noat "Hall" "lasts",
  .noat "Hall" "now",
  .noat "Hall" "people",
  .noat "Hall" "room",
  .noat "Hall" "rows"]
abbrev R : PySem.W.OpenRow := PySem.W.OpenLaw.row PySem.Challenge.rw_hearlines_k09_cut
def tf : List He.Defn := [("Hall", some "order")]
def ex (K : PySem.W.Frag) : Bool := He.tupB K "HOWS" [.str "always", .str "once"]
abbrev hk : PySem.W.Hook := He.hookX 5 fa fn [] tf ex
def ob (s : PySem.W.SharedT) : He.AlX := He.obsX 5 fa fn [] tf ex (HandSHeadRun.getT s)
theorem ob_eq (s : PySem.W.SharedT) : ob s = hk.obs s.abs := He.obsX_eq (HandSHeadRun.getT_eq s)
def lo0 : List Str := ["_wall", "HallError", "BadTopic", "BadValue", "BadHearer", "SMALL", "MOST_VALUE", "MOST_DEEDS", "DEEPEST", "HOWS", "is_within", "is_word", "is_value", "is_test", "is_deed", "is_hearer_so", "is_hearer", "checked", "look_topic", "look_value", "is_fit", "look_kept", "MOST_HEARD", "Hall", "_law_cell"]
def lo : List Str := lo0
theorem run (w : World) : HandSHeadRun.RunEq R (PySem.W.view R.prog [30]) hk ob 12000 lo w := by
  intro os
  kernel_rfl
/-- what the top has left, by names -/
structure Tx (K : PySem.W.Frag) (mg : Str → Option Value) where
  n_isinstance : mg "isinstance" = none
  n_len : mg "len" = none
  n_str : mg "str" = none
  n_int : mg "int" = none
  n_sorted : mg "sorted" = none
  n_range : mg "range" = none
  n_list : mg "list" = none
  n_tuple : mg "tuple" = none
  n_bool : mg "bool" = none
  m_SMALL : ∃ t, mg "SMALL" = some (.str "abcdefghijklmnopqrstuvwxyz" t)
  m_MOST_VALUE : ∃ t, mg "MOST_VALUE" = some (.int 9999 t)
  m_MOST_DEEDS : ∃ t, mg "MOST_DEEDS" = some (.int 3 t)
  m_DEEPEST : ∃ t, mg "DEEPEST" = some (.int 3 t)
  m_HOWS : mg "HOWS" = some (.ref (He.ga K "HOWS"))
  r_HOWS : ∀ H, SqT K H (He.ga K "HOWS") [.str "always", .str "once"]
  m_MOST_HEARD : ∃ t, mg "MOST_HEARD" = some (.int 100 t)
  m_HallError : mg "HallError" = some (.ref (He.ga K "HallError"))
  x_HallError : PySem.W.excIn K (He.ga K "HallError") He.veBase "ValueError.__new__" = true ∧ PySem.W.keepIn K (.ref (He.ga K "HallError")) = true ∧ PySem.W.subIn K (.ref (He.ga K "HallError")) (.type "BaseException") = some true ∧ PySem.W.typeIn K (.ref (He.ga K "HallError")) = some (.type "type")
  m_BadTopic : mg "BadTopic" = some (.ref (He.ga K "BadTopic"))
  x_BadTopic : PySem.W.excIn K (He.ga K "BadTopic") He.veBase "ValueError.__new__" = true ∧ PySem.W.keepIn K (.ref (He.ga K "BadTopic")) = true ∧ PySem.W.subIn K (.ref (He.ga K "BadTopic")) (.type "BaseException") = some true ∧ PySem.W.typeIn K (.ref (He.ga K "BadTopic")) = some (.type "type")
  m_BadValue : mg "BadValue" = some (.ref (He.ga K "BadValue"))
  x_BadValue : PySem.W.excIn K (He.ga K "BadValue") He.veBase "ValueError.__new__" = true ∧ PySem.W.keepIn K (.ref (He.ga K "BadValue")) = true ∧ PySem.W.subIn K (.ref (He.ga K "BadValue")) (.type "BaseException") = some true ∧ PySem.W.typeIn K (.ref (He.ga K "BadValue")) = some (.type "type")
  m_BadHearer : mg "BadHearer" = some (.ref (He.ga K "BadHearer"))
  x_BadHearer : PySem.W.excIn K (He.ga K "BadHearer") He.veBase "ValueError.__new__" = true ∧ PySem.W.keepIn K (.ref (He.ga K "BadHearer")) = true ∧ PySem.W.subIn K (.ref (He.ga K "BadHearer")) (.type "BaseException") = some true ∧ PySem.W.typeIn K (.ref (He.ga K "BadHearer")) = some (.type "type")
  e_HallError_HallError : PySem.W.exmOne K (.ref (He.ga K "HallError")) (.ref (He.ga K "HallError")) = some true
  e_HallError_BadTopic : PySem.W.exmOne K (.ref (He.ga K "HallError")) (.ref (He.ga K "BadTopic")) = some false
  e_HallError_BadValue : PySem.W.exmOne K (.ref (He.ga K "HallError")) (.ref (He.ga K "BadValue")) = some false
  e_HallError_BadHearer : PySem.W.exmOne K (.ref (He.ga K "HallError")) (.ref (He.ga K "BadHearer")) = some false
  e_BadTopic_HallError : PySem.W.exmOne K (.ref (He.ga K "BadTopic")) (.ref (He.ga K "HallError")) = some true
  e_BadTopic_BadTopic : PySem.W.exmOne K (.ref (He.ga K "BadTopic")) (.ref (He.ga K "BadTopic")) = some true
  e_BadTopic_BadValue : PySem.W.exmOne K (.ref (He.ga K "BadTopic")) (.ref (He.ga K "BadValue")) = some false
  e_BadTopic_BadHearer : PySem.W.exmOne K (.ref (He.ga K "BadTopic")) (.ref (He.ga K "BadHearer")) = some false
  e_BadValue_HallError : PySem.W.exmOne K (.ref (He.ga K "BadValue")) (.ref (He.ga K "HallError")) = some true
  e_BadValue_BadTopic : PySem.W.exmOne K (.ref (He.ga K "BadValue")) (.ref (He.ga K "BadTopic")) = some false
  e_BadValue_BadValue : PySem.W.exmOne K (.ref (He.ga K "BadValue")) (.ref (He.ga K "BadValue")) = some true
  e_BadValue_BadHearer : PySem.W.exmOne K (.ref (He.ga K "BadValue")) (.ref (He.ga K "BadHearer")) = some false
  e_BadHearer_HallError : PySem.W.exmOne K (.ref (He.ga K "BadHearer")) (.ref (He.ga K "HallError")) = some true
  e_BadHearer_BadTopic : PySem.W.exmOne K (.ref (He.ga K "BadHearer")) (.ref (He.ga K "BadTopic")) = some false
  e_BadHearer_BadValue : PySem.W.exmOne K (.ref (He.ga K "BadHearer")) (.ref (He.ga K "BadValue")) = some false
  e_BadHearer_BadHearer : PySem.W.exmOne K (.ref (He.ga K "BadHearer")) (.ref (He.ga K "BadHearer")) = some true
  m_Hall : mg "Hall" = some (.ref (He.ga K "Hall"))
  c_Hall : Cls K (He.ga K "Hall")
  k_Hall : Mk K (He.ga K "Hall") (He.ma K (He.ga K "Hall") "__init__")
  a_Hall_cut : NoAttr K (He.ga K "Hall") "cut"
  a_Hall_gone : NoAttr K (He.ga K "Hall") "gone"
  a_Hall_kept : NoAttr K (He.ga K "Hall") "kept"
  a_Hall_lasts : NoAttr K (He.ga K "Hall") "lasts"
  a_Hall_now : NoAttr K (He.ga K "Hall") "now"
  a_Hall_people : NoAttr K (He.ga K "Hall") "people"
  a_Hall_room : NoAttr K (He.ga K "Hall") "room"
  a_Hall_rows : NoAttr K (He.ga K "Hall") "rows"
  t_Hall___init__ : Meth K (He.ga K "Hall") "__init__" (He.ma K (He.ga K "Hall") "__init__")
  t_Hall_order : Meth K (He.ga K "Hall") "order" (He.ma K (He.ga K "Hall") "order")
  t_Hall_begin : Meth K (He.ga K "Hall") "begin" (He.ma K (He.ga K "Hall") "begin")
  t_Hall_hear : Meth K (He.ga K "Hall") "hear" (He.ma K (He.ga K "Hall") "hear")
  t_Hall_do : Meth K (He.ga K "Hall") "do" (He.ma K (He.ga K "Hall") "do")
  t_Hall_spread : Meth K (He.ga K "Hall") "spread" (He.ma K (He.ga K "Hall") "spread")
  t_Hall_come : Meth K (He.ga K "Hall") "come" (He.ma K (He.ga K "Hall") "come")
  t_Hall_drop_all : Meth K (He.ga K "Hall") "drop_all" (He.ma K (He.ga K "Hall") "drop_all")
  t_Hall_tell : Meth K (He.ga K "Hall") "tell" (He.ma K (He.ga K "Hall") "tell")
  t_Hall_enter : Meth K (He.ga K "Hall") "enter" (He.ma K (He.ga K "Hall") "enter")
  t_Hall_leave : Meth K (He.ga K "Hall") "leave" (He.ma K (He.ga K "Hall") "leave")
  t_Hall_journal : Meth K (He.ga K "Hall") "journal" (He.ma K (He.ga K "Hall") "journal")
  t_Hall_hearers : Meth K (He.ga K "Hall") "hearers" (He.ma K (He.ga K "Hall") "hearers")
  t_Hall_last : Meth K (He.ga K "Hall") "last" (He.ma K (He.ga K "Hall") "last")
  t_Hall_look_number : Meth K (He.ga K "Hall") "look_number" (He.ma K (He.ga K "Hall") "look_number")
  t_Hall_hearer : Meth K (He.ga K "Hall") "hearer" (He.ma K (He.ga K "Hall") "hearer")
  t_Hall_is_there : Meth K (He.ga K "Hall") "is_there" (He.ma K (He.ga K "Hall") "is_there")
  f__wall : FuncData
  D__wall : FunD K "_wall" "_wall" (defArgs s__wall) (defBody s__wall) (defScope s__wall) [] [] (He.ga K "_wall") f__wall
  m__wall : mg "_wall" = some (.ref (He.ga K "_wall"))
  f_is_within : FuncData
  D_is_within : FunD K "is_within" "is_within" (defArgs s_is_within) (defBody s_is_within) (defScope s_is_within) [] [] (He.ga K "is_within") f_is_within
  m_is_within : mg "is_within" = some (.ref (He.ga K "is_within"))
  f_is_word : FuncData
  D_is_word : FunD K "is_word" "is_word" (defArgs s_is_word) (defBody s_is_word) (defScope s_is_word) [] [] (He.ga K "is_word") f_is_word
  m_is_word : mg "is_word" = some (.ref (He.ga K "is_word"))
  f_is_value : FuncData
  D_is_value : FunD K "is_value" "is_value" (defArgs s_is_value) (defBody s_is_value) (defScope s_is_value) [] [] (He.ga K "is_value") f_is_value
  m_is_value : mg "is_value" = some (.ref (He.ga K "is_value"))
  f_is_test : FuncData
  D_is_test : FunD K "is_test" "is_test" (defArgs s_is_test) (defBody s_is_test) (defScope s_is_test) [] [] (He.ga K "is_test") f_is_test
  m_is_test : mg "is_test" = some (.ref (He.ga K "is_test"))
  f_is_deed : FuncData
  D_is_deed : FunD K "is_deed" "is_deed" (defArgs s_is_deed) (defBody s_is_deed) (defScope s_is_deed) [] [] (He.ga K "is_deed") f_is_deed
  m_is_deed : mg "is_deed" = some (.ref (He.ga K "is_deed"))
  f_is_hearer_so : FuncData
  D_is_hearer_so : FunD K "is_hearer_so" "is_hearer_so" (defArgs s_is_hearer_so) (defBody s_is_hearer_so) (defScope s_is_hearer_so) [] [] (He.ga K "is_hearer_so") f_is_hearer_so
  m_is_hearer_so : mg "is_hearer_so" = some (.ref (He.ga K "is_hearer_so"))
  f_is_hearer : FuncData
  D_is_hearer : FunD K "is_hearer" "is_hearer" (defArgs s_is_hearer) (defBody s_is_hearer) (defScope s_is_hearer) [] [] (He.ga K "is_hearer") f_is_hearer
  m_is_hearer : mg "is_hearer" = some (.ref (He.ga K "is_hearer"))
  f_checked : FuncData
  D_checked : FunD K "checked" "checked" (defArgs s_checked) (defBody s_checked) (defScope s_checked) [] [] (He.ga K "checked") f_checked
  m_checked : mg "checked" = some (.ref (He.ga K "checked"))
  f_look_topic : FuncData
  D_look_topic : FunD K "look_topic" "look_topic" (defArgs s_look_topic) (defBody s_look_topic) (defScope s_look_topic) [] [] (He.ga K "look_topic") f_look_topic
  m_look_topic : mg "look_topic" = some (.ref (He.ga K "look_topic"))
  f_look_value : FuncData
  D_look_value : FunD K "look_value" "look_value" (defArgs s_look_value) (defBody s_look_value) (defScope s_look_value) [] [] (He.ga K "look_value") f_look_value
  m_look_value : mg "look_value" = some (.ref (He.ga K "look_value"))
  f_is_fit : FuncData
  D_is_fit : FunD K "is_fit" "is_fit" (defArgs s_is_fit) (defBody s_is_fit) (defScope s_is_fit) [] [] (He.ga K "is_fit") f_is_fit
  m_is_fit : mg "is_fit" = some (.ref (He.ga K "is_fit"))
  f_look_kept : FuncData
  D_look_kept : FunD K "look_kept" "look_kept" (defArgs s_look_kept) (defBody s_look_kept) (defScope s_look_kept) [] [] (He.ga K "look_kept") f_look_kept
  m_look_kept : mg "look_kept" = some (.ref (He.ga K "look_kept"))
  f_Hall___init__ : FuncData
  D_Hall___init__ : FunD K "__init__" "Hall.__init__" (defArgs s_Hall___init__) (defBody s_Hall___init__) (defScope s_Hall___init__) [] [] (He.ma K (He.ga K "Hall") "__init__") f_Hall___init__
  f_Hall_order : FuncData
  D_Hall_order : FunD K "order" "Hall.order" (defArgs s_Hall_order) (defBody s_Hall_order) (defScope s_Hall_order) [] [] (He.ma K (He.ga K "Hall") "order") f_Hall_order
  f_Hall_begin : FuncData
  D_Hall_begin : FunD K "begin" "Hall.begin" (defArgs s_Hall_begin) (defBody s_Hall_begin) (defScope s_Hall_begin) [] [] (He.ma K (He.ga K "Hall") "begin") f_Hall_begin
  f_Hall_hear : FuncData
  D_Hall_hear : FunD K "hear" "Hall.hear" (defArgs s_Hall_hear) (defBody s_Hall_hear) (defScope s_Hall_hear) [] [] (He.ma K (He.ga K "Hall") "hear") f_Hall_hear
  f_Hall_do : FuncData
  D_Hall_do : FunD K "do" "Hall.do" (defArgs s_Hall_do) (defBody s_Hall_do) (defScope s_Hall_do) [] [] (He.ma K (He.ga K "Hall") "do") f_Hall_do
  f_Hall_spread : FuncData
  D_Hall_spread : FunD K "spread" "Hall.spread" (defArgs s_Hall_spread) (defBody s_Hall_spread) (defScope s_Hall_spread) [] [] (He.ma K (He.ga K "Hall") "spread") f_Hall_spread
  f_Hall_come : FuncData
  D_Hall_come : FunD K "come" "Hall.come" (defArgs s_Hall_come) (defBody s_Hall_come) (defScope s_Hall_come) [] [] (He.ma K (He.ga K "Hall") "come") f_Hall_come
  f_Hall_drop_all : FuncData
  D_Hall_drop_all : FunD K "drop_all" "Hall.drop_all" (defArgs s_Hall_drop_all) (defBody s_Hall_drop_all) (defScope s_Hall_drop_all) [] [] (He.ma K (He.ga K "Hall") "drop_all") f_Hall_drop_all
  f_Hall_tell : FuncData
  D_Hall_tell : FunD K "tell" "Hall.tell" (defArgs s_Hall_tell) (defBody s_Hall_tell) (defScope s_Hall_tell) [] [] (He.ma K (He.ga K "Hall") "tell") f_Hall_tell
  f_Hall_enter : FuncData
  D_Hall_enter : FunD K "enter" "Hall.enter" (defArgs s_Hall_enter) (defBody s_Hall_enter) (defScope s_Hall_enter) [] [] (He.ma K (He.ga K "Hall") "enter") f_Hall_enter
  f_Hall_leave : FuncData
  D_Hall_leave : FunD K "leave" "Hall.leave" (defArgs s_Hall_leave) (defBody s_Hall_leave) (defScope s_Hall_leave) [] [] (He.ma K (He.ga K "Hall") "leave") f_Hall_leave
  f_Hall_journal : FuncData
  D_Hall_journal : FunD K "journal" "Hall.journal" (defArgs s_Hall_journal) (defBody s_Hall_journal) (defScope s_Hall_journal) [] [] (He.ma K (He.ga K "Hall") "journal") f_Hall_journal
  f_Hall_hearers : FuncData
  D_Hall_hearers : FunD K "hearers" "Hall.hearers" (defArgs s_Hall_hearers) (defBody s_Hall_hearers) (defScope s_Hall_hearers) [] [] (He.ma K (He.ga K "Hall") "hearers") f_Hall_hearers
  f_Hall_last : FuncData
  D_Hall_last : FunD K "last" "Hall.last" (defArgs s_Hall_last) (defBody s_Hall_last) (defScope s_Hall_last) [] [] (He.ma K (He.ga K "Hall") "last") f_Hall_last
  f_Hall_look_number : FuncData
  D_Hall_look_number : FunD K "look_number" "Hall.look_number" (defArgs s_Hall_look_number) (defBody s_Hall_look_number) (defScope s_Hall_look_number) [] [] (He.ma K (He.ga K "Hall") "look_number") f_Hall_look_number
  f_Hall_hearer : FuncData
  D_Hall_hearer : FunD K "hearer" "Hall.hearer" (defArgs s_Hall_hearer) (defBody s_Hall_hearer) (defScope s_Hall_hearer) [] [] (He.ma K (He.ga K "Hall") "hearer") f_Hall_hearer
  f_Hall_is_there : FuncData
  D_Hall_is_there : FunD K "is_there" "Hall.is_there" (defArgs s_Hall_is_there) (defBody s_Hall_is_there) (defScope s_Hall_is_there) [] [] (He.ma K (He.ga K "Hall") "is_there") f_Hall_is_there
  f__law_cell : FuncData
  D__law_cell : FunD K "_law_cell" "_law_cell" (defArgs s__law_cell) (defBody s__law_cell) (defScope s__law_cell) [] [] (He.ga K "_law_cell") f__law_cell
  m__law_cell : mg "_law_cell" = some (.ref (He.ga K "_law_cell"))
  f_law : FuncData
  D_law : FunD K "law" "law" (defArgs s_law) (defBody s_law) (defScope s_law) [] [] (He.ga K "law") f_law
  m_law : mg "law" = some (.ref (He.ga K "law"))
theorem tx_mk {w : World} {h : Heap} {K : PySem.W.Frag} {mg : Str → Option Value} (X : K.In h) (G : h.Ns mainGlobals mg) (c : He.SaysX fa fn [] tf ex w h K) : Nonempty (Tx K mg) := by
  obtain ⟨fd0, D0⟩ := c.t.d.def_ 0 (d := d__wall) rfl
  obtain ⟨fd1, D1⟩ := c.t.d.def_ 1 (d := d_is_within) rfl
  obtain ⟨fd2, D2⟩ := c.t.d.def_ 2 (d := d_is_word) rfl
  obtain ⟨fd3, D3⟩ := c.t.d.def_ 3 (d := d_is_value) rfl
  obtain ⟨fd4, D4⟩ := c.t.d.def_ 4 (d := d_is_test) rfl
  obtain ⟨fd5, D5⟩ := c.t.d.def_ 5 (d := d_is_deed) rfl
  obtain ⟨fd6, D6⟩ := c.t.d.def_ 6 (d := d_is_hearer_so) rfl
  obtain ⟨fd7, D7⟩ := c.t.d.def_ 7 (d := d_is_hearer) rfl
  obtain ⟨fd8, D8⟩ := c.t.d.def_ 8 (d := d_checked) rfl
  obtain ⟨fd9, D9⟩ := c.t.d.def_ 9 (d := d_look_topic) rfl
  obtain ⟨fd10, D10⟩ := c.t.d.def_ 10 (d := d_look_value) rfl
  obtain ⟨fd11, D11⟩ := c.t.d.def_ 11 (d := d_is_fit) rfl
  obtain ⟨fd12, D12⟩ := c.t.d.def_ 12 (d := d_look_kept) rfl
  obtain ⟨fd13, D13⟩ := c.t.d.def_ 13 (d := d_Hall___init__) rfl
  obtain ⟨fd14, D14⟩ := c.t.d.def_ 14 (d := d_Hall_order) rfl
  obtain ⟨fd15, D15⟩ := c.t.d.def_ 15 (d := d_Hall_begin) rfl
  obtain ⟨fd16, D16⟩ := c.t.d.def_ 16 (d := d_Hall_hear) rfl
  obtain ⟨fd17, D17⟩ := c.t.d.def_ 17 (d := d_Hall_do) rfl
  obtain ⟨fd18, D18⟩ := c.t.d.def_ 18 (d := d_Hall_spread) rfl
  obtain ⟨fd19, D19⟩ := c.t.d.def_ 19 (d := d_Hall_come) rfl
  obtain ⟨fd20, D20⟩ := c.t.d.def_ 20 (d := d_Hall_drop_all) rfl
  obtain ⟨fd21, D21⟩ := c.t.d.def_ 21 (d := d_Hall_tell) rfl
  obtain ⟨fd22, D22⟩ := c.t.d.def_ 22 (d := d_Hall_enter) rfl
  obtain ⟨fd23, D23⟩ := c.t.d.def_ 23 (d := d_Hall_leave) rfl
  obtain ⟨fd24, D24⟩ := c.t.d.def_ 24 (d := d_Hall_journal) rfl
  obtain ⟨fd25, D25⟩ := c.t.d.def_ 25 (d := d_Hall_hearers) rfl
  obtain ⟨fd26, D26⟩ := c.t.d.def_ 26 (d := d_Hall_last) rfl
  obtain ⟨fd27, D27⟩ := c.t.d.def_ 27 (d := d_Hall_look_number) rfl
  obtain ⟨fd28, D28⟩ := c.t.d.def_ 28 (d := d_Hall_hearer) rfl
  obtain ⟨fd29, D29⟩ := c.t.d.def_ 29 (d := d_Hall_is_there) rfl
  obtain ⟨fd30, D30⟩ := c.t.d.def_ 30 (d := d__law_cell) rfl
  obtain ⟨fd31, D31⟩ := c.t.d.def_ 31 (d := d_law) rfl
  exact ⟨⟨
    He.free_ok X G (c.t.d.fact 45 (f := .free "isinstance") rfl),
    He.free_ok X G (c.t.d.fact 46 (f := .free "len") rfl),
    He.free_ok X G (c.t.d.fact 47 (f := .free "str") rfl),
    He.free_ok X G (c.t.d.fact 48 (f := .free "int") rfl),
    He.free_ok X G (c.t.d.fact 49 (f := .free "sorted") rfl),
    He.free_ok X G (c.t.d.fact 50 (f := .free "range") rfl),
    He.free_ok X G (c.t.d.fact 51 (f := .free "list") rfl),
    He.free_ok X G (c.t.d.fact 52 (f := .free "tuple") rfl),
    He.free_ok X G (c.t.d.fact 53 (f := .free "bool") rfl),
    He.str_ok X G (c.t.d.fact 39 (f := .str "SMALL" "abcdefghijklmnopqrstuvwxyz") rfl),
    He.int_ok X G (c.t.d.fact 40 (f := .int "MOST_VALUE" 9999) rfl),
    He.int_ok X G (c.t.d.fact 41 (f := .int "MOST_DEEDS" 3) rfl),
    He.int_ok X G (c.t.d.fact 42 (f := .int "DEEPEST" 3) rfl),
    He.glo_ok X G (c.t.d.fact 43 (f := .glo "HOWS") rfl),
    fun H => He.tupB_ok (vs := [.str "always", .str "once"]) (by simpa [ex] using c.more) H,
    He.int_ok X G (c.t.d.fact 44 (f := .int "MOST_HEARD" 100) rfl),
    He.glo_ok X G (c.t.d.fact 15 (f := .glo "HallError") rfl),
    He.exc_ok (c.t.d.fact 16 (f := .exc "HallError") rfl),
    He.glo_ok X G (c.t.d.fact 17 (f := .glo "BadTopic") rfl),
    He.exc_ok (c.t.d.fact 18 (f := .exc "BadTopic") rfl),
    He.glo_ok X G (c.t.d.fact 19 (f := .glo "BadValue") rfl),
    He.exc_ok (c.t.d.fact 20 (f := .exc "BadValue") rfl),
    He.glo_ok X G (c.t.d.fact 21 (f := .glo "BadHearer") rfl),
    He.exc_ok (c.t.d.fact 22 (f := .exc "BadHearer") rfl),
    He.exm_ok (c.t.d.fact 23 (f := .exm "HallError" "HallError" true) rfl),
    He.exm_ok (c.t.d.fact 24 (f := .exm "HallError" "BadTopic" false) rfl),
    He.exm_ok (c.t.d.fact 25 (f := .exm "HallError" "BadValue" false) rfl),
    He.exm_ok (c.t.d.fact 26 (f := .exm "HallError" "BadHearer" false) rfl),
    He.exm_ok (c.t.d.fact 27 (f := .exm "BadTopic" "HallError" true) rfl),
    He.exm_ok (c.t.d.fact 28 (f := .exm "BadTopic" "BadTopic" true) rfl),
    He.exm_ok (c.t.d.fact 29 (f := .exm "BadTopic" "BadValue" false) rfl),
    He.exm_ok (c.t.d.fact 30 (f := .exm "BadTopic" "BadHearer" false) rfl),
    He.exm_ok (c.t.d.fact 31 (f := .exm "BadValue" "HallError" true) rfl),
    He.exm_ok (c.t.d.fact 32 (f := .exm "BadValue" "BadTopic" false) rfl),
    He.exm_ok (c.t.d.fact 33 (f := .exm "BadValue" "BadValue" true) rfl),
    He.exm_ok (c.t.d.fact 34 (f := .exm "BadValue" "BadHearer" false) rfl),
    He.exm_ok (c.t.d.fact 35 (f := .exm "BadHearer" "HallError" true) rfl),
    He.exm_ok (c.t.d.fact 36 (f := .exm "BadHearer" "BadTopic" false) rfl),
    He.exm_ok (c.t.d.fact 37 (f := .exm "BadHearer" "BadValue" false) rfl),
    He.exm_ok (c.t.d.fact 38 (f := .exm "BadHearer" "BadHearer" true) rfl),
    He.glo_ok X G (c.t.d.fact 54 (f := .glo "Hall") rfl),
    He.cls_ok (c.t.d.fact 55 (f := .cls "Hall") rfl),
    He.mkr_ok (c.t.d.fact 56 (f := .mkr "Hall") rfl),
    He.noat_ok (c.t.d.fact 74 (f := .noat "Hall" "cut") rfl),
    He.noat_ok (c.t.d.fact 75 (f := .noat "Hall" "gone") rfl),
    He.noat_ok (c.t.d.fact 76 (f := .noat "Hall" "kept") rfl),
    He.noat_ok (c.t.d.fact 77 (f := .noat "Hall" "lasts") rfl),
    He.noat_ok (c.t.d.fact 78 (f := .noat "Hall" "now") rfl),
    He.noat_ok (c.t.d.fact 79 (f := .noat "Hall" "people") rfl),
    He.noat_ok (c.t.d.fact 80 (f := .noat "Hall" "room") rfl),
    He.noat_ok (c.t.d.fact 81 (f := .noat "Hall" "rows") rfl),
    He.meth_ok (c.t.d.fact 57 (f := .meth "Hall" "__init__") rfl),
    He.meth_ok (c.t.d.fact 58 (f := .meth "Hall" "order") rfl),
    He.meth_ok (c.t.d.fact 59 (f := .meth "Hall" "begin") rfl),
    He.meth_ok (c.t.d.fact 60 (f := .meth "Hall" "hear") rfl),
    He.meth_ok (c.t.d.fact 61 (f := .meth "Hall" "do") rfl),
    He.meth_ok (c.t.d.fact 62 (f := .meth "Hall" "spread") rfl),
    He.meth_ok (c.t.d.fact 63 (f := .meth "Hall" "come") rfl),
    He.meth_ok (c.t.d.fact 64 (f := .meth "Hall" "drop_all") rfl),
    He.meth_ok (c.t.d.fact 65 (f := .meth "Hall" "tell") rfl),
    He.meth_ok (c.t.d.fact 66 (f := .meth "Hall" "enter") rfl),
    He.meth_ok (c.t.d.fact 67 (f := .meth "Hall" "leave") rfl),
    He.meth_ok (c.t.d.fact 68 (f := .meth "Hall" "journal") rfl),
    He.meth_ok (c.t.d.fact 69 (f := .meth "Hall" "hearers") rfl),
    He.meth_ok (c.t.d.fact 70 (f := .meth "Hall" "last") rfl),
    He.meth_ok (c.t.d.fact 71 (f := .meth "Hall" "look_number") rfl),
    He.meth_ok (c.t.d.fact 72 (f := .meth "Hall" "hearer") rfl),
    He.meth_ok (c.t.d.fact 73 (f := .meth "Hall" "is_there") rfl),
    fd0,
    D0,
    He.glo_ok X G (c.t.d.fact 0 (f := .glo "_wall") rfl),
    fd1,
    D1,
    He.glo_ok X G (c.t.d.fact 1 (f := .glo "is_within") rfl),
    fd2,
    D2,
    He.glo_ok X G (c.t.d.fact 2 (f := .glo "is_word") rfl),
    fd3,
    D3,
    He.glo_ok X G (c.t.d.fact 3 (f := .glo "is_value") rfl),
    fd4,
    D4,
    He.glo_ok X G (c.t.d.fact 4 (f := .glo "is_test") rfl),
    fd5,
    D5,
    He.glo_ok X G (c.t.d.fact 5 (f := .glo "is_deed") rfl),
    fd6,
    D6,
    He.glo_ok X G (c.t.d.fact 6 (f := .glo "is_hearer_so") rfl),
    fd7,
    D7,
    He.glo_ok X G (c.t.d.fact 7 (f := .glo "is_hearer") rfl),
    fd8,
    D8,
    He.glo_ok X G (c.t.d.fact 8 (f := .glo "checked") rfl),
    fd9,
    D9,
    He.glo_ok X G (c.t.d.fact 9 (f := .glo "look_topic") rfl),
    fd10,
    D10,
    He.glo_ok X G (c.t.d.fact 10 (f := .glo "look_value") rfl),
    fd11,
    D11,
    He.glo_ok X G (c.t.d.fact 11 (f := .glo "is_fit") rfl),
    fd12,
    D12,
    He.glo_ok X G (c.t.d.fact 12 (f := .glo "look_kept") rfl),
    fd13,
    D13,
    fd14,
    D14,
    fd15,
    D15,
    fd16,
    D16,
    fd17,
    D17,
    fd18,
    D18,
    fd19,
    D19,
    fd20,
    D20,
    fd21,
    D21,
    fd22,
    D22,
    fd23,
    D23,
    fd24,
    D24,
    fd25,
    D25,
    fd26,
    D26,
    fd27,
    D27,
    fd28,
    D28,
    fd29,
    D29,
    fd30,
    D30,
    He.glo_ok X G (c.t.d.fact 13 (f := .glo "_law_cell") rfl),
    fd31,
    D31,
    He.glo_ok X G (c.t.d.fact 14 (f := .glo "law") rfl)⟩⟩
end Hd


set_option Elab.async false
set_option linter.all false
set_option maxRecDepth 100000
set_option maxHeartbeats 4000000
namespace Sx.My
open PySem PySem.Spec PyProof.Rows L2
abbrev ctO (K : Frg) : Addr × Addr := He.cT K ("Hall", some "order")
def tbs (K : Frg) : Tbs := [((ctO K).2, "Hall.order.<locals>.<lambda>")]
structure TT (K : Frg) (mg : Str → Option Value) (base : Heap) extends Hd.Tx K mg where
  tb : LamX.TabB base mg (ctO K).1 (ctO K).2
/-! the program's words, values, tests, hearers -/
theorem fnr_stuck {P : Program} {w : World} {K : Frg} {mg : Str → Option Value} {base : Heap} {d : Nat} {f : Addr} {fd : FuncData} {ps : List Str} : FnR P w K mg base d f fd ps (spF K (tbs K) fun _ _ => .stuck) :=
  ⟨fun _ _ _ _ ⟨_, _, _, _, _, z⟩ => False.elim z, fun _ _ _ _ _ _ _ _ _ _ _ _ _ ⟨_, _, _, _, _, z⟩ => False.elim z⟩
def F_is_within (K : Frg) : List A → Sto → RE := fun l S => match l with
  | [x, .int lo, .int hi] => if kn S x = true then .ok (.bl (isIn x lo hi)) S else .stuck
  | _ => .stuck
def F_is_value (K : Frg) : List A → Sto → RE := fun l S => match l with
  | [x] => if kn S x = true then .ok (.bl (isIn x 0 9999)) S else .stuck
  | _ => .stuck
def F_is_word (K : Frg) : List A → Sto → RE := fun l S => match l with
  | [x] => if good S x = true then .ok (.bl (isWord x)) S else .stuck
  | _ => .stuck
def F_is_test (K : Frg) : List A → Sto → RE := fun l S => match l with
  | [x] => if good S x = true then .ok (.bl (isTest x)) S else .stuck
  | _ => .stuck
def F_is_fit (K : Frg) : List A → Sto → RE := fun l S => match l with
  | [x, .int v] => if isTest x = true then .ok (.bl (fitT x v)) S else .stuck
  | _ => .stuck
section
variable {P : Program} {w : World} {K : Frg} {mg : Str → Option Value} {base : Heap}
-- with is_within
abbrev N_is_within : List Str := ["thing", "low", "high"]
abbrev P_is_within : List Str := ["thing", "low", "high"]
theorem sc_is_within : FnScope N_is_within P_is_within (defScope Hd.s_is_within) := ⟨rfl, rfl, rfl, by decide +kernel, rfl, by decide +kernel, by decide +kernel⟩
theorem b_is_within {K : Frg} {mg : Str → Option Value} {base : Heap} (t : TT K mg base) : Binds K t.f_is_within P_is_within [] := FunD.bindsN t.D_is_within fun _ _ _ _ _ _ us hl => match us, hl with | [_, _, _], _ => rfl
def q_is_within (K : Frg) : GS :=
  gRet (gAnd (gIsi "int" (gVar 0)) (gAnd (gNot (gIsi "bool" (gVar 0))) (gChain vLe vLe (gVar 1) (gVar 0) (gVar 2))))
theorem sb_is_within {P : Program} {w : World} {K : Frg} {mg : Str → Option Value} {base : Heap} (t : TT K mg base)  {cdv : Value} {A : Around} {outer : List Env} {s : Shared} {H : Hp} {E : XK} (hr : Rm 0 (A.deeper (envOfC "is_within" (defScope Hd.s_is_within) s.heap.objs.size (He.ga K "is_within") cdv))) :
    SB (cxOf (L2.CX P w) P w K mg base N_is_within "is_within" (defScope Hd.s_is_within) (He.ga K "is_within") cdv A outer s H E) (tbs K) (fun c d _ H2 => E c d H2) (defBody Hd.s_is_within) (q_is_within K ) := by
  have nd : N_is_within.Nodup := sc_is_within.nd
  have hp := passes_of (X := cxOf (L2.CX P w) P w K mg base N_is_within "is_within" (defScope Hd.s_is_within) (He.ga K "is_within") cdv A outer s H E) (K := fun e s2 => L2.CX P w outer H s E e s2) (E₁ := fun e s2 => L2.CX P w outer H s E e s2) rfl
  have tk : Takes (cxOf (L2.CX P w) P w K mg base N_is_within "is_within" (defScope Hd.s_is_within) (He.ga K "is_within") cdv A outer s H E) (fun c d _ H2 => E c d H2) := takes_of rfl rfl rfl rfl
  exact (sb_one (ss_ret (se_and (se_isi (by decide) (by decide +kernel) t.n_isinstance t.n_int (se_var' (pv 0))) (se_and (se_not (se_isi (by decide) (by decide +kernel) t.n_isinstance t.n_bool (se_var' (pv 0)))) (se_one (se_chain os_le os_le (se_var' (pv 1)) (se_var' (pv 0)) (se_var' (pv 2))))))))

theorem ok_is_within (t : TT K mg base) : FnR P w K mg base 1 (He.ga K "is_within") t.f_is_within P_is_within (spF K (tbs K) (F_is_within K)) := by
  refine fnF t.D_is_within sc_is_within (fun l S h => by unfold F_is_within at h; split at h <;> first | rfl | exact absurd rfl h) (q_is_within K) (fun cdv A outer s H E hr => sb_is_within t hr) fun l S b bl h => ?_
  unfold F_is_within at h ⊢
  split at h
  rotate_left
  · exact absurd rfl h
  rename_i x lo hi
  by_cases hk : kn S x = true
  rotate_left
  · exact absurd (if_neg hk) h
  rw [if_pos hk]
  obtain ⟨ty, hty⟩ := kn_some hk
  have e : q_is_within K (startR N_is_within.length [x, .int lo, .int hi]) S = .ret (.bl (isIn x lo hi)) S := by
    cases x
    case ob n =>
      obtain ⟨h1, h2, h3, h4⟩ := isi_ob hty
      simp [q_is_within, wipeR, gVar, gC, gOp, gUn, gAnd, gOr, gNot, gIf, gNil, gCons, gTup, gLst, gCB, gChain, gSet, gExpr, gRet, gRetN, gPass, gBrk, gCt, gRaise, gIfS, gSeq, nName, nTup, setAll, gAsg, gCall, gTru, gNotT, gIsi, RE.bind_ok, RE.bind_exc, RE.bind_stuck, RE.bindA_ok, RE.bindS_ok, RE.bindS_exc, RE.bindT_ok, RE.bindTS_ok, RA.bind_ok, RA.bindA_ok, RE.nox_ok, RS.seq_nx, RS.seq_ret, RS.seq_exc, RS.seq_brk, RS.seq_ct, RS.seq_stuck, RE.bindA_exc, RE.bindA_stuck, RE.bindS_stuck, RE.bindT_exc, RE.bindT_stuck, RE.bindTS_exc, RE.bindTS_stuck, RA.bind_exc, RA.bind_stuck, RA.bindA_exc, RA.bindA_stuck, RE.nox_stuck, bind_ite, bindA_ite, bindS_ite, bindT_ite, bindTS_ite, nox_ite, seq_ite, startR, tyA_non, tyA_bl, tyA_int, tyA_str, tyA_tup, List.map_cons, List.map_nil, List.length_cons, List.length_nil, List.cons_append, List.nil_append, List.append_nil, List.getElem?_cons_zero, List.getElem?_cons_succ, List.set_cons_zero, List.set_cons_succ, vIx_t0, vIx_t1, vIx_t2, vIx_t3, vIx_t4, vIx_t5, vEq_ss, vEq_ii, vEq_bb, vNe_ss, vNe_ii, vNe_bb, vLen_tup, truA_tup, truA_bl, vLe_ii, vLt_ii, vGt_ii, vGe_ii, vSub_ii, vAdd_ii, vAddI_ii, vNeg_i, isT_ss, isT_tt, isT_ii, isT_bi, isT_bb, isT_ib, hty, h1, h2, isIn]
    all_goals simp [q_is_within, wipeR, gVar, gC, gOp, gUn, gAnd, gOr, gNot, gIf, gNil, gCons, gTup, gLst, gCB, gChain, gSet, gExpr, gRet, gRetN, gPass, gBrk, gCt, gRaise, gIfS, gSeq, nName, nTup, setAll, gAsg, gCall, gTru, gNotT, gIsi, RE.bind_ok, RE.bind_exc, RE.bind_stuck, RE.bindA_ok, RE.bindS_ok, RE.bindS_exc, RE.bindT_ok, RE.bindTS_ok, RA.bind_ok, RA.bindA_ok, RE.nox_ok, RS.seq_nx, RS.seq_ret, RS.seq_exc, RS.seq_brk, RS.seq_ct, RS.seq_stuck, RE.bindA_exc, RE.bindA_stuck, RE.bindS_stuck, RE.bindT_exc, RE.bindT_stuck, RE.bindTS_exc, RE.bindTS_stuck, RA.bind_exc, RA.bind_stuck, RA.bindA_exc, RA.bindA_stuck, RE.nox_stuck, bind_ite, bindA_ite, bindS_ite, bindT_ite, bindTS_ite, nox_ite, seq_ite, startR, tyA_non, tyA_bl, tyA_int, tyA_str, tyA_tup, List.map_cons, List.map_nil, List.length_cons, List.length_nil, List.cons_append, List.nil_append, List.append_nil, List.getElem?_cons_zero, List.getElem?_cons_succ, List.set_cons_zero, List.set_cons_succ, vIx_t0, vIx_t1, vIx_t2, vIx_t3, vIx_t4, vIx_t5, vEq_ss, vEq_ii, vEq_bb, vNe_ss, vNe_ii, vNe_bb, vLen_tup, truA_tup, truA_bl, vLe_ii, vLt_ii, vGt_ii, vGe_ii, vSub_ii, vAdd_ii, vAddI_ii, vNeg_i, isT_ss, isT_tt, isT_ii, isT_bi, isT_bb, isT_ib, isT, vLe, I2, isIn]
    split <;> simp_all <;> omega
  rw [e]
  exact fitP b (.bl _)
-- with is_value
abbrev N_is_value : List Str := ["thing"]
abbrev P_is_value : List Str := ["thing"]
theorem sc_is_value : FnScope N_is_value P_is_value (defScope Hd.s_is_value) := ⟨rfl, rfl, rfl, by decide +kernel, rfl, by decide +kernel, by decide +kernel⟩
theorem b_is_value {K : Frg} {mg : Str → Option Value} {base : Heap} (t : TT K mg base) : Binds K t.f_is_value P_is_value [] := FunD.bindsN t.D_is_value fun _ _ _ _ _ _ us hl => match us, hl with | [_], _ => rfl
def q_is_value (K : Frg) : GS :=
  gRet (gCall (F_is_within K) (gCons (gVar 0) (gCons (gC (.int 0)) (gCons (gC (.int 9999)) (gNil)))))
theorem sb_is_value {P : Program} {w : World} {K : Frg} {mg : Str → Option Value} {base : Heap} (t : TT K mg base)  {cdv : Value} {A : Around} {outer : List Env} {s : Shared} {H : Hp} {E : XK} (hr : Rm 1 (A.deeper (envOfC "is_value" (defScope Hd.s_is_value) s.heap.objs.size (He.ga K "is_value") cdv))) :
    SB (cxOf (L2.CX P w) P w K mg base N_is_value "is_value" (defScope Hd.s_is_value) (He.ga K "is_value") cdv A outer s H E) (tbs K) (fun c d _ H2 => E c d H2) (defBody Hd.s_is_value) (q_is_value K ) := by
  have nd : N_is_value.Nodup := sc_is_value.nd
  have hp := passes_of (X := cxOf (L2.CX P w) P w K mg base N_is_value "is_value" (defScope Hd.s_is_value) (He.ga K "is_value") cdv A outer s H E) (K := fun e s2 => L2.CX P w outer H s E e s2) (E₁ := fun e s2 => L2.CX P w outer H s E e s2) rfl
  have tk : Takes (cxOf (L2.CX P w) P w K mg base N_is_value "is_value" (defScope Hd.s_is_value) (He.ga K "is_value") cdv A outer s H E) (fun c d _ H2 => E c d H2) := takes_of rfl rfl rfl rfl
  exact (sb_one (ss_ret (se_call (ok_is_within t) (hr.mono (by omega)) t.m_is_within t.D_is_within.kp (b_is_within t) tk (sa_cons (se_var' (pv 0)) (sa_cons se_int (sa_cons (se_c' (pe_glob (v := .int 9999) rfl t.m_MOST_VALUE.choose_spec ⟨_, rfl⟩) (fun _ _ => .int _)) sa_nil))))))

theorem ok_is_value (t : TT K mg base) : FnR P w K mg base 2 (He.ga K "is_value") t.f_is_value P_is_value (spF K (tbs K) (F_is_value K)) := by
  refine fnF t.D_is_value sc_is_value (fun l S h => by unfold F_is_value at h; split at h <;> first | rfl | exact absurd rfl h) (q_is_value K) (fun cdv A outer s H E hr => sb_is_value t hr) fun l S b bl h => ?_
  unfold F_is_value at h ⊢
  split at h
  rotate_left
  · exact absurd rfl h
  rename_i x
  by_cases hk : kn S x = true
  rotate_left
  · exact absurd (if_neg hk) h
  rw [if_pos hk]
  have e : q_is_value K (startR N_is_value.length [x]) S = .ret (.bl (isIn x 0 9999)) S := by
    simp [q_is_value, wipeR, gVar, gC, gOp, gUn, gAnd, gOr, gNot, gIf, gNil, gCons, gTup, gLst, gCB, gChain, gSet, gExpr, gRet, gRetN, gPass, gBrk, gCt, gRaise, gIfS, gSeq, nName, nTup, setAll, gAsg, gCall, gTru, gNotT, gIsi, RE.bind_ok, RE.bind_exc, RE.bind_stuck, RE.bindA_ok, RE.bindS_ok, RE.bindS_exc, RE.bindT_ok, RE.bindTS_ok, RA.bind_ok, RA.bindA_ok, RE.nox_ok, RS.seq_nx, RS.seq_ret, RS.seq_exc, RS.seq_brk, RS.seq_ct, RS.seq_stuck, RE.bindA_exc, RE.bindA_stuck, RE.bindS_stuck, RE.bindT_exc, RE.bindT_stuck, RE.bindTS_exc, RE.bindTS_stuck, RA.bind_exc, RA.bind_stuck, RA.bindA_exc, RA.bindA_stuck, RE.nox_stuck, bind_ite, bindA_ite, bindS_ite, bindT_ite, bindTS_ite, nox_ite, seq_ite, startR, tyA_non, tyA_bl, tyA_int, tyA_str, tyA_tup, List.map_cons, List.map_nil, List.length_cons, List.length_nil, List.cons_append, List.nil_append, List.append_nil, List.getElem?_cons_zero, List.getElem?_cons_succ, List.set_cons_zero, List.set_cons_succ, vIx_t0, vIx_t1, vIx_t2, vIx_t3, vIx_t4, vIx_t5, vEq_ss, vEq_ii, vEq_bb, vNe_ss, vNe_ii, vNe_bb, vLen_tup, truA_tup, truA_bl, vLe_ii, vLt_ii, vGt_ii, vGe_ii, vSub_ii, vAdd_ii, vAddI_ii, vNeg_i, isT_ss, isT_tt, isT_ii, isT_bi, isT_bb, isT_ib, F_is_within, hk]
  rw [e]
  exact fitP b (.bl _)
-- with is_word
abbrev N_is_word : List Str := ["thing", "sign"]
abbrev P_is_word : List Str := ["thing"]
theorem sc_is_word : FnScope N_is_word P_is_word (defScope Hd.s_is_word) := ⟨rfl, rfl, rfl, by decide +kernel, rfl, by decide +kernel, by decide +kernel⟩
theorem b_is_word {K : Frg} {mg : Str → Option Value} {base : Heap} (t : TT K mg base) : Binds K t.f_is_word P_is_word [] := FunD.bindsN t.D_is_word fun _ _ _ _ _ _ us hl => match us, hl with | [_], _ => rfl
def q_is_word (K : Frg) : GS :=
  gSeq (gIfS (gOr (gNot (gIsi "str" (gVar 0))) (gNot (gChain vLe vLe (gC (.int 1)) (gCB vLen (gCons (gVar 0) (gNil))) (gC (.int 6))))) (gRet (gC (.bl false))) (gPass))
  (gRet (gNotT (gLc (gIS (gVar 0)) (nName 1) (gOp vNotIn (gVar 1) (gC (.str "abcdefghijklmnopqrstuvwxyz"))) (gVar 1) [1])))
theorem sb_is_word {P : Program} {w : World} {K : Frg} {mg : Str → Option Value} {base : Heap} (t : TT K mg base)  {cdv : Value} {A : Around} {outer : List Env} {s : Shared} {H : Hp} {E : XK} (hr : Rm 0 (A.deeper (envOfC "is_word" (defScope Hd.s_is_word) s.heap.objs.size (He.ga K "is_word") cdv))) :
    SB (cxOf (L2.CX P w) P w K mg base N_is_word "is_word" (defScope Hd.s_is_word) (He.ga K "is_word") cdv A outer s H E) (tbs K) (fun c d _ H2 => E c d H2) (defBody Hd.s_is_word) (q_is_word K ) := by
  have nd : N_is_word.Nodup := sc_is_word.nd
  have hp := passes_of (X := cxOf (L2.CX P w) P w K mg base N_is_word "is_word" (defScope Hd.s_is_word) (He.ga K "is_word") cdv A outer s H E) (K := fun e s2 => L2.CX P w outer H s E e s2) (E₁ := fun e s2 => L2.CX P w outer H s E e s2) rfl
  have tk : Takes (cxOf (L2.CX P w) P w K mg base N_is_word "is_word" (defScope Hd.s_is_word) (He.ga K "is_word") cdv A outer s H E) (fun c d _ H2 => E c d H2) := takes_of rfl rfl rfl rfl
  exact (sb_cons (ss_if (st_w (sw_or (st_not (st_val (se_isi (by decide) (by decide +kernel) t.n_isinstance t.n_str (se_var' (pv 0))))) (sw_or1 (st_not (st_chain os_le os_le se_int (se_callB cs_len (by rfl) t.n_len (by decide +kernel) (sa_cons (se_var' (pv 0)) sa_nil)) se_int))))) (sb_one (ss_ret se_bl)) sb_nil)
  (sb_one (ss_ret (se_notT (se_lc (own := [("sign", 1)]) rfl nd (si_str (se_var' (pv 0))) (blkOk_by (own := [("sign", 1)]) (N := N_is_word) (sc := defScope Hd.s_is_word) (by decide +kernel)) (tg_name (by decide)) (fun _ _ _ _ _ => (pg_name (i := 1) nd rfl (Or.inl rfl))) (fun _ _ _ _ _ => (sts_one (st_cmp os_notIn (se_var' (pv 1)) (se_c' (pe_glob (v := .str "abcdefghijklmnopqrstuvwxyz") rfl t.m_SMALL.choose_spec ⟨_, rfl⟩) (fun _ _ => .str _)) (by rfl)))) (fun _ _ _ _ _ => (se_var' (pv 1))))))))

theorem e_is_word {x : A} {S : Sto} (hk : good S x = true) : ∃ E, q_is_word K (startR N_is_word.length [x]) S = .ret (.bl (isWord x)) (S ++ E) := by
  cases x
  case ob n =>
    obtain ⟨ty, hty⟩ := kn_some (good_kn hk)
    obtain ⟨h1, h2, h3, h4⟩ := isi_ob hty
    exact ⟨[], by simp [q_is_word, wipeR, gVar, gC, gOp, gUn, gAnd, gOr, gNot, gIf, gNil, gCons, gTup, gLst, gCB, gChain, gSet, gExpr, gRet, gRetN, gPass, gBrk, gCt, gRaise, gIfS, gSeq, nName, nTup, setAll, gAsg, gCall, gTru, gNotT, gIsi, RE.bind_ok, RE.bind_exc, RE.bind_stuck, RE.bindA_ok, RE.bindS_ok, RE.bindS_exc, RE.bindT_ok, RE.bindTS_ok, RA.bind_ok, RA.bindA_ok, RE.nox_ok, RS.seq_nx, RS.seq_ret, RS.seq_exc, RS.seq_brk, RS.seq_ct, RS.seq_stuck, RE.bindA_exc, RE.bindA_stuck, RE.bindS_stuck, RE.bindT_exc, RE.bindT_stuck, RE.bindTS_exc, RE.bindTS_stuck, RA.bind_exc, RA.bind_stuck, RA.bindA_exc, RA.bindA_stuck, RE.nox_stuck, bind_ite, bindA_ite, bindS_ite, bindT_ite, bindTS_ite, nox_ite, seq_ite, startR, tyA_non, tyA_bl, tyA_int, tyA_str, tyA_tup, List.map_cons, List.map_nil, List.length_cons, List.length_nil, List.cons_append, List.nil_append, List.append_nil, List.getElem?_cons_zero, List.getElem?_cons_succ, List.set_cons_zero, List.set_cons_succ, vIx_t0, vIx_t1, vIx_t2, vIx_t3, vIx_t4, vIx_t5, vEq_ss, vEq_ii, vEq_bb, vNe_ss, vNe_ii, vNe_bb, vLen_tup, truA_tup, truA_bl, vLe_ii, vLt_ii, vGt_ii, vGe_ii, vSub_ii, vAdd_ii, vAddI_ii, vNeg_i, isT_ss, isT_tt, isT_ii, isT_bi, isT_bb, isT_ib, hty, h3, isWord]⟩
  case str x =>
    have hl : x.length ≤ 4000000 := by simpa [good] using hk
    by_cases h1 : 1 ≤ x.length
    · by_cases h2 : x.length ≤ 6
      · refine ⟨[.lst ((signs x).filter (badSign smallS))], ?_⟩
        have lc := lc_eq (chk := fun _ => true) (gg := nName 1) (gt := gOp vNotIn (gVar 1) (gC (.str smallS))) (ge := gVar 1) (ρ0 := [some (.str x), none]) (S0 := S) (badSign smallS) id (fun _ => rfl) (signs x) [] (fun a ha => by
            obtain ⟨c, hc, rfl⟩ := List.mem_map.mp ha
            exact ⟨[some (.str x), some (.str ⟨#[c]⟩)], fun _ => rfl, fun l => ⟨by simp [wipeR, gVar, gC, gOp, gUn, gAnd, gOr, gNot, gIf, gNil, gCons, gTup, gLst, gCB, gChain, gSet, gExpr, gRet, gRetN, gPass, gBrk, gCt, gRaise, gIfS, gSeq, nName, nTup, setAll, gAsg, gCall, gTru, gNotT, gIsi, RE.bind_ok, RE.bind_exc, RE.bind_stuck, RE.bindA_ok, RE.bindS_ok, RE.bindS_exc, RE.bindT_ok, RE.bindTS_ok, RA.bind_ok, RA.bindA_ok, RE.nox_ok, RS.seq_nx, RS.seq_ret, RS.seq_exc, RS.seq_brk, RS.seq_ct, RS.seq_stuck, RE.bindA_exc, RE.bindA_stuck, RE.bindS_stuck, RE.bindT_exc, RE.bindT_stuck, RE.bindTS_exc, RE.bindTS_stuck, RA.bind_exc, RA.bind_stuck, RA.bindA_exc, RA.bindA_stuck, RE.nox_stuck, bind_ite, bindA_ite, bindS_ite, bindT_ite, bindTS_ite, nox_ite, seq_ite, startR, tyA_non, tyA_bl, tyA_int, tyA_str, tyA_tup, List.map_cons, List.map_nil, List.length_cons, List.length_nil, List.cons_append, List.nil_append, List.append_nil, List.getElem?_cons_zero, List.getElem?_cons_succ, List.set_cons_zero, List.set_cons_succ, vIx_t0, vIx_t1, vIx_t2, vIx_t3, vIx_t4, vIx_t5, vEq_ss, vEq_ii, vEq_bb, vNe_ss, vNe_ii, vNe_bb, vLen_tup, truA_tup, truA_bl, vLe_ii, vLt_ii, vGt_ii, vGe_ii, vSub_ii, vAdd_ii, vAddI_ii, vNeg_i, isT_ss, isT_tt, isT_ii, isT_bi, isT_bb, isT_ib, vNotIn, vIn, badSign], fun _ => rfl⟩⟩) (by simp [signs, Str.length] at hl ⊢; omega)
        have e1 : ¬ ((x.length : Int) < 1) := by omega
        have e2 : (1 : Int) ≤ (x.length : Int) := by omega
        have e3 : (x.length : Int) ≤ 6 := by omega
        simp only [List.nil_append, List.map_id] at lc
        simp [q_is_word, wipeR, gVar, gC, gOp, gUn, gAnd, gOr, gNot, gIf, gNil, gCons, gTup, gLst, gCB, gChain, gSet, gExpr, gRet, gRetN, gPass, gBrk, gCt, gRaise, gIfS, gSeq, nName, nTup, setAll, gAsg, gCall, gTru, gNotT, gIsi, RE.bind_ok, RE.bind_exc, RE.bind_stuck, RE.bindA_ok, RE.bindS_ok, RE.bindS_exc, RE.bindT_ok, RE.bindTS_ok, RA.bind_ok, RA.bindA_ok, RE.nox_ok, RS.seq_nx, RS.seq_ret, RS.seq_exc, RS.seq_brk, RS.seq_ct, RS.seq_stuck, RE.bindA_exc, RE.bindA_stuck, RE.bindS_stuck, RE.bindT_exc, RE.bindT_stuck, RE.bindTS_exc, RE.bindTS_stuck, RA.bind_exc, RA.bind_stuck, RA.bindA_exc, RA.bindA_stuck, RE.nox_stuck, bind_ite, bindA_ite, bindS_ite, bindT_ite, bindTS_ite, nox_ite, seq_ite, startR, tyA_non, tyA_bl, tyA_int, tyA_str, tyA_tup, List.map_cons, List.map_nil, List.length_cons, List.length_nil, List.cons_append, List.nil_append, List.append_nil, List.getElem?_cons_zero, List.getElem?_cons_succ, List.set_cons_zero, List.set_cons_succ, vIx_t0, vIx_t1, vIx_t2, vIx_t3, vIx_t4, vIx_t5, vEq_ss, vEq_ii, vEq_bb, vNe_ss, vNe_ii, vNe_bb, vLen_tup, truA_tup, truA_bl, vLe_ii, vLt_ii, vGt_ii, vGe_ii, vSub_ii, vAdd_ii, vAddI_ii, vNeg_i, isT_ss, isT_tt, isT_ii, isT_bi, isT_bb, isT_ib, vLen, hl, e2, e3, gLc, gIS, wipeR, lc, truA, seqOf, items_new, isWord_bad h1 h2]
      · have e2 : (1 : Int) ≤ (x.length : Int) := by omega
        have e3 : ¬ (x.length : Int) ≤ 6 := by omega
        exact ⟨[], by simp [q_is_word, wipeR, gVar, gC, gOp, gUn, gAnd, gOr, gNot, gIf, gNil, gCons, gTup, gLst, gCB, gChain, gSet, gExpr, gRet, gRetN, gPass, gBrk, gCt, gRaise, gIfS, gSeq, nName, nTup, setAll, gAsg, gCall, gTru, gNotT, gIsi, RE.bind_ok, RE.bind_exc, RE.bind_stuck, RE.bindA_ok, RE.bindS_ok, RE.bindS_exc, RE.bindT_ok, RE.bindTS_ok, RA.bind_ok, RA.bindA_ok, RE.nox_ok, RS.seq_nx, RS.seq_ret, RS.seq_exc, RS.seq_brk, RS.seq_ct, RS.seq_stuck, RE.bindA_exc, RE.bindA_stuck, RE.bindS_stuck, RE.bindT_exc, RE.bindT_stuck, RE.bindTS_exc, RE.bindTS_stuck, RA.bind_exc, RA.bind_stuck, RA.bindA_exc, RA.bindA_stuck, RE.nox_stuck, bind_ite, bindA_ite, bindS_ite, bindT_ite, bindTS_ite, nox_ite, seq_ite, startR, tyA_non, tyA_bl, tyA_int, tyA_str, tyA_tup, List.map_cons, List.map_nil, List.length_cons, List.length_nil, List.cons_append, List.nil_append, List.append_nil, List.getElem?_cons_zero, List.getElem?_cons_succ, List.set_cons_zero, List.set_cons_succ, vIx_t0, vIx_t1, vIx_t2, vIx_t3, vIx_t4, vIx_t5, vEq_ss, vEq_ii, vEq_bb, vNe_ss, vNe_ii, vNe_bb, vLen_tup, truA_tup, truA_bl, vLe_ii, vLt_ii, vGt_ii, vGe_ii, vSub_ii, vAdd_ii, vAddI_ii, vNeg_i, isT_ss, isT_tt, isT_ii, isT_bi, isT_bb, isT_ib, vLen, hl, e2, e3, isWord, isWordS, h2]⟩
    · have e2 : ¬ (1 : Int) ≤ (x.length : Int) := by omega
      exact ⟨[], by simp [q_is_word, wipeR, gVar, gC, gOp, gUn, gAnd, gOr, gNot, gIf, gNil, gCons, gTup, gLst, gCB, gChain, gSet, gExpr, gRet, gRetN, gPass, gBrk, gCt, gRaise, gIfS, gSeq, nName, nTup, setAll, gAsg, gCall, gTru, gNotT, gIsi, RE.bind_ok, RE.bind_exc, RE.bind_stuck, RE.bindA_ok, RE.bindS_ok, RE.bindS_exc, RE.bindT_ok, RE.bindTS_ok, RA.bind_ok, RA.bindA_ok, RE.nox_ok, RS.seq_nx, RS.seq_ret, RS.seq_exc, RS.seq_brk, RS.seq_ct, RS.seq_stuck, RE.bindA_exc, RE.bindA_stuck, RE.bindS_stuck, RE.bindT_exc, RE.bindT_stuck, RE.bindTS_exc, RE.bindTS_stuck, RA.bind_exc, RA.bind_stuck, RA.bindA_exc, RA.bindA_stuck, RE.nox_stuck, bind_ite, bindA_ite, bindS_ite, bindT_ite, bindTS_ite, nox_ite, seq_ite, startR, tyA_non, tyA_bl, tyA_int, tyA_str, tyA_tup, List.map_cons, List.map_nil, List.length_cons, List.length_nil, List.cons_append, List.nil_append, List.append_nil, List.getElem?_cons_zero, List.getElem?_cons_succ, List.set_cons_zero, List.set_cons_succ, vIx_t0, vIx_t1, vIx_t2, vIx_t3, vIx_t4, vIx_t5, vEq_ss, vEq_ii, vEq_bb, vNe_ss, vNe_ii, vNe_bb, vLen_tup, truA_tup, truA_bl, vLe_ii, vLt_ii, vGt_ii, vGe_ii, vSub_ii, vAdd_ii, vAddI_ii, vNeg_i, isT_ss, isT_tt, isT_ii, isT_bi, isT_bb, isT_ib, vLen, hl, e2, isWord, isWordS, h1]⟩
  all_goals exact ⟨[], by simp [q_is_word, wipeR, gVar, gC, gOp, gUn, gAnd, gOr, gNot, gIf, gNil, gCons, gTup, gLst, gCB, gChain, gSet, gExpr, gRet, gRetN, gPass, gBrk, gCt, gRaise, gIfS, gSeq, nName, nTup, setAll, gAsg, gCall, gTru, gNotT, gIsi, RE.bind_ok, RE.bind_exc, RE.bind_stuck, RE.bindA_ok, RE.bindS_ok, RE.bindS_exc, RE.bindT_ok, RE.bindTS_ok, RA.bind_ok, RA.bindA_ok, RE.nox_ok, RS.seq_nx, RS.seq_ret, RS.seq_exc, RS.seq_brk, RS.seq_ct, RS.seq_stuck, RE.bindA_exc, RE.bindA_stuck, RE.bindS_stuck, RE.bindT_exc, RE.bindT_stuck, RE.bindTS_exc, RE.bindTS_stuck, RA.bind_exc, RA.bind_stuck, RA.bindA_exc, RA.bindA_stuck, RE.nox_stuck, bind_ite, bindA_ite, bindS_ite, bindT_ite, bindTS_ite, nox_ite, seq_ite, startR, tyA_non, tyA_bl, tyA_int, tyA_str, tyA_tup, List.map_cons, List.map_nil, List.length_cons, List.length_nil, List.cons_append, List.nil_append, List.append_nil, List.getElem?_cons_zero, List.getElem?_cons_succ, List.set_cons_zero, List.set_cons_succ, vIx_t0, vIx_t1, vIx_t2, vIx_t3, vIx_t4, vIx_t5, vEq_ss, vEq_ii, vEq_bb, vNe_ss, vNe_ii, vNe_bb, vLen_tup, truA_tup, truA_bl, vLe_ii, vLt_ii, vGt_ii, vGe_ii, vSub_ii, vAdd_ii, vAddI_ii, vNeg_i, isT_ss, isT_tt, isT_ii, isT_bi, isT_bb, isT_ib, isT, isWord]⟩
theorem ok_is_word (t : TT K mg base) : FnR P w K mg base 1 (He.ga K "is_word") t.f_is_word P_is_word (spF K (tbs K) (F_is_word K)) := by
  refine fnF t.D_is_word sc_is_word (fun l S h => by unfold F_is_word at h; split at h <;> first | rfl | exact absurd rfl h) (q_is_word K) (fun cdv A outer s H E hr => sb_is_word t hr) fun l S b bl h => ?_
  unfold F_is_word at h ⊢
  split at h
  rotate_left
  · exact absurd rfl h
  rename_i x
  by_cases hk : good S x = true
  rotate_left
  · exact absurd (if_neg hk) h
  rw [if_pos hk]
  obtain ⟨E, e⟩ := e_is_word (K := K) hk
  rw [e]
  exact fitPE b (.bl _)
-- with is_test
abbrev N_is_test : List Str := ["thing"]
abbrev P_is_test : List Str := ["thing"]
theorem sc_is_test : FnScope N_is_test P_is_test (defScope Hd.s_is_test) := ⟨rfl, rfl, rfl, by decide +kernel, rfl, by decide +kernel, by decide +kernel⟩
theorem b_is_test {K : Frg} {mg : Str → Option Value} {base : Heap} (t : TT K mg base) : Binds K t.f_is_test P_is_test [] := FunD.bindsN t.D_is_test fun _ _ _ _ _ _ us hl => match us, hl with | [_], _ => rfl
def q_is_test (K : Frg) : GS :=
  gSeq (gIfS (gOr (gNot (gIsi "tuple" (gVar 0))) (gOr (gNot (gTru (gVar 0))) (gNot (gIsi "str" (gOp vIx (gVar 0) (gC (.int 0))))))) (gRet (gC (.bl false))) (gPass))
  (gSeq (gIfS (gOp vEq (gOp vIx (gVar 0) (gC (.int 0))) (gC (.str "any"))) (gRet (gOp vEq (gCB vLen (gCons (gVar 0) (gNil))) (gC (.int 1)))) (gPass))
  (gRet (gAnd (gOp vIn (gOp vIx (gVar 0) (gC (.int 0))) (gTup (gCons (gC (.str "over")) (gCons (gC (.str "under")) (gNil))))) (gAnd (gOp vEq (gCB vLen (gCons (gVar 0) (gNil))) (gC (.int 2))) (gCall (F_is_value K) (gCons (gOp vIx (gVar 0) (gC (.int 1))) (gNil)))))))
theorem sb_is_test {P : Program} {w : World} {K : Frg} {mg : Str → Option Value} {base : Heap} (t : TT K mg base)  {cdv : Value} {A : Around} {outer : List Env} {s : Shared} {H : Hp} {E : XK} (hr : Rm 2 (A.deeper (envOfC "is_test" (defScope Hd.s_is_test) s.heap.objs.size (He.ga K "is_test") cdv))) :
    SB (cxOf (L2.CX P w) P w K mg base N_is_test "is_test" (defScope Hd.s_is_test) (He.ga K "is_test") cdv A outer s H E) (tbs K) (fun c d _ H2 => E c d H2) (defBody Hd.s_is_test) (q_is_test K ) := by
  have nd : N_is_test.Nodup := sc_is_test.nd
  have hp := passes_of (X := cxOf (L2.CX P w) P w K mg base N_is_test "is_test" (defScope Hd.s_is_test) (He.ga K "is_test") cdv A outer s H E) (K := fun e s2 => L2.CX P w outer H s E e s2) (E₁ := fun e s2 => L2.CX P w outer H s E e s2) rfl
  have tk : Takes (cxOf (L2.CX P w) P w K mg base N_is_test "is_test" (defScope Hd.s_is_test) (He.ga K "is_test") cdv A outer s H E) (fun c d _ H2 => E c d H2) := takes_of rfl rfl rfl rfl
  exact (sb_cons (ss_if (st_w (sw_or (st_not (st_val (se_isi (by decide) (by decide +kernel) t.n_isinstance t.n_tuple (se_var' (pv 0))))) (sw_or (st_not (st_truth (se_var' (pv 0)))) (sw_or1 (st_not (st_val (se_isi (by decide) (by decide +kernel) t.n_isinstance t.n_str (se_ix is_ix (se_var' (pv 0)) se_int (fun _ _ => rfl))))))))) (sb_one (ss_ret se_bl)) sb_nil)
  (sb_cons (ss_if (st_cmp (os_eq hr.units) (se_ix is_ix (se_var' (pv 0)) se_int (fun _ _ => rfl)) se_str (nomark _)) (sb_one (ss_ret (se_cmp (os_eq hr.units) (se_callB cs_len (by rfl) t.n_len (by decide +kernel) (sa_cons (se_var' (pv 0)) sa_nil)) se_int (nomark _)))) sb_nil)
  (sb_one (ss_ret (se_and (se_cmp os_in (se_ix is_ix (se_var' (pv 0)) se_int (fun _ _ => rfl)) (se_tup (sa_cons se_str (sa_cons se_str sa_nil))) (by rfl)) (se_and (se_cmp (os_eq hr.units) (se_callB cs_len (by rfl) t.n_len (by decide +kernel) (sa_cons (se_var' (pv 0)) sa_nil)) se_int (nomark _)) (se_one (se_call (ok_is_value t) (hr.mono (by omega)) t.m_is_value t.D_is_value.kp (b_is_value t) tk (sa_cons (se_ix is_ix (se_var' (pv 0)) se_int (fun _ _ => rfl)) sa_nil)))))))))

theorem e_is_test {x : A} {S : Sto} (hk : good S x = true) : q_is_test K (startR N_is_test.length [x]) S = .ret (.bl (isTest x)) S := by
  cases x
  case ob n =>
    obtain ⟨ty, hty⟩ := kn_some (good_kn hk)
    obtain ⟨h1, h2, h3, h4⟩ := isi_ob hty
    simp [q_is_test, wipeR, gVar, gC, gOp, gUn, gAnd, gOr, gNot, gIf, gNil, gCons, gTup, gLst, gCB, gChain, gSet, gExpr, gRet, gRetN, gPass, gBrk, gCt, gRaise, gIfS, gSeq, nName, nTup, setAll, gAsg, gCall, gTru, gNotT, gIsi, RE.bind_ok, RE.bind_exc, RE.bind_stuck, RE.bindA_ok, RE.bindS_ok, RE.bindS_exc, RE.bindT_ok, RE.bindTS_ok, RA.bind_ok, RA.bindA_ok, RE.nox_ok, RS.seq_nx, RS.seq_ret, RS.seq_exc, RS.seq_brk, RS.seq_ct, RS.seq_stuck, RE.bindA_exc, RE.bindA_stuck, RE.bindS_stuck, RE.bindT_exc, RE.bindT_stuck, RE.bindTS_exc, RE.bindTS_stuck, RA.bind_exc, RA.bind_stuck, RA.bindA_exc, RA.bindA_stuck, RE.nox_stuck, bind_ite, bindA_ite, bindS_ite, bindT_ite, bindTS_ite, nox_ite, seq_ite, startR, tyA_non, tyA_bl, tyA_int, tyA_str, tyA_tup, List.map_cons, List.map_nil, List.length_cons, List.length_nil, List.cons_append, List.nil_append, List.append_nil, List.getElem?_cons_zero, List.getElem?_cons_succ, List.set_cons_zero, List.set_cons_succ, vIx_t0, vIx_t1, vIx_t2, vIx_t3, vIx_t4, vIx_t5, vEq_ss, vEq_ii, vEq_bb, vNe_ss, vNe_ii, vNe_bb, vLen_tup, truA_tup, truA_bl, vLe_ii, vLt_ii, vGt_ii, vGe_ii, vSub_ii, vAdd_ii, vAddI_ii, vNeg_i, isT_ss, isT_tt, isT_ii, isT_bi, isT_bb, isT_ib, hty, h4, isTest]
  case tup l =>
    cases l with
    | nil => simp [q_is_test, wipeR, gVar, gC, gOp, gUn, gAnd, gOr, gNot, gIf, gNil, gCons, gTup, gLst, gCB, gChain, gSet, gExpr, gRet, gRetN, gPass, gBrk, gCt, gRaise, gIfS, gSeq, nName, nTup, setAll, gAsg, gCall, gTru, gNotT, gIsi, RE.bind_ok, RE.bind_exc, RE.bind_stuck, RE.bindA_ok, RE.bindS_ok, RE.bindS_exc, RE.bindT_ok, RE.bindTS_ok, RA.bind_ok, RA.bindA_ok, RE.nox_ok, RS.seq_nx, RS.seq_ret, RS.seq_exc, RS.seq_brk, RS.seq_ct, RS.seq_stuck, RE.bindA_exc, RE.bindA_stuck, RE.bindS_stuck, RE.bindT_exc, RE.bindT_stuck, RE.bindTS_exc, RE.bindTS_stuck, RA.bind_exc, RA.bind_stuck, RA.bindA_exc, RA.bindA_stuck, RE.nox_stuck, bind_ite, bindA_ite, bindS_ite, bindT_ite, bindTS_ite, nox_ite, seq_ite, startR, tyA_non, tyA_bl, tyA_int, tyA_str, tyA_tup, List.map_cons, List.map_nil, List.length_cons, List.length_nil, List.cons_append, List.nil_append, List.append_nil, List.getElem?_cons_zero, List.getElem?_cons_succ, List.set_cons_zero, List.set_cons_succ, vIx_t0, vIx_t1, vIx_t2, vIx_t3, vIx_t4, vIx_t5, vEq_ss, vEq_ii, vEq_bb, vNe_ss, vNe_ii, vNe_bb, vLen_tup, truA_tup, truA_bl, vLe_ii, vLt_ii, vGt_ii, vGe_ii, vSub_ii, vAdd_ii, vAddI_ii, vNeg_i, isT_ss, isT_tt, isT_ii, isT_bi, isT_bb, isT_ib, isTest]
    | cons y r =>
      replace hk := good_tup.mp hk
      obtain ⟨ty, hty⟩ := kn_some (good_kn (hk y (by simp)))
      cases y
      case ob n =>
        obtain ⟨h1, h2, h3, h4⟩ := isi_ob hty
        simp [q_is_test, wipeR, gVar, gC, gOp, gUn, gAnd, gOr, gNot, gIf, gNil, gCons, gTup, gLst, gCB, gChain, gSet, gExpr, gRet, gRetN, gPass, gBrk, gCt, gRaise, gIfS, gSeq, nName, nTup, setAll, gAsg, gCall, gTru, gNotT, gIsi, RE.bind_ok, RE.bind_exc, RE.bind_stuck, RE.bindA_ok, RE.bindS_ok, RE.bindS_exc, RE.bindT_ok, RE.bindTS_ok, RA.bind_ok, RA.bindA_ok, RE.nox_ok, RS.seq_nx, RS.seq_ret, RS.seq_exc, RS.seq_brk, RS.seq_ct, RS.seq_stuck, RE.bindA_exc, RE.bindA_stuck, RE.bindS_stuck, RE.bindT_exc, RE.bindT_stuck, RE.bindTS_exc, RE.bindTS_stuck, RA.bind_exc, RA.bind_stuck, RA.bindA_exc, RA.bindA_stuck, RE.nox_stuck, bind_ite, bindA_ite, bindS_ite, bindT_ite, bindTS_ite, nox_ite, seq_ite, startR, tyA_non, tyA_bl, tyA_int, tyA_str, tyA_tup, List.map_cons, List.map_nil, List.length_cons, List.length_nil, List.cons_append, List.nil_append, List.append_nil, List.getElem?_cons_zero, List.getElem?_cons_succ, List.set_cons_zero, List.set_cons_succ, vIx_t0, vIx_t1, vIx_t2, vIx_t3, vIx_t4, vIx_t5, vEq_ss, vEq_ii, vEq_bb, vNe_ss, vNe_ii, vNe_bb, vLen_tup, truA_tup, truA_bl, vLe_ii, vLt_ii, vGt_ii, vGe_ii, vSub_ii, vAdd_ii, vAddI_ii, vNeg_i, isT_ss, isT_tt, isT_ii, isT_bi, isT_bb, isT_ib, hty, h3, isTest]
      case str s =>
        by_cases hs : s = "any"
        · subst hs
          cases r <;> simp [q_is_test, wipeR, gVar, gC, gOp, gUn, gAnd, gOr, gNot, gIf, gNil, gCons, gTup, gLst, gCB, gChain, gSet, gExpr, gRet, gRetN, gPass, gBrk, gCt, gRaise, gIfS, gSeq, nName, nTup, setAll, gAsg, gCall, gTru, gNotT, gIsi, RE.bind_ok, RE.bind_exc, RE.bind_stuck, RE.bindA_ok, RE.bindS_ok, RE.bindS_exc, RE.bindT_ok, RE.bindTS_ok, RA.bind_ok, RA.bindA_ok, RE.nox_ok, RS.seq_nx, RS.seq_ret, RS.seq_exc, RS.seq_brk, RS.seq_ct, RS.seq_stuck, RE.bindA_exc, RE.bindA_stuck, RE.bindS_stuck, RE.bindT_exc, RE.bindT_stuck, RE.bindTS_exc, RE.bindTS_stuck, RA.bind_exc, RA.bind_stuck, RA.bindA_exc, RA.bindA_stuck, RE.nox_stuck, bind_ite, bindA_ite, bindS_ite, bindT_ite, bindTS_ite, nox_ite, seq_ite, startR, tyA_non, tyA_bl, tyA_int, tyA_str, tyA_tup, List.map_cons, List.map_nil, List.length_cons, List.length_nil, List.cons_append, List.nil_append, List.append_nil, List.getElem?_cons_zero, List.getElem?_cons_succ, List.set_cons_zero, List.set_cons_succ, vIx_t0, vIx_t1, vIx_t2, vIx_t3, vIx_t4, vIx_t5, vEq_ss, vEq_ii, vEq_bb, vNe_ss, vNe_ii, vNe_bb, vLen_tup, truA_tup, truA_bl, vLe_ii, vLt_ii, vGt_ii, vGe_ii, vSub_ii, vAdd_ii, vAddI_ii, vNeg_i, isT_ss, isT_tt, isT_ii, isT_bi, isT_bb, isT_ib, isTest]
          omega
        · have ho : (s = "over" ∨ s = "under") ∨ ¬ (s = "over" ∨ s = "under") := Classical.em _
          have c1 : (("over" : Str) = s) = (s = "over") := propext eq_comm
          have c2 : (("under" : Str) = s) = (s = "under") := propext eq_comm
          cases r with
          | nil => simp [q_is_test, wipeR, gVar, gC, gOp, gUn, gAnd, gOr, gNot, gIf, gNil, gCons, gTup, gLst, gCB, gChain, gSet, gExpr, gRet, gRetN, gPass, gBrk, gCt, gRaise, gIfS, gSeq, nName, nTup, setAll, gAsg, gCall, gTru, gNotT, gIsi, RE.bind_ok, RE.bind_exc, RE.bind_stuck, RE.bindA_ok, RE.bindS_ok, RE.bindS_exc, RE.bindT_ok, RE.bindTS_ok, RA.bind_ok, RA.bindA_ok, RE.nox_ok, RS.seq_nx, RS.seq_ret, RS.seq_exc, RS.seq_brk, RS.seq_ct, RS.seq_stuck, RE.bindA_exc, RE.bindA_stuck, RE.bindS_stuck, RE.bindT_exc, RE.bindT_stuck, RE.bindTS_exc, RE.bindTS_stuck, RA.bind_exc, RA.bind_stuck, RA.bindA_exc, RA.bindA_stuck, RE.nox_stuck, bind_ite, bindA_ite, bindS_ite, bindT_ite, bindTS_ite, nox_ite, seq_ite, startR, tyA_non, tyA_bl, tyA_int, tyA_str, tyA_tup, List.map_cons, List.map_nil, List.length_cons, List.length_nil, List.cons_append, List.nil_append, List.append_nil, List.getElem?_cons_zero, List.getElem?_cons_succ, List.set_cons_zero, List.set_cons_succ, vIx_t0, vIx_t1, vIx_t2, vIx_t3, vIx_t4, vIx_t5, vEq_ss, vEq_ii, vEq_bb, vNe_ss, vNe_ii, vNe_bb, vLen_tup, truA_tup, truA_bl, vLe_ii, vLt_ii, vGt_ii, vGe_ii, vSub_ii, vAdd_ii, vAddI_ii, vNeg_i, isT_ss, isT_tt, isT_ii, isT_bi, isT_bb, isT_ib, isTest, hs, vIn, seqOf, flatA, inF, eqF]
          | cons v r2 =>
            cases r2 with
            | nil =>
              simp [q_is_test, wipeR, gVar, gC, gOp, gUn, gAnd, gOr, gNot, gIf, gNil, gCons, gTup, gLst, gCB, gChain, gSet, gExpr, gRet, gRetN, gPass, gBrk, gCt, gRaise, gIfS, gSeq, nName, nTup, setAll, gAsg, gCall, gTru, gNotT, gIsi, RE.bind_ok, RE.bind_exc, RE.bind_stuck, RE.bindA_ok, RE.bindS_ok, RE.bindS_exc, RE.bindT_ok, RE.bindTS_ok, RA.bind_ok, RA.bindA_ok, RE.nox_ok, RS.seq_nx, RS.seq_ret, RS.seq_exc, RS.seq_brk, RS.seq_ct, RS.seq_stuck, RE.bindA_exc, RE.bindA_stuck, RE.bindS_stuck, RE.bindT_exc, RE.bindT_stuck, RE.bindTS_exc, RE.bindTS_stuck, RA.bind_exc, RA.bind_stuck, RA.bindA_exc, RA.bindA_stuck, RE.nox_stuck, bind_ite, bindA_ite, bindS_ite, bindT_ite, bindTS_ite, nox_ite, seq_ite, startR, tyA_non, tyA_bl, tyA_int, tyA_str, tyA_tup, List.map_cons, List.map_nil, List.length_cons, List.length_nil, List.cons_append, List.nil_append, List.append_nil, List.getElem?_cons_zero, List.getElem?_cons_succ, List.set_cons_zero, List.set_cons_succ, vIx_t0, vIx_t1, vIx_t2, vIx_t3, vIx_t4, vIx_t5, vEq_ss, vEq_ii, vEq_bb, vNe_ss, vNe_ii, vNe_bb, vLen_tup, truA_tup, truA_bl, vLe_ii, vLt_ii, vGt_ii, vGe_ii, vSub_ii, vAdd_ii, vAddI_ii, vNeg_i, isT_ss, isT_tt, isT_ii, isT_bi, isT_bb, isT_ib, isTest, hs, vIn, seqOf, flatA, inF, eqF, F_is_value, good_kn (hk v (by simp)), c1, c2]
              rcases ho with ho | ho
              · rw [if_pos ho]; rcases ho with ho | ho <;> simp [ho]
              · rw [if_neg ho]; simp only [not_or] at ho; simp [ho.1, ho.2]
            | cons v2 r3 =>
              have e : ¬ ((r3.length : Int) + 1 + 1 + 1 = 2) := by omega
              simp [q_is_test, wipeR, gVar, gC, gOp, gUn, gAnd, gOr, gNot, gIf, gNil, gCons, gTup, gLst, gCB, gChain, gSet, gExpr, gRet, gRetN, gPass, gBrk, gCt, gRaise, gIfS, gSeq, nName, nTup, setAll, gAsg, gCall, gTru, gNotT, gIsi, RE.bind_ok, RE.bind_exc, RE.bind_stuck, RE.bindA_ok, RE.bindS_ok, RE.bindS_exc, RE.bindT_ok, RE.bindTS_ok, RA.bind_ok, RA.bindA_ok, RE.nox_ok, RS.seq_nx, RS.seq_ret, RS.seq_exc, RS.seq_brk, RS.seq_ct, RS.seq_stuck, RE.bindA_exc, RE.bindA_stuck, RE.bindS_stuck, RE.bindT_exc, RE.bindT_stuck, RE.bindTS_exc, RE.bindTS_stuck, RA.bind_exc, RA.bind_stuck, RA.bindA_exc, RA.bindA_stuck, RE.nox_stuck, bind_ite, bindA_ite, bindS_ite, bindT_ite, bindTS_ite, nox_ite, seq_ite, startR, tyA_non, tyA_bl, tyA_int, tyA_str, tyA_tup, List.map_cons, List.map_nil, List.length_cons, List.length_nil, List.cons_append, List.nil_append, List.append_nil, List.getElem?_cons_zero, List.getElem?_cons_succ, List.set_cons_zero, List.set_cons_succ, vIx_t0, vIx_t1, vIx_t2, vIx_t3, vIx_t4, vIx_t5, vEq_ss, vEq_ii, vEq_bb, vNe_ss, vNe_ii, vNe_bb, vLen_tup, truA_tup, truA_bl, vLe_ii, vLt_ii, vGt_ii, vGe_ii, vSub_ii, vAdd_ii, vAddI_ii, vNeg_i, isT_ss, isT_tt, isT_ii, isT_bi, isT_bb, isT_ib, isTest, hs, vIn, seqOf, flatA, inF, eqF, e]
      all_goals simp [q_is_test, wipeR, gVar, gC, gOp, gUn, gAnd, gOr, gNot, gIf, gNil, gCons, gTup, gLst, gCB, gChain, gSet, gExpr, gRet, gRetN, gPass, gBrk, gCt, gRaise, gIfS, gSeq, nName, nTup, setAll, gAsg, gCall, gTru, gNotT, gIsi, RE.bind_ok, RE.bind_exc, RE.bind_stuck, RE.bindA_ok, RE.bindS_ok, RE.bindS_exc, RE.bindT_ok, RE.bindTS_ok, RA.bind_ok, RA.bindA_ok, RE.nox_ok, RS.seq_nx, RS.seq_ret, RS.seq_exc, RS.seq_brk, RS.seq_ct, RS.seq_stuck, RE.bindA_exc, RE.bindA_stuck, RE.bindS_stuck, RE.bindT_exc, RE.bindT_stuck, RE.bindTS_exc, RE.bindTS_stuck, RA.bind_exc, RA.bind_stuck, RA.bindA_exc, RA.bindA_stuck, RE.nox_stuck, bind_ite, bindA_ite, bindS_ite, bindT_ite, bindTS_ite, nox_ite, seq_ite, startR, tyA_non, tyA_bl, tyA_int, tyA_str, tyA_tup, List.map_cons, List.map_nil, List.length_cons, List.length_nil, List.cons_append, List.nil_append, List.append_nil, List.getElem?_cons_zero, List.getElem?_cons_succ, List.set_cons_zero, List.set_cons_succ, vIx_t0, vIx_t1, vIx_t2, vIx_t3, vIx_t4, vIx_t5, vEq_ss, vEq_ii, vEq_bb, vNe_ss, vNe_ii, vNe_bb, vLen_tup, truA_tup, truA_bl, vLe_ii, vLt_ii, vGt_ii, vGe_ii, vSub_ii, vAdd_ii, vAddI_ii, vNeg_i, isT_ss, isT_tt, isT_ii, isT_bi, isT_bb, isT_ib, isTest, isT]
  all_goals simp [q_is_test, wipeR, gVar, gC, gOp, gUn, gAnd, gOr, gNot, gIf, gNil, gCons, gTup, gLst, gCB, gChain, gSet, gExpr, gRet, gRetN, gPass, gBrk, gCt, gRaise, gIfS, gSeq, nName, nTup, setAll, gAsg, gCall, gTru, gNotT, gIsi, RE.bind_ok, RE.bind_exc, RE.bind_stuck, RE.bindA_ok, RE.bindS_ok, RE.bindS_exc, RE.bindT_ok, RE.bindTS_ok, RA.bind_ok, RA.bindA_ok, RE.nox_ok, RS.seq_nx, RS.seq_ret, RS.seq_exc, RS.seq_brk, RS.seq_ct, RS.seq_stuck, RE.bindA_exc, RE.bindA_stuck, RE.bindS_stuck, RE.bindT_exc, RE.bindT_stuck, RE.bindTS_exc, RE.bindTS_stuck, RA.bind_exc, RA.bind_stuck, RA.bindA_exc, RA.bindA_stuck, RE.nox_stuck, bind_ite, bindA_ite, bindS_ite, bindT_ite, bindTS_ite, nox_ite, seq_ite, startR, tyA_non, tyA_bl, tyA_int, tyA_str, tyA_tup, List.map_cons, List.map_nil, List.length_cons, List.length_nil, List.cons_append, List.nil_append, List.append_nil, List.getElem?_cons_zero, List.getElem?_cons_succ, List.set_cons_zero, List.set_cons_succ, vIx_t0, vIx_t1, vIx_t2, vIx_t3, vIx_t4, vIx_t5, vEq_ss, vEq_ii, vEq_bb, vNe_ss, vNe_ii, vNe_bb, vLen_tup, truA_tup, truA_bl, vLe_ii, vLt_ii, vGt_ii, vGe_ii, vSub_ii, vAdd_ii, vAddI_ii, vNeg_i, isT_ss, isT_tt, isT_ii, isT_bi, isT_bb, isT_ib, isTest, isT]
theorem ok_is_test (t : TT K mg base) : FnR P w K mg base 3 (He.ga K "is_test") t.f_is_test P_is_test (spF K (tbs K) (F_is_test K)) := by
  refine fnF t.D_is_test sc_is_test (fun l S h => by unfold F_is_test at h; split at h <;> first | rfl | exact absurd rfl h) (q_is_test K) (fun cdv A outer s H E hr => sb_is_test t hr) fun l S b bl h => ?_
  unfold F_is_test at h ⊢
  split at h
  rotate_left
  · exact absurd rfl h
  rename_i x
  by_cases hk : good S x = true
  rotate_left
  · exact absurd (if_neg hk) h
  rw [if_pos hk, e_is_test hk]
  exact fitP b (.bl _)
-- with is_deed is_hearer_so
abbrev N_is_deed : List Str := ["thing", "deep"]
abbrev P_is_deed : List Str := ["thing", "deep"]
theorem sc_is_deed : FnScope N_is_deed P_is_deed (defScope Hd.s_is_deed) := ⟨rfl, rfl, rfl, by decide +kernel, rfl, by decide +kernel, by decide +kernel⟩
theorem b_is_deed {K : Frg} {mg : Str → Option Value} {base : Heap} (t : TT K mg base) : Binds K t.f_is_deed P_is_deed [] := FunD.bindsN t.D_is_deed fun _ _ _ _ _ _ us hl => match us, hl with | [_, _], _ => rfl
abbrev N_is_hearer_so : List Str := ["thing", "deep", "owner", "topic", "rank", "how", "test", "deeds", "deed"]
abbrev P_is_hearer_so : List Str := ["thing", "deep"]
theorem sc_is_hearer_so : FnScope N_is_hearer_so P_is_hearer_so (defScope Hd.s_is_hearer_so) := ⟨rfl, rfl, rfl, by decide +kernel, rfl, by decide +kernel, by decide +kernel⟩
theorem b_is_hearer_so {K : Frg} {mg : Str → Option Value} {base : Heap} (t : TT K mg base) : Binds K t.f_is_hearer_so P_is_hearer_so [] := FunD.bindsN t.D_is_hearer_so fun _ _ _ _ _ _ us hl => match us, hl with | [_, _], _ => rfl
def F_is_hearer_so (n : Nat) (K : Frg) : List A → Sto → RE := fun l S => match l with
  | [x, .int deep] => if good S x = true ∧ 0 ≤ deep ∧ deep ≤ (n : Int) then .ok (.bl (isHr deep.toNat x)) S else .stuck
  | _ => .stuck
def F_is_deed (n : Nat) (K : Frg) : List A → Sto → RE := fun l S => match l with
  | [x, .int deep] => if good S x = true ∧ 0 ≤ deep ∧ deep ≤ (n : Int) then .ok (.bl (isDeedW (isHr deep.toNat) x)) S else .stuck
  | _ => .stuck
def q_is_deed (K : Frg) (Fh : List A → Sto → RE) : GS :=
  gSeq (gIfS (gOr (gNot (gIsi "tuple" (gVar 0))) (gOr (gNot (gTru (gVar 0))) (gNot (gIsi "str" (gOp vIx (gVar 0) (gC (.int 0))))))) (gRet (gC (.bl false))) (gPass))
  (gSeq (gIfS (gOp vIn (gOp vIx (gVar 0) (gC (.int 0))) (gTup (gCons (gC (.str "stop")) (gCons (gC (.str "done")) (gNil))))) (gRet (gOp vEq (gCB vLen (gCons (gVar 0) (gNil))) (gC (.int 1)))) (gPass))
  (gSeq (gIfS (gOp vEq (gOp vIx (gVar 0) (gC (.int 0))) (gC (.str "tell"))) (gRet (gAnd (gOp vEq (gCB vLen (gCons (gVar 0) (gNil))) (gC (.int 3))) (gAnd (gCall (F_is_word K) (gCons (gOp vIx (gVar 0) (gC (.int 1))) (gNil))) (gCall (F_is_value K) (gCons (gOp vIx (gVar 0) (gC (.int 2))) (gNil)))))) (gPass))
  (gSeq (gIfS (gOp vEq (gOp vIx (gVar 0) (gC (.int 0))) (gC (.str "leave"))) (gRet (gAnd (gOp vEq (gCB vLen (gCons (gVar 0) (gNil))) (gC (.int 2))) (gCall (F_is_word K) (gCons (gOp vIx (gVar 0) (gC (.int 1))) (gNil))))) (gPass))
  (gRet (gAnd (gOp vEq (gOp vIx (gVar 0) (gC (.int 0))) (gC (.str "join"))) (gAnd (gOp vEq (gCB vLen (gCons (gVar 0) (gNil))) (gC (.int 2))) (gCall (Fh) (gCons (gOp vIx (gVar 0) (gC (.int 1))) (gCons (gVar 1) (gNil))))))))))
theorem sb_is_deed {P : Program} {w : World} {K : Frg} {mg : Str → Option Value} {base : Heap} (t : TT K mg base) {d dh : Nat} {Fh : List A → Sto → RE} (okh : FnR P w K mg base dh (He.ga K "is_hearer_so") t.f_is_hearer_so P_is_hearer_so (spF K (tbs K) Fh)) (hd : 2 ≤ d) (hdh : dh ≤ d) {cdv : Value} {A : Around} {outer : List Env} {s : Shared} {H : Hp} {E : XK} (hr : Rm d (A.deeper (envOfC "is_deed" (defScope Hd.s_is_deed) s.heap.objs.size (He.ga K "is_deed") cdv))) :
    SB (cxOf (L2.CX P w) P w K mg base N_is_deed "is_deed" (defScope Hd.s_is_deed) (He.ga K "is_deed") cdv A outer s H E) (tbs K) (fun c d _ H2 => E c d H2) (defBody Hd.s_is_deed) (q_is_deed K Fh) := by
  have nd : N_is_deed.Nodup := sc_is_deed.nd
  have hp := passes_of (X := cxOf (L2.CX P w) P w K mg base N_is_deed "is_deed" (defScope Hd.s_is_deed) (He.ga K "is_deed") cdv A outer s H E) (K := fun e s2 => L2.CX P w outer H s E e s2) (E₁ := fun e s2 => L2.CX P w outer H s E e s2) rfl
  have tk : Takes (cxOf (L2.CX P w) P w K mg base N_is_deed "is_deed" (defScope Hd.s_is_deed) (He.ga K "is_deed") cdv A outer s H E) (fun c d _ H2 => E c d H2) := takes_of rfl rfl rfl rfl
  exact (sb_cons (ss_if (st_w (sw_or (st_not (st_val (se_isi (by decide) (by decide +kernel) t.n_isinstance t.n_tuple (se_var' (pv 0))))) (sw_or (st_not (st_truth (se_var' (pv 0)))) (sw_or1 (st_not (st_val (se_isi (by decide) (by decide +kernel) t.n_isinstance t.n_str (se_ix is_ix (se_var' (pv 0)) se_int (fun _ _ => rfl))))))))) (sb_one (ss_ret se_bl)) sb_nil)
  (sb_cons (ss_if (st_cmp os_in (se_ix is_ix (se_var' (pv 0)) se_int (fun _ _ => rfl)) (se_tup (sa_cons se_str (sa_cons se_str sa_nil))) (by rfl)) (sb_one (ss_ret (se_cmp (os_eq hr.units) (se_callB cs_len (by rfl) t.n_len (by decide +kernel) (sa_cons (se_var' (pv 0)) sa_nil)) se_int (nomark _)))) sb_nil)
  (sb_cons (ss_if (st_cmp (os_eq hr.units) (se_ix is_ix (se_var' (pv 0)) se_int (fun _ _ => rfl)) se_str (nomark _)) (sb_one (ss_ret (se_and (se_cmp (os_eq hr.units) (se_callB cs_len (by rfl) t.n_len (by decide +kernel) (sa_cons (se_var' (pv 0)) sa_nil)) se_int (nomark _)) (se_and (se_call (ok_is_word t) (hr.mono (by omega)) t.m_is_word t.D_is_word.kp (b_is_word t) tk (sa_cons (se_ix is_ix (se_var' (pv 0)) se_int (fun _ _ => rfl)) sa_nil)) (se_one (se_call (ok_is_value t) (hr.mono (by omega)) t.m_is_value t.D_is_value.kp (b_is_value t) tk (sa_cons (se_ix is_ix (se_var' (pv 0)) se_int (fun _ _ => rfl)) sa_nil))))))) sb_nil)
  (sb_cons (ss_if (st_cmp (os_eq hr.units) (se_ix is_ix (se_var' (pv 0)) se_int (fun _ _ => rfl)) se_str (nomark _)) (sb_one (ss_ret (se_and (se_cmp (os_eq hr.units) (se_callB cs_len (by rfl) t.n_len (by decide +kernel) (sa_cons (se_var' (pv 0)) sa_nil)) se_int (nomark _)) (se_one (se_call (ok_is_word t) (hr.mono (by omega)) t.m_is_word t.D_is_word.kp (b_is_word t) tk (sa_cons (se_ix is_ix (se_var' (pv 0)) se_int (fun _ _ => rfl)) sa_nil)))))) sb_nil)
  (sb_one (ss_ret (se_and (se_cmp (os_eq hr.units) (se_ix is_ix (se_var' (pv 0)) se_int (fun _ _ => rfl)) se_str (nomark _)) (se_and (se_cmp (os_eq hr.units) (se_callB cs_len (by rfl) t.n_len (by decide +kernel) (sa_cons (se_var' (pv 0)) sa_nil)) se_int (nomark _)) (se_one (se_call (okh) (hr.mono (by omega)) t.m_is_hearer_so t.D_is_hearer_so.kp (b_is_hearer_so t) tk (sa_cons (se_ix is_ix (se_var' (pv 0)) se_int (fun _ _ => rfl)) (sa_cons (se_var' (pv 1)) sa_nil))))))))))))

theorem e_is_deed {x : A} {deep : Int} {S : Sto} {Fh : List A → Sto → RE} (hk : good S x = true) (hF : ∀ a, good S a = true → Fh [a, .int deep] S = .ok (.bl (isHr deep.toNat a)) S) : q_is_deed K Fh (startR N_is_deed.length [x, .int deep]) S = .ret (.bl (isDeedW (isHr deep.toNat) x)) S := by
  cases x
  case ob n =>
    obtain ⟨ty, hty⟩ := kn_some (good_kn hk)
    obtain ⟨h1, h2, h3, h4⟩ := isi_ob hty
    simp [q_is_deed, wipeR, gVar, gC, gOp, gUn, gAnd, gOr, gNot, gIf, gNil, gCons, gTup, gLst, gCB, gChain, gSet, gExpr, gRet, gRetN, gPass, gBrk, gCt, gRaise, gIfS, gSeq, nName, nTup, setAll, gAsg, gCall, gTru, gNotT, gIsi, RE.bind_ok, RE.bind_exc, RE.bind_stuck, RE.bindA_ok, RE.bindS_ok, RE.bindS_exc, RE.bindT_ok, RE.bindTS_ok, RA.bind_ok, RA.bindA_ok, RE.nox_ok, RS.seq_nx, RS.seq_ret, RS.seq_exc, RS.seq_brk, RS.seq_ct, RS.seq_stuck, RE.bindA_exc, RE.bindA_stuck, RE.bindS_stuck, RE.bindT_exc, RE.bindT_stuck, RE.bindTS_exc, RE.bindTS_stuck, RA.bind_exc, RA.bind_stuck, RA.bindA_exc, RA.bindA_stuck, RE.nox_stuck, bind_ite, bindA_ite, bindS_ite, bindT_ite, bindTS_ite, nox_ite, seq_ite, startR, tyA_non, tyA_bl, tyA_int, tyA_str, tyA_tup, List.map_cons, List.map_nil, List.length_cons, List.length_nil, List.cons_append, List.nil_append, List.append_nil, List.getElem?_cons_zero, List.getElem?_cons_succ, List.set_cons_zero, List.set_cons_succ, vIx_t0, vIx_t1, vIx_t2, vIx_t3, vIx_t4, vIx_t5, vEq_ss, vEq_ii, vEq_bb, vNe_ss, vNe_ii, vNe_bb, vLen_tup, truA_tup, truA_bl, vLe_ii, vLt_ii, vGt_ii, vGe_ii, vSub_ii, vAdd_ii, vAddI_ii, vNeg_i, isT_ss, isT_tt, isT_ii, isT_bi, isT_bb, isT_ib, hty, h4, isDeedW]
  case tup l =>
    cases l with
    | nil => simp [q_is_deed, wipeR, gVar, gC, gOp, gUn, gAnd, gOr, gNot, gIf, gNil, gCons, gTup, gLst, gCB, gChain, gSet, gExpr, gRet, gRetN, gPass, gBrk, gCt, gRaise, gIfS, gSeq, nName, nTup, setAll, gAsg, gCall, gTru, gNotT, gIsi, RE.bind_ok, RE.bind_exc, RE.bind_stuck, RE.bindA_ok, RE.bindS_ok, RE.bindS_exc, RE.bindT_ok, RE.bindTS_ok, RA.bind_ok, RA.bindA_ok, RE.nox_ok, RS.seq_nx, RS.seq_ret, RS.seq_exc, RS.seq_brk, RS.seq_ct, RS.seq_stuck, RE.bindA_exc, RE.bindA_stuck, RE.bindS_stuck, RE.bindT_exc, RE.bindT_stuck, RE.bindTS_exc, RE.bindTS_stuck, RA.bind_exc, RA.bind_stuck, RA.bindA_exc, RA.bindA_stuck, RE.nox_stuck, bind_ite, bindA_ite, bindS_ite, bindT_ite, bindTS_ite, nox_ite, seq_ite, startR, tyA_non, tyA_bl, tyA_int, tyA_str, tyA_tup, List.map_cons, List.map_nil, List.length_cons, List.length_nil, List.cons_append, List.nil_append, List.append_nil, List.getElem?_cons_zero, List.getElem?_cons_succ, List.set_cons_zero, List.set_cons_succ, vIx_t0, vIx_t1, vIx_t2, vIx_t3, vIx_t4, vIx_t5, vEq_ss, vEq_ii, vEq_bb, vNe_ss, vNe_ii, vNe_bb, vLen_tup, truA_tup, truA_bl, vLe_ii, vLt_ii, vGt_ii, vGe_ii, vSub_ii, vAdd_ii, vAddI_ii, vNeg_i, isT_ss, isT_tt, isT_ii, isT_bi, isT_bb, isT_ib, isDeedW]
    | cons y r =>
      replace hk := good_tup.mp hk
      obtain ⟨ty, hty⟩ := kn_some (good_kn (hk y (by simp)))
      cases y
      case ob n =>
        obtain ⟨h1, h2, h3, h4⟩ := isi_ob hty
        simp [q_is_deed, wipeR, gVar, gC, gOp, gUn, gAnd, gOr, gNot, gIf, gNil, gCons, gTup, gLst, gCB, gChain, gSet, gExpr, gRet, gRetN, gPass, gBrk, gCt, gRaise, gIfS, gSeq, nName, nTup, setAll, gAsg, gCall, gTru, gNotT, gIsi, RE.bind_ok, RE.bind_exc, RE.bind_stuck, RE.bindA_ok, RE.bindS_ok, RE.bindS_exc, RE.bindT_ok, RE.bindTS_ok, RA.bind_ok, RA.bindA_ok, RE.nox_ok, RS.seq_nx, RS.seq_ret, RS.seq_exc, RS.seq_brk, RS.seq_ct, RS.seq_stuck, RE.bindA_exc, RE.bindA_stuck, RE.bindS_stuck, RE.bindT_exc, RE.bindT_stuck, RE.bindTS_exc, RE.bindTS_stuck, RA.bind_exc, RA.bind_stuck, RA.bindA_exc, RA.bindA_stuck, RE.nox_stuck, bind_ite, bindA_ite, bindS_ite, bindT_ite, bindTS_ite, nox_ite, seq_ite, startR, tyA_non, tyA_bl, tyA_int, tyA_str, tyA_tup, List.map_cons, List.map_nil, List.length_cons, List.length_nil, List.cons_append, List.nil_append, List.append_nil, List.getElem?_cons_zero, List.getElem?_cons_succ, List.set_cons_zero, List.set_cons_succ, vIx_t0, vIx_t1, vIx_t2, vIx_t3, vIx_t4, vIx_t5, vEq_ss, vEq_ii, vEq_bb, vNe_ss, vNe_ii, vNe_bb, vLen_tup, truA_tup, truA_bl, vLe_ii, vLt_ii, vGt_ii, vGe_ii, vSub_ii, vAdd_ii, vAddI_ii, vNeg_i, isT_ss, isT_tt, isT_ii, isT_bi, isT_bb, isT_ib, hty, h3, isDeedW]
      case str s =>
        have c1 : (("stop" : Str) = s) = (s = "stop") := propext eq_comm
        have c2 : (("done" : Str) = s) = (s = "done") := propext eq_comm
        by_cases h1 : s = "stop" ∨ s = "done"
        · cases r <;> simp [q_is_deed, wipeR, gVar, gC, gOp, gUn, gAnd, gOr, gNot, gIf, gNil, gCons, gTup, gLst, gCB, gChain, gSet, gExpr, gRet, gRetN, gPass, gBrk, gCt, gRaise, gIfS, gSeq, nName, nTup, setAll, gAsg, gCall, gTru, gNotT, gIsi, RE.bind_ok, RE.bind_exc, RE.bind_stuck, RE.bindA_ok, RE.bindS_ok, RE.bindS_exc, RE.bindT_ok, RE.bindTS_ok, RA.bind_ok, RA.bindA_ok, RE.nox_ok, RS.seq_nx, RS.seq_ret, RS.seq_exc, RS.seq_brk, RS.seq_ct, RS.seq_stuck, RE.bindA_exc, RE.bindA_stuck, RE.bindS_stuck, RE.bindT_exc, RE.bindT_stuck, RE.bindTS_exc, RE.bindTS_stuck, RA.bind_exc, RA.bind_stuck, RA.bindA_exc, RA.bindA_stuck, RE.nox_stuck, bind_ite, bindA_ite, bindS_ite, bindT_ite, bindTS_ite, nox_ite, seq_ite, startR, tyA_non, tyA_bl, tyA_int, tyA_str, tyA_tup, List.map_cons, List.map_nil, List.length_cons, List.length_nil, List.cons_append, List.nil_append, List.append_nil, List.getElem?_cons_zero, List.getElem?_cons_succ, List.set_cons_zero, List.set_cons_succ, vIx_t0, vIx_t1, vIx_t2, vIx_t3, vIx_t4, vIx_t5, vEq_ss, vEq_ii, vEq_bb, vNe_ss, vNe_ii, vNe_bb, vLen_tup, truA_tup, truA_bl, vLe_ii, vLt_ii, vGt_ii, vGe_ii, vSub_ii, vAdd_ii, vAddI_ii, vNeg_i, isT_ss, isT_tt, isT_ii, isT_bi, isT_bb, isT_ib, vIn, seqOf, flatA, inF, eqF, c1, c2, h1, isDeedW]
          omega
        · by_cases h2 : s = "tell"
          · subst h2
            match r, hk with
            | [], _ => simp [q_is_deed, wipeR, gVar, gC, gOp, gUn, gAnd, gOr, gNot, gIf, gNil, gCons, gTup, gLst, gCB, gChain, gSet, gExpr, gRet, gRetN, gPass, gBrk, gCt, gRaise, gIfS, gSeq, nName, nTup, setAll, gAsg, gCall, gTru, gNotT, gIsi, RE.bind_ok, RE.bind_exc, RE.bind_stuck, RE.bindA_ok, RE.bindS_ok, RE.bindS_exc, RE.bindT_ok, RE.bindTS_ok, RA.bind_ok, RA.bindA_ok, RE.nox_ok, RS.seq_nx, RS.seq_ret, RS.seq_exc, RS.seq_brk, RS.seq_ct, RS.seq_stuck, RE.bindA_exc, RE.bindA_stuck, RE.bindS_stuck, RE.bindT_exc, RE.bindT_stuck, RE.bindTS_exc, RE.bindTS_stuck, RA.bind_exc, RA.bind_stuck, RA.bindA_exc, RA.bindA_stuck, RE.nox_stuck, bind_ite, bindA_ite, bindS_ite, bindT_ite, bindTS_ite, nox_ite, seq_ite, startR, tyA_non, tyA_bl, tyA_int, tyA_str, tyA_tup, List.map_cons, List.map_nil, List.length_cons, List.length_nil, List.cons_append, List.nil_append, List.append_nil, List.getElem?_cons_zero, List.getElem?_cons_succ, List.set_cons_zero, List.set_cons_succ, vIx_t0, vIx_t1, vIx_t2, vIx_t3, vIx_t4, vIx_t5, vEq_ss, vEq_ii, vEq_bb, vNe_ss, vNe_ii, vNe_bb, vLen_tup, truA_tup, truA_bl, vLe_ii, vLt_ii, vGt_ii, vGe_ii, vSub_ii, vAdd_ii, vAddI_ii, vNeg_i, isT_ss, isT_tt, isT_ii, isT_bi, isT_bb, isT_ib, vIn, seqOf, flatA, inF, eqF, c1, c2, h1, isDeedW]
            | [a], _ => simp [q_is_deed, wipeR, gVar, gC, gOp, gUn, gAnd, gOr, gNot, gIf, gNil, gCons, gTup, gLst, gCB, gChain, gSet, gExpr, gRet, gRetN, gPass, gBrk, gCt, gRaise, gIfS, gSeq, nName, nTup, setAll, gAsg, gCall, gTru, gNotT, gIsi, RE.bind_ok, RE.bind_exc, RE.bind_stuck, RE.bindA_ok, RE.bindS_ok, RE.bindS_exc, RE.bindT_ok, RE.bindTS_ok, RA.bind_ok, RA.bindA_ok, RE.nox_ok, RS.seq_nx, RS.seq_ret, RS.seq_exc, RS.seq_brk, RS.seq_ct, RS.seq_stuck, RE.bindA_exc, RE.bindA_stuck, RE.bindS_stuck, RE.bindT_exc, RE.bindT_stuck, RE.bindTS_exc, RE.bindTS_stuck, RA.bind_exc, RA.bind_stuck, RA.bindA_exc, RA.bindA_stuck, RE.nox_stuck, bind_ite, bindA_ite, bindS_ite, bindT_ite, bindTS_ite, nox_ite, seq_ite, startR, tyA_non, tyA_bl, tyA_int, tyA_str, tyA_tup, List.map_cons, List.map_nil, List.length_cons, List.length_nil, List.cons_append, List.nil_append, List.append_nil, List.getElem?_cons_zero, List.getElem?_cons_succ, List.set_cons_zero, List.set_cons_succ, vIx_t0, vIx_t1, vIx_t2, vIx_t3, vIx_t4, vIx_t5, vEq_ss, vEq_ii, vEq_bb, vNe_ss, vNe_ii, vNe_bb, vLen_tup, truA_tup, truA_bl, vLe_ii, vLt_ii, vGt_ii, vGe_ii, vSub_ii, vAdd_ii, vAddI_ii, vNeg_i, isT_ss, isT_tt, isT_ii, isT_bi, isT_bb, isT_ib, vIn, seqOf, flatA, inF, eqF, c1, c2, h1, isDeedW]
            | [a, b], hk =>
              have g1 := hk a (by simp)
              have g2 := good_kn (hk b (by simp))
              cases hw : isWord a <;> simp [q_is_deed, wipeR, gVar, gC, gOp, gUn, gAnd, gOr, gNot, gIf, gNil, gCons, gTup, gLst, gCB, gChain, gSet, gExpr, gRet, gRetN, gPass, gBrk, gCt, gRaise, gIfS, gSeq, nName, nTup, setAll, gAsg, gCall, gTru, gNotT, gIsi, RE.bind_ok, RE.bind_exc, RE.bind_stuck, RE.bindA_ok, RE.bindS_ok, RE.bindS_exc, RE.bindT_ok, RE.bindTS_ok, RA.bind_ok, RA.bindA_ok, RE.nox_ok, RS.seq_nx, RS.seq_ret, RS.seq_exc, RS.seq_brk, RS.seq_ct, RS.seq_stuck, RE.bindA_exc, RE.bindA_stuck, RE.bindS_stuck, RE.bindT_exc, RE.bindT_stuck, RE.bindTS_exc, RE.bindTS_stuck, RA.bind_exc, RA.bind_stuck, RA.bindA_exc, RA.bindA_stuck, RE.nox_stuck, bind_ite, bindA_ite, bindS_ite, bindT_ite, bindTS_ite, nox_ite, seq_ite, startR, tyA_non, tyA_bl, tyA_int, tyA_str, tyA_tup, List.map_cons, List.map_nil, List.length_cons, List.length_nil, List.cons_append, List.nil_append, List.append_nil, List.getElem?_cons_zero, List.getElem?_cons_succ, List.set_cons_zero, List.set_cons_succ, vIx_t0, vIx_t1, vIx_t2, vIx_t3, vIx_t4, vIx_t5, vEq_ss, vEq_ii, vEq_bb, vNe_ss, vNe_ii, vNe_bb, vLen_tup, truA_tup, truA_bl, vLe_ii, vLt_ii, vGt_ii, vGe_ii, vSub_ii, vAdd_ii, vAddI_ii, vNeg_i, isT_ss, isT_tt, isT_ii, isT_bi, isT_bb, isT_ib, vIn, seqOf, flatA, inF, eqF, c1, c2, h1, isDeedW, F_is_word, F_is_value, g1, g2, hw]
            | a :: b :: c :: r4, _ =>
              have e : ¬ ((r4.length : Int) + 1 + 1 + 1 + 1 = 3) := by omega
              simp [q_is_deed, wipeR, gVar, gC, gOp, gUn, gAnd, gOr, gNot, gIf, gNil, gCons, gTup, gLst, gCB, gChain, gSet, gExpr, gRet, gRetN, gPass, gBrk, gCt, gRaise, gIfS, gSeq, nName, nTup, setAll, gAsg, gCall, gTru, gNotT, gIsi, RE.bind_ok, RE.bind_exc, RE.bind_stuck, RE.bindA_ok, RE.bindS_ok, RE.bindS_exc, RE.bindT_ok, RE.bindTS_ok, RA.bind_ok, RA.bindA_ok, RE.nox_ok, RS.seq_nx, RS.seq_ret, RS.seq_exc, RS.seq_brk, RS.seq_ct, RS.seq_stuck, RE.bindA_exc, RE.bindA_stuck, RE.bindS_stuck, RE.bindT_exc, RE.bindT_stuck, RE.bindTS_exc, RE.bindTS_stuck, RA.bind_exc, RA.bind_stuck, RA.bindA_exc, RA.bindA_stuck, RE.nox_stuck, bind_ite, bindA_ite, bindS_ite, bindT_ite, bindTS_ite, nox_ite, seq_ite, startR, tyA_non, tyA_bl, tyA_int, tyA_str, tyA_tup, List.map_cons, List.map_nil, List.length_cons, List.length_nil, List.cons_append, List.nil_append, List.append_nil, List.getElem?_cons_zero, List.getElem?_cons_succ, List.set_cons_zero, List.set_cons_succ, vIx_t0, vIx_t1, vIx_t2, vIx_t3, vIx_t4, vIx_t5, vEq_ss, vEq_ii, vEq_bb, vNe_ss, vNe_ii, vNe_bb, vLen_tup, truA_tup, truA_bl, vLe_ii, vLt_ii, vGt_ii, vGe_ii, vSub_ii, vAdd_ii, vAddI_ii, vNeg_i, isT_ss, isT_tt, isT_ii, isT_bi, isT_bb, isT_ib, vIn, seqOf, flatA, inF, eqF, c1, c2, h1, isDeedW, e]
          · by_cases h3 : s = "leave"
            · subst h3
              match r, hk with
              | [], _ => simp [q_is_deed, wipeR, gVar, gC, gOp, gUn, gAnd, gOr, gNot, gIf, gNil, gCons, gTup, gLst, gCB, gChain, gSet, gExpr, gRet, gRetN, gPass, gBrk, gCt, gRaise, gIfS, gSeq, nName, nTup, setAll, gAsg, gCall, gTru, gNotT, gIsi, RE.bind_ok, RE.bind_exc, RE.bind_stuck, RE.bindA_ok, RE.bindS_ok, RE.bindS_exc, RE.bindT_ok, RE.bindTS_ok, RA.bind_ok, RA.bindA_ok, RE.nox_ok, RS.seq_nx, RS.seq_ret, RS.seq_exc, RS.seq_brk, RS.seq_ct, RS.seq_stuck, RE.bindA_exc, RE.bindA_stuck, RE.bindS_stuck, RE.bindT_exc, RE.bindT_stuck, RE.bindTS_exc, RE.bindTS_stuck, RA.bind_exc, RA.bind_stuck, RA.bindA_exc, RA.bindA_stuck, RE.nox_stuck, bind_ite, bindA_ite, bindS_ite, bindT_ite, bindTS_ite, nox_ite, seq_ite, startR, tyA_non, tyA_bl, tyA_int, tyA_str, tyA_tup, List.map_cons, List.map_nil, List.length_cons, List.length_nil, List.cons_append, List.nil_append, List.append_nil, List.getElem?_cons_zero, List.getElem?_cons_succ, List.set_cons_zero, List.set_cons_succ, vIx_t0, vIx_t1, vIx_t2, vIx_t3, vIx_t4, vIx_t5, vEq_ss, vEq_ii, vEq_bb, vNe_ss, vNe_ii, vNe_bb, vLen_tup, truA_tup, truA_bl, vLe_ii, vLt_ii, vGt_ii, vGe_ii, vSub_ii, vAdd_ii, vAddI_ii, vNeg_i, isT_ss, isT_tt, isT_ii, isT_bi, isT_bb, isT_ib, vIn, seqOf, flatA, inF, eqF, c1, c2, h1, h2, isDeedW]
              | [a], hk =>
                have g1 := hk a (by simp)
                simp [q_is_deed, wipeR, gVar, gC, gOp, gUn, gAnd, gOr, gNot, gIf, gNil, gCons, gTup, gLst, gCB, gChain, gSet, gExpr, gRet, gRetN, gPass, gBrk, gCt, gRaise, gIfS, gSeq, nName, nTup, setAll, gAsg, gCall, gTru, gNotT, gIsi, RE.bind_ok, RE.bind_exc, RE.bind_stuck, RE.bindA_ok, RE.bindS_ok, RE.bindS_exc, RE.bindT_ok, RE.bindTS_ok, RA.bind_ok, RA.bindA_ok, RE.nox_ok, RS.seq_nx, RS.seq_ret, RS.seq_exc, RS.seq_brk, RS.seq_ct, RS.seq_stuck, RE.bindA_exc, RE.bindA_stuck, RE.bindS_stuck, RE.bindT_exc, RE.bindT_stuck, RE.bindTS_exc, RE.bindTS_stuck, RA.bind_exc, RA.bind_stuck, RA.bindA_exc, RA.bindA_stuck, RE.nox_stuck, bind_ite, bindA_ite, bindS_ite, bindT_ite, bindTS_ite, nox_ite, seq_ite, startR, tyA_non, tyA_bl, tyA_int, tyA_str, tyA_tup, List.map_cons, List.map_nil, List.length_cons, List.length_nil, List.cons_append, List.nil_append, List.append_nil, List.getElem?_cons_zero, List.getElem?_cons_succ, List.set_cons_zero, List.set_cons_succ, vIx_t0, vIx_t1, vIx_t2, vIx_t3, vIx_t4, vIx_t5, vEq_ss, vEq_ii, vEq_bb, vNe_ss, vNe_ii, vNe_bb, vLen_tup, truA_tup, truA_bl, vLe_ii, vLt_ii, vGt_ii, vGe_ii, vSub_ii, vAdd_ii, vAddI_ii, vNeg_i, isT_ss, isT_tt, isT_ii, isT_bi, isT_bb, isT_ib, vIn, seqOf, flatA, inF, eqF, c1, c2, h1, h2, isDeedW, F_is_word, g1]
              | a :: c :: r4, _ =>
                have e : ¬ ((r4.length : Int) + 1 + 1 + 1 = 2) := by omega
                simp [q_is_deed, wipeR, gVar, gC, gOp, gUn, gAnd, gOr, gNot, gIf, gNil, gCons, gTup, gLst, gCB, gChain, gSet, gExpr, gRet, gRetN, gPass, gBrk, gCt, gRaise, gIfS, gSeq, nName, nTup, setAll, gAsg, gCall, gTru, gNotT, gIsi, RE.bind_ok, RE.bind_exc, RE.bind_stuck, RE.bindA_ok, RE.bindS_ok, RE.bindS_exc, RE.bindT_ok, RE.bindTS_ok, RA.bind_ok, RA.bindA_ok, RE.nox_ok, RS.seq_nx, RS.seq_ret, RS.seq_exc, RS.seq_brk, RS.seq_ct, RS.seq_stuck, RE.bindA_exc, RE.bindA_stuck, RE.bindS_stuck, RE.bindT_exc, RE.bindT_stuck, RE.bindTS_exc, RE.bindTS_stuck, RA.bind_exc, RA.bind_stuck, RA.bindA_exc, RA.bindA_stuck, RE.nox_stuck, bind_ite, bindA_ite, bindS_ite, bindT_ite, bindTS_ite, nox_ite, seq_ite, startR, tyA_non, tyA_bl, tyA_int, tyA_str, tyA_tup, List.map_cons, List.map_nil, List.length_cons, List.length_nil, List.cons_append, List.nil_append, List.append_nil, List.getElem?_cons_zero, List.getElem?_cons_succ, List.set_cons_zero, List.set_cons_succ, vIx_t0, vIx_t1, vIx_t2, vIx_t3, vIx_t4, vIx_t5, vEq_ss, vEq_ii, vEq_bb, vNe_ss, vNe_ii, vNe_bb, vLen_tup, truA_tup, truA_bl, vLe_ii, vLt_ii, vGt_ii, vGe_ii, vSub_ii, vAdd_ii, vAddI_ii, vNeg_i, isT_ss, isT_tt, isT_ii, isT_bi, isT_bb, isT_ib, vIn, seqOf, flatA, inF, eqF, c1, c2, h1, h2, isDeedW, e]
            · by_cases h4 : s = "join"
              · subst h4
                match r, hk with
                | [], _ => simp [q_is_deed, wipeR, gVar, gC, gOp, gUn, gAnd, gOr, gNot, gIf, gNil, gCons, gTup, gLst, gCB, gChain, gSet, gExpr, gRet, gRetN, gPass, gBrk, gCt, gRaise, gIfS, gSeq, nName, nTup, setAll, gAsg, gCall, gTru, gNotT, gIsi, RE.bind_ok, RE.bind_exc, RE.bind_stuck, RE.bindA_ok, RE.bindS_ok, RE.bindS_exc, RE.bindT_ok, RE.bindTS_ok, RA.bind_ok, RA.bindA_ok, RE.nox_ok, RS.seq_nx, RS.seq_ret, RS.seq_exc, RS.seq_brk, RS.seq_ct, RS.seq_stuck, RE.bindA_exc, RE.bindA_stuck, RE.bindS_stuck, RE.bindT_exc, RE.bindT_stuck, RE.bindTS_exc, RE.bindTS_stuck, RA.bind_exc, RA.bind_stuck, RA.bindA_exc, RA.bindA_stuck, RE.nox_stuck, bind_ite, bindA_ite, bindS_ite, bindT_ite, bindTS_ite, nox_ite, seq_ite, startR, tyA_non, tyA_bl, tyA_int, tyA_str, tyA_tup, List.map_cons, List.map_nil, List.length_cons, List.length_nil, List.cons_append, List.nil_append, List.append_nil, List.getElem?_cons_zero, List.getElem?_cons_succ, List.set_cons_zero, List.set_cons_succ, vIx_t0, vIx_t1, vIx_t2, vIx_t3, vIx_t4, vIx_t5, vEq_ss, vEq_ii, vEq_bb, vNe_ss, vNe_ii, vNe_bb, vLen_tup, truA_tup, truA_bl, vLe_ii, vLt_ii, vGt_ii, vGe_ii, vSub_ii, vAdd_ii, vAddI_ii, vNeg_i, isT_ss, isT_tt, isT_ii, isT_bi, isT_bb, isT_ib, vIn, seqOf, flatA, inF, eqF, c1, c2, h1, h2, h3, isDeedW]
                | [a], hk =>
                  have g1 := hk a (by simp)
                  simp [q_is_deed, wipeR, gVar, gC, gOp, gUn, gAnd, gOr, gNot, gIf, gNil, gCons, gTup, gLst, gCB, gChain, gSet, gExpr, gRet, gRetN, gPass, gBrk, gCt, gRaise, gIfS, gSeq, nName, nTup, setAll, gAsg, gCall, gTru, gNotT, gIsi, RE.bind_ok, RE.bind_exc, RE.bind_stuck, RE.bindA_ok, RE.bindS_ok, RE.bindS_exc, RE.bindT_ok, RE.bindTS_ok, RA.bind_ok, RA.bindA_ok, RE.nox_ok, RS.seq_nx, RS.seq_ret, RS.seq_exc, RS.seq_brk, RS.seq_ct, RS.seq_stuck, RE.bindA_exc, RE.bindA_stuck, RE.bindS_stuck, RE.bindT_exc, RE.bindT_stuck, RE.bindTS_exc, RE.bindTS_stuck, RA.bind_exc, RA.bind_stuck, RA.bindA_exc, RA.bindA_stuck, RE.nox_stuck, bind_ite, bindA_ite, bindS_ite, bindT_ite, bindTS_ite, nox_ite, seq_ite, startR, tyA_non, tyA_bl, tyA_int, tyA_str, tyA_tup, List.map_cons, List.map_nil, List.length_cons, List.length_nil, List.cons_append, List.nil_append, List.append_nil, List.getElem?_cons_zero, List.getElem?_cons_succ, List.set_cons_zero, List.set_cons_succ, vIx_t0, vIx_t1, vIx_t2, vIx_t3, vIx_t4, vIx_t5, vEq_ss, vEq_ii, vEq_bb, vNe_ss, vNe_ii, vNe_bb, vLen_tup, truA_tup, truA_bl, vLe_ii, vLt_ii, vGt_ii, vGe_ii, vSub_ii, vAdd_ii, vAddI_ii, vNeg_i, isT_ss, isT_tt, isT_ii, isT_bi, isT_bb, isT_ib, vIn, seqOf, flatA, inF, eqF, c1, c2, h1, h2, h3, isDeedW, hF a g1]
                | a :: c :: r4, _ =>
                  have e : ¬ ((r4.length : Int) + 1 + 1 + 1 = 2) := by omega
                  simp [q_is_deed, wipeR, gVar, gC, gOp, gUn, gAnd, gOr, gNot, gIf, gNil, gCons, gTup, gLst, gCB, gChain, gSet, gExpr, gRet, gRetN, gPass, gBrk, gCt, gRaise, gIfS, gSeq, nName, nTup, setAll, gAsg, gCall, gTru, gNotT, gIsi, RE.bind_ok, RE.bind_exc, RE.bind_stuck, RE.bindA_ok, RE.bindS_ok, RE.bindS_exc, RE.bindT_ok, RE.bindTS_ok, RA.bind_ok, RA.bindA_ok, RE.nox_ok, RS.seq_nx, RS.seq_ret, RS.seq_exc, RS.seq_brk, RS.seq_ct, RS.seq_stuck, RE.bindA_exc, RE.bindA_stuck, RE.bindS_stuck, RE.bindT_exc, RE.bindT_stuck, RE.bindTS_exc, RE.bindTS_stuck, RA.bind_exc, RA.bind_stuck, RA.bindA_exc, RA.bindA_stuck, RE.nox_stuck, bind_ite, bindA_ite, bindS_ite, bindT_ite, bindTS_ite, nox_ite, seq_ite, startR, tyA_non, tyA_bl, tyA_int, tyA_str, tyA_tup, List.map_cons, List.map_nil, List.length_cons, List.length_nil, List.cons_append, List.nil_append, List.append_nil, List.getElem?_cons_zero, List.getElem?_cons_succ, List.set_cons_zero, List.set_cons_succ, vIx_t0, vIx_t1, vIx_t2, vIx_t3, vIx_t4, vIx_t5, vEq_ss, vEq_ii, vEq_bb, vNe_ss, vNe_ii, vNe_bb, vLen_tup, truA_tup, truA_bl, vLe_ii, vLt_ii, vGt_ii, vGe_ii, vSub_ii, vAdd_ii, vAddI_ii, vNeg_i, isT_ss, isT_tt, isT_ii, isT_bi, isT_bb, isT_ib, vIn, seqOf, flatA, inF, eqF, c1, c2, h1, h2, h3, isDeedW, e]
              · simp [q_is_deed, wipeR, gVar, gC, gOp, gUn, gAnd, gOr, gNot, gIf, gNil, gCons, gTup, gLst, gCB, gChain, gSet, gExpr, gRet, gRetN, gPass, gBrk, gCt, gRaise, gIfS, gSeq, nName, nTup, setAll, gAsg, gCall, gTru, gNotT, gIsi, RE.bind_ok, RE.bind_exc, RE.bind_stuck, RE.bindA_ok, RE.bindS_ok, RE.bindS_exc, RE.bindT_ok, RE.bindTS_ok, RA.bind_ok, RA.bindA_ok, RE.nox_ok, RS.seq_nx, RS.seq_ret, RS.seq_exc, RS.seq_brk, RS.seq_ct, RS.seq_stuck, RE.bindA_exc, RE.bindA_stuck, RE.bindS_stuck, RE.bindT_exc, RE.bindT_stuck, RE.bindTS_exc, RE.bindTS_stuck, RA.bind_exc, RA.bind_stuck, RA.bindA_exc, RA.bindA_stuck, RE.nox_stuck, bind_ite, bindA_ite, bindS_ite, bindT_ite, bindTS_ite, nox_ite, seq_ite, startR, tyA_non, tyA_bl, tyA_int, tyA_str, tyA_tup, List.map_cons, List.map_nil, List.length_cons, List.length_nil, List.cons_append, List.nil_append, List.append_nil, List.getElem?_cons_zero, List.getElem?_cons_succ, List.set_cons_zero, List.set_cons_succ, vIx_t0, vIx_t1, vIx_t2, vIx_t3, vIx_t4, vIx_t5, vEq_ss, vEq_ii, vEq_bb, vNe_ss, vNe_ii, vNe_bb, vLen_tup, truA_tup, truA_bl, vLe_ii, vLt_ii, vGt_ii, vGe_ii, vSub_ii, vAdd_ii, vAddI_ii, vNeg_i, isT_ss, isT_tt, isT_ii, isT_bi, isT_bb, isT_ib, vIn, seqOf, flatA, inF, eqF, c1, c2, h1, h2, h3, h4, isDeedW]
      all_goals simp [q_is_deed, wipeR, gVar, gC, gOp, gUn, gAnd, gOr, gNot, gIf, gNil, gCons, gTup, gLst, gCB, gChain, gSet, gExpr, gRet, gRetN, gPass, gBrk, gCt, gRaise, gIfS, gSeq, nName, nTup, setAll, gAsg, gCall, gTru, gNotT, gIsi, RE.bind_ok, RE.bind_exc, RE.bind_stuck, RE.bindA_ok, RE.bindS_ok, RE.bindS_exc, RE.bindT_ok, RE.bindTS_ok, RA.bind_ok, RA.bindA_ok, RE.nox_ok, RS.seq_nx, RS.seq_ret, RS.seq_exc, RS.seq_brk, RS.seq_ct, RS.seq_stuck, RE.bindA_exc, RE.bindA_stuck, RE.bindS_stuck, RE.bindT_exc, RE.bindT_stuck, RE.bindTS_exc, RE.bindTS_stuck, RA.bind_exc, RA.bind_stuck, RA.bindA_exc, RA.bindA_stuck, RE.nox_stuck, bind_ite, bindA_ite, bindS_ite, bindT_ite, bindTS_ite, nox_ite, seq_ite, startR, tyA_non, tyA_bl, tyA_int, tyA_str, tyA_tup, List.map_cons, List.map_nil, List.length_cons, List.length_nil, List.cons_append, List.nil_append, List.append_nil, List.getElem?_cons_zero, List.getElem?_cons_succ, List.set_cons_zero, List.set_cons_succ, vIx_t0, vIx_t1, vIx_t2, vIx_t3, vIx_t4, vIx_t5, vEq_ss, vEq_ii, vEq_bb, vNe_ss, vNe_ii, vNe_bb, vLen_tup, truA_tup, truA_bl, vLe_ii, vLt_ii, vGt_ii, vGe_ii, vSub_ii, vAdd_ii, vAddI_ii, vNeg_i, isT_ss, isT_tt, isT_ii, isT_bi, isT_bb, isT_ib, isDeedW, isT]
  all_goals simp [q_is_deed, wipeR, gVar, gC, gOp, gUn, gAnd, gOr, gNot, gIf, gNil, gCons, gTup, gLst, gCB, gChain, gSet, gExpr, gRet, gRetN, gPass, gBrk, gCt, gRaise, gIfS, gSeq, nName, nTup, setAll, gAsg, gCall, gTru, gNotT, gIsi, RE.bind_ok, RE.bind_exc, RE.bind_stuck, RE.bindA_ok, RE.bindS_ok, RE.bindS_exc, RE.bindT_ok, RE.bindTS_ok, RA.bind_ok, RA.bindA_ok, RE.nox_ok, RS.seq_nx, RS.seq_ret, RS.seq_exc, RS.seq_brk, RS.seq_ct, RS.seq_stuck, RE.bindA_exc, RE.bindA_stuck, RE.bindS_stuck, RE.bindT_exc, RE.bindT_stuck, RE.bindTS_exc, RE.bindTS_stuck, RA.bind_exc, RA.bind_stuck, RA.bindA_exc, RA.bindA_stuck, RE.nox_stuck, bind_ite, bindA_ite, bindS_ite, bindT_ite, bindTS_ite, nox_ite, seq_ite, startR, tyA_non, tyA_bl, tyA_int, tyA_str, tyA_tup, List.map_cons, List.map_nil, List.length_cons, List.length_nil, List.cons_append, List.nil_append, List.append_nil, List.getElem?_cons_zero, List.getElem?_cons_succ, List.set_cons_zero, List.set_cons_succ, vIx_t0, vIx_t1, vIx_t2, vIx_t3, vIx_t4, vIx_t5, vEq_ss, vEq_ii, vEq_bb, vNe_ss, vNe_ii, vNe_bb, vLen_tup, truA_tup, truA_bl, vLe_ii, vLt_ii, vGt_ii, vGe_ii, vSub_ii, vAdd_ii, vAddI_ii, vNeg_i, isT_ss, isT_tt, isT_ii, isT_bi, isT_bb, isT_ib, isDeedW, isT]
theorem ok_is_deed_of (t : TT K mg base) {n d : Nat} (hd : 2 ≤ d) (okh : FnR P w K mg base d (He.ga K "is_hearer_so") t.f_is_hearer_so P_is_hearer_so (spF K (tbs K) (F_is_hearer_so n K))) : FnR P w K mg base (d + 1) (He.ga K "is_deed") t.f_is_deed P_is_deed (spF K (tbs K) (F_is_deed n K)) := by
  refine fnF t.D_is_deed sc_is_deed (fun l S h => by unfold F_is_deed at h; split at h <;> first | rfl | exact absurd rfl h) (q_is_deed K (F_is_hearer_so n K)) (fun cdv A outer s H E hr => sb_is_deed t okh hd (Nat.le_refl d) hr) fun l S b bl h => ?_
  unfold F_is_deed at h ⊢
  split at h
  rotate_left
  · exact absurd rfl h
  rename_i x deep
  by_cases hk : good S x = true ∧ 0 ≤ deep ∧ deep ≤ (n : Int)
  rotate_left
  · exact absurd (if_neg hk) h
  rw [if_pos hk, e_is_deed hk.1 (fun a ha => if_pos ⟨ha, hk.2⟩)]
  exact fitP b (.bl _)
def q_is_hearer_so_0 (K : Frg) (Fd : List A → Sto → RE) : GS :=
  gIfS (gOr (gOp vEq (gVar 1) (gC (.int 0))) (gOr (gNot (gIsi "tuple" (gVar 0))) (gOp vNe (gCB vLen (gCons (gVar 0) (gNil))) (gC (.int 6))))) (gRet (gC (.bl false))) (gPass)
def q_is_hearer_so_1 (K : Frg) (Fd : List A → Sto → RE) : GS :=
  gAsg (gVar 0) (nTup [2, 3, 4, 5, 6, 7])
def q_is_hearer_so_2 (K : Frg) (Fd : List A → Sto → RE) : GS :=
  gIfS (gOr (gNot (gCall (F_is_word K) (gCons (gVar 2) (gNil)))) (gOr (gNot (gCall (F_is_word K) (gCons (gVar 3) (gNil)))) (gNot (gCall (F_is_within K) (gCons (gVar 4) (gCons (gC (.int 0)) (gCons (gC (.int 9)) (gNil)))))))) (gRet (gC (.bl false))) (gPass)
def q_is_hearer_so_3 (K : Frg) (Fd : List A → Sto → RE) : GS :=
  gIfS (gOr (gNot (gIsi "str" (gVar 5))) (gOr (gOp vNotIn (gVar 5) (gC (.tup [.str "always", .str "once"]))) (gNot (gCall (F_is_test K) (gCons (gVar 6) (gNil)))))) (gRet (gC (.bl false))) (gPass)
def q_is_hearer_so_4 (K : Frg) (Fd : List A → Sto → RE) : GS :=
  gIfS (gOr (gNot (gIsi "tuple" (gVar 7))) (gOp vGt (gCB vLen (gCons (gVar 7) (gNil))) (gC (.int 3)))) (gRet (gC (.bl false))) (gPass)
def q_is_hearer_so_5 (K : Frg) (Fd : List A → Sto → RE) : GS :=
  gRet (gNotT (gLc (gIT (gVar 7)) (nName 8) (gNot (gCall (Fd) (gCons (gVar 8) (gCons (gOp vSub (gVar 1) (gC (.int 1))) (gNil))))) (gVar 8) [8]))
def q_is_hearer_so (K : Frg) (Fd : List A → Sto → RE) : GS :=
  gSeq (q_is_hearer_so_0 K Fd) (gSeq (q_is_hearer_so_1 K Fd) (gSeq (q_is_hearer_so_2 K Fd) (gSeq (q_is_hearer_so_3 K Fd) (gSeq (q_is_hearer_so_4 K Fd) (q_is_hearer_so_5 K Fd)))))
theorem sb_is_hearer_so {P : Program} {w : World} {K : Frg} {mg : Str → Option Value} {base : Heap} (t : TT K mg base) {d dd : Nat} {Fd : List A → Sto → RE} (okd : FnR P w K mg base dd (He.ga K "is_deed") t.f_is_deed P_is_deed (spF K (tbs K) Fd)) (hd : 3 ≤ d) (hdd : dd ≤ d) {cdv : Value} {A : Around} {outer : List Env} {s : Shared} {H : Hp} {E : XK} (hr : Rm d (A.deeper (envOfC "is_hearer_so" (defScope Hd.s_is_hearer_so) s.heap.objs.size (He.ga K "is_hearer_so") cdv))) :
    SB (cxOf (L2.CX P w) P w K mg base N_is_hearer_so "is_hearer_so" (defScope Hd.s_is_hearer_so) (He.ga K "is_hearer_so") cdv A outer s H E) (tbs K) (fun c d _ H2 => E c d H2) (defBody Hd.s_is_hearer_so) (q_is_hearer_so K Fd) := by
  have nd : N_is_hearer_so.Nodup := sc_is_hearer_so.nd
  have hp := passes_of (X := cxOf (L2.CX P w) P w K mg base N_is_hearer_so "is_hearer_so" (defScope Hd.s_is_hearer_so) (He.ga K "is_hearer_so") cdv A outer s H E) (K := fun e s2 => L2.CX P w outer H s E e s2) (E₁ := fun e s2 => L2.CX P w outer H s E e s2) rfl
  have tk : Takes (cxOf (L2.CX P w) P w K mg base N_is_hearer_so "is_hearer_so" (defScope Hd.s_is_hearer_so) (He.ga K "is_hearer_so") cdv A outer s H E) (fun c d _ H2 => E c d H2) := takes_of rfl rfl rfl rfl
  exact (sb_cons (ss_if (st_w (sw_or (st_cmp (os_eq hr.units) (se_var' (pv 1)) se_int (nomark _)) (sw_or (st_not (st_val (se_isi (by decide) (by decide +kernel) t.n_isinstance t.n_tuple (se_var' (pv 0))))) (sw_or1 (st_cmp (os_ne hr.units) (se_callB cs_len (by rfl) t.n_len (by decide +kernel) (sa_cons (se_var' (pv 0)) sa_nil)) se_int (nomark _)))))) (sb_one (ss_ret se_bl)) sb_nil)
  (sb_cons (ss_asg (se_var' (pv 0)) (sg_tup rfl (sgs_cons (i := 2) nd rfl (Or.inl rfl) (sgs_cons (i := 3) nd rfl (Or.inl rfl) (sgs_cons (i := 4) nd rfl (Or.inl rfl) (sgs_cons (i := 5) nd rfl (Or.inl rfl) (sgs_cons (i := 6) nd rfl (Or.inl rfl) (sgs_cons (i := 7) nd rfl (Or.inl rfl) sgs_nil))))))))
  (sb_cons (ss_if (st_w (sw_or (st_not (st_val (se_call (ok_is_word t) (hr.mono (by omega)) t.m_is_word t.D_is_word.kp (b_is_word t) tk (sa_cons (se_var' (pv 2)) sa_nil)))) (sw_or (st_not (st_val (se_call (ok_is_word t) (hr.mono (by omega)) t.m_is_word t.D_is_word.kp (b_is_word t) tk (sa_cons (se_var' (pv 3)) sa_nil)))) (sw_or1 (st_not (st_val (se_call (ok_is_within t) (hr.mono (by omega)) t.m_is_within t.D_is_within.kp (b_is_within t) tk (sa_cons (se_var' (pv 4)) (sa_cons se_int (sa_cons se_int sa_nil)))))))))) (sb_one (ss_ret se_bl)) sb_nil)
  (sb_cons (ss_if (st_w (sw_or (st_not (st_val (se_isi (by decide) (by decide +kernel) t.n_isinstance t.n_str (se_var' (pv 5))))) (sw_or (st_cmp os_notIn (se_var' (pv 5)) (se_c' (pe_glob (v := .ref (He.ga K "HOWS")) rfl t.m_HOWS rfl) (fun H _ => .tup (t.r_HOWS H) (.cons (.str _) (.cons (.str _) .nil)))) (by rfl)) (sw_or1 (st_not (st_val (se_call (ok_is_test t) (hr.mono (by omega)) t.m_is_test t.D_is_test.kp (b_is_test t) tk (sa_cons (se_var' (pv 6)) sa_nil)))))))) (sb_one (ss_ret se_bl)) sb_nil)
  (sb_cons (ss_if (st_w (sw_or (st_not (st_val (se_isi (by decide) (by decide +kernel) t.n_isinstance t.n_tuple (se_var' (pv 7))))) (sw_or1 (st_cmp os_gt (se_callB cs_len (by rfl) t.n_len (by decide +kernel) (sa_cons (se_var' (pv 7)) sa_nil)) (se_c' (pe_glob (v := .int 3) rfl t.m_MOST_DEEDS.choose_spec ⟨_, rfl⟩) (fun _ _ => .int _)) (nomark _))))) (sb_one (ss_ret se_bl)) sb_nil)
  (sb_one (ss_ret (se_notT (se_lc (own := [("deed", 8)]) rfl nd (si_tup (se_var' (pv 7))) (blkOk_by (own := [("deed", 8)]) (N := N_is_hearer_so) (sc := defScope Hd.s_is_hearer_so) (by decide +kernel)) (tg_name (by decide)) (fun _ _ _ _ _ => (pg_name (i := 8) nd rfl (Or.inl rfl))) (fun _ _ _ _ _ => (sts_one (st_not (st_val (se_call (okd) (hr.mono (by omega)) t.m_is_deed t.D_is_deed.kp (b_is_deed t) takes0 (sa_cons (se_var' (pv 8)) (sa_cons (se_op os_sub (se_var' (pv 1)) se_int) sa_nil))))))) (fun _ _ _ _ _ => (se_var' (pv 8))))))))))))

theorem e_is_hearer_so0 {x : A} {S : Sto} {Fd : List A → Sto → RE} : q_is_hearer_so K Fd (startR N_is_hearer_so.length [x, .int 0]) S = .ret (.bl false) S := by
  simp [q_is_hearer_so, q_is_hearer_so_0, wipeR, gVar, gC, gOp, gUn, gAnd, gOr, gNot, gIf, gNil, gCons, gTup, gLst, gCB, gChain, gSet, gExpr, gRet, gRetN, gPass, gBrk, gCt, gRaise, gIfS, gSeq, nName, nTup, setAll, gAsg, gCall, gTru, gNotT, gIsi, RE.bind_ok, RE.bind_exc, RE.bind_stuck, RE.bindA_ok, RE.bindS_ok, RE.bindS_exc, RE.bindT_ok, RE.bindTS_ok, RA.bind_ok, RA.bindA_ok, RE.nox_ok, RS.seq_nx, RS.seq_ret, RS.seq_exc, RS.seq_brk, RS.seq_ct, RS.seq_stuck, RE.bindA_exc, RE.bindA_stuck, RE.bindS_stuck, RE.bindT_exc, RE.bindT_stuck, RE.bindTS_exc, RE.bindTS_stuck, RA.bind_exc, RA.bind_stuck, RA.bindA_exc, RA.bindA_stuck, RE.nox_stuck, bind_ite, bindA_ite, bindS_ite, bindT_ite, bindTS_ite, nox_ite, seq_ite, startR, tyA_non, tyA_bl, tyA_int, tyA_str, tyA_tup, List.map_cons, List.map_nil, List.length_cons, List.length_nil, List.cons_append, List.nil_append, List.append_nil, List.getElem?_cons_zero, List.getElem?_cons_succ, List.set_cons_zero, List.set_cons_succ, vIx_t0, vIx_t1, vIx_t2, vIx_t3, vIx_t4, vIx_t5, vEq_ss, vEq_ii, vEq_bb, vNe_ss, vNe_ii, vNe_bb, vLen_tup, truA_tup, truA_bl, vLe_ii, vLt_ii, vGt_ii, vGe_ii, vSub_ii, vAdd_ii, vAddI_ii, vNeg_i, isT_ss, isT_tt, isT_ii, isT_bi, isT_bb, isT_ib]
theorem isHr_six {n : Nat} {l : List A} (h : l.length ≠ 6) : isHr n (.tup l) = false := by
  cases n with
  | zero => rfl
  | succ n =>
    show isHrW _ _ = false
    unfold isHrW
    split
    · rename_i e
      cases e
      exact absurd rfl h
    · rfl
theorem e_is_hearer_so3 {x y o tp r w ts ds : A} {S : Sto} {Fd : List A → Sto → RE} (gw : kn S w = true) (gts : good S ts = true) : q_is_hearer_so_3 K Fd [some x, some y, some o, some tp, some r, some w, some ts, some ds, none] S = if (isHow w && isTest ts) = true then .nx [some x, some y, some o, some tp, some r, some w, some ts, some ds, none] S else .ret (.bl false) S := by
  cases w
  case ob m =>
    obtain ⟨ty, hty⟩ := kn_some gw
    obtain ⟨h1, h2, h3, h4⟩ := isi_ob hty
    simp [q_is_hearer_so_3, wipeR, gVar, gC, gOp, gUn, gAnd, gOr, gNot, gIf, gNil, gCons, gTup, gLst, gCB, gChain, gSet, gExpr, gRet, gRetN, gPass, gBrk, gCt, gRaise, gIfS, gSeq, nName, nTup, setAll, gAsg, gCall, gTru, gNotT, gIsi, RE.bind_ok, RE.bind_exc, RE.bind_stuck, RE.bindA_ok, RE.bindS_ok, RE.bindS_exc, RE.bindT_ok, RE.bindTS_ok, RA.bind_ok, RA.bindA_ok, RE.nox_ok, RS.seq_nx, RS.seq_ret, RS.seq_exc, RS.seq_brk, RS.seq_ct, RS.seq_stuck, RE.bindA_exc, RE.bindA_stuck, RE.bindS_stuck, RE.bindT_exc, RE.bindT_stuck, RE.bindTS_exc, RE.bindTS_stuck, RA.bind_exc, RA.bind_stuck, RA.bindA_exc, RA.bindA_stuck, RE.nox_stuck, bind_ite, bindA_ite, bindS_ite, bindT_ite, bindTS_ite, nox_ite, seq_ite, startR, tyA_non, tyA_bl, tyA_int, tyA_str, tyA_tup, List.map_cons, List.map_nil, List.length_cons, List.length_nil, List.cons_append, List.nil_append, List.append_nil, List.getElem?_cons_zero, List.getElem?_cons_succ, List.set_cons_zero, List.set_cons_succ, vIx_t0, vIx_t1, vIx_t2, vIx_t3, vIx_t4, vIx_t5, vEq_ss, vEq_ii, vEq_bb, vNe_ss, vNe_ii, vNe_bb, vLen_tup, truA_tup, truA_bl, vLe_ii, vLt_ii, vGt_ii, vGe_ii, vSub_ii, vAdd_ii, vAddI_ii, vNeg_i, isT_ss, isT_tt, isT_ii, isT_bi, isT_bb, isT_ib, hty, h3, isHow]
  case str z =>
    have c1 : (("always" : Str) = z) = (z = "always") := propext eq_comm
    have c2 : (("once" : Str) = z) = (z = "once") := propext eq_comm
    by_cases hz : z = "always" ∨ z = "once"
    · have hh : isHow (.str z) = true := by simpa [isHow] using hz
      rcases hz with hz | hz <;> cases h2 : isTest ts <;> simp [q_is_hearer_so_3, wipeR, gVar, gC, gOp, gUn, gAnd, gOr, gNot, gIf, gNil, gCons, gTup, gLst, gCB, gChain, gSet, gExpr, gRet, gRetN, gPass, gBrk, gCt, gRaise, gIfS, gSeq, nName, nTup, setAll, gAsg, gCall, gTru, gNotT, gIsi, RE.bind_ok, RE.bind_exc, RE.bind_stuck, RE.bindA_ok, RE.bindS_ok, RE.bindS_exc, RE.bindT_ok, RE.bindTS_ok, RA.bind_ok, RA.bindA_ok, RE.nox_ok, RS.seq_nx, RS.seq_ret, RS.seq_exc, RS.seq_brk, RS.seq_ct, RS.seq_stuck, RE.bindA_exc, RE.bindA_stuck, RE.bindS_stuck, RE.bindT_exc, RE.bindT_stuck, RE.bindTS_exc, RE.bindTS_stuck, RA.bind_exc, RA.bind_stuck, RA.bindA_exc, RA.bindA_stuck, RE.nox_stuck, bind_ite, bindA_ite, bindS_ite, bindT_ite, bindTS_ite, nox_ite, seq_ite, startR, tyA_non, tyA_bl, tyA_int, tyA_str, tyA_tup, List.map_cons, List.map_nil, List.length_cons, List.length_nil, List.cons_append, List.nil_append, List.append_nil, List.getElem?_cons_zero, List.getElem?_cons_succ, List.set_cons_zero, List.set_cons_succ, vIx_t0, vIx_t1, vIx_t2, vIx_t3, vIx_t4, vIx_t5, vEq_ss, vEq_ii, vEq_bb, vNe_ss, vNe_ii, vNe_bb, vLen_tup, truA_tup, truA_bl, vLe_ii, vLt_ii, vGt_ii, vGe_ii, vSub_ii, vAdd_ii, vAddI_ii, vNeg_i, isT_ss, isT_tt, isT_ii, isT_bi, isT_bb, isT_ib, vNotIn, vIn, seqOf, flatA, inF, eqF, c1, c2, hz, hh, F_is_test, gts, h2]
      all_goals decide +kernel
    · have hh : isHow (.str z) = false := by simpa [isHow] using hz
      simp only [not_or] at hz
      simp [q_is_hearer_so_3, wipeR, gVar, gC, gOp, gUn, gAnd, gOr, gNot, gIf, gNil, gCons, gTup, gLst, gCB, gChain, gSet, gExpr, gRet, gRetN, gPass, gBrk, gCt, gRaise, gIfS, gSeq, nName, nTup, setAll, gAsg, gCall, gTru, gNotT, gIsi, RE.bind_ok, RE.bind_exc, RE.bind_stuck, RE.bindA_ok, RE.bindS_ok, RE.bindS_exc, RE.bindT_ok, RE.bindTS_ok, RA.bind_ok, RA.bindA_ok, RE.nox_ok, RS.seq_nx, RS.seq_ret, RS.seq_exc, RS.seq_brk, RS.seq_ct, RS.seq_stuck, RE.bindA_exc, RE.bindA_stuck, RE.bindS_stuck, RE.bindT_exc, RE.bindT_stuck, RE.bindTS_exc, RE.bindTS_stuck, RA.bind_exc, RA.bind_stuck, RA.bindA_exc, RA.bindA_stuck, RE.nox_stuck, bind_ite, bindA_ite, bindS_ite, bindT_ite, bindTS_ite, nox_ite, seq_ite, startR, tyA_non, tyA_bl, tyA_int, tyA_str, tyA_tup, List.map_cons, List.map_nil, List.length_cons, List.length_nil, List.cons_append, List.nil_append, List.append_nil, List.getElem?_cons_zero, List.getElem?_cons_succ, List.set_cons_zero, List.set_cons_succ, vIx_t0, vIx_t1, vIx_t2, vIx_t3, vIx_t4, vIx_t5, vEq_ss, vEq_ii, vEq_bb, vNe_ss, vNe_ii, vNe_bb, vLen_tup, truA_tup, truA_bl, vLe_ii, vLt_ii, vGt_ii, vGe_ii, vSub_ii, vAdd_ii, vAddI_ii, vNeg_i, isT_ss, isT_tt, isT_ii, isT_bi, isT_bb, isT_ib, vNotIn, vIn, seqOf, flatA, inF, eqF, c1, c2, hz, hh]
  all_goals simp [q_is_hearer_so_3, wipeR, gVar, gC, gOp, gUn, gAnd, gOr, gNot, gIf, gNil, gCons, gTup, gLst, gCB, gChain, gSet, gExpr, gRet, gRetN, gPass, gBrk, gCt, gRaise, gIfS, gSeq, nName, nTup, setAll, gAsg, gCall, gTru, gNotT, gIsi, RE.bind_ok, RE.bind_exc, RE.bind_stuck, RE.bindA_ok, RE.bindS_ok, RE.bindS_exc, RE.bindT_ok, RE.bindTS_ok, RA.bind_ok, RA.bindA_ok, RE.nox_ok, RS.seq_nx, RS.seq_ret, RS.seq_exc, RS.seq_brk, RS.seq_ct, RS.seq_stuck, RE.bindA_exc, RE.bindA_stuck, RE.bindS_stuck, RE.bindT_exc, RE.bindT_stuck, RE.bindTS_exc, RE.bindTS_stuck, RA.bind_exc, RA.bind_stuck, RA.bindA_exc, RA.bindA_stuck, RE.nox_stuck, bind_ite, bindA_ite, bindS_ite, bindT_ite, bindTS_ite, nox_ite, seq_ite, startR, tyA_non, tyA_bl, tyA_int, tyA_str, tyA_tup, List.map_cons, List.map_nil, List.length_cons, List.length_nil, List.cons_append, List.nil_append, List.append_nil, List.getElem?_cons_zero, List.getElem?_cons_succ, List.set_cons_zero, List.set_cons_succ, vIx_t0, vIx_t1, vIx_t2, vIx_t3, vIx_t4, vIx_t5, vEq_ss, vEq_ii, vEq_bb, vNe_ss, vNe_ii, vNe_bb, vLen_tup, truA_tup, truA_bl, vLe_ii, vLt_ii, vGt_ii, vGe_ii, vSub_ii, vAdd_ii, vAddI_ii, vNeg_i, isT_ss, isT_tt, isT_ii, isT_bi, isT_bb, isT_ib, isT, isHow]
theorem e_is_hearer_so {x : A} {deep : Int} {n : Nat} {S : Sto} {Fd : List A → Sto → RE} (hk : good S x = true) (hn : deep = (n : Int) + 1) (hF : ∀ a l, good S a = true → Fd [a, .int (n : Int)] (S ++ [.lst l]) = .ok (.bl (isDeedW (isHr n) a)) (S ++ [.lst l])) : ∃ E, q_is_hearer_so K Fd (startR N_is_hearer_so.length [x, .int deep]) S = .ret (.bl (isHr (n + 1) x)) (S ++ E) := by
  have hd : ¬ (deep = 0) := by omega
  have hd1 : deep - 1 = (n : Int) := by omega
  cases x
  case ob m =>
    obtain ⟨ty, hty⟩ := kn_some (good_kn hk)
    obtain ⟨h1, h2, h3, h4⟩ := isi_ob hty
    exact ⟨[], by simp [q_is_hearer_so, q_is_hearer_so_0, wipeR, gVar, gC, gOp, gUn, gAnd, gOr, gNot, gIf, gNil, gCons, gTup, gLst, gCB, gChain, gSet, gExpr, gRet, gRetN, gPass, gBrk, gCt, gRaise, gIfS, gSeq, nName, nTup, setAll, gAsg, gCall, gTru, gNotT, gIsi, RE.bind_ok, RE.bind_exc, RE.bind_stuck, RE.bindA_ok, RE.bindS_ok, RE.bindS_exc, RE.bindT_ok, RE.bindTS_ok, RA.bind_ok, RA.bindA_ok, RE.nox_ok, RS.seq_nx, RS.seq_ret, RS.seq_exc, RS.seq_brk, RS.seq_ct, RS.seq_stuck, RE.bindA_exc, RE.bindA_stuck, RE.bindS_stuck, RE.bindT_exc, RE.bindT_stuck, RE.bindTS_exc, RE.bindTS_stuck, RA.bind_exc, RA.bind_stuck, RA.bindA_exc, RA.bindA_stuck, RE.nox_stuck, bind_ite, bindA_ite, bindS_ite, bindT_ite, bindTS_ite, nox_ite, seq_ite, startR, tyA_non, tyA_bl, tyA_int, tyA_str, tyA_tup, List.map_cons, List.map_nil, List.length_cons, List.length_nil, List.cons_append, List.nil_append, List.append_nil, List.getElem?_cons_zero, List.getElem?_cons_succ, List.set_cons_zero, List.set_cons_succ, vIx_t0, vIx_t1, vIx_t2, vIx_t3, vIx_t4, vIx_t5, vEq_ss, vEq_ii, vEq_bb, vNe_ss, vNe_ii, vNe_bb, vLen_tup, truA_tup, truA_bl, vLe_ii, vLt_ii, vGt_ii, vGe_ii, vSub_ii, vAdd_ii, vAddI_ii, vNeg_i, isT_ss, isT_tt, isT_ii, isT_bi, isT_bb, isT_ib, hd, hty, h4, isHr, isHrW]⟩
  case tup l =>
    by_cases h6 : l.length = 6
    rotate_left
    · have e : ¬ ((l.length : Int) = 6) := by omega
      exact ⟨[], by simp [q_is_hearer_so, q_is_hearer_so_0, wipeR, gVar, gC, gOp, gUn, gAnd, gOr, gNot, gIf, gNil, gCons, gTup, gLst, gCB, gChain, gSet, gExpr, gRet, gRetN, gPass, gBrk, gCt, gRaise, gIfS, gSeq, nName, nTup, setAll, gAsg, gCall, gTru, gNotT, gIsi, RE.bind_ok, RE.bind_exc, RE.bind_stuck, RE.bindA_ok, RE.bindS_ok, RE.bindS_exc, RE.bindT_ok, RE.bindTS_ok, RA.bind_ok, RA.bindA_ok, RE.nox_ok, RS.seq_nx, RS.seq_ret, RS.seq_exc, RS.seq_brk, RS.seq_ct, RS.seq_stuck, RE.bindA_exc, RE.bindA_stuck, RE.bindS_stuck, RE.bindT_exc, RE.bindT_stuck, RE.bindTS_exc, RE.bindTS_stuck, RA.bind_exc, RA.bind_stuck, RA.bindA_exc, RA.bindA_stuck, RE.nox_stuck, bind_ite, bindA_ite, bindS_ite, bindT_ite, bindTS_ite, nox_ite, seq_ite, startR, tyA_non, tyA_bl, tyA_int, tyA_str, tyA_tup, List.map_cons, List.map_nil, List.length_cons, List.length_nil, List.cons_append, List.nil_append, List.append_nil, List.getElem?_cons_zero, List.getElem?_cons_succ, List.set_cons_zero, List.set_cons_succ, vIx_t0, vIx_t1, vIx_t2, vIx_t3, vIx_t4, vIx_t5, vEq_ss, vEq_ii, vEq_bb, vNe_ss, vNe_ii, vNe_bb, vLen_tup, truA_tup, truA_bl, vLe_ii, vLt_ii, vGt_ii, vGe_ii, vSub_ii, vAdd_ii, vAddI_ii, vNeg_i, isT_ss, isT_tt, isT_ii, isT_bi, isT_bb, isT_ib, hd, e, isHr_six h6]⟩
    match l, h6, good_tup.mp hk with
    | [o, tp, r, w, ts, ds], _h6, hg =>
    have go := hg o (by simp)
    have gt := hg tp (by simp)
    have gr := good_kn (hg r (by simp))
    have gw := good_kn (hg w (by simp))
    have gts := hg ts (by simp)
    have gds := hg ds (by simp)
    have s0 : q_is_hearer_so_0 K Fd [some (.tup [o, tp, r, w, ts, ds]), some (.int deep), none, none, none, none, none, none, none] S = .nx [some (.tup [o, tp, r, w, ts, ds]), some (.int deep), none, none, none, none, none, none, none] S := by
      simp [q_is_hearer_so_0, wipeR, gVar, gC, gOp, gUn, gAnd, gOr, gNot, gIf, gNil, gCons, gTup, gLst, gCB, gChain, gSet, gExpr, gRet, gRetN, gPass, gBrk, gCt, gRaise, gIfS, gSeq, nName, nTup, setAll, gAsg, gCall, gTru, gNotT, gIsi, RE.bind_ok, RE.bind_exc, RE.bind_stuck, RE.bindA_ok, RE.bindS_ok, RE.bindS_exc, RE.bindT_ok, RE.bindTS_ok, RA.bind_ok, RA.bindA_ok, RE.nox_ok, RS.seq_nx, RS.seq_ret, RS.seq_exc, RS.seq_brk, RS.seq_ct, RS.seq_stuck, RE.bindA_exc, RE.bindA_stuck, RE.bindS_stuck, RE.bindT_exc, RE.bindT_stuck, RE.bindTS_exc, RE.bindTS_stuck, RA.bind_exc, RA.bind_stuck, RA.bindA_exc, RA.bindA_stuck, RE.nox_stuck, bind_ite, bindA_ite, bindS_ite, bindT_ite, bindTS_ite, nox_ite, seq_ite, startR, tyA_non, tyA_bl, tyA_int, tyA_str, tyA_tup, List.map_cons, List.map_nil, List.length_cons, List.length_nil, List.cons_append, List.nil_append, List.append_nil, List.getElem?_cons_zero, List.getElem?_cons_succ, List.set_cons_zero, List.set_cons_succ, vIx_t0, vIx_t1, vIx_t2, vIx_t3, vIx_t4, vIx_t5, vEq_ss, vEq_ii, vEq_bb, vNe_ss, vNe_ii, vNe_bb, vLen_tup, truA_tup, truA_bl, vLe_ii, vLt_ii, vGt_ii, vGe_ii, vSub_ii, vAdd_ii, vAddI_ii, vNeg_i, isT_ss, isT_tt, isT_ii, isT_bi, isT_bb, isT_ib, hd]
    have s1 : q_is_hearer_so_1 K Fd [some (.tup [o, tp, r, w, ts, ds]), some (.int deep), none, none, none, none, none, none, none] S = .nx [some (.tup [o, tp, r, w, ts, ds]), some (.int deep), some o, some tp, some r, some w, some ts, some ds, none] S := by
      simp [q_is_hearer_so_1, wipeR, gVar, gC, gOp, gUn, gAnd, gOr, gNot, gIf, gNil, gCons, gTup, gLst, gCB, gChain, gSet, gExpr, gRet, gRetN, gPass, gBrk, gCt, gRaise, gIfS, gSeq, nName, nTup, setAll, gAsg, gCall, gTru, gNotT, gIsi, RE.bind_ok, RE.bind_exc, RE.bind_stuck, RE.bindA_ok, RE.bindS_ok, RE.bindS_exc, RE.bindT_ok, RE.bindTS_ok, RA.bind_ok, RA.bindA_ok, RE.nox_ok, RS.seq_nx, RS.seq_ret, RS.seq_exc, RS.seq_brk, RS.seq_ct, RS.seq_stuck, RE.bindA_exc, RE.bindA_stuck, RE.bindS_stuck, RE.bindT_exc, RE.bindT_stuck, RE.bindTS_exc, RE.bindTS_stuck, RA.bind_exc, RA.bind_stuck, RA.bindA_exc, RA.bindA_stuck, RE.nox_stuck, bind_ite, bindA_ite, bindS_ite, bindT_ite, bindTS_ite, nox_ite, seq_ite, startR, tyA_non, tyA_bl, tyA_int, tyA_str, tyA_tup, List.map_cons, List.map_nil, List.length_cons, List.length_nil, List.cons_append, List.nil_append, List.append_nil, List.getElem?_cons_zero, List.getElem?_cons_succ, List.set_cons_zero, List.set_cons_succ, vIx_t0, vIx_t1, vIx_t2, vIx_t3, vIx_t4, vIx_t5, vEq_ss, vEq_ii, vEq_bb, vNe_ss, vNe_ii, vNe_bb, vLen_tup, truA_tup, truA_bl, vLe_ii, vLt_ii, vGt_ii, vGe_ii, vSub_ii, vAdd_ii, vAddI_ii, vNeg_i, isT_ss, isT_tt, isT_ii, isT_bi, isT_bb, isT_ib]
    have s2 : q_is_hearer_so_2 K Fd [some (.tup [o, tp, r, w, ts, ds]), some (.int deep), some o, some tp, some r, some w, some ts, some ds, none] S = if (isWord o && isWord tp && isIn r 0 9) = true then .nx [some (.tup [o, tp, r, w, ts, ds]), some (.int deep), some o, some tp, some r, some w, some ts, some ds, none] S else .ret (.bl false) S := by
      cases h1 : isWord o <;> cases h2 : isWord tp <;> cases h3 : isIn r 0 9 <;> simp [q_is_hearer_so_2, wipeR, gVar, gC, gOp, gUn, gAnd, gOr, gNot, gIf, gNil, gCons, gTup, gLst, gCB, gChain, gSet, gExpr, gRet, gRetN, gPass, gBrk, gCt, gRaise, gIfS, gSeq, nName, nTup, setAll, gAsg, gCall, gTru, gNotT, gIsi, RE.bind_ok, RE.bind_exc, RE.bind_stuck, RE.bindA_ok, RE.bindS_ok, RE.bindS_exc, RE.bindT_ok, RE.bindTS_ok, RA.bind_ok, RA.bindA_ok, RE.nox_ok, RS.seq_nx, RS.seq_ret, RS.seq_exc, RS.seq_brk, RS.seq_ct, RS.seq_stuck, RE.bindA_exc, RE.bindA_stuck, RE.bindS_stuck, RE.bindT_exc, RE.bindT_stuck, RE.bindTS_exc, RE.bindTS_stuck, RA.bind_exc, RA.bind_stuck, RA.bindA_exc, RA.bindA_stuck, RE.nox_stuck, bind_ite, bindA_ite, bindS_ite, bindT_ite, bindTS_ite, nox_ite, seq_ite, startR, tyA_non, tyA_bl, tyA_int, tyA_str, tyA_tup, List.map_cons, List.map_nil, List.length_cons, List.length_nil, List.cons_append, List.nil_append, List.append_nil, List.getElem?_cons_zero, List.getElem?_cons_succ, List.set_cons_zero, List.set_cons_succ, vIx_t0, vIx_t1, vIx_t2, vIx_t3, vIx_t4, vIx_t5, vEq_ss, vEq_ii, vEq_bb, vNe_ss, vNe_ii, vNe_bb, vLen_tup, truA_tup, truA_bl, vLe_ii, vLt_ii, vGt_ii, vGe_ii, vSub_ii, vAdd_ii, vAddI_ii, vNeg_i, isT_ss, isT_tt, isT_ii, isT_bi, isT_bb, isT_ib, F_is_word, F_is_within, go, gt, gr, h1, h2, h3]
    have s3 := e_is_hearer_so3 (K := K) (Fd := Fd) (x := .tup [o, tp, r, w, ts, ds]) (y := .int deep) (o := o) (tp := tp) (r := r) (ds := ds) gw gts
    by_cases b1 : (isWord o && isWord tp && isIn r 0 9) = true
    rotate_left
    · refine ⟨[], ?_⟩
      have e : isHr (n + 1) (.tup [o, tp, r, w, ts, ds]) = false := by
        show isHrW _ _ = false
        unfold isHrW
        split
        · rename_i e2
          cases e2
          simp only [Bool.not_eq_true] at b1
          simp [b1]
        · rfl
      simp only [q_is_hearer_so, wipeR, gVar, gC, gOp, gUn, gAnd, gOr, gNot, gIf, gNil, gCons, gTup, gLst, gCB, gChain, gSet, gExpr, gRet, gRetN, gPass, gBrk, gCt, gRaise, gIfS, gSeq, nName, nTup, setAll, gAsg, gCall, gTru, gNotT, gIsi, RE.bind_ok, RE.bind_exc, RE.bind_stuck, RE.bindA_ok, RE.bindS_ok, RE.bindS_exc, RE.bindT_ok, RE.bindTS_ok, RA.bind_ok, RA.bindA_ok, RE.nox_ok, RS.seq_nx, RS.seq_ret, RS.seq_exc, RS.seq_brk, RS.seq_ct, RS.seq_stuck, RE.bindA_exc, RE.bindA_stuck, RE.bindS_stuck, RE.bindT_exc, RE.bindT_stuck, RE.bindTS_exc, RE.bindTS_stuck, RA.bind_exc, RA.bind_stuck, RA.bindA_exc, RA.bindA_stuck, RE.nox_stuck, bind_ite, bindA_ite, bindS_ite, bindT_ite, bindTS_ite, nox_ite, seq_ite, startR, tyA_non, tyA_bl, tyA_int, tyA_str, tyA_tup, List.map_cons, List.map_nil, List.length_cons, List.length_nil, List.cons_append, List.nil_append, List.append_nil, List.getElem?_cons_zero, List.getElem?_cons_succ, List.set_cons_zero, List.set_cons_succ, vIx_t0, vIx_t1, vIx_t2, vIx_t3, vIx_t4, vIx_t5, vEq_ss, vEq_ii, vEq_bb, vNe_ss, vNe_ii, vNe_bb, vLen_tup, truA_tup, truA_bl, vLe_ii, vLt_ii, vGt_ii, vGe_ii, vSub_ii, vAdd_ii, vAddI_ii, vNeg_i, isT_ss, isT_tt, isT_ii, isT_bi, isT_bb, isT_ib, s0, s1, s2, if_neg b1, e, List.length_cons, List.length_nil, Nat.reduceAdd, Nat.reduceSub, List.replicate]
    by_cases b2 : (isHow w && isTest ts) = true
    rotate_left
    · refine ⟨[], ?_⟩
      have e : isHr (n + 1) (.tup [o, tp, r, w, ts, ds]) = false := by
        show isHrW _ _ = false
        unfold isHrW
        split
        · rename_i e2
          cases e2
          simp only [Bool.not_eq_true] at b2
          rw [Bool.and_assoc (isWord _ && isWord _ && isIn _ 0 9), b1, b2]
          rfl
        · rfl
      simp only [q_is_hearer_so, wipeR, gVar, gC, gOp, gUn, gAnd, gOr, gNot, gIf, gNil, gCons, gTup, gLst, gCB, gChain, gSet, gExpr, gRet, gRetN, gPass, gBrk, gCt, gRaise, gIfS, gSeq, nName, nTup, setAll, gAsg, gCall, gTru, gNotT, gIsi, RE.bind_ok, RE.bind_exc, RE.bind_stuck, RE.bindA_ok, RE.bindS_ok, RE.bindS_exc, RE.bindT_ok, RE.bindTS_ok, RA.bind_ok, RA.bindA_ok, RE.nox_ok, RS.seq_nx, RS.seq_ret, RS.seq_exc, RS.seq_brk, RS.seq_ct, RS.seq_stuck, RE.bindA_exc, RE.bindA_stuck, RE.bindS_stuck, RE.bindT_exc, RE.bindT_stuck, RE.bindTS_exc, RE.bindTS_stuck, RA.bind_exc, RA.bind_stuck, RA.bindA_exc, RA.bindA_stuck, RE.nox_stuck, bind_ite, bindA_ite, bindS_ite, bindT_ite, bindTS_ite, nox_ite, seq_ite, startR, tyA_non, tyA_bl, tyA_int, tyA_str, tyA_tup, List.map_cons, List.map_nil, List.length_cons, List.length_nil, List.cons_append, List.nil_append, List.append_nil, List.getElem?_cons_zero, List.getElem?_cons_succ, List.set_cons_zero, List.set_cons_succ, vIx_t0, vIx_t1, vIx_t2, vIx_t3, vIx_t4, vIx_t5, vEq_ss, vEq_ii, vEq_bb, vNe_ss, vNe_ii, vNe_bb, vLen_tup, truA_tup, truA_bl, vLe_ii, vLt_ii, vGt_ii, vGe_ii, vSub_ii, vAdd_ii, vAddI_ii, vNeg_i, isT_ss, isT_tt, isT_ii, isT_bi, isT_bb, isT_ib, s0, s1, s2, s3, if_pos b1, if_neg b2, e, List.length_cons, List.length_nil, Nat.reduceAdd, Nat.reduceSub, List.replicate]
    cases ds
    case tup ds =>
      by_cases h3 : ds.length ≤ 3
      rotate_left
      · have e : ¬ ((ds.length : Int) ≤ 3) := by omega
        refine ⟨[], ?_⟩
        have s4 : q_is_hearer_so_4 K Fd [some (.tup [o, tp, r, w, ts, .tup ds]), some (.int deep), some o, some tp, some r, some w, some ts, some (.tup ds), none] S = .ret (.bl false) S := by
          simp [q_is_hearer_so_4, wipeR, gVar, gC, gOp, gUn, gAnd, gOr, gNot, gIf, gNil, gCons, gTup, gLst, gCB, gChain, gSet, gExpr, gRet, gRetN, gPass, gBrk, gCt, gRaise, gIfS, gSeq, nName, nTup, setAll, gAsg, gCall, gTru, gNotT, gIsi, RE.bind_ok, RE.bind_exc, RE.bind_stuck, RE.bindA_ok, RE.bindS_ok, RE.bindS_exc, RE.bindT_ok, RE.bindTS_ok, RA.bind_ok, RA.bindA_ok, RE.nox_ok, RS.seq_nx, RS.seq_ret, RS.seq_exc, RS.seq_brk, RS.seq_ct, RS.seq_stuck, RE.bindA_exc, RE.bindA_stuck, RE.bindS_stuck, RE.bindT_exc, RE.bindT_stuck, RE.bindTS_exc, RE.bindTS_stuck, RA.bind_exc, RA.bind_stuck, RA.bindA_exc, RA.bindA_stuck, RE.nox_stuck, bind_ite, bindA_ite, bindS_ite, bindT_ite, bindTS_ite, nox_ite, seq_ite, startR, tyA_non, tyA_bl, tyA_int, tyA_str, tyA_tup, List.map_cons, List.map_nil, List.length_cons, List.length_nil, List.cons_append, List.nil_append, List.append_nil, List.getElem?_cons_zero, List.getElem?_cons_succ, List.set_cons_zero, List.set_cons_succ, vIx_t0, vIx_t1, vIx_t2, vIx_t3, vIx_t4, vIx_t5, vEq_ss, vEq_ii, vEq_bb, vNe_ss, vNe_ii, vNe_bb, vLen_tup, truA_tup, truA_bl, vLe_ii, vLt_ii, vGt_ii, vGe_ii, vSub_ii, vAdd_ii, vAddI_ii, vNeg_i, isT_ss, isT_tt, isT_ii, isT_bi, isT_bb, isT_ib]
          omega
        have e2 : isHr (n + 1) (.tup [o, tp, r, w, ts, .tup ds]) = false := by
          show isHrW _ _ = false
          simp [isHrW, h3]
        simp only [q_is_hearer_so, wipeR, gVar, gC, gOp, gUn, gAnd, gOr, gNot, gIf, gNil, gCons, gTup, gLst, gCB, gChain, gSet, gExpr, gRet, gRetN, gPass, gBrk, gCt, gRaise, gIfS, gSeq, nName, nTup, setAll, gAsg, gCall, gTru, gNotT, gIsi, RE.bind_ok, RE.bind_exc, RE.bind_stuck, RE.bindA_ok, RE.bindS_ok, RE.bindS_exc, RE.bindT_ok, RE.bindTS_ok, RA.bind_ok, RA.bindA_ok, RE.nox_ok, RS.seq_nx, RS.seq_ret, RS.seq_exc, RS.seq_brk, RS.seq_ct, RS.seq_stuck, RE.bindA_exc, RE.bindA_stuck, RE.bindS_stuck, RE.bindT_exc, RE.bindT_stuck, RE.bindTS_exc, RE.bindTS_stuck, RA.bind_exc, RA.bind_stuck, RA.bindA_exc, RA.bindA_stuck, RE.nox_stuck, bind_ite, bindA_ite, bindS_ite, bindT_ite, bindTS_ite, nox_ite, seq_ite, startR, tyA_non, tyA_bl, tyA_int, tyA_str, tyA_tup, List.map_cons, List.map_nil, List.length_cons, List.length_nil, List.cons_append, List.nil_append, List.append_nil, List.getElem?_cons_zero, List.getElem?_cons_succ, List.set_cons_zero, List.set_cons_succ, vIx_t0, vIx_t1, vIx_t2, vIx_t3, vIx_t4, vIx_t5, vEq_ss, vEq_ii, vEq_bb, vNe_ss, vNe_ii, vNe_bb, vLen_tup, truA_tup, truA_bl, vLe_ii, vLt_ii, vGt_ii, vGe_ii, vSub_ii, vAdd_ii, vAddI_ii, vNeg_i, isT_ss, isT_tt, isT_ii, isT_bi, isT_bb, isT_ib, s0, s1, s2, s3, s4, if_pos b1, if_pos b2, e2, List.length_cons, List.length_nil, Nat.reduceAdd, Nat.reduceSub, List.replicate]
      · have e : (ds.length : Int) ≤ 3 := by omega
        have s4 : q_is_hearer_so_4 K Fd [some (.tup [o, tp, r, w, ts, .tup ds]), some (.int deep), some o, some tp, some r, some w, some ts, some (.tup ds), none] S = .nx [some (.tup [o, tp, r, w, ts, .tup ds]), some (.int deep), some o, some tp, some r, some w, some ts, some (.tup ds), none] S := by
          simp [q_is_hearer_so_4, wipeR, gVar, gC, gOp, gUn, gAnd, gOr, gNot, gIf, gNil, gCons, gTup, gLst, gCB, gChain, gSet, gExpr, gRet, gRetN, gPass, gBrk, gCt, gRaise, gIfS, gSeq, nName, nTup, setAll, gAsg, gCall, gTru, gNotT, gIsi, RE.bind_ok, RE.bind_exc, RE.bind_stuck, RE.bindA_ok, RE.bindS_ok, RE.bindS_exc, RE.bindT_ok, RE.bindTS_ok, RA.bind_ok, RA.bindA_ok, RE.nox_ok, RS.seq_nx, RS.seq_ret, RS.seq_exc, RS.seq_brk, RS.seq_ct, RS.seq_stuck, RE.bindA_exc, RE.bindA_stuck, RE.bindS_stuck, RE.bindT_exc, RE.bindT_stuck, RE.bindTS_exc, RE.bindTS_stuck, RA.bind_exc, RA.bind_stuck, RA.bindA_exc, RA.bindA_stuck, RE.nox_stuck, bind_ite, bindA_ite, bindS_ite, bindT_ite, bindTS_ite, nox_ite, seq_ite, startR, tyA_non, tyA_bl, tyA_int, tyA_str, tyA_tup, List.map_cons, List.map_nil, List.length_cons, List.length_nil, List.cons_append, List.nil_append, List.append_nil, List.getElem?_cons_zero, List.getElem?_cons_succ, List.set_cons_zero, List.set_cons_succ, vIx_t0, vIx_t1, vIx_t2, vIx_t3, vIx_t4, vIx_t5, vEq_ss, vEq_ii, vEq_bb, vNe_ss, vNe_ii, vNe_bb, vLen_tup, truA_tup, truA_bl, vLe_ii, vLt_ii, vGt_ii, vGe_ii, vSub_ii, vAdd_ii, vAddI_ii, vNeg_i, isT_ss, isT_tt, isT_ii, isT_bi, isT_bb, isT_ib]
          omega
        have lc := lc_eq (chk := fun _ => true) (gg := nName 8) (gt := gNot (gCall (Fd) (gCons (gVar 8) (gCons (gOp vSub (gVar 1) (gC (.int 1))) (gNil))))) (ge := gVar 8) (ρ0 := [some (.tup [o, tp, r, w, ts, .tup ds]), some (.int deep), some o, some tp, some r, some w, some ts, some (.tup ds), none]) (S0 := S) (fun a => !isDeedW (isHr n) a) id (fun _ => rfl) ds [] (fun a ha => by
            refine ⟨[some (.tup [o, tp, r, w, ts, .tup ds]), some (.int deep), some o, some tp, some r, some w, some ts, some (.tup ds), some a], fun _ => rfl, fun l => ⟨?_, fun _ => rfl⟩⟩
            simp [wipeR, gVar, gC, gOp, gUn, gAnd, gOr, gNot, gIf, gNil, gCons, gTup, gLst, gCB, gChain, gSet, gExpr, gRet, gRetN, gPass, gBrk, gCt, gRaise, gIfS, gSeq, nName, nTup, setAll, gAsg, gCall, gTru, gNotT, gIsi, RE.bind_ok, RE.bind_exc, RE.bind_stuck, RE.bindA_ok, RE.bindS_ok, RE.bindS_exc, RE.bindT_ok, RE.bindTS_ok, RA.bind_ok, RA.bindA_ok, RE.nox_ok, RS.seq_nx, RS.seq_ret, RS.seq_exc, RS.seq_brk, RS.seq_ct, RS.seq_stuck, RE.bindA_exc, RE.bindA_stuck, RE.bindS_stuck, RE.bindT_exc, RE.bindT_stuck, RE.bindTS_exc, RE.bindTS_stuck, RA.bind_exc, RA.bind_stuck, RA.bindA_exc, RA.bindA_stuck, RE.nox_stuck, bind_ite, bindA_ite, bindS_ite, bindT_ite, bindTS_ite, nox_ite, seq_ite, startR, tyA_non, tyA_bl, tyA_int, tyA_str, tyA_tup, List.map_cons, List.map_nil, List.length_cons, List.length_nil, List.cons_append, List.nil_append, List.append_nil, List.getElem?_cons_zero, List.getElem?_cons_succ, List.set_cons_zero, List.set_cons_succ, vIx_t0, vIx_t1, vIx_t2, vIx_t3, vIx_t4, vIx_t5, vEq_ss, vEq_ii, vEq_bb, vNe_ss, vNe_ii, vNe_bb, vLen_tup, truA_tup, truA_bl, vLe_ii, vLt_ii, vGt_ii, vGe_ii, vSub_ii, vAdd_ii, vAddI_ii, vNeg_i, isT_ss, isT_tt, isT_ii, isT_bi, isT_bb, isT_ib, hd1, hF a l (good_tup.mp gds a ha)]) (by simp; omega)
        refine ⟨[.lst (ds.filter fun a => !isDeedW (isHr n) a)], ?_⟩
        have e2 : isHr (n + 1) (.tup [o, tp, r, w, ts, .tup ds]) = (ds.filter fun a => !isDeedW (isHr n) a).isEmpty := by
          show isHrW _ _ = _
          simp only [Bool.and_eq_true] at b1 b2
          simp only [isHrW, b1.1.1, b1.1.2, b1.2, b2.1, b2.2, h3, decide_true, Bool.and_self, Bool.true_and]
          rw [Bool.eq_iff_iff]
          simp
        simp only [List.nil_append, List.map_id] at lc
        have s5 : q_is_hearer_so_5 K Fd [some (.tup [o, tp, r, w, ts, .tup ds]), some (.int deep), some o, some tp, some r, some w, some ts, some (.tup ds), none] S = .ret (.bl (ds.filter fun a => !isDeedW (isHr n) a).isEmpty) (S ++ [.lst (ds.filter fun a => !isDeedW (isHr n) a)]) := by
          simp only [q_is_hearer_so_5, wipeR, gVar, gC, gOp, gUn, gAnd, gOr, gNot, gIf, gNil, gCons, gTup, gLst, gCB, gChain, gSet, gExpr, gRet, gRetN, gPass, gBrk, gCt, gRaise, gIfS, gSeq, nName, nTup, setAll, gAsg, gCall, gTru, gNotT, gIsi, RE.bind_ok, RE.bind_exc, RE.bind_stuck, RE.bindA_ok, RE.bindS_ok, RE.bindS_exc, RE.bindT_ok, RE.bindTS_ok, RA.bind_ok, RA.bindA_ok, RE.nox_ok, RS.seq_nx, RS.seq_ret, RS.seq_exc, RS.seq_brk, RS.seq_ct, RS.seq_stuck, RE.bindA_exc, RE.bindA_stuck, RE.bindS_stuck, RE.bindT_exc, RE.bindT_stuck, RE.bindTS_exc, RE.bindTS_stuck, RA.bind_exc, RA.bind_stuck, RA.bindA_exc, RA.bindA_stuck, RE.nox_stuck, bind_ite, bindA_ite, bindS_ite, bindT_ite, bindTS_ite, nox_ite, seq_ite, startR, tyA_non, tyA_bl, tyA_int, tyA_str, tyA_tup, List.map_cons, List.map_nil, List.length_cons, List.length_nil, List.cons_append, List.nil_append, List.append_nil, List.getElem?_cons_zero, List.getElem?_cons_succ, List.set_cons_zero, List.set_cons_succ, vIx_t0, vIx_t1, vIx_t2, vIx_t3, vIx_t4, vIx_t5, vEq_ss, vEq_ii, vEq_bb, vNe_ss, vNe_ii, vNe_bb, vLen_tup, truA_tup, truA_bl, vLe_ii, vLt_ii, vGt_ii, vGe_ii, vSub_ii, vAdd_ii, vAddI_ii, vNeg_i, isT_ss, isT_tt, isT_ii, isT_bi, isT_bb, isT_ib, gLc, gIT, wipeR, lc, truA, seqOf, items_new, Option.map_some, Bool.not_not]
        simp only [q_is_hearer_so, wipeR, gVar, gC, gOp, gUn, gAnd, gOr, gNot, gIf, gNil, gCons, gTup, gLst, gCB, gChain, gSet, gExpr, gRet, gRetN, gPass, gBrk, gCt, gRaise, gIfS, gSeq, nName, nTup, setAll, gAsg, gCall, gTru, gNotT, gIsi, RE.bind_ok, RE.bind_exc, RE.bind_stuck, RE.bindA_ok, RE.bindS_ok, RE.bindS_exc, RE.bindT_ok, RE.bindTS_ok, RA.bind_ok, RA.bindA_ok, RE.nox_ok, RS.seq_nx, RS.seq_ret, RS.seq_exc, RS.seq_brk, RS.seq_ct, RS.seq_stuck, RE.bindA_exc, RE.bindA_stuck, RE.bindS_stuck, RE.bindT_exc, RE.bindT_stuck, RE.bindTS_exc, RE.bindTS_stuck, RA.bind_exc, RA.bind_stuck, RA.bindA_exc, RA.bindA_stuck, RE.nox_stuck, bind_ite, bindA_ite, bindS_ite, bindT_ite, bindTS_ite, nox_ite, seq_ite, startR, tyA_non, tyA_bl, tyA_int, tyA_str, tyA_tup, List.map_cons, List.map_nil, List.length_cons, List.length_nil, List.cons_append, List.nil_append, List.append_nil, List.getElem?_cons_zero, List.getElem?_cons_succ, List.set_cons_zero, List.set_cons_succ, vIx_t0, vIx_t1, vIx_t2, vIx_t3, vIx_t4, vIx_t5, vEq_ss, vEq_ii, vEq_bb, vNe_ss, vNe_ii, vNe_bb, vLen_tup, truA_tup, truA_bl, vLe_ii, vLt_ii, vGt_ii, vGe_ii, vSub_ii, vAdd_ii, vAddI_ii, vNeg_i, isT_ss, isT_tt, isT_ii, isT_bi, isT_bb, isT_ib, s0, s1, s2, s3, s4, s5, if_pos b1, if_pos b2, e2, List.length_cons, List.length_nil, Nat.reduceAdd, Nat.reduceSub, List.replicate]
    case ob m =>
      refine ⟨[], ?_⟩
      obtain ⟨ty, hty⟩ := kn_some (good_kn gds)
      obtain ⟨h1, h2, h3, h4⟩ := isi_ob hty
      have s4 : q_is_hearer_so_4 K Fd [some (.tup [o, tp, r, w, ts, .ob m]), some (.int deep), some o, some tp, some r, some w, some ts, some (.ob m), none] S = .ret (.bl false) S := by
        simp [q_is_hearer_so_4, wipeR, gVar, gC, gOp, gUn, gAnd, gOr, gNot, gIf, gNil, gCons, gTup, gLst, gCB, gChain, gSet, gExpr, gRet, gRetN, gPass, gBrk, gCt, gRaise, gIfS, gSeq, nName, nTup, setAll, gAsg, gCall, gTru, gNotT, gIsi, RE.bind_ok, RE.bind_exc, RE.bind_stuck, RE.bindA_ok, RE.bindS_ok, RE.bindS_exc, RE.bindT_ok, RE.bindTS_ok, RA.bind_ok, RA.bindA_ok, RE.nox_ok, RS.seq_nx, RS.seq_ret, RS.seq_exc, RS.seq_brk, RS.seq_ct, RS.seq_stuck, RE.bindA_exc, RE.bindA_stuck, RE.bindS_stuck, RE.bindT_exc, RE.bindT_stuck, RE.bindTS_exc, RE.bindTS_stuck, RA.bind_exc, RA.bind_stuck, RA.bindA_exc, RA.bindA_stuck, RE.nox_stuck, bind_ite, bindA_ite, bindS_ite, bindT_ite, bindTS_ite, nox_ite, seq_ite, startR, tyA_non, tyA_bl, tyA_int, tyA_str, tyA_tup, List.map_cons, List.map_nil, List.length_cons, List.length_nil, List.cons_append, List.nil_append, List.append_nil, List.getElem?_cons_zero, List.getElem?_cons_succ, List.set_cons_zero, List.set_cons_succ, vIx_t0, vIx_t1, vIx_t2, vIx_t3, vIx_t4, vIx_t5, vEq_ss, vEq_ii, vEq_bb, vNe_ss, vNe_ii, vNe_bb, vLen_tup, truA_tup, truA_bl, vLe_ii, vLt_ii, vGt_ii, vGe_ii, vSub_ii, vAdd_ii, vAddI_ii, vNeg_i, isT_ss, isT_tt, isT_ii, isT_bi, isT_bb, isT_ib, hty, h4]
      have e2 : isHr (n + 1) (.tup [o, tp, r, w, ts, .ob m]) = false := rfl
      simp only [q_is_hearer_so, wipeR, gVar, gC, gOp, gUn, gAnd, gOr, gNot, gIf, gNil, gCons, gTup, gLst, gCB, gChain, gSet, gExpr, gRet, gRetN, gPass, gBrk, gCt, gRaise, gIfS, gSeq, nName, nTup, setAll, gAsg, gCall, gTru, gNotT, gIsi, RE.bind_ok, RE.bind_exc, RE.bind_stuck, RE.bindA_ok, RE.bindS_ok, RE.bindS_exc, RE.bindT_ok, RE.bindTS_ok, RA.bind_ok, RA.bindA_ok, RE.nox_ok, RS.seq_nx, RS.seq_ret, RS.seq_exc, RS.seq_brk, RS.seq_ct, RS.seq_stuck, RE.bindA_exc, RE.bindA_stuck, RE.bindS_stuck, RE.bindT_exc, RE.bindT_stuck, RE.bindTS_exc, RE.bindTS_stuck, RA.bind_exc, RA.bind_stuck, RA.bindA_exc, RA.bindA_stuck, RE.nox_stuck, bind_ite, bindA_ite, bindS_ite, bindT_ite, bindTS_ite, nox_ite, seq_ite, startR, tyA_non, tyA_bl, tyA_int, tyA_str, tyA_tup, List.map_cons, List.map_nil, List.length_cons, List.length_nil, List.cons_append, List.nil_append, List.append_nil, List.getElem?_cons_zero, List.getElem?_cons_succ, List.set_cons_zero, List.set_cons_succ, vIx_t0, vIx_t1, vIx_t2, vIx_t3, vIx_t4, vIx_t5, vEq_ss, vEq_ii, vEq_bb, vNe_ss, vNe_ii, vNe_bb, vLen_tup, truA_tup, truA_bl, vLe_ii, vLt_ii, vGt_ii, vGe_ii, vSub_ii, vAdd_ii, vAddI_ii, vNeg_i, isT_ss, isT_tt, isT_ii, isT_bi, isT_bb, isT_ib, s0, s1, s2, s3, s4, if_pos b1, if_pos b2, e2, List.length_cons, List.length_nil, Nat.reduceAdd, Nat.reduceSub, List.replicate]
    all_goals
      refine ⟨[], ?_⟩
      simp only [q_is_hearer_so, wipeR, gVar, gC, gOp, gUn, gAnd, gOr, gNot, gIf, gNil, gCons, gTup, gLst, gCB, gChain, gSet, gExpr, gRet, gRetN, gPass, gBrk, gCt, gRaise, gIfS, gSeq, nName, nTup, setAll, gAsg, gCall, gTru, gNotT, gIsi, RE.bind_ok, RE.bind_exc, RE.bind_stuck, RE.bindA_ok, RE.bindS_ok, RE.bindS_exc, RE.bindT_ok, RE.bindTS_ok, RA.bind_ok, RA.bindA_ok, RE.nox_ok, RS.seq_nx, RS.seq_ret, RS.seq_exc, RS.seq_brk, RS.seq_ct, RS.seq_stuck, RE.bindA_exc, RE.bindA_stuck, RE.bindS_stuck, RE.bindT_exc, RE.bindT_stuck, RE.bindTS_exc, RE.bindTS_stuck, RA.bind_exc, RA.bind_stuck, RA.bindA_exc, RA.bindA_stuck, RE.nox_stuck, bind_ite, bindA_ite, bindS_ite, bindT_ite, bindTS_ite, nox_ite, seq_ite, startR, tyA_non, tyA_bl, tyA_int, tyA_str, tyA_tup, List.map_cons, List.map_nil, List.length_cons, List.length_nil, List.cons_append, List.nil_append, List.append_nil, List.getElem?_cons_zero, List.getElem?_cons_succ, List.set_cons_zero, List.set_cons_succ, vIx_t0, vIx_t1, vIx_t2, vIx_t3, vIx_t4, vIx_t5, vEq_ss, vEq_ii, vEq_bb, vNe_ss, vNe_ii, vNe_bb, vLen_tup, truA_tup, truA_bl, vLe_ii, vLt_ii, vGt_ii, vGe_ii, vSub_ii, vAdd_ii, vAddI_ii, vNeg_i, isT_ss, isT_tt, isT_ii, isT_bi, isT_bb, isT_ib, s0, s1, s2, s3, if_pos b1, if_pos b2, List.length_cons, List.length_nil, Nat.reduceAdd, Nat.reduceSub, List.replicate]
      simp [q_is_hearer_so_4, wipeR, gVar, gC, gOp, gUn, gAnd, gOr, gNot, gIf, gNil, gCons, gTup, gLst, gCB, gChain, gSet, gExpr, gRet, gRetN, gPass, gBrk, gCt, gRaise, gIfS, gSeq, nName, nTup, setAll, gAsg, gCall, gTru, gNotT, gIsi, RE.bind_ok, RE.bind_exc, RE.bind_stuck, RE.bindA_ok, RE.bindS_ok, RE.bindS_exc, RE.bindT_ok, RE.bindTS_ok, RA.bind_ok, RA.bindA_ok, RE.nox_ok, RS.seq_nx, RS.seq_ret, RS.seq_exc, RS.seq_brk, RS.seq_ct, RS.seq_stuck, RE.bindA_exc, RE.bindA_stuck, RE.bindS_stuck, RE.bindT_exc, RE.bindT_stuck, RE.bindTS_exc, RE.bindTS_stuck, RA.bind_exc, RA.bind_stuck, RA.bindA_exc, RA.bindA_stuck, RE.nox_stuck, bind_ite, bindA_ite, bindS_ite, bindT_ite, bindTS_ite, nox_ite, seq_ite, startR, tyA_non, tyA_bl, tyA_int, tyA_str, tyA_tup, List.map_cons, List.map_nil, List.length_cons, List.length_nil, List.cons_append, List.nil_append, List.append_nil, List.getElem?_cons_zero, List.getElem?_cons_succ, List.set_cons_zero, List.set_cons_succ, vIx_t0, vIx_t1, vIx_t2, vIx_t3, vIx_t4, vIx_t5, vEq_ss, vEq_ii, vEq_bb, vNe_ss, vNe_ii, vNe_bb, vLen_tup, truA_tup, truA_bl, vLe_ii, vLt_ii, vGt_ii, vGe_ii, vSub_ii, vAdd_ii, vAddI_ii, vNeg_i, isT_ss, isT_tt, isT_ii, isT_bi, isT_bb, isT_ib, isT, isHr, isHrW]
  all_goals exact ⟨[], by simp [q_is_hearer_so, q_is_hearer_so_0, wipeR, gVar, gC, gOp, gUn, gAnd, gOr, gNot, gIf, gNil, gCons, gTup, gLst, gCB, gChain, gSet, gExpr, gRet, gRetN, gPass, gBrk, gCt, gRaise, gIfS, gSeq, nName, nTup, setAll, gAsg, gCall, gTru, gNotT, gIsi, RE.bind_ok, RE.bind_exc, RE.bind_stuck, RE.bindA_ok, RE.bindS_ok, RE.bindS_exc, RE.bindT_ok, RE.bindTS_ok, RA.bind_ok, RA.bindA_ok, RE.nox_ok, RS.seq_nx, RS.seq_ret, RS.seq_exc, RS.seq_brk, RS.seq_ct, RS.seq_stuck, RE.bindA_exc, RE.bindA_stuck, RE.bindS_stuck, RE.bindT_exc, RE.bindT_stuck, RE.bindTS_exc, RE.bindTS_stuck, RA.bind_exc, RA.bind_stuck, RA.bindA_exc, RA.bindA_stuck, RE.nox_stuck, bind_ite, bindA_ite, bindS_ite, bindT_ite, bindTS_ite, nox_ite, seq_ite, startR, tyA_non, tyA_bl, tyA_int, tyA_str, tyA_tup, List.map_cons, List.map_nil, List.length_cons, List.length_nil, List.cons_append, List.nil_append, List.append_nil, List.getElem?_cons_zero, List.getElem?_cons_succ, List.set_cons_zero, List.set_cons_succ, vIx_t0, vIx_t1, vIx_t2, vIx_t3, vIx_t4, vIx_t5, vEq_ss, vEq_ii, vEq_bb, vNe_ss, vNe_ii, vNe_bb, vLen_tup, truA_tup, truA_bl, vLe_ii, vLt_ii, vGt_ii, vGe_ii, vSub_ii, vAdd_ii, vAddI_ii, vNeg_i, isT_ss, isT_tt, isT_ii, isT_bi, isT_bb, isT_ib, hd, isT, isHr, isHrW]⟩
theorem good_lst {S : Sto} {a : A} (h : good S a = true) (l : List A) : good (S ++ [.lst l]) a = true := good_app h _
theorem ok_is_hearer_so_of (t : TT K mg base) {n d : Nat} {Fd : List A → Sto → RE} (hd : 3 ≤ d) (okd : FnR P w K mg base d (He.ga K "is_deed") t.f_is_deed P_is_deed (spF K (tbs K) Fd)) (hF : ∀ m : Nat, m + 1 ≤ n → ∀ S a, good S a = true → Fd [a, .int (m : Int)] S = .ok (.bl (isDeedW (isHr m) a)) S) : FnR P w K mg base (d + 1) (He.ga K "is_hearer_so") t.f_is_hearer_so P_is_hearer_so (spF K (tbs K) (F_is_hearer_so n K)) := by
  refine fnF t.D_is_hearer_so sc_is_hearer_so (fun l S h => by unfold F_is_hearer_so at h; split at h <;> first | rfl | exact absurd rfl h) (q_is_hearer_so K Fd) (fun cdv A outer s H E hr => sb_is_hearer_so t okd hd (Nat.le_refl d) hr) fun l S b bl h => ?_
  unfold F_is_hearer_so at h ⊢
  split at h
  rotate_left
  · exact absurd rfl h
  rename_i x deep
  by_cases hk : good S x = true ∧ 0 ≤ deep ∧ deep ≤ (n : Int)
  rotate_left
  · exact absurd (if_neg hk) h
  rw [if_pos hk]
  by_cases h0 : deep = 0
  · subst h0
    rw [e_is_hearer_so0]
    exact fitP b (.bl _)
  · obtain ⟨m, hm⟩ : ∃ m : Nat, deep = (m : Int) + 1 := ⟨(deep - 1).toNat, by omega⟩
    obtain ⟨E, e⟩ := e_is_hearer_so (K := K) (Fd := Fd) hk.1 hm (fun a l ha => hF m (by omega) _ a (good_lst ha l))
    have e3 : deep.toNat = m + 1 := by omega
    rw [e, e3]
    exact fitPE b (.bl _)
theorem ok_is_hearer_so (t : TT K mg base) : ∀ n : Nat, FnR P w K mg base (4 + 2 * n) (He.ga K "is_hearer_so") t.f_is_hearer_so P_is_hearer_so (spF K (tbs K) (F_is_hearer_so n K))
  | 0 => ok_is_hearer_so_of t (d := 3) (Nat.le_refl _) fnr_stuck fun m hm => absurd hm (by omega)
  | n + 1 => ok_is_hearer_so_of t (d := 4 + 2 * n + 1) (by omega) (ok_is_deed_of t (by omega) (ok_is_hearer_so t n)) fun m hm S a ha => if_pos ⟨ha, by omega, by omega⟩
theorem ok_is_deed (t : TT K mg base) (n : Nat) : FnR P w K mg base (5 + 2 * n) (He.ga K "is_deed") t.f_is_deed P_is_deed (spF K (tbs K) (F_is_deed n K)) := (show 4 + 2 * n + 1 = 5 + 2 * n by omega) ▸ ok_is_deed_of t (by omega) (ok_is_hearer_so t n)
def F_is_hearer (K : Frg) : List A → Sto → RE := fun l S => match l with
  | [x] => if good S x = true then .ok (.bl (isHr 3 x)) S else .stuck
  | _ => .stuck
-- with is_hearer
abbrev N_is_hearer : List Str := ["thing"]
abbrev P_is_hearer : List Str := ["thing"]
theorem sc_is_hearer : FnScope N_is_hearer P_is_hearer (defScope Hd.s_is_hearer) := ⟨rfl, rfl, rfl, by decide +kernel, rfl, by decide +kernel, by decide +kernel⟩
theorem b_is_hearer {K : Frg} {mg : Str → Option Value} {base : Heap} (t : TT K mg base) : Binds K t.f_is_hearer P_is_hearer [] := FunD.bindsN t.D_is_hearer fun _ _ _ _ _ _ us hl => match us, hl with | [_], _ => rfl
def q_is_hearer (K : Frg) : GS :=
  gRet (gCall (F_is_hearer_so 3 K) (gCons (gVar 0) (gCons (gC (.int 3)) (gNil))))
theorem sb_is_hearer {P : Program} {w : World} {K : Frg} {mg : Str → Option Value} {base : Heap} (t : TT K mg base)  {cdv : Value} {A : Around} {outer : List Env} {s : Shared} {H : Hp} {E : XK} (hr : Rm 10 (A.deeper (envOfC "is_hearer" (defScope Hd.s_is_hearer) s.heap.objs.size (He.ga K "is_hearer") cdv))) :
    SB (cxOf (L2.CX P w) P w K mg base N_is_hearer "is_hearer" (defScope Hd.s_is_hearer) (He.ga K "is_hearer") cdv A outer s H E) (tbs K) (fun c d _ H2 => E c d H2) (defBody Hd.s_is_hearer) (q_is_hearer K ) := by
  have nd : N_is_hearer.Nodup := sc_is_hearer.nd
  have hp := passes_of (X := cxOf (L2.CX P w) P w K mg base N_is_hearer "is_hearer" (defScope Hd.s_is_hearer) (He.ga K "is_hearer") cdv A outer s H E) (K := fun e s2 => L2.CX P w outer H s E e s2) (E₁ := fun e s2 => L2.CX P w outer H s E e s2) rfl
  have tk : Takes (cxOf (L2.CX P w) P w K mg base N_is_hearer "is_hearer" (defScope Hd.s_is_hearer) (He.ga K "is_hearer") cdv A outer s H E) (fun c d _ H2 => E c d H2) := takes_of rfl rfl rfl rfl
  exact (sb_one (ss_ret (se_call (ok_is_hearer_so t 3) (hr.mono (by omega)) t.m_is_hearer_so t.D_is_hearer_so.kp (b_is_hearer_so t) tk (sa_cons (se_var' (pv 0)) (sa_cons (se_c' (pe_glob (v := .int 3) rfl t.m_DEEPEST.choose_spec ⟨_, rfl⟩) (fun _ _ => .int _)) sa_nil)))))

theorem ok_is_hearer (t : TT K mg base) : FnR P w K mg base 11 (He.ga K "is_hearer") t.f_is_hearer P_is_hearer (spF K (tbs K) (F_is_hearer K)) := by
  refine fnF t.D_is_hearer sc_is_hearer (fun l S h => by unfold F_is_hearer at h; split at h <;> first | rfl | exact absurd rfl h) (q_is_hearer K) (fun cdv A outer s H E hr => sb_is_hearer t hr) fun l S b bl h => ?_
  unfold F_is_hearer at h ⊢
  split at h
  rotate_left
  · exact absurd rfl h
  rename_i x
  by_cases hk : good S x = true
  rotate_left
  · exact absurd (if_neg hk) h
  rw [if_pos hk]
  have e : q_is_hearer K (startR N_is_hearer.length [x]) S = .ret (.bl (isHr 3 x)) S := by
    simp [q_is_hearer, wipeR, gVar, gC, gOp, gUn, gAnd, gOr, gNot, gIf, gNil, gCons, gTup, gLst, gCB, gChain, gSet, gExpr, gRet, gRetN, gPass, gBrk, gCt, gRaise, gIfS, gSeq, nName, nTup, setAll, gAsg, gCall, gTru, gNotT, gIsi, RE.bind_ok, RE.bind_exc, RE.bind_stuck, RE.bindA_ok, RE.bindS_ok, RE.bindS_exc, RE.bindT_ok, RE.bindTS_ok, RA.bind_ok, RA.bindA_ok, RE.nox_ok, RS.seq_nx, RS.seq_ret, RS.seq_exc, RS.seq_brk, RS.seq_ct, RS.seq_stuck, RE.bindA_exc, RE.bindA_stuck, RE.bindS_stuck, RE.bindT_exc, RE.bindT_stuck, RE.bindTS_exc, RE.bindTS_stuck, RA.bind_exc, RA.bind_stuck, RA.bindA_exc, RA.bindA_stuck, RE.nox_stuck, bind_ite, bindA_ite, bindS_ite, bindT_ite, bindTS_ite, nox_ite, seq_ite, startR, tyA_non, tyA_bl, tyA_int, tyA_str, tyA_tup, List.map_cons, List.map_nil, List.length_cons, List.length_nil, List.cons_append, List.nil_append, List.append_nil, List.getElem?_cons_zero, List.getElem?_cons_succ, List.set_cons_zero, List.set_cons_succ, vIx_t0, vIx_t1, vIx_t2, vIx_t3, vIx_t4, vIx_t5, vEq_ss, vEq_ii, vEq_bb, vNe_ss, vNe_ii, vNe_bb, vLen_tup, truA_tup, truA_bl, vLe_ii, vLt_ii, vGt_ii, vGe_ii, vSub_ii, vAdd_ii, vAddI_ii, vNeg_i, isT_ss, isT_tt, isT_ii, isT_bi, isT_bb, isT_ib, F_is_hearer_so, hk]
  rw [e]
  exact fitP b (.bl _)
abbrev cBadHearer (K : Frg) : Value := .ref (He.ga K "BadHearer")
abbrev cBadTopic (K : Frg) : Value := .ref (He.ga K "BadTopic")
abbrev cBadValue (K : Frg) : Value := .ref (He.ga K "BadValue")
def F_checked (K : Frg) : List A → Sto → RE := fun l S => match l with
  | [x] => if good S x = true then (if isHr 3 x = true then .ok x S else .exc (cBadHearer K) S) else .stuck
  | _ => .stuck
-- with checked
abbrev N_checked : List Str := ["hearer"]
abbrev P_checked : List Str := ["hearer"]
theorem sc_checked : FnScope N_checked P_checked (defScope Hd.s_checked) := ⟨rfl, rfl, rfl, by decide +kernel, rfl, by decide +kernel, by decide +kernel⟩
theorem b_checked {K : Frg} {mg : Str → Option Value} {base : Heap} (t : TT K mg base) : Binds K t.f_checked P_checked [] := FunD.bindsN t.D_checked fun _ _ _ _ _ _ us hl => match us, hl with | [_], _ => rfl
def q_checked (K : Frg) : GS :=
  gSeq (gIfS (gNot (gCall (F_is_hearer K) (gCons (gVar 0) (gNil)))) (gRaise (.ref (He.ga K "BadHearer"))) (gPass))
  (gRet (gVar 0))
theorem sb_checked {P : Program} {w : World} {K : Frg} {mg : Str → Option Value} {base : Heap} (t : TT K mg base)  {cdv : Value} {A : Around} {outer : List Env} {s : Shared} {H : Hp} {E : XK} (hr : Rm 11 (A.deeper (envOfC "checked" (defScope Hd.s_checked) s.heap.objs.size (He.ga K "checked") cdv))) :
    SB (cxOf (L2.CX P w) P w K mg base N_checked "checked" (defScope Hd.s_checked) (He.ga K "checked") cdv A outer s H E) (tbs K) (fun c d _ H2 => E c d H2) (defBody Hd.s_checked) (q_checked K ) := by
  have nd : N_checked.Nodup := sc_checked.nd
  have hp := passes_of (X := cxOf (L2.CX P w) P w K mg base N_checked "checked" (defScope Hd.s_checked) (He.ga K "checked") cdv A outer s H E) (K := fun e s2 => L2.CX P w outer H s E e s2) (E₁ := fun e s2 => L2.CX P w outer H s E e s2) rfl
  have tk : Takes (cxOf (L2.CX P w) P w K mg base N_checked "checked" (defScope Hd.s_checked) (He.ga K "checked") cdv A outer s H E) (fun c d _ H2 => E c d H2) := takes_of rfl rfl rfl rfl
  exact (sb_cons (ss_if (st_not (st_val (se_call (ok_is_hearer t) (hr.mono (by omega)) t.m_is_hearer t.D_is_hearer.kp (b_is_hearer t) tk (sa_cons (se_var' (pv 0)) sa_nil)))) (sb_one (ss_raise rfl tk (pmk_own PySem.F.excBase_ValueError t.x_BadHearer.1 t.m_BadHearer t.x_BadHearer.2.1 (raises_own t.x_BadHearer.2.2.1 t.x_BadHearer.2.2.2) (by exact rfl)))) sb_nil)
  (sb_one (ss_ret (se_var' (pv 0)))))

theorem ok_checked (t : TT K mg base) : FnR P w K mg base 12 (He.ga K "checked") t.f_checked P_checked (spF K (tbs K) (F_checked K)) := by
  refine fnF t.D_checked sc_checked (fun l S h => by unfold F_checked at h; split at h <;> first | rfl | exact absurd rfl h) (q_checked K) (fun cdv A outer s H E hr => sb_checked t hr) fun l S b bl h => ?_
  unfold F_checked at h ⊢
  split at h
  rotate_left
  · exact absurd rfl h
  rename_i x
  by_cases hk : good S x = true
  rotate_left
  · exact absurd (if_neg hk) h
  rw [if_pos hk]
  cases hh : isHr 3 x
  · have e : q_checked K (startR N_checked.length [x]) S = .exc (cBadHearer K) [some x] S := by
      simp [q_checked, wipeR, gVar, gC, gOp, gUn, gAnd, gOr, gNot, gIf, gNil, gCons, gTup, gLst, gCB, gChain, gSet, gExpr, gRet, gRetN, gPass, gBrk, gCt, gRaise, gIfS, gSeq, nName, nTup, setAll, gAsg, gCall, gTru, gNotT, gIsi, RE.bind_ok, RE.bind_exc, RE.bind_stuck, RE.bindA_ok, RE.bindS_ok, RE.bindS_exc, RE.bindT_ok, RE.bindTS_ok, RA.bind_ok, RA.bindA_ok, RE.nox_ok, RS.seq_nx, RS.seq_ret, RS.seq_exc, RS.seq_brk, RS.seq_ct, RS.seq_stuck, RE.bindA_exc, RE.bindA_stuck, RE.bindS_stuck, RE.bindT_exc, RE.bindT_stuck, RE.bindTS_exc, RE.bindTS_stuck, RA.bind_exc, RA.bind_stuck, RA.bindA_exc, RA.bindA_stuck, RE.nox_stuck, bind_ite, bindA_ite, bindS_ite, bindT_ite, bindTS_ite, nox_ite, seq_ite, startR, tyA_non, tyA_bl, tyA_int, tyA_str, tyA_tup, List.map_cons, List.map_nil, List.length_cons, List.length_nil, List.cons_append, List.nil_append, List.append_nil, List.getElem?_cons_zero, List.getElem?_cons_succ, List.set_cons_zero, List.set_cons_succ, vIx_t0, vIx_t1, vIx_t2, vIx_t3, vIx_t4, vIx_t5, vEq_ss, vEq_ii, vEq_bb, vNe_ss, vNe_ii, vNe_bb, vLen_tup, truA_tup, truA_bl, vLe_ii, vLt_ii, vGt_ii, vGe_ii, vSub_ii, vAdd_ii, vAddI_ii, vNeg_i, isT_ss, isT_tt, isT_ii, isT_bi, isT_bb, isT_ib, F_is_hearer, hk, hh]
    rw [e]
    exact fitX b
  · have e : q_checked K (startR N_checked.length [x]) S = .ret x S := by
      simp [q_checked, wipeR, gVar, gC, gOp, gUn, gAnd, gOr, gNot, gIf, gNil, gCons, gTup, gLst, gCB, gChain, gSet, gExpr, gRet, gRetN, gPass, gBrk, gCt, gRaise, gIfS, gSeq, nName, nTup, setAll, gAsg, gCall, gTru, gNotT, gIsi, RE.bind_ok, RE.bind_exc, RE.bind_stuck, RE.bindA_ok, RE.bindS_ok, RE.bindS_exc, RE.bindT_ok, RE.bindTS_ok, RA.bind_ok, RA.bindA_ok, RE.nox_ok, RS.seq_nx, RS.seq_ret, RS.seq_exc, RS.seq_brk, RS.seq_ct, RS.seq_stuck, RE.bindA_exc, RE.bindA_stuck, RE.bindS_stuck, RE.bindT_exc, RE.bindT_stuck, RE.bindTS_exc, RE.bindTS_stuck, RA.bind_exc, RA.bind_stuck, RA.bindA_exc, RA.bindA_stuck, RE.nox_stuck, bind_ite, bindA_ite, bindS_ite, bindT_ite, bindTS_ite, nox_ite, seq_ite, startR, tyA_non, tyA_bl, tyA_int, tyA_str, tyA_tup, List.map_cons, List.map_nil, List.length_cons, List.length_nil, List.cons_append, List.nil_append, List.append_nil, List.getElem?_cons_zero, List.getElem?_cons_succ, List.set_cons_zero, List.set_cons_succ, vIx_t0, vIx_t1, vIx_t2, vIx_t3, vIx_t4, vIx_t5, vEq_ss, vEq_ii, vEq_bb, vNe_ss, vNe_ii, vNe_bb, vLen_tup, truA_tup, truA_bl, vLe_ii, vLt_ii, vGt_ii, vGe_ii, vSub_ii, vAdd_ii, vAddI_ii, vNeg_i, isT_ss, isT_tt, isT_ii, isT_bi, isT_bb, isT_ib, F_is_hearer, hk, hh]
    rw [e]
    exact fitP b (bl x (by simp))
def F_look_topic (K : Frg) : List A → Sto → RE := fun l S => match l with
  | [x] => if good S x = true then (if isWord x = true then .ok .non S else .exc (cBadTopic K) S) else .stuck
  | _ => .stuck
-- with look_topic
abbrev N_look_topic : List Str := ["topic"]
abbrev P_look_topic : List Str := ["topic"]
theorem sc_look_topic : FnScope N_look_topic P_look_topic (defScope Hd.s_look_topic) := ⟨rfl, rfl, rfl, by decide +kernel, rfl, by decide +kernel, by decide +kernel⟩
theorem b_look_topic {K : Frg} {mg : Str → Option Value} {base : Heap} (t : TT K mg base) : Binds K t.f_look_topic P_look_topic [] := FunD.bindsN t.D_look_topic fun _ _ _ _ _ _ us hl => match us, hl with | [_], _ => rfl
def q_look_topic (K : Frg) : GS :=
  gIfS (gNot (gCall (F_is_word K) (gCons (gVar 0) (gNil)))) (gRaise (.ref (He.ga K "BadTopic"))) (gPass)
theorem sb_look_topic {P : Program} {w : World} {K : Frg} {mg : Str → Option Value} {base : Heap} (t : TT K mg base)  {cdv : Value} {A : Around} {outer : List Env} {s : Shared} {H : Hp} {E : XK} (hr : Rm 1 (A.deeper (envOfC "look_topic" (defScope Hd.s_look_topic) s.heap.objs.size (He.ga K "look_topic") cdv))) :
    SB (cxOf (L2.CX P w) P w K mg base N_look_topic "look_topic" (defScope Hd.s_look_topic) (He.ga K "look_topic") cdv A outer s H E) (tbs K) (fun c d _ H2 => E c d H2) (defBody Hd.s_look_topic) (q_look_topic K ) := by
  have nd : N_look_topic.Nodup := sc_look_topic.nd
  have hp := passes_of (X := cxOf (L2.CX P w) P w K mg base N_look_topic "look_topic" (defScope Hd.s_look_topic) (He.ga K "look_topic") cdv A outer s H E) (K := fun e s2 => L2.CX P w outer H s E e s2) (E₁ := fun e s2 => L2.CX P w outer H s E e s2) rfl
  have tk : Takes (cxOf (L2.CX P w) P w K mg base N_look_topic "look_topic" (defScope Hd.s_look_topic) (He.ga K "look_topic") cdv A outer s H E) (fun c d _ H2 => E c d H2) := takes_of rfl rfl rfl rfl
  exact (sb_one (ss_if (st_not (st_val (se_call (ok_is_word t) (hr.mono (by omega)) t.m_is_word t.D_is_word.kp (b_is_word t) tk (sa_cons (se_var' (pv 0)) sa_nil)))) (sb_one (ss_raise rfl tk (pmk_own PySem.F.excBase_ValueError t.x_BadTopic.1 t.m_BadTopic t.x_BadTopic.2.1 (raises_own t.x_BadTopic.2.2.1 t.x_BadTopic.2.2.2) (by exact rfl)))) sb_nil))

theorem ok_look_topic (t : TT K mg base) : FnR P w K mg base 2 (He.ga K "look_topic") t.f_look_topic P_look_topic (spF K (tbs K) (F_look_topic K)) := by
  refine fnF t.D_look_topic sc_look_topic (fun l S h => by unfold F_look_topic at h; split at h <;> first | rfl | exact absurd rfl h) (q_look_topic K) (fun cdv A outer s H E hr => sb_look_topic t hr) fun l S b bl h => ?_
  unfold F_look_topic at h ⊢
  split at h
  rotate_left
  · exact absurd rfl h
  rename_i x
  by_cases hk : good S x = true
  rotate_left
  · exact absurd (if_neg hk) h
  rw [if_pos hk]
  cases hh : isWord x
  · have e : q_look_topic K (startR N_look_topic.length [x]) S = .exc (cBadTopic K) [some x] S := by
      simp [q_look_topic, wipeR, gVar, gC, gOp, gUn, gAnd, gOr, gNot, gIf, gNil, gCons, gTup, gLst, gCB, gChain, gSet, gExpr, gRet, gRetN, gPass, gBrk, gCt, gRaise, gIfS, gSeq, nName, nTup, setAll, gAsg, gCall, gTru, gNotT, gIsi, RE.bind_ok, RE.bind_exc, RE.bind_stuck, RE.bindA_ok, RE.bindS_ok, RE.bindS_exc, RE.bindT_ok, RE.bindTS_ok, RA.bind_ok, RA.bindA_ok, RE.nox_ok, RS.seq_nx, RS.seq_ret, RS.seq_exc, RS.seq_brk, RS.seq_ct, RS.seq_stuck, RE.bindA_exc, RE.bindA_stuck, RE.bindS_stuck, RE.bindT_exc, RE.bindT_stuck, RE.bindTS_exc, RE.bindTS_stuck, RA.bind_exc, RA.bind_stuck, RA.bindA_exc, RA.bindA_stuck, RE.nox_stuck, bind_ite, bindA_ite, bindS_ite, bindT_ite, bindTS_ite, nox_ite, seq_ite, startR, tyA_non, tyA_bl, tyA_int, tyA_str, tyA_tup, List.map_cons, List.map_nil, List.length_cons, List.length_nil, List.cons_append, List.nil_append, List.append_nil, List.getElem?_cons_zero, List.getElem?_cons_succ, List.set_cons_zero, List.set_cons_succ, vIx_t0, vIx_t1, vIx_t2, vIx_t3, vIx_t4, vIx_t5, vEq_ss, vEq_ii, vEq_bb, vNe_ss, vNe_ii, vNe_bb, vLen_tup, truA_tup, truA_bl, vLe_ii, vLt_ii, vGt_ii, vGe_ii, vSub_ii, vAdd_ii, vAddI_ii, vNeg_i, isT_ss, isT_tt, isT_ii, isT_bi, isT_bb, isT_ib, F_is_word, hk, hh]
    rw [e]
    exact fitX b
  · have e : q_look_topic K (startR N_look_topic.length [x]) S = .nx [some x] S := by
      simp [q_look_topic, wipeR, gVar, gC, gOp, gUn, gAnd, gOr, gNot, gIf, gNil, gCons, gTup, gLst, gCB, gChain, gSet, gExpr, gRet, gRetN, gPass, gBrk, gCt, gRaise, gIfS, gSeq, nName, nTup, setAll, gAsg, gCall, gTru, gNotT, gIsi, RE.bind_ok, RE.bind_exc, RE.bind_stuck, RE.bindA_ok, RE.bindS_ok, RE.bindS_exc, RE.bindT_ok, RE.bindTS_ok, RA.bind_ok, RA.bindA_ok, RE.nox_ok, RS.seq_nx, RS.seq_ret, RS.seq_exc, RS.seq_brk, RS.seq_ct, RS.seq_stuck, RE.bindA_exc, RE.bindA_stuck, RE.bindS_stuck, RE.bindT_exc, RE.bindT_stuck, RE.bindTS_exc, RE.bindTS_stuck, RA.bind_exc, RA.bind_stuck, RA.bindA_exc, RA.bindA_stuck, RE.nox_stuck, bind_ite, bindA_ite, bindS_ite, bindT_ite, bindTS_ite, nox_ite, seq_ite, startR, tyA_non, tyA_bl, tyA_int, tyA_str, tyA_tup, List.map_cons, List.map_nil, List.length_cons, List.length_nil, List.cons_append, List.nil_append, List.append_nil, List.getElem?_cons_zero, List.getElem?_cons_succ, List.set_cons_zero, List.set_cons_succ, vIx_t0, vIx_t1, vIx_t2, vIx_t3, vIx_t4, vIx_t5, vEq_ss, vEq_ii, vEq_bb, vNe_ss, vNe_ii, vNe_bb, vLen_tup, truA_tup, truA_bl, vLe_ii, vLt_ii, vGt_ii, vGe_ii, vSub_ii, vAdd_ii, vAddI_ii, vNeg_i, isT_ss, isT_tt, isT_ii, isT_bi, isT_bb, isT_ib, F_is_word, hk, hh]
    rw [e]
    exact fitN b
def F_look_value (K : Frg) : List A → Sto → RE := fun l S => match l with
  | [x] => if kn S x = true then (if isIn x 0 9999 = true then .ok .non S else .exc (cBadValue K) S) else .stuck
  | _ => .stuck
-- with look_value
abbrev N_look_value : List Str := ["value"]
abbrev P_look_value : List Str := ["value"]
theorem sc_look_value : FnScope N_look_value P_look_value (defScope Hd.s_look_value) := ⟨rfl, rfl, rfl, by decide +kernel, rfl, by decide +kernel, by decide +kernel⟩
theorem b_look_value {K : Frg} {mg : Str → Option Value} {base : Heap} (t : TT K mg base) : Binds K t.f_look_value P_look_value [] := FunD.bindsN t.D_look_value fun _ _ _ _ _ _ us hl => match us, hl with | [_], _ => rfl
def q_look_value (K : Frg) : GS :=
  gIfS (gNot (gCall (F_is_value K) (gCons (gVar 0) (gNil)))) (gRaise (.ref (He.ga K "BadValue"))) (gPass)
theorem sb_look_value {P : Program} {w : World} {K : Frg} {mg : Str → Option Value} {base : Heap} (t : TT K mg base)  {cdv : Value} {A : Around} {outer : List Env} {s : Shared} {H : Hp} {E : XK} (hr : Rm 2 (A.deeper (envOfC "look_value" (defScope Hd.s_look_value) s.heap.objs.size (He.ga K "look_value") cdv))) :
    SB (cxOf (L2.CX P w) P w K mg base N_look_value "look_value" (defScope Hd.s_look_value) (He.ga K "look_value") cdv A outer s H E) (tbs K) (fun c d _ H2 => E c d H2) (defBody Hd.s_look_value) (q_look_value K ) := by
  have nd : N_look_value.Nodup := sc_look_value.nd
  have hp := passes_of (X := cxOf (L2.CX P w) P w K mg base N_look_value "look_value" (defScope Hd.s_look_value) (He.ga K "look_value") cdv A outer s H E) (K := fun e s2 => L2.CX P w outer H s E e s2) (E₁ := fun e s2 => L2.CX P w outer H s E e s2) rfl
  have tk : Takes (cxOf (L2.CX P w) P w K mg base N_look_value "look_value" (defScope Hd.s_look_value) (He.ga K "look_value") cdv A outer s H E) (fun c d _ H2 => E c d H2) := takes_of rfl rfl rfl rfl
  exact (sb_one (ss_if (st_not (st_val (se_call (ok_is_value t) (hr.mono (by omega)) t.m_is_value t.D_is_value.kp (b_is_value t) tk (sa_cons (se_var' (pv 0)) sa_nil)))) (sb_one (ss_raise rfl tk (pmk_own PySem.F.excBase_ValueError t.x_BadValue.1 t.m_BadValue t.x_BadValue.2.1 (raises_own t.x_BadValue.2.2.1 t.x_BadValue.2.2.2) (by exact rfl)))) sb_nil))

theorem ok_look_value (t : TT K mg base) : FnR P w K mg base 3 (He.ga K "look_value") t.f_look_value P_look_value (spF K (tbs K) (F_look_value K)) := by
  refine fnF t.D_look_value sc_look_value (fun l S h => by unfold F_look_value at h; split at h <;> first | rfl | exact absurd rfl h) (q_look_value K) (fun cdv A outer s H E hr => sb_look_value t hr) fun l S b bl h => ?_
  unfold F_look_value at h ⊢
  split at h
  rotate_left
  · exact absurd rfl h
  rename_i x
  by_cases hk : kn S x = true
  rotate_left
  · exact absurd (if_neg hk) h
  rw [if_pos hk]
  cases hh : isIn x 0 9999
  · have e : q_look_value K (startR N_look_value.length [x]) S = .exc (cBadValue K) [some x] S := by
      simp [q_look_value, wipeR, gVar, gC, gOp, gUn, gAnd, gOr, gNot, gIf, gNil, gCons, gTup, gLst, gCB, gChain, gSet, gExpr, gRet, gRetN, gPass, gBrk, gCt, gRaise, gIfS, gSeq, nName, nTup, setAll, gAsg, gCall, gTru, gNotT, gIsi, RE.bind_ok, RE.bind_exc, RE.bind_stuck, RE.bindA_ok, RE.bindS_ok, RE.bindS_exc, RE.bindT_ok, RE.bindTS_ok, RA.bind_ok, RA.bindA_ok, RE.nox_ok, RS.seq_nx, RS.seq_ret, RS.seq_exc, RS.seq_brk, RS.seq_ct, RS.seq_stuck, RE.bindA_exc, RE.bindA_stuck, RE.bindS_stuck, RE.bindT_exc, RE.bindT_stuck, RE.bindTS_exc, RE.bindTS_stuck, RA.bind_exc, RA.bind_stuck, RA.bindA_exc, RA.bindA_stuck, RE.nox_stuck, bind_ite, bindA_ite, bindS_ite, bindT_ite, bindTS_ite, nox_ite, seq_ite, startR, tyA_non, tyA_bl, tyA_int, tyA_str, tyA_tup, List.map_cons, List.map_nil, List.length_cons, List.length_nil, List.cons_append, List.nil_append, List.append_nil, List.getElem?_cons_zero, List.getElem?_cons_succ, List.set_cons_zero, List.set_cons_succ, vIx_t0, vIx_t1, vIx_t2, vIx_t3, vIx_t4, vIx_t5, vEq_ss, vEq_ii, vEq_bb, vNe_ss, vNe_ii, vNe_bb, vLen_tup, truA_tup, truA_bl, vLe_ii, vLt_ii, vGt_ii, vGe_ii, vSub_ii, vAdd_ii, vAddI_ii, vNeg_i, isT_ss, isT_tt, isT_ii, isT_bi, isT_bb, isT_ib, F_is_value, hk, hh]
    rw [e]
    exact fitX b
  · have e : q_look_value K (startR N_look_value.length [x]) S = .nx [some x] S := by
      simp [q_look_value, wipeR, gVar, gC, gOp, gUn, gAnd, gOr, gNot, gIf, gNil, gCons, gTup, gLst, gCB, gChain, gSet, gExpr, gRet, gRetN, gPass, gBrk, gCt, gRaise, gIfS, gSeq, nName, nTup, setAll, gAsg, gCall, gTru, gNotT, gIsi, RE.bind_ok, RE.bind_exc, RE.bind_stuck, RE.bindA_ok, RE.bindS_ok, RE.bindS_exc, RE.bindT_ok, RE.bindTS_ok, RA.bind_ok, RA.bindA_ok, RE.nox_ok, RS.seq_nx, RS.seq_ret, RS.seq_exc, RS.seq_brk, RS.seq_ct, RS.seq_stuck, RE.bindA_exc, RE.bindA_stuck, RE.bindS_stuck, RE.bindT_exc, RE.bindT_stuck, RE.bindTS_exc, RE.bindTS_stuck, RA.bind_exc, RA.bind_stuck, RA.bindA_exc, RA.bindA_stuck, RE.nox_stuck, bind_ite, bindA_ite, bindS_ite, bindT_ite, bindTS_ite, nox_ite, seq_ite, startR, tyA_non, tyA_bl, tyA_int, tyA_str, tyA_tup, List.map_cons, List.map_nil, List.length_cons, List.length_nil, List.cons_append, List.nil_append, List.append_nil, List.getElem?_cons_zero, List.getElem?_cons_succ, List.set_cons_zero, List.set_cons_succ, vIx_t0, vIx_t1, vIx_t2, vIx_t3, vIx_t4, vIx_t5, vEq_ss, vEq_ii, vEq_bb, vNe_ss, vNe_ii, vNe_bb, vLen_tup, truA_tup, truA_bl, vLe_ii, vLt_ii, vGt_ii, vGe_ii, vSub_ii, vAdd_ii, vAddI_ii, vNeg_i, isT_ss, isT_tt, isT_ii, isT_bi, isT_bb, isT_ib, F_is_value, hk, hh]
    rw [e]
    exact fitN b
-- with is_fit
abbrev N_is_fit : List Str := ["test", "value"]
abbrev P_is_fit : List Str := ["test", "value"]
theorem sc_is_fit : FnScope N_is_fit P_is_fit (defScope Hd.s_is_fit) := ⟨rfl, rfl, rfl, by decide +kernel, rfl, by decide +kernel, by decide +kernel⟩
theorem b_is_fit {K : Frg} {mg : Str → Option Value} {base : Heap} (t : TT K mg base) : Binds K t.f_is_fit P_is_fit [] := FunD.bindsN t.D_is_fit fun _ _ _ _ _ _ us hl => match us, hl with | [_, _], _ => rfl
def q_is_fit (K : Frg) : GS :=
  gSeq (gIfS (gOp vEq (gOp vIx (gVar 0) (gC (.int 0))) (gC (.str "any"))) (gRet (gC (.bl true))) (gPass))
  (gRet (gIf (gOp vEq (gOp vIx (gVar 0) (gC (.int 0))) (gC (.str "over"))) (gOp vGt (gVar 1) (gOp vIx (gVar 0) (gC (.int 1)))) (gOp vLt (gVar 1) (gOp vIx (gVar 0) (gC (.int 1))))))
theorem sb_is_fit {P : Program} {w : World} {K : Frg} {mg : Str → Option Value} {base : Heap} (t : TT K mg base)  {cdv : Value} {A : Around} {outer : List Env} {s : Shared} {H : Hp} {E : XK} (hr : Rm 0 (A.deeper (envOfC "is_fit" (defScope Hd.s_is_fit) s.heap.objs.size (He.ga K "is_fit") cdv))) :
    SB (cxOf (L2.CX P w) P w K mg base N_is_fit "is_fit" (defScope Hd.s_is_fit) (He.ga K "is_fit") cdv A outer s H E) (tbs K) (fun c d _ H2 => E c d H2) (defBody Hd.s_is_fit) (q_is_fit K ) := by
  have nd : N_is_fit.Nodup := sc_is_fit.nd
  have hp := passes_of (X := cxOf (L2.CX P w) P w K mg base N_is_fit "is_fit" (defScope Hd.s_is_fit) (He.ga K "is_fit") cdv A outer s H E) (K := fun e s2 => L2.CX P w outer H s E e s2) (E₁ := fun e s2 => L2.CX P w outer H s E e s2) rfl
  have tk : Takes (cxOf (L2.CX P w) P w K mg base N_is_fit "is_fit" (defScope Hd.s_is_fit) (He.ga K "is_fit") cdv A outer s H E) (fun c d _ H2 => E c d H2) := takes_of rfl rfl rfl rfl
  exact (sb_cons (ss_if (st_cmp (os_eq hr.units) (se_ix is_ix (se_var' (pv 0)) se_int (fun _ _ => rfl)) se_str (nomark _)) (sb_one (ss_ret se_bl)) sb_nil)
  (sb_one (ss_ret (se_if (st_cmp (os_eq hr.units) (se_ix is_ix (se_var' (pv 0)) se_int (fun _ _ => rfl)) se_str (nomark _)) (se_cmp os_gt (se_var' (pv 1)) (se_ix is_ix (se_var' (pv 0)) se_int (fun _ _ => rfl)) (nomark _)) (se_cmp os_lt (se_var' (pv 1)) (se_ix is_ix (se_var' (pv 0)) se_int (fun _ _ => rfl)) (nomark _))))))

theorem isTest_cases {x : A} (h : isTest x = true) : x = .tup [.str "any"] ∨ ∃ s n, x = .tup [.str s, .int n] ∧ (s = "over" ∨ s = "under") ∧ 0 ≤ n ∧ n ≤ 9999 := by
  unfold isTest at h
  split at h
  · rename_i s r
    split at h
    · rename_i hs
      cases r with
      | nil => exact .inl (by rw [hs])
      | cons a l => cases h
    · obtain ⟨h1, h2⟩ := Bool.and_eq_true_iff.mp h
      split at h2
      · rename_i v
        unfold isIn at h2
        split at h2
        · rename_i i
          simp at h1 h2
          exact .inr ⟨s, i, rfl, h1, h2⟩
        · cases h2
      · cases h2
  · cases h
theorem e_is_fit {x : A} {v : Int} {S : Sto} (hi : isTest x = true) : q_is_fit K (startR N_is_fit.length [x, .int v]) S = .ret (.bl (fitT x v)) S := by
  rcases isTest_cases hi with rfl | ⟨s, n, rfl, hs, _⟩
  · simp [q_is_fit, wipeR, gVar, gC, gOp, gUn, gAnd, gOr, gNot, gIf, gNil, gCons, gTup, gLst, gCB, gChain, gSet, gExpr, gRet, gRetN, gPass, gBrk, gCt, gRaise, gIfS, gSeq, nName, nTup, setAll, gAsg, gCall, gTru, gNotT, gIsi, RE.bind_ok, RE.bind_exc, RE.bind_stuck, RE.bindA_ok, RE.bindS_ok, RE.bindS_exc, RE.bindT_ok, RE.bindTS_ok, RA.bind_ok, RA.bindA_ok, RE.nox_ok, RS.seq_nx, RS.seq_ret, RS.seq_exc, RS.seq_brk, RS.seq_ct, RS.seq_stuck, RE.bindA_exc, RE.bindA_stuck, RE.bindS_stuck, RE.bindT_exc, RE.bindT_stuck, RE.bindTS_exc, RE.bindTS_stuck, RA.bind_exc, RA.bind_stuck, RA.bindA_exc, RA.bindA_stuck, RE.nox_stuck, bind_ite, bindA_ite, bindS_ite, bindT_ite, bindTS_ite, nox_ite, seq_ite, startR, tyA_non, tyA_bl, tyA_int, tyA_str, tyA_tup, List.map_cons, List.map_nil, List.length_cons, List.length_nil, List.cons_append, List.nil_append, List.append_nil, List.getElem?_cons_zero, List.getElem?_cons_succ, List.set_cons_zero, List.set_cons_succ, vIx_t0, vIx_t1, vIx_t2, vIx_t3, vIx_t4, vIx_t5, vEq_ss, vEq_ii, vEq_bb, vNe_ss, vNe_ii, vNe_bb, vLen_tup, truA_tup, truA_bl, vLe_ii, vLt_ii, vGt_ii, vGe_ii, vSub_ii, vAdd_ii, vAddI_ii, vNeg_i, isT_ss, isT_tt, isT_ii, isT_bi, isT_bb, isT_ib, fitT]
  · rcases hs with rfl | rfl
    · have e : ¬ ("over" : Str) = "any" := by decide
      simp [q_is_fit, wipeR, gVar, gC, gOp, gUn, gAnd, gOr, gNot, gIf, gNil, gCons, gTup, gLst, gCB, gChain, gSet, gExpr, gRet, gRetN, gPass, gBrk, gCt, gRaise, gIfS, gSeq, nName, nTup, setAll, gAsg, gCall, gTru, gNotT, gIsi, RE.bind_ok, RE.bind_exc, RE.bind_stuck, RE.bindA_ok, RE.bindS_ok, RE.bindS_exc, RE.bindT_ok, RE.bindTS_ok, RA.bind_ok, RA.bindA_ok, RE.nox_ok, RS.seq_nx, RS.seq_ret, RS.seq_exc, RS.seq_brk, RS.seq_ct, RS.seq_stuck, RE.bindA_exc, RE.bindA_stuck, RE.bindS_stuck, RE.bindT_exc, RE.bindT_stuck, RE.bindTS_exc, RE.bindTS_stuck, RA.bind_exc, RA.bind_stuck, RA.bindA_exc, RA.bindA_stuck, RE.nox_stuck, bind_ite, bindA_ite, bindS_ite, bindT_ite, bindTS_ite, nox_ite, seq_ite, startR, tyA_non, tyA_bl, tyA_int, tyA_str, tyA_tup, List.map_cons, List.map_nil, List.length_cons, List.length_nil, List.cons_append, List.nil_append, List.append_nil, List.getElem?_cons_zero, List.getElem?_cons_succ, List.set_cons_zero, List.set_cons_succ, vIx_t0, vIx_t1, vIx_t2, vIx_t3, vIx_t4, vIx_t5, vEq_ss, vEq_ii, vEq_bb, vNe_ss, vNe_ii, vNe_bb, vLen_tup, truA_tup, truA_bl, vLe_ii, vLt_ii, vGt_ii, vGe_ii, vSub_ii, vAdd_ii, vAddI_ii, vNeg_i, isT_ss, isT_tt, isT_ii, isT_bi, isT_bb, isT_ib, fitT, e]
    · have e : ¬ ("under" : Str) = "any" := by decide
      have e2 : ¬ ("under" : Str) = "over" := by decide
      simp [q_is_fit, wipeR, gVar, gC, gOp, gUn, gAnd, gOr, gNot, gIf, gNil, gCons, gTup, gLst, gCB, gChain, gSet, gExpr, gRet, gRetN, gPass, gBrk, gCt, gRaise, gIfS, gSeq, nName, nTup, setAll, gAsg, gCall, gTru, gNotT, gIsi, RE.bind_ok, RE.bind_exc, RE.bind_stuck, RE.bindA_ok, RE.bindS_ok, RE.bindS_exc, RE.bindT_ok, RE.bindTS_ok, RA.bind_ok, RA.bindA_ok, RE.nox_ok, RS.seq_nx, RS.seq_ret, RS.seq_exc, RS.seq_brk, RS.seq_ct, RS.seq_stuck, RE.bindA_exc, RE.bindA_stuck, RE.bindS_stuck, RE.bindT_exc, RE.bindT_stuck, RE.bindTS_exc, RE.bindTS_stuck, RA.bind_exc, RA.bind_stuck, RA.bindA_exc, RA.bindA_stuck, RE.nox_stuck, bind_ite, bindA_ite, bindS_ite, bindT_ite, bindTS_ite, nox_ite, seq_ite, startR, tyA_non, tyA_bl, tyA_int, tyA_str, tyA_tup, List.map_cons, List.map_nil, List.length_cons, List.length_nil, List.cons_append, List.nil_append, List.append_nil, List.getElem?_cons_zero, List.getElem?_cons_succ, List.set_cons_zero, List.set_cons_succ, vIx_t0, vIx_t1, vIx_t2, vIx_t3, vIx_t4, vIx_t5, vEq_ss, vEq_ii, vEq_bb, vNe_ss, vNe_ii, vNe_bb, vLen_tup, truA_tup, truA_bl, vLe_ii, vLt_ii, vGt_ii, vGe_ii, vSub_ii, vAdd_ii, vAddI_ii, vNeg_i, isT_ss, isT_tt, isT_ii, isT_bi, isT_bb, isT_ib, fitT, e, e2]
theorem ok_is_fit (t : TT K mg base) : FnR P w K mg base 1 (He.ga K "is_fit") t.f_is_fit P_is_fit (spF K (tbs K) (F_is_fit K)) := by
  refine fnF t.D_is_fit sc_is_fit (fun l S h => by unfold F_is_fit at h; split at h <;> first | rfl | exact absurd rfl h) (q_is_fit K) (fun cdv A outer s H E hr => sb_is_fit t hr) fun l S b bl h => ?_
  unfold F_is_fit at h ⊢
  split at h
  rotate_left
  · exact absurd rfl h
  rename_i x v
  by_cases hk : isTest x = true
  rotate_left
  · exact absurd (if_neg hk) h
  rw [if_pos hk, e_is_fit hk]
  exact fitP b (.bl _)
end
end Sx.My

set_option Elab.async false
set_option linter.all false
set_option maxRecDepth 100000
set_option maxHeartbeats 4000000
namespace Sx.My
open PySem PySem.Spec PyProof.Rows L2
/-! the laws' own making -/
def F__law_cell (K : Frg) : List A → Sto → RE := fun l S => match l with
  | [.ob n, .int k] => (match (itemsAt S n).bind intsOf with
    | some ns => if 0 ≤ k then .ok (.int (cellOf ns k)) S else .stuck
    | none => .stuck)
  | _ => .stuck
theorem F__law_cell_at {K : Frg} {S : Sto} {n : Nat} {ns : List Int} {k : Int} (h : itemsAt S n = some (ns.map A.int)) (hk : 0 ≤ k) : F__law_cell K [.ob n, .int k] S = .ok (.int (cellOf ns k)) S := by
  unfold F__law_cell
  simp only [h, Option.bind_some, intsOf_map, hk, if_true]
def F__law_seed (K : Frg) : List A → Sto → RE := fun l S => match l with
  | [.int s, .int k] => .ok (.int (seedOf s k)) S
  | _ => .stuck
def F__law_pick (K : Frg) : List A → Sto → RE := fun l S => match l with
  | [.int s, .int m] => if 0 < m then .ok (.int (pickOf s m)) S else .stuck
  | _ => .stuck
theorem pick_at {K : Frg} {s m : Int} {S : Sto} (h : 0 < m) : F__law_pick K [.int s, .int m] S = .ok (.int (pickOf s m)) S := by
  unfold F__law_pick
  exact if_pos h
def F__law_word (K : Frg) : List A → Sto → RE := fun l S => match l with
  | [.int s] => .ok (.str (wordOf s)) S
  | _ => .stuck
def F__law_hearer (n : Nat) (K : Frg) : List A → Sto → RE := fun l S => match l with
  | [.int s, .int deep] => if 1 ≤ deep ∧ deep ≤ (n : Int) then .ok (hrG deep.toNat s) S else .stuck
  | _ => .stuck
theorem law_hearer_at {n d : Nat} {K : Frg} {s : Int} {S : Sto} (h1 : 1 ≤ d) (h2 : d ≤ n) : F__law_hearer n K [.int s, .int (d : Int)] S = .ok (hrG d s) S := by
  unfold F__law_hearer
  dsimp only
  rw [if_pos (by omega)]
  rfl
def F__law_deed (n : Nat) (K : Frg) : List A → Sto → RE := fun l S => match l with
  | [.int s, .int deep] => if 1 ≤ deep ∧ deep ≤ (n : Int) then .ok (deedW deep (hrG (deep - 1).toNat) s) S else .stuck
  | _ => .stuck
section
variable {P : Program} {w : World} {K : Frg} {mg : Str → Option Value} {base : Heap}
-- with _law_cell
abbrev N__law_cell : List Str := ["script", "k"]
abbrev P__law_cell : List Str := ["script", "k"]
theorem sc__law_cell : FnScope N__law_cell P__law_cell (defScope Hd.s__law_cell) := ⟨rfl, rfl, rfl, by decide +kernel, rfl, by decide +kernel, by decide +kernel⟩
theorem b__law_cell {K : Frg} {mg : Str → Option Value} {base : Heap} (t : TT K mg base) : Binds K t.f__law_cell P__law_cell [] := FunD.bindsN t.D__law_cell fun _ _ _ _ _ _ us hl => match us, hl with | [_, _], _ => rfl
def q__law_cell (K : Frg) : GS :=
  gSeq (gIfS (gOp vLt (gVar 1) (gCB vLen (gCons (gVar 0) (gNil)))) (gRet (gOp vIx (gVar 0) (gVar 1))) (gPass))
  (gRet (gC (.int 0)))
theorem sb__law_cell {P : Program} {w : World} {K : Frg} {mg : Str → Option Value} {base : Heap} (t : TT K mg base)  {cdv : Value} {A : Around} {outer : List Env} {s : Shared} {H : Hp} {E : XK} (hr : Rm 0 (A.deeper (envOfC "_law_cell" (defScope Hd.s__law_cell) s.heap.objs.size (He.ga K "_law_cell") cdv))) :
    SB (cxOf (L2.CX P w) P w K mg base N__law_cell "_law_cell" (defScope Hd.s__law_cell) (He.ga K "_law_cell") cdv A outer s H E) (tbs K) (fun c d _ H2 => E c d H2) (defBody Hd.s__law_cell) (q__law_cell K ) := by
  have nd : N__law_cell.Nodup := sc__law_cell.nd
  have hp := passes_of (X := cxOf (L2.CX P w) P w K mg base N__law_cell "_law_cell" (defScope Hd.s__law_cell) (He.ga K "_law_cell") cdv A outer s H E) (K := fun e s2 => L2.CX P w outer H s E e s2) (E₁ := fun e s2 => L2.CX P w outer H s E e s2) rfl
  have tk : Takes (cxOf (L2.CX P w) P w K mg base N__law_cell "_law_cell" (defScope Hd.s__law_cell) (He.ga K "_law_cell") cdv A outer s H E) (fun c d _ H2 => E c d H2) := takes_of rfl rfl rfl rfl
  exact (sb_cons (ss_if (st_cmp os_lt (se_var' (pv 1)) (se_callB cs_len (by rfl) t.n_len (by decide +kernel) (sa_cons (se_var' (pv 0)) sa_nil)) (nomark _)) (sb_one (ss_ret (se_ix is_ix (se_var' (pv 0)) (se_var' (pv 1)) (fun _ _ => rfl)))) sb_nil)
  (sb_one (ss_ret se_int)))

theorem ok__law_cell (t : TT K mg base) : FnR P w K mg base 1 (He.ga K "_law_cell") t.f__law_cell P__law_cell (spF K (tbs K) (F__law_cell K)) := by
  refine fnF t.D__law_cell sc__law_cell (fun l S h => by unfold F__law_cell at h; split at h <;> first | rfl | exact absurd rfl h) (q__law_cell K) (fun cdv A outer s H E hr => sb__law_cell t hr) fun l S b bl h => ?_
  unfold F__law_cell at h ⊢
  split at h
  rotate_left
  · exact absurd rfl h
  rename_i n k
  cases hq : itemsAt S n with
  | none => rw [hq] at h; exact absurd rfl h
  | some xs =>
    rw [hq] at h
    simp only [Option.bind_some] at h ⊢
    cases hi : intsOf xs with
    | none => rw [hi] at h; exact absurd rfl h
    | some ns =>
      rw [hi] at h
      have e2 := intsOf_eq hi
      subst e2
      by_cases hk : 0 ≤ k
      rotate_left
      · exact absurd (if_neg hk) h
      have e : q__law_cell K (startR N__law_cell.length [.ob n, .int k]) S = .ret (.int (cellOf ns k)) S := by
        by_cases hl : k < (ns.length : Int)
        · have ex : k.toNat < ns.length := by omega
          have ek : k = ((k.toNat : Nat) : Int) := by omega
          have ha : L2.atI (ns.map A.int) k = some (.int (cellOf ns k)) := by
            have := L2.atI_nat (xs := ns.map A.int) (j := k.toNat) (v := .int ns[k.toNat]) (by simp [ex])
            rw [← ek] at this
            rw [this]
            simp [cellOf, ex]
          simp [q__law_cell, wipeR, gVar, gC, gOp, gUn, gAnd, gOr, gNot, gIf, gNil, gCons, gTup, gLst, gCB, gChain, gSet, gExpr, gRet, gRetN, gPass, gBrk, gCt, gRaise, gIfS, gSeq, nName, nTup, setAll, gAsg, gCall, gTru, gNotT, gIsi, RE.bind_ok, RE.bind_exc, RE.bind_stuck, RE.bindA_ok, RE.bindS_ok, RE.bindS_exc, RE.bindT_ok, RE.bindTS_ok, RA.bind_ok, RA.bindA_ok, RE.nox_ok, RS.seq_nx, RS.seq_ret, RS.seq_exc, RS.seq_brk, RS.seq_ct, RS.seq_stuck, RE.bindA_exc, RE.bindA_stuck, RE.bindS_stuck, RE.bindT_exc, RE.bindT_stuck, RE.bindTS_exc, RE.bindTS_stuck, RA.bind_exc, RA.bind_stuck, RA.bindA_exc, RA.bindA_stuck, RE.nox_stuck, bind_ite, bindA_ite, bindS_ite, bindT_ite, bindTS_ite, nox_ite, seq_ite, startR, tyA_non, tyA_bl, tyA_int, tyA_str, tyA_tup, List.map_cons, List.map_nil, List.length_cons, List.length_nil, List.cons_append, List.nil_append, List.append_nil, List.getElem?_cons_zero, List.getElem?_cons_succ, List.set_cons_zero, List.set_cons_succ, vIx_t0, vIx_t1, vIx_t2, vIx_t3, vIx_t4, vIx_t5, vEq_ss, vEq_ii, vEq_bb, vNe_ss, vNe_ii, vNe_bb, vLen_tup, truA_tup, truA_bl, vLe_ii, vLt_ii, vGt_ii, vGe_ii, vSub_ii, vAdd_ii, vAddI_ii, vNeg_i, isT_ss, isT_tt, isT_ii, isT_bi, isT_bb, isT_ib, vLen, seqOf, hq, hl, vIx, ha]
        · have ex : ¬ k.toNat < ns.length := by omega
          simp [q__law_cell, wipeR, gVar, gC, gOp, gUn, gAnd, gOr, gNot, gIf, gNil, gCons, gTup, gLst, gCB, gChain, gSet, gExpr, gRet, gRetN, gPass, gBrk, gCt, gRaise, gIfS, gSeq, nName, nTup, setAll, gAsg, gCall, gTru, gNotT, gIsi, RE.bind_ok, RE.bind_exc, RE.bind_stuck, RE.bindA_ok, RE.bindS_ok, RE.bindS_exc, RE.bindT_ok, RE.bindTS_ok, RA.bind_ok, RA.bindA_ok, RE.nox_ok, RS.seq_nx, RS.seq_ret, RS.seq_exc, RS.seq_brk, RS.seq_ct, RS.seq_stuck, RE.bindA_exc, RE.bindA_stuck, RE.bindS_stuck, RE.bindT_exc, RE.bindT_stuck, RE.bindTS_exc, RE.bindTS_stuck, RA.bind_exc, RA.bind_stuck, RA.bindA_exc, RA.bindA_stuck, RE.nox_stuck, bind_ite, bindA_ite, bindS_ite, bindT_ite, bindTS_ite, nox_ite, seq_ite, startR, tyA_non, tyA_bl, tyA_int, tyA_str, tyA_tup, List.map_cons, List.map_nil, List.length_cons, List.length_nil, List.cons_append, List.nil_append, List.append_nil, List.getElem?_cons_zero, List.getElem?_cons_succ, List.set_cons_zero, List.set_cons_succ, vIx_t0, vIx_t1, vIx_t2, vIx_t3, vIx_t4, vIx_t5, vEq_ss, vEq_ii, vEq_bb, vNe_ss, vNe_ii, vNe_bb, vLen_tup, truA_tup, truA_bl, vLe_ii, vLt_ii, vGt_ii, vGe_ii, vSub_ii, vAdd_ii, vAddI_ii, vNeg_i, isT_ss, isT_tt, isT_ii, isT_bi, isT_bb, isT_ib, vLen, seqOf, hq, hl, cellOf, List.getD_eq_getElem?_getD, List.getElem?_eq_none (Nat.le_of_not_lt ex)]
      simp only [hq, Option.bind_some, hi, hk, if_true]
      rw [e]
      exact fitP b (.int _)
end
end Sx.My

set_option Elab.async false
set_option linter.all false
set_option maxRecDepth 100000
set_option maxHeartbeats 4000000
namespace Sx.My
open PySem PySem.Spec PyProof.Rows L2
abbrev hC (K : Frg) : Addr := He.ga K "Hall"
section
variable {P : Program} {w : World} {K : Frg} {mg : Str → Option Value} {base : Heap}
open Classical in
noncomputable def F_Hall_order (K : Frg) : List A → Sto → RE := fun l S => match l with
  | [o, .str t] => (match rdH (hC K) S o with
    | some (n, i, h) => if Wf h ∧ h.people.length ≤ 90000 then .ok (.ob S.length) (S ++ [.lst ((orderH h t).map .int)]) else .stuck
    | none => .stuck)
  | _ => .stuck
def q_Hall_order_0 (K : Frg) : GS :=
  gSet 2 (gLc (gIR1 (gCons (gCB vLen (gCons (gFld (He.ga K "Hall") "people" (gVar 0)) (gNil))) (gNil))) (nName 3) (gAnd (gOp vDnotin (gVar 3) (gFld (He.ga K "Hall") "gone" (gVar 0))) (gOp vEq (gOp vIx (gOp vIx (gFld (He.ga K "Hall") "people" (gVar 0)) (gVar 3)) (gC (.int 1))) (gVar 1))) (gVar 3) [3])
def q_Hall_order_1 (K : Frg) : GS :=
  gRet (gSortK (He.ga K "Hall") "people" 2 0 (gVar 2))
abbrev N_Hall_order : List Str := ["self", "topic", "some", "at"]
abbrev P_Hall_order : List Str := ["self", "topic"]
theorem sc_Hall_order : FnScope N_Hall_order P_Hall_order (defScope Hd.s_Hall_order) := ⟨rfl, rfl, rfl, by decide +kernel, rfl, by decide +kernel, by decide +kernel⟩
theorem b_Hall_order {K : Frg} {mg : Str → Option Value} {base : Heap} (t : TT K mg base) : Binds K t.f_Hall_order P_Hall_order [] := FunD.bindsN t.D_Hall_order fun _ _ _ _ _ _ us hl => match us, hl with | [_, _], _ => rfl
def q_Hall_order (K : Frg) : GS :=
  gSeq (q_Hall_order_0 K ) (q_Hall_order_1 K )
theorem sb_Hall_order {P : Program} {w : World} {K : Frg} {mg : Str → Option Value} {base : Heap} (t : TT K mg base)  {A : Around} {outer : List Env} {s : Shared} {H : Hp} {E : XK} (hr : Rm 2 (A.deeper (envOfC "Hall.order" (defScope Hd.s_Hall_order) s.heap.objs.size (He.ma K (He.ga K "Hall") "order") (.ref (He.codeOf K ("Hall", some "order")))))) :
    SB (cxOf (L2.CX P w) P w K mg base N_Hall_order "Hall.order" (defScope Hd.s_Hall_order) (He.ma K (He.ga K "Hall") "order") (.ref (He.codeOf K ("Hall", some "order"))) A outer s H E) (tbs K) (fun c d _ H2 => E c d H2) (defBody Hd.s_Hall_order) (q_Hall_order K ) := by
  have nd : N_Hall_order.Nodup := sc_Hall_order.nd
  have hp := passes_of (X := cxOf (L2.CX P w) P w K mg base N_Hall_order "Hall.order" (defScope Hd.s_Hall_order) (He.ma K (He.ga K "Hall") "order") (.ref (He.codeOf K ("Hall", some "order"))) A outer s H E) (K := fun e s2 => L2.CX P w outer H s E e s2) (E₁ := fun e s2 => L2.CX P w outer H s E e s2) rfl
  have tk : Takes (cxOf (L2.CX P w) P w K mg base N_Hall_order "Hall.order" (defScope Hd.s_Hall_order) (He.ma K (He.ga K "Hall") "order") (.ref (He.codeOf K ("Hall", some "order"))) A outer s H E) (fun c d _ H2 => E c d H2) := takes_of rfl rfl rfl rfl
  exact (sb_cons (ss_setLc (i := 2) (own := [("at", 3)]) rfl nd rfl rfl (sw_true rfl rfl rfl (by decide +kernel)) (si_range1 t.n_range (sa_cons (se_callB cs_len (by rfl) t.n_len (by decide +kernel) (sa_cons (se_fld t.c_Hall t.a_Hall_people (se_var' (pv 0))) sa_nil)) sa_nil)) (blkOk_by (own := [("at", 3)]) (N := N_Hall_order) (sc := defScope Hd.s_Hall_order) (by decide +kernel)) (tg_name (by decide)) (fun _ _ _ _ _ => (pg_name (i := 3) nd rfl (Or.inl rfl))) (fun _ _ _ _ _ => (sts_one (st_w (sw_and (st_dnotin hr.units (se_var' (pv 3)) (se_fld t.c_Hall t.a_Hall_gone (se_var' (pv 0)))) (sw_and1 (st_cmp (os_eq hr.units) (se_ix is_ix (se_ix is_ix (se_fld t.c_Hall t.a_Hall_people (se_var' (pv 0))) (se_var' (pv 3)) (fun _ _ => rfl)) se_int (fun _ _ => rfl)) (se_var' (pv 1)) (nomark _))))))) (fun _ _ _ _ _ => (se_var' (pv 3))))
  (sb_one (ss_ret (se_sortK (d := 1) t.tb rfl (List.mem_singleton.mpr rfl) (fun p hp _ => by rw [List.mem_singleton.mp hp]; rfl) ⟨rfl, rfl, rfl, by decide +kernel, by decide +kernel, rfl, rfl, rfl⟩ rfl (fun _ _ _ _ _ => rfl) hr t.n_sorted (i := 0) rfl t.c_Hall t.a_Hall_people (se_var' (pv 2))))))

theorem e_order {S E : Sto} {n : Nat} {i : Ids} {h : Ha} {t : Str} (ok : OkI S n i) (w : Wf h) (hl : h.people.length ≤ 90000) : q_Hall_order K (startR N_Hall_order.length [.ob n, .str t]) (wr (hC K) S n i h ++ E) =
    .ret (.ob (S.length + E.length + 1)) (wr (hC K) S n i h ++ (E ++ [.lst ((thereH h fun a => decide (tpA a = t)).map .int), .lst ((orderH h t).map .int)])) := by
  have lc := lc_eq (chk := fun _ => true) (gg := nName 3) (gt := gAnd (gOp vDnotin (gVar 3) (gFld (He.ga K "Hall") "gone" (gVar 0))) (gOp vEq (gOp vIx (gOp vIx (gFld (He.ga K "Hall") "people" (gVar 0)) (gVar 3)) (gC (.int 1))) (gVar 1))) (ge := gVar 3) (ρ0 := [some (.ob n), some (.str t), none, none]) (S0 := wr (hC K) S n i h ++ E) (intP fun x => !goneB h x && decide (tpA (pAt h x) = t)) id (fun _ => rfl) (rngA 0 h.people.length) [] (fun a ha => by
      obtain ⟨k, hk, rfl⟩ := List.mem_map.mp ha
      simp only [List.mem_range] at hk
      have k0 : (0 : Int) ≤ 0 + (k : Int) := by omega
      have k1 : 0 + (k : Int) < (h.people.length : Int) := by omega
      refine ⟨[some (.ob n), some (.str t), none, some (.int (0 + (k : Int)))], fun _ => rfl, fun l => ⟨?_, fun _ => rfl⟩⟩
      obtain ⟨o, tp, r, hw, ts, ds, e, _⟩ := hr3_parts (pAt_hr w k0 k1)
      have et : tpA (pAt h (0 + (k : Int))) = tp := by rw [e]; rfl
      simp only [List.append_assoc]
      cases hg : goneB h (0 + (k : Int)) with
      | true => simp only [wipeR, gVar, gC, gOp, gUn, gAnd, gOr, gNot, gIf, gNil, gCons, gTup, gLst, gCB, gChain, gSet, gExpr, gRet, gRetN, gPass, gBrk, gCt, gRaise, gIfS, gSeq, nName, nTup, setAll, gAsg, gCall, gTru, gNotT, gIsi, RE.bind_ok, RE.bind_exc, RE.bind_stuck, RE.bindA_ok, RE.bindS_ok, RE.bindS_exc, RE.bindT_ok, RE.bindTS_ok, RA.bind_ok, RA.bindA_ok, RE.nox_ok, RS.seq_nx, RS.seq_ret, RS.seq_exc, RS.seq_brk, RS.seq_ct, RS.seq_stuck, RE.bindA_exc, RE.bindA_stuck, RE.bindS_stuck, RE.bindT_exc, RE.bindT_stuck, RE.bindTS_exc, RE.bindTS_stuck, RA.bind_exc, RA.bind_stuck, RA.bindA_exc, RA.bindA_stuck, RE.nox_stuck, bind_ite, bindA_ite, bindS_ite, bindT_ite, bindTS_ite, nox_ite, seq_ite, startR, tyA_non, tyA_bl, tyA_int, tyA_str, tyA_tup, List.map_cons, List.map_nil, List.length_cons, List.length_nil, List.cons_append, List.nil_append, List.append_nil, List.getElem?_cons_zero, List.getElem?_cons_succ, List.set_cons_zero, List.set_cons_succ, vIx_t0, vIx_t1, vIx_t2, vIx_t3, vIx_t4, vIx_t5, vEq_ss, vEq_ii, vEq_bb, vNe_ss, vNe_ii, vNe_bb, vLen_tup, truA_tup, truA_bl, vLe_ii, vLt_ii, vGt_ii, vGe_ii, vSub_ii, vAdd_ii, vAddI_ii, vNeg_i, isT_ss, isT_tt, isT_ii, isT_bi, isT_bb, isT_ib, gFld, ins_wr ok, lk_gone, notin_go ok, hg, intP, Bool.not_true, Bool.false_and, Bool.false_eq_true, ↓reduceIte]
      | false => simp only [wipeR, gVar, gC, gOp, gUn, gAnd, gOr, gNot, gIf, gNil, gCons, gTup, gLst, gCB, gChain, gSet, gExpr, gRet, gRetN, gPass, gBrk, gCt, gRaise, gIfS, gSeq, nName, nTup, setAll, gAsg, gCall, gTru, gNotT, gIsi, RE.bind_ok, RE.bind_exc, RE.bind_stuck, RE.bindA_ok, RE.bindS_ok, RE.bindS_exc, RE.bindT_ok, RE.bindTS_ok, RA.bind_ok, RA.bindA_ok, RE.nox_ok, RS.seq_nx, RS.seq_ret, RS.seq_exc, RS.seq_brk, RS.seq_ct, RS.seq_stuck, RE.bindA_exc, RE.bindA_stuck, RE.bindS_stuck, RE.bindT_exc, RE.bindT_stuck, RE.bindTS_exc, RE.bindTS_stuck, RA.bind_exc, RA.bind_stuck, RA.bindA_exc, RA.bindA_stuck, RE.nox_stuck, bind_ite, bindA_ite, bindS_ite, bindT_ite, bindTS_ite, nox_ite, seq_ite, startR, tyA_non, tyA_bl, tyA_int, tyA_str, tyA_tup, List.map_cons, List.map_nil, List.length_cons, List.length_nil, List.cons_append, List.nil_append, List.append_nil, List.getElem?_cons_zero, List.getElem?_cons_succ, List.set_cons_zero, List.set_cons_succ, vIx_t0, vIx_t1, vIx_t2, vIx_t3, vIx_t4, vIx_t5, vEq_ss, vEq_ii, vEq_bb, vNe_ss, vNe_ii, vNe_bb, vLen_tup, truA_tup, truA_bl, vLe_ii, vLt_ii, vGt_ii, vGe_ii, vSub_ii, vAdd_ii, vAddI_ii, vNeg_i, isT_ss, isT_tt, isT_ii, isT_bi, isT_bb, isT_ib, gFld, ins_wr ok, lk_gone, lk_people, notin_go ok, hg, intP, Bool.not_false, Bool.true_and, ↓reduceIte, ix_pe ok k0 k1, e, et, tpA]) (by simp [rngA]; omega)
  rw [List.nil_append, List.map_id, filter_rng (fun x => !goneB h x && decide (tpA (pAt h x) = t))] at lc
  have b3 : (h.people.length : Int) < 1000000 ∧ (-1000000 : Int) < (h.people.length : Int) := by omega
  have st : startR N_Hall_order.length [.ob n, .str t] = [some (.ob n), some (.str t), none, none] := rfl
  rw [st]
  simp only [List.append_assoc, List.length_append, wr_length] at lc
  have s0 : q_Hall_order_0 K [some (.ob n), some (.str t), none, none] (wr (hC K) S n i h ++ E) = .nx [some (.ob n), some (.str t), some (.ob (S.length + E.length)), none] (wr (hC K) S n i h ++ (E ++ [.lst ((thereH h fun a => decide (tpA a = t)).map .int)])) := by
    simp only [q_Hall_order_0, gSet, gLc, gIR1, gCB, gCons, gNil, gFld, gVar, List.getElem?_cons_zero, RE.bind_ok, ins_wr ok, lk_people, RA.bind_ok, RE.bindA_ok, RA.bindA_ok, len_pe ok, RE.nox_ok, b3, and_self, ↓reduceIte, Int.toNat_natCast, wipeR, List.length_append, wr_length, List.append_assoc]
    simp only [List.set_cons_succ, List.set_cons_zero, lc, RE.bindS_ok]
    rfl
  refine seq_step s0 ?_
  have hall : ((thereH h fun a => decide (tpA a = t)).all fun x => decide (0 ≤ x) && (rkAt h.people 2 x).isSome) = true := by
    refine List.all_eq_true.mpr fun x hx => ?_
    obtain ⟨⟨x0, x1⟩, _⟩ := there_mem.mp hx
    rw [rk_some w x0 x1]
    simp [x0]
  have hlen : (thereH h fun a => decide (tpA a = t)).length ≤ 4000000 := by
    unfold thereH
    refine Nat.le_trans (List.length_filter_le _ _) ?_
    simp [rngI]
    omega
  have hit : itemsAt (wr (hC K) S n i h ++ (E ++ [.lst ((thereH h fun a => decide (tpA a = t)).map .int)])) (S.length + E.length) = some ((thereH h fun a => decide (tpA a = t)).map .int) := by
    have e1 : S.length + E.length = (wr (hC K) S n i h ++ E).length := by rw [List.length_append, wr_length]
    rw [← List.append_assoc, e1]
    exact items_new _ _
  simp only [q_Hall_order_1, gRet, gSortK, gVar, List.getElem?_cons_zero, List.getElem?_cons_succ, RE.bind_ok, hit, Option.bind_some, intsOf_map, ins_wr ok, lk_people, it_pe ok, hall, hlen, and_self, ↓reduceIte, RE.bindS_ok, List.length_append, wr_length, List.length_cons, List.length_nil, Nat.zero_add, List.append_assoc, List.cons_append, List.nil_append]
  rfl
theorem F_order_at {S E : Sto} {n : Nat} {i : Ids} {h : Ha} {t : Str} (ok : OkI S n i) (w : Wf h) (hl : h.people.length ≤ 90000) : F_Hall_order K [.ob n, .str t] (wr (hC K) S n i h ++ E) = .ok (.ob (S.length + E.length)) (wr (hC K) S n i h ++ (E ++ [.lst ((orderH h t).map .int)])) := by
  unfold F_Hall_order
  simp only [rd_wr ok]
  rw [if_pos ⟨w, hl⟩, List.length_append, wr_length, List.append_assoc]
theorem ok_Hall_order (t : TT K mg base) : FnR P w K mg base 3 (He.ma K (He.ga K "Hall") "order") t.f_Hall_order P_Hall_order (spF K (tbs K) (F_Hall_order K)) := by
  refine fnFC (p := ("Hall", some "order")) t.D_Hall_order rfl sc_Hall_order (fun l S h => by unfold F_Hall_order at h; split at h <;> first | rfl | exact absurd rfl h) (q_Hall_order K) (fun A outer s H E hr => sb_Hall_order t hr) fun l S b bl h => ?_
  unfold F_Hall_order at h ⊢
  split at h
  rotate_left
  · exact absurd rfl h
  rename_i o tp
  cases hq : rdH (hC K) S o with
  | none => rw [hq] at h; exact absurd rfl h
  | some z =>
    obtain ⟨n, i, ha⟩ := z
    rw [hq] at h
    dsimp only at h ⊢
    by_cases hk : Wf ha ∧ ha.people.length ≤ 90000
    rotate_left
    · exact absurd (if_neg hk) h
    rw [if_pos hk]
    obtain ⟨rfl, ok, e⟩ := rd_some hq
    have e2 := e_order (K := K) (S := S) (E := []) (t := tp) ok hk.1 hk.2
    rw [List.append_nil, e] at e2
    rw [e2]
    refine Fit.retL (by simp) ?_ (fun x hx => ?_) b (Nat.le_refl _)
    · simp only [List.nil_append, List.length_nil, Nat.add_zero]
      rw [get_off 1]
      rfl
    · obtain ⟨k, _, rfl⟩ := List.mem_map.mp hx
      exact .int k
open Classical in
noncomputable def F_Hall_begin (K : Frg) : List A → Sto → RE := fun l S => match l with
  | [o] => (match rdH (hC K) S o with
    | some (n, i, h) => if Wf h then .ok .non (wr (hC K) S n i { h with room := 100, cut := false }) else .stuck
    | none => .stuck)
  | _ => .stuck
def q_Hall_begin_0 (K : Frg) : GS :=
  gSetFld (He.ga K "Hall") "room" (gVar 0) (gC (.int 100))
def q_Hall_begin_1 (K : Frg) : GS :=
  gSetFld (He.ga K "Hall") "cut" (gVar 0) (gC (.bl false))
abbrev N_Hall_begin : List Str := ["self"]
abbrev P_Hall_begin : List Str := ["self"]
theorem sc_Hall_begin : FnScope N_Hall_begin P_Hall_begin (defScope Hd.s_Hall_begin) := ⟨rfl, rfl, rfl, by decide +kernel, rfl, by decide +kernel, by decide +kernel⟩
theorem b_Hall_begin {K : Frg} {mg : Str → Option Value} {base : Heap} (t : TT K mg base) : Binds K t.f_Hall_begin P_Hall_begin [] := FunD.bindsN t.D_Hall_begin fun _ _ _ _ _ _ us hl => match us, hl with | [_], _ => rfl
def q_Hall_begin (K : Frg) : GS :=
  gSeq (q_Hall_begin_0 K ) (q_Hall_begin_1 K )
theorem sb_Hall_begin {P : Program} {w : World} {K : Frg} {mg : Str → Option Value} {base : Heap} (t : TT K mg base)  {cdv : Value} {A : Around} {outer : List Env} {s : Shared} {H : Hp} {E : XK} (hr : Rm 0 (A.deeper (envOfC "Hall.begin" (defScope Hd.s_Hall_begin) s.heap.objs.size (He.ma K (He.ga K "Hall") "begin") cdv))) :
    SB (cxOf (L2.CX P w) P w K mg base N_Hall_begin "Hall.begin" (defScope Hd.s_Hall_begin) (He.ma K (He.ga K "Hall") "begin") cdv A outer s H E) (tbs K) (fun c d _ H2 => E c d H2) (defBody Hd.s_Hall_begin) (q_Hall_begin K ) := by
  have nd : N_Hall_begin.Nodup := sc_Hall_begin.nd
  have hp := passes_of (X := cxOf (L2.CX P w) P w K mg base N_Hall_begin "Hall.begin" (defScope Hd.s_Hall_begin) (He.ma K (He.ga K "Hall") "begin") cdv A outer s H E) (K := fun e s2 => L2.CX P w outer H s E e s2) (E₁ := fun e s2 => L2.CX P w outer H s E e s2) rfl
  have tk : Takes (cxOf (L2.CX P w) P w K mg base N_Hall_begin "Hall.begin" (defScope Hd.s_Hall_begin) (He.ma K (He.ga K "Hall") "begin") cdv A outer s H E) (fun c d _ H2 => E c d H2) := takes_of rfl rfl rfl rfl
  exact (sb_cons (ss_fld t.c_Hall t.a_Hall_room (se_var' (pv 0)) (se_c' (pe_glob (v := .int 100) rfl t.m_MOST_HEARD.choose_spec ⟨_, rfl⟩) (fun _ _ => .int _)))
  (sb_one (ss_fld t.c_Hall t.a_Hall_cut (se_var' (pv 0)) se_bl)))

theorem F_begin_at {S E : Sto} {n : Nat} {i : Ids} {h : Ha} (ok : OkI S n i) (w : Wf h) : F_Hall_begin K [.ob n] (wr (hC K) S n i h ++ E) = .ok .non (wr (hC K) S n i { h with room := 100, cut := false } ++ E) := by
  unfold F_Hall_begin
  simp only [rd_wr ok]
  rw [if_pos w, wr_wr ok]
theorem wf_begin {h : Ha} (w : Wf h) : Wf { h with room := 100, cut := false } := ⟨w.kept, w.lasts, w.lnd, w.people, w.gone, w.gnd, w.rows, w.now, (by decide : (0 : Int) ≤ 100 ∧ (100 : Int) ≤ 100)⟩
theorem e_begin {S E : Sto} {n : Nat} {i : Ids} {ha : Ha} (ok : OkI S n i) : q_Hall_begin K (startR N_Hall_begin.length [.ob n]) (wr (hC K) S n i ha ++ E) = .nx [some (.ob n)] (wr (hC K) S n i { ha with room := 100, cut := false } ++ E) := by
  have f8 : ∀ h : Ha, (flds i h).length < 1000 := fun h => by rw [flds_len]; decide
  simp only [q_Hall_begin, q_Hall_begin_0, q_Hall_begin_1, wipeR, gVar, gC, gOp, gUn, gAnd, gOr, gNot, gIf, gNil, gCons, gTup, gLst, gCB, gChain, gSet, gExpr, gRet, gRetN, gPass, gBrk, gCt, gRaise, gIfS, gSeq, nName, nTup, setAll, gAsg, gCall, gTru, gNotT, gIsi, RE.bind_ok, RE.bind_exc, RE.bind_stuck, RE.bindA_ok, RE.bindS_ok, RE.bindS_exc, RE.bindT_ok, RE.bindTS_ok, RA.bind_ok, RA.bindA_ok, RE.nox_ok, RS.seq_nx, RS.seq_ret, RS.seq_exc, RS.seq_brk, RS.seq_ct, RS.seq_stuck, RE.bindA_exc, RE.bindA_stuck, RE.bindS_stuck, RE.bindT_exc, RE.bindT_stuck, RE.bindTS_exc, RE.bindTS_stuck, RA.bind_exc, RA.bind_stuck, RA.bindA_exc, RA.bindA_stuck, RE.nox_stuck, bind_ite, bindA_ite, bindS_ite, bindT_ite, bindTS_ite, nox_ite, seq_ite, startR, tyA_non, tyA_bl, tyA_int, tyA_str, tyA_tup, List.map_cons, List.map_nil, List.length_cons, List.length_nil, List.cons_append, List.nil_append, List.append_nil, List.getElem?_cons_zero, List.getElem?_cons_succ, List.set_cons_zero, List.set_cons_succ, vIx_t0, vIx_t1, vIx_t2, vIx_t3, vIx_t4, vIx_t5, vEq_ss, vEq_ii, vEq_bb, vNe_ss, vNe_ii, vNe_bb, vLen_tup, truA_tup, truA_bl, vLe_ii, vLt_ii, vGt_ii, vGe_ii, vSub_ii, vAdd_ii, vAddI_ii, vNeg_i, isT_ss, isT_tt, isT_ii, isT_bi, isT_bb, isT_ib, gSetFld, ins_wr ok, f8, ↓reduceIte, put_room, set_room ok, put_cut, set_cut ok, List.replicate, Nat.reduceAdd, Nat.reduceSub]
theorem ok_Hall_begin (t : TT K mg base) : FnR P w K mg base 1 (He.ma K (He.ga K "Hall") "begin") t.f_Hall_begin P_Hall_begin (spF K (tbs K) (F_Hall_begin K)) := by
  refine fnF t.D_Hall_begin sc_Hall_begin (fun l S h => by unfold F_Hall_begin at h; split at h <;> first | rfl | exact absurd rfl h) (q_Hall_begin K) (fun cdv A outer s H E hr => sb_Hall_begin t hr) fun l S b bl h => ?_
  unfold F_Hall_begin at h ⊢
  split at h
  rotate_left
  · exact absurd rfl h
  rename_i o
  cases hq : rdH (hC K) S o with
  | none => rw [hq] at h; exact absurd rfl h
  | some z =>
    obtain ⟨n, i, ha⟩ := z
    rw [hq] at h
    dsimp only at h ⊢
    by_cases hk : Wf ha
    rotate_left
    · exact absurd (if_neg hk) h
    rw [if_pos hk]
    obtain ⟨rfl, ok, e⟩ := rd_some hq
    have e2 := e_begin (K := K) (S := S) (E := []) (ha := ha) ok
    rw [List.append_nil, e] at e2
    rw [e2]
    exact fitHN b ok (wf_begin hk)
open Classical in
noncomputable def F_Hall_drop_all (K : Frg) : List A → Sto → RE := fun l S => match l with
  | [o, .str ow] => (match rdH (hC K) S o with
    | some (n, i, h) => if Wf h ∧ h.people.length ≤ 90000 then .ok (.int (dropL h ow).length) (wr (hC K) S n i (dropW h ow)) else .stuck
    | none => .stuck)
  | _ => .stuck
def q_Hall_drop_all_0 (K : Frg) : GS :=
  gSet 2 (gLc (gIR1 (gCons (gCB vLen (gCons (gFld (He.ga K "Hall") "people" (gVar 0)) (gNil))) (gNil))) (nName 4) (gAnd (gOp vDnotin (gVar 4) (gFld (He.ga K "Hall") "gone" (gVar 0))) (gOp vEq (gOp vIx (gOp vIx (gFld (He.ga K "Hall") "people" (gVar 0)) (gVar 4)) (gC (.int 0))) (gVar 1))) (gVar 4) [4])
def q_Hall_drop_all_1 (K : Frg) : GS :=
  gFor (gIL (gVar 2)) (nName 3)
  (gDput (gFld (He.ga K "Hall") "gone" (gVar 0)) (gVar 3) (gC (.bl true)))
def q_Hall_drop_all_2 (K : Frg) : GS :=
  gRet (gCB vLen (gCons (gVar 2) (gNil)))
abbrev N_Hall_drop_all : List Str := ["self", "owner", "some", "number", "at"]
abbrev P_Hall_drop_all : List Str := ["self", "owner"]
theorem sc_Hall_drop_all : FnScope N_Hall_drop_all P_Hall_drop_all (defScope Hd.s_Hall_drop_all) := ⟨rfl, rfl, rfl, by decide +kernel, rfl, by decide +kernel, by decide +kernel⟩
theorem b_Hall_drop_all {K : Frg} {mg : Str → Option Value} {base : Heap} (t : TT K mg base) : Binds K t.f_Hall_drop_all P_Hall_drop_all [] := FunD.bindsN t.D_Hall_drop_all fun _ _ _ _ _ _ us hl => match us, hl with | [_, _], _ => rfl
def q_Hall_drop_all (K : Frg) : GS :=
  gSeq (q_Hall_drop_all_0 K ) (gSeq (q_Hall_drop_all_1 K ) (q_Hall_drop_all_2 K ))
theorem sb_Hall_drop_all {P : Program} {w : World} {K : Frg} {mg : Str → Option Value} {base : Heap} (t : TT K mg base)  {cdv : Value} {A : Around} {outer : List Env} {s : Shared} {H : Hp} {E : XK} (hr : Rm 0 (A.deeper (envOfC "Hall.drop_all" (defScope Hd.s_Hall_drop_all) s.heap.objs.size (He.ma K (He.ga K "Hall") "drop_all") cdv))) :
    SB (cxOf (L2.CX P w) P w K mg base N_Hall_drop_all "Hall.drop_all" (defScope Hd.s_Hall_drop_all) (He.ma K (He.ga K "Hall") "drop_all") cdv A outer s H E) (tbs K) (fun c d _ H2 => E c d H2) (defBody Hd.s_Hall_drop_all) (q_Hall_drop_all K ) := by
  have nd : N_Hall_drop_all.Nodup := sc_Hall_drop_all.nd
  have hp := passes_of (X := cxOf (L2.CX P w) P w K mg base N_Hall_drop_all "Hall.drop_all" (defScope Hd.s_Hall_drop_all) (He.ma K (He.ga K "Hall") "drop_all") cdv A outer s H E) (K := fun e s2 => L2.CX P w outer H s E e s2) (E₁ := fun e s2 => L2.CX P w outer H s E e s2) rfl
  have tk : Takes (cxOf (L2.CX P w) P w K mg base N_Hall_drop_all "Hall.drop_all" (defScope Hd.s_Hall_drop_all) (He.ma K (He.ga K "Hall") "drop_all") cdv A outer s H E) (fun c d _ H2 => E c d H2) := takes_of rfl rfl rfl rfl
  exact (sb_cons (ss_setLc (i := 2) (own := [("at", 4)]) rfl nd rfl rfl (sw_true rfl rfl rfl (by decide +kernel)) (si_range1 t.n_range (sa_cons (se_callB cs_len (by rfl) t.n_len (by decide +kernel) (sa_cons (se_fld t.c_Hall t.a_Hall_people (se_var' (pv 0))) sa_nil)) sa_nil)) (blkOk_by (own := [("at", 4)]) (N := N_Hall_drop_all) (sc := defScope Hd.s_Hall_drop_all) (by decide +kernel)) (tg_name (by decide)) (fun _ _ _ _ _ => (pg_name (i := 4) nd rfl (Or.inl rfl))) (fun _ _ _ _ _ => (sts_one (st_w (sw_and (st_dnotin hr.units (se_var' (pv 4)) (se_fld t.c_Hall t.a_Hall_gone (se_var' (pv 0)))) (sw_and1 (st_cmp (os_eq hr.units) (se_ix is_ix (se_ix is_ix (se_fld t.c_Hall t.a_Hall_people (se_var' (pv 0))) (se_var' (pv 4)) (fun _ _ => rfl)) se_int (fun _ _ => rfl)) (se_var' (pv 1)) (nomark _))))))) (fun _ _ _ _ _ => (se_var' (pv 4))))
  (sb_cons (ss_for hp rfl (si_list (se_var' (pv 2))) (sg_name (i := 3) nd rfl (Or.inl rfl))
  (sb_one (ss_dput hr.units (se_fld t.c_Hall t.a_Hall_gone (se_var' (pv 0))) (se_var' (pv 3)) se_bl)))
  (sb_one (ss_ret (se_callB cs_len (by rfl) t.n_len (by decide +kernel) (sa_cons (se_var' (pv 2)) sa_nil))))))

theorem e_drop_loop {S E : Sto} {n d : Nat} {i : Ids} {y : Option A} {ow : A} {xs : List A} (ok : OkI S n i) (hd : ∀ h', itemsAt (wr (hC K) S n i h' ++ E) d = some xs) : ∀ (l : List Int) (h : Ha) (z : Option A), Wf h → h.people.length ≤ 90000 → (∀ x ∈ l, 0 ≤ x ∧ x < (h.people.length : Int)) →
    ∃ z', forGo (okAt d xs) (nName 3) (gDput (gFld (He.ga K "Hall") "gone" (gVar 0)) (gVar 3) (gC (.bl true))) (l.map .int) [some (.ob n), some ow, some (.ob d), z, y] (wr (hC K) S n i h ++ E) = .nx [some (.ob n), some ow, some (.ob d), z', y] (wr (hC K) S n i (goL l h) ++ E)
  | [], h, z, w, hp, hl => ⟨z, by
    have hk : okAt d xs (wr (hC K) S n i h ++ E) = true := okAt_iff.mpr (hd h)
    simp only [List.map_nil, forGo, hk, ↓reduceIte, goL]⟩
  | x :: l, h, z, w, hp, hl => by
    have hk : okAt d xs (wr (hC K) S n i h ++ E) = true := okAt_iff.mpr (hd h)
    have hx := hl x (by simp)
    have hg : h.gone.length < 4000000 := by have := gone_len w; omega
    obtain ⟨z', ih⟩ := e_drop_loop ok hd l (h.go x) (some (.int x)) (wf_go w hx.1 hx.2) hp (fun y hy => hl y (by simp [hy]))
    refine ⟨z', ?_⟩
    simp only [List.map_cons, forGo, hk, ↓reduceIte, nName, List.set_cons_succ, List.set_cons_zero, gDput, gC, gFld, gVar, List.getElem?_cons_zero, List.getElem?_cons_succ, RE.bindS_ok, RE.bind_ok, ins_wr ok, lk_gone, put_go ok x hg]
    exact ih
theorem e_drop {S E : Sto} {n : Nat} {i : Ids} {h : Ha} {ow : Str} (ok : OkI S n i) (w : Wf h) (hl : h.people.length ≤ 90000) : q_Hall_drop_all K (startR N_Hall_drop_all.length [.ob n, .str ow]) (wr (hC K) S n i h ++ E) =
    .ret (.int (dropL h ow).length) (wr (hC K) S n i (dropW h ow) ++ (E ++ [.lst ((dropL h ow).map .int)])) := by
  have lc := lc_eq (chk := fun _ => true) (gg := nName 4) (gt := gAnd (gOp vDnotin (gVar 4) (gFld (He.ga K "Hall") "gone" (gVar 0))) (gOp vEq (gOp vIx (gOp vIx (gFld (He.ga K "Hall") "people" (gVar 0)) (gVar 4)) (gC (.int 0))) (gVar 1))) (ge := gVar 4) (ρ0 := [some (.ob n), some (.str ow), none, none, none]) (S0 := wr (hC K) S n i h ++ E) (intP fun x => !goneB h x && decide (owA (pAt h x) = ow)) id (fun _ => rfl) (rngA 0 h.people.length) [] (fun a ha => by
      obtain ⟨k, hk, rfl⟩ := List.mem_map.mp ha
      simp only [List.mem_range] at hk
      have k0 : (0 : Int) ≤ 0 + (k : Int) := by omega
      have k1 : 0 + (k : Int) < (h.people.length : Int) := by omega
      refine ⟨[some (.ob n), some (.str ow), none, none, some (.int (0 + (k : Int)))], fun _ => rfl, fun l => ⟨?_, fun _ => rfl⟩⟩
      obtain ⟨o, tp, r, hw, ts, ds, e, _⟩ := hr3_parts (pAt_hr w k0 k1)
      have et : owA (pAt h (0 + (k : Int))) = o := by rw [e]; rfl
      simp only [List.append_assoc]
      cases hg : goneB h (0 + (k : Int)) with
      | true => simp only [wipeR, gVar, gC, gOp, gUn, gAnd, gOr, gNot, gIf, gNil, gCons, gTup, gLst, gCB, gChain, gSet, gExpr, gRet, gRetN, gPass, gBrk, gCt, gRaise, gIfS, gSeq, nName, nTup, setAll, gAsg, gCall, gTru, gNotT, gIsi, RE.bind_ok, RE.bind_exc, RE.bind_stuck, RE.bindA_ok, RE.bindS_ok, RE.bindS_exc, RE.bindT_ok, RE.bindTS_ok, RA.bind_ok, RA.bindA_ok, RE.nox_ok, RS.seq_nx, RS.seq_ret, RS.seq_exc, RS.seq_brk, RS.seq_ct, RS.seq_stuck, RE.bindA_exc, RE.bindA_stuck, RE.bindS_stuck, RE.bindT_exc, RE.bindT_stuck, RE.bindTS_exc, RE.bindTS_stuck, RA.bind_exc, RA.bind_stuck, RA.bindA_exc, RA.bindA_stuck, RE.nox_stuck, bind_ite, bindA_ite, bindS_ite, bindT_ite, bindTS_ite, nox_ite, seq_ite, startR, tyA_non, tyA_bl, tyA_int, tyA_str, tyA_tup, List.map_cons, List.map_nil, List.length_cons, List.length_nil, List.cons_append, List.nil_append, List.append_nil, List.getElem?_cons_zero, List.getElem?_cons_succ, List.set_cons_zero, List.set_cons_succ, vIx_t0, vIx_t1, vIx_t2, vIx_t3, vIx_t4, vIx_t5, vEq_ss, vEq_ii, vEq_bb, vNe_ss, vNe_ii, vNe_bb, vLen_tup, truA_tup, truA_bl, vLe_ii, vLt_ii, vGt_ii, vGe_ii, vSub_ii, vAdd_ii, vAddI_ii, vNeg_i, isT_ss, isT_tt, isT_ii, isT_bi, isT_bb, isT_ib, gFld, ins_wr ok, lk_gone, notin_go ok, hg, intP, Bool.not_true, Bool.false_and, Bool.false_eq_true, ↓reduceIte]
      | false => simp only [wipeR, gVar, gC, gOp, gUn, gAnd, gOr, gNot, gIf, gNil, gCons, gTup, gLst, gCB, gChain, gSet, gExpr, gRet, gRetN, gPass, gBrk, gCt, gRaise, gIfS, gSeq, nName, nTup, setAll, gAsg, gCall, gTru, gNotT, gIsi, RE.bind_ok, RE.bind_exc, RE.bind_stuck, RE.bindA_ok, RE.bindS_ok, RE.bindS_exc, RE.bindT_ok, RE.bindTS_ok, RA.bind_ok, RA.bindA_ok, RE.nox_ok, RS.seq_nx, RS.seq_ret, RS.seq_exc, RS.seq_brk, RS.seq_ct, RS.seq_stuck, RE.bindA_exc, RE.bindA_stuck, RE.bindS_stuck, RE.bindT_exc, RE.bindT_stuck, RE.bindTS_exc, RE.bindTS_stuck, RA.bind_exc, RA.bind_stuck, RA.bindA_exc, RA.bindA_stuck, RE.nox_stuck, bind_ite, bindA_ite, bindS_ite, bindT_ite, bindTS_ite, nox_ite, seq_ite, startR, tyA_non, tyA_bl, tyA_int, tyA_str, tyA_tup, List.map_cons, List.map_nil, List.length_cons, List.length_nil, List.cons_append, List.nil_append, List.append_nil, List.getElem?_cons_zero, List.getElem?_cons_succ, List.set_cons_zero, List.set_cons_succ, vIx_t0, vIx_t1, vIx_t2, vIx_t3, vIx_t4, vIx_t5, vEq_ss, vEq_ii, vEq_bb, vNe_ss, vNe_ii, vNe_bb, vLen_tup, truA_tup, truA_bl, vLe_ii, vLt_ii, vGt_ii, vGe_ii, vSub_ii, vAdd_ii, vAddI_ii, vNeg_i, isT_ss, isT_tt, isT_ii, isT_bi, isT_bb, isT_ib, gFld, ins_wr ok, lk_gone, lk_people, notin_go ok, hg, intP, Bool.not_false, Bool.true_and, ↓reduceIte, ix_pe ok k0 k1, e, et, owA]) (by simp [rngA]; omega)
  rw [List.nil_append, List.map_id, filter_rng (fun x => !goneB h x && decide (owA (pAt h x) = ow))] at lc
  have b3 : (h.people.length : Int) < 1000000 ∧ (-1000000 : Int) < (h.people.length : Int) := by omega
  have st : startR N_Hall_drop_all.length [.ob n, .str ow] = [some (.ob n), some (.str ow), none, none, none] := rfl
  rw [st]
  simp only [List.append_assoc, List.length_append, wr_length] at lc
  have s0 : q_Hall_drop_all_0 K [some (.ob n), some (.str ow), none, none, none] (wr (hC K) S n i h ++ E) = .nx [some (.ob n), some (.str ow), some (.ob (S.length + E.length)), none, none] (wr (hC K) S n i h ++ (E ++ [.lst ((dropL h ow).map .int)])) := by
    simp only [q_Hall_drop_all_0, gSet, gLc, gIR1, gCB, gCons, gNil, gFld, gVar, List.getElem?_cons_zero, RE.bind_ok, ins_wr ok, lk_people, RA.bind_ok, RE.bindA_ok, RA.bindA_ok, len_pe ok, RE.nox_ok, b3, and_self, ↓reduceIte, Int.toNat_natCast, wipeR, List.length_append, wr_length, List.append_assoc]
    simp only [List.set_cons_succ, List.set_cons_zero, lc, RE.bindS_ok]
    rfl
  have hd : ∀ h' : Ha, itemsAt (wr (hC K) S n i h' ++ (E ++ [.lst ((dropL h ow).map .int)])) (S.length + E.length) = some ((dropL h ow).map .int) := fun h' => by
    have e1 : S.length + E.length = (wr (hC K) S n i h' ++ E).length := by rw [List.length_append, wr_length]
    rw [← List.append_assoc, e1]
    exact items_new _ _
  obtain ⟨z', s1⟩ := e_drop_loop (K := K) (E := E ++ [.lst ((dropL h ow).map .int)]) (y := none) (ow := .str ow) ok hd (dropL h ow) h none w hl (fun x hx => (there_mem.mp hx).1)
  have s1' : q_Hall_drop_all_1 K [some (.ob n), some (.str ow), some (.ob (S.length + E.length)), none, none] (wr (hC K) S n i h ++ (E ++ [.lst ((dropL h ow).map .int)])) = .nx [some (.ob n), some (.str ow), some (.ob (S.length + E.length)), z', none] (wr (hC K) S n i (dropW h ow) ++ (E ++ [.lst ((dropL h ow).map .int)])) := by
    simp only [q_Hall_drop_all_1, gFor, gIL, gVar, List.getElem?_cons_zero, List.getElem?_cons_succ, hd]
    exact s1
  refine seq_step s0 (seq_step s1' ?_)
  simp only [q_Hall_drop_all_2, wipeR, gVar, gC, gOp, gUn, gAnd, gOr, gNot, gIf, gNil, gCons, gTup, gLst, gCB, gChain, gSet, gExpr, gRet, gRetN, gPass, gBrk, gCt, gRaise, gIfS, gSeq, nName, nTup, setAll, gAsg, gCall, gTru, gNotT, gIsi, RE.bind_ok, RE.bind_exc, RE.bind_stuck, RE.bindA_ok, RE.bindS_ok, RE.bindS_exc, RE.bindT_ok, RE.bindTS_ok, RA.bind_ok, RA.bindA_ok, RE.nox_ok, RS.seq_nx, RS.seq_ret, RS.seq_exc, RS.seq_brk, RS.seq_ct, RS.seq_stuck, RE.bindA_exc, RE.bindA_stuck, RE.bindS_stuck, RE.bindT_exc, RE.bindT_stuck, RE.bindTS_exc, RE.bindTS_stuck, RA.bind_exc, RA.bind_stuck, RA.bindA_exc, RA.bindA_stuck, RE.nox_stuck, bind_ite, bindA_ite, bindS_ite, bindT_ite, bindTS_ite, nox_ite, seq_ite, startR, tyA_non, tyA_bl, tyA_int, tyA_str, tyA_tup, List.map_cons, List.map_nil, List.length_cons, List.length_nil, List.cons_append, List.nil_append, List.append_nil, List.getElem?_cons_zero, List.getElem?_cons_succ, List.set_cons_zero, List.set_cons_succ, vIx_t0, vIx_t1, vIx_t2, vIx_t3, vIx_t4, vIx_t5, vEq_ss, vEq_ii, vEq_bb, vNe_ss, vNe_ii, vNe_bb, vLen_tup, truA_tup, truA_bl, vLe_ii, vLt_ii, vGt_ii, vGe_ii, vSub_ii, vAdd_ii, vAddI_ii, vNeg_i, isT_ss, isT_tt, isT_ii, isT_bi, isT_bb, isT_ib, vLen, seqOf, hd, List.length_map]
theorem F_drop_at {S E : Sto} {n : Nat} {i : Ids} {h : Ha} {ow : Str} (ok : OkI S n i) (w : Wf h) (hl : h.people.length ≤ 90000) : F_Hall_drop_all K [.ob n, .str ow] (wr (hC K) S n i h ++ E) = .ok (.int (dropL h ow).length) (wr (hC K) S n i (dropW h ow) ++ E) := by
  unfold F_Hall_drop_all
  simp only [rd_wr ok]
  rw [if_pos ⟨w, hl⟩, wr_wr ok]
theorem ok_Hall_drop_all (t : TT K mg base) : FnR P w K mg base 1 (He.ma K (He.ga K "Hall") "drop_all") t.f_Hall_drop_all P_Hall_drop_all (spF K (tbs K) (F_Hall_drop_all K)) := by
  refine fnF t.D_Hall_drop_all sc_Hall_drop_all (fun l S h => by unfold F_Hall_drop_all at h; split at h <;> first | rfl | exact absurd rfl h) (q_Hall_drop_all K) (fun cdv A outer s H E hr => sb_Hall_drop_all t hr) fun l S b bl h => ?_
  unfold F_Hall_drop_all at h ⊢
  split at h
  rotate_left
  · exact absurd rfl h
  rename_i o ow
  cases hq : rdH (hC K) S o with
  | none => rw [hq] at h; exact absurd rfl h
  | some z =>
    obtain ⟨n, i, ha⟩ := z
    rw [hq] at h
    dsimp only at h ⊢
    by_cases hk : Wf ha ∧ ha.people.length ≤ 90000
    rotate_left
    · exact absurd (if_neg hk) h
    rw [if_pos hk]
    obtain ⟨rfl, ok, e⟩ := rd_some hq
    have e2 := e_drop (K := K) (S := S) (E := []) (ow := ow) ok hk.1 hk.2
    rw [List.append_nil, e] at e2
    rw [e2]
    exact fitH b ok (drop_ok hk.1).wf (.int _)
end
end Sx.My

set_option Elab.async false
set_option linter.all false
set_option maxRecDepth 100000
set_option maxHeartbeats 4000000
namespace Sx.My
open PySem PySem.Spec PyProof.Rows L2
section
variable {P : Program} {w : World} {K : Frg} {mg : Str → Option Value} {base : Heap}
theorem lk_m (i : Ids) (h : Ha) : (flds i h).lookup ("do" : Str) = none ∧ (flds i h).lookup ("spread" : Str) = none ∧ (flds i h).lookup ("come" : Str) = none ∧ (flds i h).lookup ("hear" : Str) = none ∧ (flds i h).lookup ("order" : Str) = none ∧ (flds i h).lookup ("drop_all" : Str) = none ∧ (flds i h).lookup ("begin" : Str) = none := ⟨rfl, rfl, rfl, rfl, rfl, rfl, rfl⟩
/-- lists stay short enough -/
structure Cap (k : Nat) (h : Ha) : Prop where
  m : Mh h + k ≤ 90000
  n : h.now.length + h.room.toNat ≤ 90000
theorem Cap.step {j k : Nat} {h h' : Ha} (c : Cap (j + k) h) (s : St1 j h h') : Cap k h' := ⟨by have := s.mh; have := c.m; omega, by rw [s.now]; have := s.stp.room; have := c.n; omega⟩
theorem Cap.mono {j k : Nat} {h : Ha} (c : Cap k h) (e : j ≤ k) : Cap j h := ⟨by have := c.m; omega, c.n⟩
theorem Cap.pe {k : Nat} {h : Ha} (c : Cap k h) : h.people.length ≤ 90000 := by have := c.m; unfold Mh at this; omega
theorem Cap.ro {k : Nat} {h : Ha} (c : Cap k h) : h.rows.length ≤ 90000 := by have := c.m; unfold Mh at this; omega
open Classical in
noncomputable def F_Hall_hear (r : Nat) (K : Frg) : List A → Sto → RE := fun l S => match l with
  | [o, .int x, .int v] => (match rdH (hC K) S o with
    | some (n, i, h) => if Wf h ∧ h.room ≤ (r : Int) ∧ h.cut = false ∧ (0 ≤ x ∧ x < (h.people.length : Int)) ∧ (0 ≤ v ∧ v ≤ 9999) ∧ Cap 0 h then .ok (.bl (hearH r h x v).1) (wr (hC K) S n i (hearH r h x v).2) else .stuck
    | none => .stuck)
  | _ => .stuck
open Classical in
noncomputable def F_Hall_do (r : Nat) (K : Frg) : List A → Sto → RE := fun l S => match l with
  | [o, d, .int x, .int v] => (match rdH (hC K) S o with
    | some (n, i, h) => if Wf h ∧ h.room ≤ (r : Int) ∧ h.cut = false ∧ (0 ≤ x ∧ x < (h.people.length : Int)) ∧ isDeedW (isHr 2) d = true ∧ Cap 1 h then .ok (.bl (isStop d)) (wr (hC K) S n i (doW (hearH r) d x v h)) else .stuck
    | none => .stuck)
  | _ => .stuck
open Classical in
noncomputable def F_Hall_spread (r : Nat) (K : Frg) : List A → Sto → RE := fun l S => match l with
  | [o, .str t, .int v] => (match rdH (hC K) S o with
    | some (n, i, h) => if Wf h ∧ h.room ≤ (r : Int) ∧ isWordS t = true ∧ (0 ≤ v ∧ v ≤ 9999) ∧ Cap 1 h then .ok .non (wr (hC K) S n i (spreadW (hearH r) h t v)) else .stuck
    | none => .stuck)
  | _ => .stuck
open Classical in
noncomputable def F_Hall_come (r : Nat) (K : Frg) : List A → Sto → RE := fun l S => match l with
  | [o, p] => (match rdH (hC K) S o with
    | some (n, i, h) => if Wf h ∧ h.room ≤ (r : Int) ∧ h.cut = false ∧ isHr 3 p = true ∧ Cap 1 h then .ok (.int h.people.length) (wr (hC K) S n i (comeW (hearH r) h p)) else .stuck
    | none => .stuck)
  | _ => .stuck
section
variable {r : Nat} {S E : Sto} {n : Nat} {i : Ids} {h : Ha}
theorem F_hear_at {x v : Int} (ok : OkI S n i) (w : Wf h) (hr : h.room ≤ (r : Int)) (hc : h.cut = false) (hx : 0 ≤ x ∧ x < (h.people.length : Int)) (hv : 0 ≤ v ∧ v ≤ 9999) (c : Cap 0 h) : F_Hall_hear r K [.ob n, .int x, .int v] (wr (hC K) S n i h ++ E) = .ok (.bl (hearH r h x v).1) (wr (hC K) S n i (hearH r h x v).2 ++ E) := by
  unfold F_Hall_hear
  simp only [rd_wr ok]
  rw [if_pos ⟨w, hr, hc, hx, hv, c⟩, wr_wr ok]
theorem F_do_at {d : A} {x v : Int} (ok : OkI S n i) (w : Wf h) (hr : h.room ≤ (r : Int)) (hc : h.cut = false) (hx : 0 ≤ x ∧ x < (h.people.length : Int)) (hd : isDeedW (isHr 2) d = true) (c : Cap 1 h) : F_Hall_do r K [.ob n, d, .int x, .int v] (wr (hC K) S n i h ++ E) = .ok (.bl (isStop d)) (wr (hC K) S n i (doW (hearH r) d x v h) ++ E) := by
  unfold F_Hall_do
  simp only [rd_wr ok]
  rw [if_pos ⟨w, hr, hc, hx, hd, c⟩, wr_wr ok]
theorem F_spread_at {t : Str} {v : Int} (ok : OkI S n i) (w : Wf h) (hr : h.room ≤ (r : Int)) (ht : isWordS t = true) (hv : 0 ≤ v ∧ v ≤ 9999) (c : Cap 1 h) : F_Hall_spread r K [.ob n, .str t, .int v] (wr (hC K) S n i h ++ E) = .ok .non (wr (hC K) S n i (spreadW (hearH r) h t v) ++ E) := by
  unfold F_Hall_spread
  simp only [rd_wr ok]
  rw [if_pos ⟨w, hr, ht, hv, c⟩, wr_wr ok]
theorem F_come_at {p : A} (ok : OkI S n i) (w : Wf h) (hr : h.room ≤ (r : Int)) (hc : h.cut = false) (hp : isHr 3 p = true) (c : Cap 1 h) : F_Hall_come r K [.ob n, p] (wr (hC K) S n i h ++ E) = .ok (.int h.people.length) (wr (hC K) S n i (comeW (hearH r) h p) ++ E) := by
  unfold F_Hall_come
  simp only [rd_wr ok]
  rw [if_pos ⟨w, hr, hc, hp, c⟩, wr_wr ok]
end
abbrev N_Hall_hear : List Str := ["self", "number", "value", "hearer", "stop", "deed"]
abbrev P_Hall_hear : List Str := ["self", "number", "value"]
theorem sc_Hall_hear : FnScope N_Hall_hear P_Hall_hear (defScope Hd.s_Hall_hear) := ⟨rfl, rfl, rfl, by decide +kernel, rfl, by decide +kernel, by decide +kernel⟩
theorem b_Hall_hear {K : Frg} {mg : Str → Option Value} {base : Heap} (t : TT K mg base) : Binds K t.f_Hall_hear P_Hall_hear [] := FunD.bindsN t.D_Hall_hear fun _ _ _ _ _ _ us hl => match us, hl with | [_, _, _], _ => rfl
abbrev N_Hall_do : List Str := ["self", "deed", "number", "value"]
abbrev P_Hall_do : List Str := ["self", "deed", "number", "value"]
theorem sc_Hall_do : FnScope N_Hall_do P_Hall_do (defScope Hd.s_Hall_do) := ⟨rfl, rfl, rfl, by decide +kernel, rfl, by decide +kernel, by decide +kernel⟩
theorem b_Hall_do {K : Frg} {mg : Str → Option Value} {base : Heap} (t : TT K mg base) : Binds K t.f_Hall_do P_Hall_do [] := FunD.bindsN t.D_Hall_do fun _ _ _ _ _ _ us hl => match us, hl with | [_, _, _, _], _ => rfl
abbrev N_Hall_spread : List Str := ["self", "topic", "value", "number"]
abbrev P_Hall_spread : List Str := ["self", "topic", "value"]
theorem sc_Hall_spread : FnScope N_Hall_spread P_Hall_spread (defScope Hd.s_Hall_spread) := ⟨rfl, rfl, rfl, by decide +kernel, rfl, by decide +kernel, by decide +kernel⟩
theorem b_Hall_spread {K : Frg} {mg : Str → Option Value} {base : Heap} (t : TT K mg base) : Binds K t.f_Hall_spread P_Hall_spread [] := FunD.bindsN t.D_Hall_spread fun _ _ _ _ _ _ us hl => match us, hl with | [_, _, _], _ => rfl
abbrev N_Hall_come : List Str := ["self", "hearer", "number"]
abbrev P_Hall_come : List Str := ["self", "hearer"]
theorem sc_Hall_come : FnScope N_Hall_come P_Hall_come (defScope Hd.s_Hall_come) := ⟨rfl, rfl, rfl, by decide +kernel, rfl, by decide +kernel, by decide +kernel⟩
theorem b_Hall_come {K : Frg} {mg : Str → Option Value} {base : Heap} (t : TT K mg base) : Binds K t.f_Hall_come P_Hall_come [] := FunD.bindsN t.D_Hall_come fun _ _ _ _ _ _ us hl => match us, hl with | [_, _], _ => rfl
def q_Hall_hear_0 (K : Frg) (Fo : List A → Sto → RE) : GS :=
  gIfS (gOp vEq (gFld (He.ga K "Hall") "room" (gVar 0)) (gC (.int 0))) (gSeq (gSetFld (He.ga K "Hall") "cut" (gVar 0) (gC (.bl true)))
  (gSeq (gExpr (gMt "list" vAppend (gFld (He.ga K "Hall") "rows" (gVar 0)) (gCons (gTup (gCons (gC (.str "cut")) (gNil))) (gNil))))
  (gRet (gC (.bl true))))) (gPass)
def q_Hall_hear_1 (K : Frg) (Fo : List A → Sto → RE) : GS :=
  gAugFld (He.ga K "Hall") "room" vSubI (gVar 0) (gC (.int 1))
def q_Hall_hear_2 (K : Frg) (Fo : List A → Sto → RE) : GS :=
  gSet 3 (gOp vIx (gFld (He.ga K "Hall") "people" (gVar 0)) (gVar 1))
def q_Hall_hear_3 (K : Frg) (Fo : List A → Sto → RE) : GS :=
  gExpr (gMt "list" vAppend (gFld (He.ga K "Hall") "rows" (gVar 0)) (gCons (gTup (gCons (gC (.str "heard")) (gCons (gVar 1) (gCons (gOp vIx (gVar 3) (gC (.int 1))) (gCons (gVar 2) (gNil)))))) (gNil)))
def q_Hall_hear_4 (K : Frg) (Fo : List A → Sto → RE) : GS :=
  gIfS (gOp vEq (gOp vIx (gVar 3) (gC (.int 3))) (gC (.str "once"))) (gDput (gFld (He.ga K "Hall") "gone" (gVar 0)) (gVar 1) (gC (.bl true))) (gPass)
def q_Hall_hear_5 (K : Frg) (Fo : List A → Sto → RE) : GS :=
  gSet 4 (gC (.bl false))
def q_Hall_hear_6 (K : Frg) (Fo : List A → Sto → RE) : GS :=
  gExpr (gMt "list" vAppend (gFld (He.ga K "Hall") "now" (gVar 0)) (gCons (gOp vIx (gVar 3) (gC (.int 1))) (gNil)))
def q_Hall_hear_7 (K : Frg) (Fo : List A → Sto → RE) : GS :=
  gFor (gIT (gOp vIx (gVar 3) (gC (.int 5)))) (nName 5)
  (gIfS (gNot (gTru (gFld (He.ga K "Hall") "cut" (gVar 0)))) (gSet 4 (gOr (gMeth (He.ga K "Hall") "do" (Fo) (gVar 0) (gCons (gVar 5) (gCons (gVar 1) (gCons (gVar 2) (gNil))))) (gVar 4))) (gPass))
def q_Hall_hear_8 (K : Frg) (Fo : List A → Sto → RE) : GS :=
  gExpr (gMt "list" vPop (gFld (He.ga K "Hall") "now" (gVar 0)) gNil)
def q_Hall_hear_9 (K : Frg) (Fo : List A → Sto → RE) : GS :=
  gRet (gVar 4)
def q_Hall_hear (K : Frg) (Fo : List A → Sto → RE) : GS :=
  gSeq (q_Hall_hear_0 K Fo) (gSeq (q_Hall_hear_1 K Fo) (gSeq (q_Hall_hear_2 K Fo) (gSeq (q_Hall_hear_3 K Fo) (gSeq (q_Hall_hear_4 K Fo) (gSeq (q_Hall_hear_5 K Fo) (gSeq (q_Hall_hear_6 K Fo) (gSeq (q_Hall_hear_7 K Fo) (gSeq (q_Hall_hear_8 K Fo) (q_Hall_hear_9 K Fo)))))))))
theorem sb_Hall_hear {P : Program} {w : World} {K : Frg} {mg : Str → Option Value} {base : Heap} (t : TT K mg base) {d dd : Nat} {Fo : List A → Sto → RE} (oko : FnR P w K mg base dd (He.ma K (He.ga K "Hall") "do") t.f_Hall_do P_Hall_do (spF K (tbs K) Fo)) (hdd : dd ≤ d) {cdv : Value} {A : Around} {outer : List Env} {s : Shared} {H : Hp} {E : XK} (hr : Rm d (A.deeper (envOfC "Hall.hear" (defScope Hd.s_Hall_hear) s.heap.objs.size (He.ma K (He.ga K "Hall") "hear") cdv))) :
    SB (cxOf (L2.CX P w) P w K mg base N_Hall_hear "Hall.hear" (defScope Hd.s_Hall_hear) (He.ma K (He.ga K "Hall") "hear") cdv A outer s H E) (tbs K) (fun c d _ H2 => E c d H2) (defBody Hd.s_Hall_hear) (q_Hall_hear K Fo) := by
  have nd : N_Hall_hear.Nodup := sc_Hall_hear.nd
  have hp := passes_of (X := cxOf (L2.CX P w) P w K mg base N_Hall_hear "Hall.hear" (defScope Hd.s_Hall_hear) (He.ma K (He.ga K "Hall") "hear") cdv A outer s H E) (K := fun e s2 => L2.CX P w outer H s E e s2) (E₁ := fun e s2 => L2.CX P w outer H s E e s2) rfl
  have tk : Takes (cxOf (L2.CX P w) P w K mg base N_Hall_hear "Hall.hear" (defScope Hd.s_Hall_hear) (He.ma K (He.ga K "Hall") "hear") cdv A outer s H E) (fun c d _ H2 => E c d H2) := takes_of rfl rfl rfl rfl
  exact (sb_cons (ss_if (st_cmp (os_eq hr.units) (se_fld t.c_Hall t.a_Hall_room (se_var' (pv 0))) se_int (nomark _)) (sb_cons (ss_fld t.c_Hall t.a_Hall_cut (se_var' (pv 0)) se_bl)
  (sb_cons (ss_expr (se_bm PySem.F.plainAttrs_list PySem.F.slot_list_append PySem.F.type_list_append ms_append (se_fld t.c_Hall t.a_Hall_rows (se_var' (pv 0))) (sa_cons (se_tup (sa_cons se_str sa_nil)) sa_nil)))
  (sb_one (ss_ret se_bl)))) sb_nil)
  (sb_cons (ss_fldaug t.c_Hall t.a_Hall_room (se_var' (pv 0)) se_int inSub)
  (sb_cons (ss_set (i := 3) nd rfl (Or.inl rfl) (se_ix is_ix (se_fld t.c_Hall t.a_Hall_people (se_var' (pv 0))) (se_var' (pv 1)) (fun _ _ => rfl)))
  (sb_cons (ss_expr (se_bm PySem.F.plainAttrs_list PySem.F.slot_list_append PySem.F.type_list_append ms_append (se_fld t.c_Hall t.a_Hall_rows (se_var' (pv 0))) (sa_cons (se_tup (sa_cons se_str (sa_cons (se_var' (pv 1)) (sa_cons (se_ix is_ix (se_var' (pv 3)) se_int (fun _ _ => rfl)) (sa_cons (se_var' (pv 2)) sa_nil))))) sa_nil)))
  (sb_cons (ss_if (st_cmp (os_eq hr.units) (se_ix is_ix (se_var' (pv 3)) se_int (fun _ _ => rfl)) se_str (nomark _)) (sb_one (ss_dput hr.units (se_fld t.c_Hall t.a_Hall_gone (se_var' (pv 0))) (se_var' (pv 1)) se_bl)) sb_nil)
  (sb_cons (ss_set (i := 4) nd rfl (Or.inl rfl) se_bl)
  (sb_cons (ss_expr (se_bm PySem.F.plainAttrs_list PySem.F.slot_list_append PySem.F.type_list_append ms_append (se_fld t.c_Hall t.a_Hall_now (se_var' (pv 0))) (sa_cons (se_ix is_ix (se_var' (pv 3)) se_int (fun _ _ => rfl)) sa_nil)))
  (sb_cons (ss_for hp rfl (si_tup (se_ix is_ix (se_var' (pv 3)) se_int (fun _ _ => rfl))) (sg_name (i := 5) nd rfl (Or.inl rfl))
  (sb_one (ss_if (st_not (st_truth (se_fld t.c_Hall t.a_Hall_cut (se_var' (pv 0))))) (sb_one (ss_set (i := 4) nd rfl (Or.inl rfl) (se_or (se_meth (se_var' (pv 0)) t.c_Hall t.t_Hall_do (oko) (hr.mono (by omega)) (b_Hall_do t) tk (sa_cons (se_var' (pv 5)) (sa_cons (se_var' (pv 1)) (sa_cons (se_var' (pv 2)) sa_nil)))) (se_one (se_var' (pv 4)))))) sb_nil)))
  (sb_cons (ss_expr (se_bm0 PySem.F.plainAttrs_list PySem.F.slot_list_pop PySem.F.type_list_pop ms_pop (se_fld t.c_Hall t.a_Hall_now (se_var' (pv 0)))))
  (sb_one (ss_ret (se_var' (pv 4)))))))))))))

section
variable {r : Nat} {S E : Sto} {n : Nat} {i : Ids} {h : Ha} {Fo : List A → Sto → RE}
theorem e_hear_cut {x v : Int} (ok : OkI S n i) (h0 : h.room = 0) (c : Cap 0 h) : q_Hall_hear K Fo (startR N_Hall_hear.length [.ob n, .int x, .int v]) (wr (hC K) S n i h ++ E) = .ret (.bl true) (wr (hC K) S n i h.cutIt ++ E) := by
  have f8 : ∀ h : Ha, (flds i h).length < 1000 := fun h => by rw [flds_len]; decide
  have hl : ({ h with cut := true } : Ha).rows.length < 4000000 := by have := c.ro; show h.rows.length < _; omega
  have hd0 : decide (h.room = 0) = true := decide_eq_true h0
  simp only [q_Hall_hear, q_Hall_hear_0, wipeR, gVar, gC, gOp, gUn, gAnd, gOr, gNot, gIf, gNil, gCons, gTup, gLst, gCB, gChain, gSet, gExpr, gRet, gRetN, gPass, gBrk, gCt, gRaise, gIfS, gSeq, nName, nTup, setAll, gAsg, gCall, gTru, gNotT, gIsi, RE.bind_ok, RE.bind_exc, RE.bind_stuck, RE.bindA_ok, RE.bindS_ok, RE.bindS_exc, RE.bindT_ok, RE.bindTS_ok, RA.bind_ok, RA.bindA_ok, RE.nox_ok, RS.seq_nx, RS.seq_ret, RS.seq_exc, RS.seq_brk, RS.seq_ct, RS.seq_stuck, RE.bindA_exc, RE.bindA_stuck, RE.bindS_stuck, RE.bindT_exc, RE.bindT_stuck, RE.bindTS_exc, RE.bindTS_stuck, RA.bind_exc, RA.bind_stuck, RA.bindA_exc, RA.bindA_stuck, RE.nox_stuck, bind_ite, bindA_ite, bindS_ite, bindT_ite, bindTS_ite, nox_ite, seq_ite, startR, tyA_non, tyA_bl, tyA_int, tyA_str, tyA_tup, List.map_cons, List.map_nil, List.length_cons, List.length_nil, List.cons_append, List.nil_append, List.append_nil, List.getElem?_cons_zero, List.getElem?_cons_succ, List.set_cons_zero, List.set_cons_succ, vIx_t0, vIx_t1, vIx_t2, vIx_t3, vIx_t4, vIx_t5, vEq_ss, vEq_ii, vEq_bb, vNe_ss, vNe_ii, vNe_bb, vLen_tup, truA_tup, truA_bl, vLe_ii, vLt_ii, vGt_ii, vGe_ii, vSub_ii, vAdd_ii, vAddI_ii, vNeg_i, isT_ss, isT_tt, isT_ii, isT_bi, isT_bb, isT_ib, gFld, gMt, gSetFld, ins_wr ok, lk_room, lk_rows, hd0, ↓reduceIte, f8, put_cut, set_cut ok, ty_ro ok, Nat.reduceAdd, Nat.reduceLeDiff, app_ro ok _ hl, List.replicate, Nat.reduceSub]
  rfl
theorem e_hear_loop {x v : Int} {p : A} (ok : OkI S n i) (hF : ∀ d h, Wf h → h.room ≤ (r : Int) → h.cut = false → (0 ≤ x ∧ x < (h.people.length : Int)) → isDeedW (isHr 2) d = true → Cap 1 h → Fo [.ob n, d, .int x, .int v] (wr (hC K) S n i h ++ E) = .ok (.bl (isStop d)) (wr (hC K) S n i (doW (hearH r) d x v h) ++ E)) :
    ∀ (l : List A) (s : Bool) (h : Ha) (z : Option A), (∀ d ∈ l, isDeedW (isHr 2) d = true) → Wf h → h.room ≤ (r : Int) → (0 ≤ x ∧ x < (h.people.length : Int)) → Cap l.length h →
    ∃ z', forGo (fun _ => true) (nName 5) (gIfS (gNot (gTru (gFld (He.ga K "Hall") "cut" (gVar 0)))) (gSet 4 (gOr (gMeth (He.ga K "Hall") "do" (Fo) (gVar 0) (gCons (gVar 5) (gCons (gVar 1) (gCons (gVar 2) (gNil))))) (gVar 4))) (gPass)) l [some (.ob n), some (.int x), some (.int v), some p, some (.bl s), z] (wr (hC K) S n i h ++ E) =
      .nx [some (.ob n), some (.int x), some (.int v), some p, some (.bl (dsLoop (hearH r) x v l s h).1), z'] (wr (hC K) S n i (dsLoop (hearH r) x v l s h).2 ++ E)
  | [], s, h, z, _, _, _, _, _ => ⟨z, rfl⟩
  | d :: l, s, h, z, hl, w, hr, hx, c => by
    cases hc : h.cut with
    | true =>
      obtain ⟨z', ih⟩ := e_hear_loop ok hF l s h (some d) (fun y hy => hl y (by simp [hy])) w hr hx (c.mono (by simp))
      refine ⟨z', ?_⟩
      unfold dsLoop
      simp only [forGo, wipeR, gVar, gC, gOp, gUn, gAnd, gOr, gNot, gIf, gNil, gCons, gTup, gLst, gCB, gChain, gSet, gExpr, gRet, gRetN, gPass, gBrk, gCt, gRaise, gIfS, gSeq, nName, nTup, setAll, gAsg, gCall, gTru, gNotT, gIsi, RE.bind_ok, RE.bind_exc, RE.bind_stuck, RE.bindA_ok, RE.bindS_ok, RE.bindS_exc, RE.bindT_ok, RE.bindTS_ok, RA.bind_ok, RA.bindA_ok, RE.nox_ok, RS.seq_nx, RS.seq_ret, RS.seq_exc, RS.seq_brk, RS.seq_ct, RS.seq_stuck, RE.bindA_exc, RE.bindA_stuck, RE.bindS_stuck, RE.bindT_exc, RE.bindT_stuck, RE.bindTS_exc, RE.bindTS_stuck, RA.bind_exc, RA.bind_stuck, RA.bindA_exc, RA.bindA_stuck, RE.nox_stuck, bind_ite, bindA_ite, bindS_ite, bindT_ite, bindTS_ite, nox_ite, seq_ite, startR, tyA_non, tyA_bl, tyA_int, tyA_str, tyA_tup, List.map_cons, List.map_nil, List.length_cons, List.length_nil, List.cons_append, List.nil_append, List.append_nil, List.getElem?_cons_zero, List.getElem?_cons_succ, List.set_cons_zero, List.set_cons_succ, vIx_t0, vIx_t1, vIx_t2, vIx_t3, vIx_t4, vIx_t5, vEq_ss, vEq_ii, vEq_bb, vNe_ss, vNe_ii, vNe_bb, vLen_tup, truA_tup, truA_bl, vLe_ii, vLt_ii, vGt_ii, vGe_ii, vSub_ii, vAdd_ii, vAddI_ii, vNeg_i, isT_ss, isT_tt, isT_ii, isT_bi, isT_bb, isT_ib, gFld, ins_wr ok, lk_cut, hc, Bool.not_true, Bool.false_eq_true, ↓reduceIte]
      exact ih
    | false =>
      have hd := hl d (by simp)
      have s1 := do_ok (v := v) (hear_ok r) hd w hr hc hx.1 hx.2
      have e1 := hF d h w hr hc hx hd (c.mono (by simp))
      obtain ⟨z', ih⟩ := e_hear_loop ok hF l (isStop d || s) (doW (hearH r) d x v h) (some d) (fun y hy => hl y (by simp [hy])) s1.wf (Int.le_trans s1.stp.room hr) ⟨hx.1, Int.lt_of_lt_of_le hx.2 (by have := s1.stp.len; omega)⟩ (Cap.step (j := 1) (by rw [Nat.add_comm]; exact c) s1)
      refine ⟨z', ?_⟩
      unfold dsLoop
      have lk : ((flds i h).lookup ("do" : Str)).isNone = true := by rw [(lk_m i h).1]; rfl
      simp only [hc, Bool.false_eq_true, ↓reduceIte] at ih ⊢
      cases hst : isStop d with
      | true =>
        rw [hst] at e1 ih
        simp only [forGo, wipeR, gVar, gC, gOp, gUn, gAnd, gOr, gNot, gIf, gNil, gCons, gTup, gLst, gCB, gChain, gSet, gExpr, gRet, gRetN, gPass, gBrk, gCt, gRaise, gIfS, gSeq, nName, nTup, setAll, gAsg, gCall, gTru, gNotT, gIsi, RE.bind_ok, RE.bind_exc, RE.bind_stuck, RE.bindA_ok, RE.bindS_ok, RE.bindS_exc, RE.bindT_ok, RE.bindTS_ok, RA.bind_ok, RA.bindA_ok, RE.nox_ok, RS.seq_nx, RS.seq_ret, RS.seq_exc, RS.seq_brk, RS.seq_ct, RS.seq_stuck, RE.bindA_exc, RE.bindA_stuck, RE.bindS_stuck, RE.bindT_exc, RE.bindT_stuck, RE.bindTS_exc, RE.bindTS_stuck, RA.bind_exc, RA.bind_stuck, RA.bindA_exc, RA.bindA_stuck, RE.nox_stuck, bind_ite, bindA_ite, bindS_ite, bindT_ite, bindTS_ite, nox_ite, seq_ite, startR, tyA_non, tyA_bl, tyA_int, tyA_str, tyA_tup, List.map_cons, List.map_nil, List.length_cons, List.length_nil, List.cons_append, List.nil_append, List.append_nil, List.getElem?_cons_zero, List.getElem?_cons_succ, List.set_cons_zero, List.set_cons_succ, vIx_t0, vIx_t1, vIx_t2, vIx_t3, vIx_t4, vIx_t5, vEq_ss, vEq_ii, vEq_bb, vNe_ss, vNe_ii, vNe_bb, vLen_tup, truA_tup, truA_bl, vLe_ii, vLt_ii, vGt_ii, vGe_ii, vSub_ii, vAdd_ii, vAddI_ii, vNeg_i, isT_ss, isT_tt, isT_ii, isT_bi, isT_bb, isT_ib, gFld, gMeth, ins_wr ok, lk_cut, hc, Bool.not_false, lk, e1, ↓reduceIte]
        exact ih
      | false =>
        rw [hst] at e1 ih
        simp only [forGo, wipeR, gVar, gC, gOp, gUn, gAnd, gOr, gNot, gIf, gNil, gCons, gTup, gLst, gCB, gChain, gSet, gExpr, gRet, gRetN, gPass, gBrk, gCt, gRaise, gIfS, gSeq, nName, nTup, setAll, gAsg, gCall, gTru, gNotT, gIsi, RE.bind_ok, RE.bind_exc, RE.bind_stuck, RE.bindA_ok, RE.bindS_ok, RE.bindS_exc, RE.bindT_ok, RE.bindTS_ok, RA.bind_ok, RA.bindA_ok, RE.nox_ok, RS.seq_nx, RS.seq_ret, RS.seq_exc, RS.seq_brk, RS.seq_ct, RS.seq_stuck, RE.bindA_exc, RE.bindA_stuck, RE.bindS_stuck, RE.bindT_exc, RE.bindT_stuck, RE.bindTS_exc, RE.bindTS_stuck, RA.bind_exc, RA.bind_stuck, RA.bindA_exc, RA.bindA_stuck, RE.nox_stuck, bind_ite, bindA_ite, bindS_ite, bindT_ite, bindTS_ite, nox_ite, seq_ite, startR, tyA_non, tyA_bl, tyA_int, tyA_str, tyA_tup, List.map_cons, List.map_nil, List.length_cons, List.length_nil, List.cons_append, List.nil_append, List.append_nil, List.getElem?_cons_zero, List.getElem?_cons_succ, List.set_cons_zero, List.set_cons_succ, vIx_t0, vIx_t1, vIx_t2, vIx_t3, vIx_t4, vIx_t5, vEq_ss, vEq_ii, vEq_bb, vNe_ss, vNe_ii, vNe_bb, vLen_tup, truA_tup, truA_bl, vLe_ii, vLt_ii, vGt_ii, vGe_ii, vSub_ii, vAdd_ii, vAddI_ii, vNeg_i, isT_ss, isT_tt, isT_ii, isT_bi, isT_bb, isT_ib, gFld, gMeth, ins_wr ok, lk_cut, hc, Bool.not_false, lk, e1, ↓reduceIte, Bool.false_eq_true]
        exact ih
theorem e_hear_pre {x v : Int} (ok : OkI S n i) (w : Wf h) (h0 : 0 < h.room) (hx : 0 ≤ x ∧ x < (h.people.length : Int)) (c : Cap 0 h) {z : RS}
    (hz : gSeq (q_Hall_hear_7 K Fo) (gSeq (q_Hall_hear_8 K Fo) (q_Hall_hear_9 K Fo)) [some (.ob n), some (.int x), some (.int v), some (pAt h x), some (.bl false), none] (wr (hC K) S n i (heardH h x v) ++ E) = z) :
    q_Hall_hear K Fo (startR N_Hall_hear.length [.ob n, .int x, .int v]) (wr (hC K) S n i h ++ E) = z := by
  have f8 : ∀ h : Ha, (flds i h).length < 1000 := fun h => by rw [flds_len]; decide
  have st : startR N_Hall_hear.length [.ob n, .int x, .int v] = [some (.ob n), some (.int x), some (.int v), none, none, none] := rfl
  obtain ⟨o, t, rk, hw, ts, ds, e, p1, p2, p3, p4, p5, p6, p7⟩ := hr3_parts (pAt_hr w hx.1 hx.2)
  have et : tpA (pAt h x) = t := by rw [e]; rfl
  have ew : hwA (pAt h x) = hw := by rw [e]; rfl
  have hd0 : decide (h.room = 0) = false := decide_eq_false (by omega)
  have s0 : q_Hall_hear_0 K Fo [some (.ob n), some (.int x), some (.int v), none, none, none] (wr (hC K) S n i h ++ E) = .nx [some (.ob n), some (.int x), some (.int v), none, none, none] (wr (hC K) S n i h ++ E) := by
    simp only [q_Hall_hear_0, wipeR, gVar, gC, gOp, gUn, gAnd, gOr, gNot, gIf, gNil, gCons, gTup, gLst, gCB, gChain, gSet, gExpr, gRet, gRetN, gPass, gBrk, gCt, gRaise, gIfS, gSeq, nName, nTup, setAll, gAsg, gCall, gTru, gNotT, gIsi, RE.bind_ok, RE.bind_exc, RE.bind_stuck, RE.bindA_ok, RE.bindS_ok, RE.bindS_exc, RE.bindT_ok, RE.bindTS_ok, RA.bind_ok, RA.bindA_ok, RE.nox_ok, RS.seq_nx, RS.seq_ret, RS.seq_exc, RS.seq_brk, RS.seq_ct, RS.seq_stuck, RE.bindA_exc, RE.bindA_stuck, RE.bindS_stuck, RE.bindT_exc, RE.bindT_stuck, RE.bindTS_exc, RE.bindTS_stuck, RA.bind_exc, RA.bind_stuck, RA.bindA_exc, RA.bindA_stuck, RE.nox_stuck, bind_ite, bindA_ite, bindS_ite, bindT_ite, bindTS_ite, nox_ite, seq_ite, startR, tyA_non, tyA_bl, tyA_int, tyA_str, tyA_tup, List.map_cons, List.map_nil, List.length_cons, List.length_nil, List.cons_append, List.nil_append, List.append_nil, List.getElem?_cons_zero, List.getElem?_cons_succ, List.set_cons_zero, List.set_cons_succ, vIx_t0, vIx_t1, vIx_t2, vIx_t3, vIx_t4, vIx_t5, vEq_ss, vEq_ii, vEq_bb, vNe_ss, vNe_ii, vNe_bb, vLen_tup, truA_tup, truA_bl, vLe_ii, vLt_ii, vGt_ii, vGe_ii, vSub_ii, vAdd_ii, vAddI_ii, vNeg_i, isT_ss, isT_tt, isT_ii, isT_bi, isT_bb, isT_ib, gFld, ins_wr ok, lk_room, hd0, Bool.false_eq_true, ↓reduceIte]
  have s1 : q_Hall_hear_1 K Fo [some (.ob n), some (.int x), some (.int v), none, none, none] (wr (hC K) S n i h ++ E) = .nx [some (.ob n), some (.int x), some (.int v), none, none, none] (wr (hC K) S n i { h with room := h.room - 1 } ++ E) := by
    simp only [q_Hall_hear_1, gAugFld, wipeR, gVar, gC, gOp, gUn, gAnd, gOr, gNot, gIf, gNil, gCons, gTup, gLst, gCB, gChain, gSet, gExpr, gRet, gRetN, gPass, gBrk, gCt, gRaise, gIfS, gSeq, nName, nTup, setAll, gAsg, gCall, gTru, gNotT, gIsi, RE.bind_ok, RE.bind_exc, RE.bind_stuck, RE.bindA_ok, RE.bindS_ok, RE.bindS_exc, RE.bindT_ok, RE.bindTS_ok, RA.bind_ok, RA.bindA_ok, RE.nox_ok, RS.seq_nx, RS.seq_ret, RS.seq_exc, RS.seq_brk, RS.seq_ct, RS.seq_stuck, RE.bindA_exc, RE.bindA_stuck, RE.bindS_stuck, RE.bindT_exc, RE.bindT_stuck, RE.bindTS_exc, RE.bindTS_stuck, RA.bind_exc, RA.bind_stuck, RA.bindA_exc, RA.bindA_stuck, RE.nox_stuck, bind_ite, bindA_ite, bindS_ite, bindT_ite, bindTS_ite, nox_ite, seq_ite, startR, tyA_non, tyA_bl, tyA_int, tyA_str, tyA_tup, List.map_cons, List.map_nil, List.length_cons, List.length_nil, List.cons_append, List.nil_append, List.append_nil, List.getElem?_cons_zero, List.getElem?_cons_succ, List.set_cons_zero, List.set_cons_succ, vIx_t0, vIx_t1, vIx_t2, vIx_t3, vIx_t4, vIx_t5, vEq_ss, vEq_ii, vEq_bb, vNe_ss, vNe_ii, vNe_bb, vLen_tup, truA_tup, truA_bl, vLe_ii, vLt_ii, vGt_ii, vGe_ii, vSub_ii, vAdd_ii, vAddI_ii, vNeg_i, isT_ss, isT_tt, isT_ii, isT_bi, isT_bb, isT_ib, ins_wr ok, lk_room, vSubI, f8, ↓reduceIte, put_room, set_room ok]
  have pe : pAt ({ h with room := h.room - 1 } : Ha) x = pAt h x := rfl
  have s2 : q_Hall_hear_2 K Fo [some (.ob n), some (.int x), some (.int v), none, none, none] (wr (hC K) S n i { h with room := h.room - 1 } ++ E) = .nx [some (.ob n), some (.int x), some (.int v), some (pAt h x), none, none] (wr (hC K) S n i { h with room := h.room - 1 } ++ E) := by
    simp only [q_Hall_hear_2, wipeR, gVar, gC, gOp, gUn, gAnd, gOr, gNot, gIf, gNil, gCons, gTup, gLst, gCB, gChain, gSet, gExpr, gRet, gRetN, gPass, gBrk, gCt, gRaise, gIfS, gSeq, nName, nTup, setAll, gAsg, gCall, gTru, gNotT, gIsi, RE.bind_ok, RE.bind_exc, RE.bind_stuck, RE.bindA_ok, RE.bindS_ok, RE.bindS_exc, RE.bindT_ok, RE.bindTS_ok, RA.bind_ok, RA.bindA_ok, RE.nox_ok, RS.seq_nx, RS.seq_ret, RS.seq_exc, RS.seq_brk, RS.seq_ct, RS.seq_stuck, RE.bindA_exc, RE.bindA_stuck, RE.bindS_stuck, RE.bindT_exc, RE.bindT_stuck, RE.bindTS_exc, RE.bindTS_stuck, RA.bind_exc, RA.bind_stuck, RA.bindA_exc, RA.bindA_stuck, RE.nox_stuck, bind_ite, bindA_ite, bindS_ite, bindT_ite, bindTS_ite, nox_ite, seq_ite, startR, tyA_non, tyA_bl, tyA_int, tyA_str, tyA_tup, List.map_cons, List.map_nil, List.length_cons, List.length_nil, List.cons_append, List.nil_append, List.append_nil, List.getElem?_cons_zero, List.getElem?_cons_succ, List.set_cons_zero, List.set_cons_succ, vIx_t0, vIx_t1, vIx_t2, vIx_t3, vIx_t4, vIx_t5, vEq_ss, vEq_ii, vEq_bb, vNe_ss, vNe_ii, vNe_bb, vLen_tup, truA_tup, truA_bl, vLe_ii, vLt_ii, vGt_ii, vGe_ii, vSub_ii, vAdd_ii, vAddI_ii, vNeg_i, isT_ss, isT_tt, isT_ii, isT_bi, isT_bb, isT_ib, gFld, ins_wr ok, lk_people, ix_pe (h := { h with room := h.room - 1 }) ok hx.1 hx.2, pe]
  have hl3 : ({ h with room := h.room - 1 } : Ha).rows.length < 4000000 := by have := c.ro; show h.rows.length < _; omega
  have s3 : q_Hall_hear_3 K Fo [some (.ob n), some (.int x), some (.int v), some (pAt h x), none, none] (wr (hC K) S n i { h with room := h.room - 1 } ++ E) = .nx [some (.ob n), some (.int x), some (.int v), some (pAt h x), none, none] (wr (hC K) S n i (({ h with room := h.room - 1 } : Ha).row (rHeard x t v)) ++ E) := by
    simp only [q_Hall_hear_3, wipeR, gVar, gC, gOp, gUn, gAnd, gOr, gNot, gIf, gNil, gCons, gTup, gLst, gCB, gChain, gSet, gExpr, gRet, gRetN, gPass, gBrk, gCt, gRaise, gIfS, gSeq, nName, nTup, setAll, gAsg, gCall, gTru, gNotT, gIsi, RE.bind_ok, RE.bind_exc, RE.bind_stuck, RE.bindA_ok, RE.bindS_ok, RE.bindS_exc, RE.bindT_ok, RE.bindTS_ok, RA.bind_ok, RA.bindA_ok, RE.nox_ok, RS.seq_nx, RS.seq_ret, RS.seq_exc, RS.seq_brk, RS.seq_ct, RS.seq_stuck, RE.bindA_exc, RE.bindA_stuck, RE.bindS_stuck, RE.bindT_exc, RE.bindT_stuck, RE.bindTS_exc, RE.bindTS_stuck, RA.bind_exc, RA.bind_stuck, RA.bindA_exc, RA.bindA_stuck, RE.nox_stuck, bind_ite, bindA_ite, bindS_ite, bindT_ite, bindTS_ite, nox_ite, seq_ite, startR, tyA_non, tyA_bl, tyA_int, tyA_str, tyA_tup, List.map_cons, List.map_nil, List.length_cons, List.length_nil, List.cons_append, List.nil_append, List.append_nil, List.getElem?_cons_zero, List.getElem?_cons_succ, List.set_cons_zero, List.set_cons_succ, vIx_t0, vIx_t1, vIx_t2, vIx_t3, vIx_t4, vIx_t5, vEq_ss, vEq_ii, vEq_bb, vNe_ss, vNe_ii, vNe_bb, vLen_tup, truA_tup, truA_bl, vLe_ii, vLt_ii, vGt_ii, vGe_ii, vSub_ii, vAdd_ii, vAddI_ii, vNeg_i, isT_ss, isT_tt, isT_ii, isT_bi, isT_bb, isT_ib, gFld, gMt, ins_wr ok, lk_rows, ty_ro ok, e, Nat.reduceAdd, Nat.reduceLeDiff, ↓reduceIte, app_ro ok _ hl3]
    rfl
  have hg : (({ h with room := h.room - 1 } : Ha).row (rHeard x t v)).gone.length < 4000000 := by
    have := gone_len w
    have := c.pe
    show h.gone.length < _
    omega
  have s4 : q_Hall_hear_4 K Fo [some (.ob n), some (.int x), some (.int v), some (pAt h x), none, none] (wr (hC K) S n i (({ h with room := h.room - 1 } : Ha).row (rHeard x t v)) ++ E) = .nx [some (.ob n), some (.int x), some (.int v), some (pAt h x), none, none] (wr (hC K) S n i (if hw = "once" then (({ h with room := h.room - 1 } : Ha).row (rHeard x t v)).go x else (({ h with room := h.room - 1 } : Ha).row (rHeard x t v))) ++ E) := by
    by_cases ho : hw = "once"
    · have hd4 : decide (hw = "once") = true := decide_eq_true ho
      rw [if_pos ho]
      simp only [q_Hall_hear_4, wipeR, gVar, gC, gOp, gUn, gAnd, gOr, gNot, gIf, gNil, gCons, gTup, gLst, gCB, gChain, gSet, gExpr, gRet, gRetN, gPass, gBrk, gCt, gRaise, gIfS, gSeq, nName, nTup, setAll, gAsg, gCall, gTru, gNotT, gIsi, RE.bind_ok, RE.bind_exc, RE.bind_stuck, RE.bindA_ok, RE.bindS_ok, RE.bindS_exc, RE.bindT_ok, RE.bindTS_ok, RA.bind_ok, RA.bindA_ok, RE.nox_ok, RS.seq_nx, RS.seq_ret, RS.seq_exc, RS.seq_brk, RS.seq_ct, RS.seq_stuck, RE.bindA_exc, RE.bindA_stuck, RE.bindS_stuck, RE.bindT_exc, RE.bindT_stuck, RE.bindTS_exc, RE.bindTS_stuck, RA.bind_exc, RA.bind_stuck, RA.bindA_exc, RA.bindA_stuck, RE.nox_stuck, bind_ite, bindA_ite, bindS_ite, bindT_ite, bindTS_ite, nox_ite, seq_ite, startR, tyA_non, tyA_bl, tyA_int, tyA_str, tyA_tup, List.map_cons, List.map_nil, List.length_cons, List.length_nil, List.cons_append, List.nil_append, List.append_nil, List.getElem?_cons_zero, List.getElem?_cons_succ, List.set_cons_zero, List.set_cons_succ, vIx_t0, vIx_t1, vIx_t2, vIx_t3, vIx_t4, vIx_t5, vEq_ss, vEq_ii, vEq_bb, vNe_ss, vNe_ii, vNe_bb, vLen_tup, truA_tup, truA_bl, vLe_ii, vLt_ii, vGt_ii, vGe_ii, vSub_ii, vAdd_ii, vAddI_ii, vNeg_i, isT_ss, isT_tt, isT_ii, isT_bi, isT_bb, isT_ib, gFld, gDput, ins_wr ok, lk_gone, e, hd4, ↓reduceIte, put_go ok x hg]
    · have hd4 : decide (hw = "once") = false := decide_eq_false ho
      rw [if_neg ho]
      simp only [q_Hall_hear_4, wipeR, gVar, gC, gOp, gUn, gAnd, gOr, gNot, gIf, gNil, gCons, gTup, gLst, gCB, gChain, gSet, gExpr, gRet, gRetN, gPass, gBrk, gCt, gRaise, gIfS, gSeq, nName, nTup, setAll, gAsg, gCall, gTru, gNotT, gIsi, RE.bind_ok, RE.bind_exc, RE.bind_stuck, RE.bindA_ok, RE.bindS_ok, RE.bindS_exc, RE.bindT_ok, RE.bindTS_ok, RA.bind_ok, RA.bindA_ok, RE.nox_ok, RS.seq_nx, RS.seq_ret, RS.seq_exc, RS.seq_brk, RS.seq_ct, RS.seq_stuck, RE.bindA_exc, RE.bindA_stuck, RE.bindS_stuck, RE.bindT_exc, RE.bindT_stuck, RE.bindTS_exc, RE.bindTS_stuck, RA.bind_exc, RA.bind_stuck, RA.bindA_exc, RA.bindA_stuck, RE.nox_stuck, bind_ite, bindA_ite, bindS_ite, bindT_ite, bindTS_ite, nox_ite, seq_ite, startR, tyA_non, tyA_bl, tyA_int, tyA_str, tyA_tup, List.map_cons, List.map_nil, List.length_cons, List.length_nil, List.cons_append, List.nil_append, List.append_nil, List.getElem?_cons_zero, List.getElem?_cons_succ, List.set_cons_zero, List.set_cons_succ, vIx_t0, vIx_t1, vIx_t2, vIx_t3, vIx_t4, vIx_t5, vEq_ss, vEq_ii, vEq_bb, vNe_ss, vNe_ii, vNe_bb, vLen_tup, truA_tup, truA_bl, vLe_ii, vLt_ii, vGt_ii, vGe_ii, vSub_ii, vAdd_ii, vAddI_ii, vNeg_i, isT_ss, isT_tt, isT_ii, isT_bi, isT_bb, isT_ib, e, hd4, ↓reduceIte, Bool.false_eq_true]
  have s5 : ∀ S', q_Hall_hear_5 K Fo [some (.ob n), some (.int x), some (.int v), some (pAt h x), none, none] S' = .nx [some (.ob n), some (.int x), some (.int v), some (pAt h x), some (.bl false), none] S' := fun S' => rfl
  have hh : heardH h x v = { (if hw = "once" then (({ h with room := h.room - 1 } : Ha).row (rHeard x t v)).go x else (({ h with room := h.room - 1 } : Ha).row (rHeard x t v))) with now := (if hw = "once" then (({ h with room := h.room - 1 } : Ha).row (rHeard x t v)).go x else (({ h with room := h.room - 1 } : Ha).row (rHeard x t v))).now ++ [.str t] } := by
    unfold heardH
    rw [et, ew]
  have hn6 : (if hw = "once" then (({ h with room := h.room - 1 } : Ha).row (rHeard x t v)).go x else (({ h with room := h.room - 1 } : Ha).row (rHeard x t v))).now.length < 4000000 := by
    have := c.n
    split <;> (show h.now.length < _; omega)
  have s6 : q_Hall_hear_6 K Fo [some (.ob n), some (.int x), some (.int v), some (pAt h x), some (.bl false), none] (wr (hC K) S n i (if hw = "once" then (({ h with room := h.room - 1 } : Ha).row (rHeard x t v)).go x else (({ h with room := h.room - 1 } : Ha).row (rHeard x t v))) ++ E) = .nx [some (.ob n), some (.int x), some (.int v), some (pAt h x), some (.bl false), none] (wr (hC K) S n i (heardH h x v) ++ E) := by
    rw [hh]
    simp only [q_Hall_hear_6, wipeR, gVar, gC, gOp, gUn, gAnd, gOr, gNot, gIf, gNil, gCons, gTup, gLst, gCB, gChain, gSet, gExpr, gRet, gRetN, gPass, gBrk, gCt, gRaise, gIfS, gSeq, nName, nTup, setAll, gAsg, gCall, gTru, gNotT, gIsi, RE.bind_ok, RE.bind_exc, RE.bind_stuck, RE.bindA_ok, RE.bindS_ok, RE.bindS_exc, RE.bindT_ok, RE.bindTS_ok, RA.bind_ok, RA.bindA_ok, RE.nox_ok, RS.seq_nx, RS.seq_ret, RS.seq_exc, RS.seq_brk, RS.seq_ct, RS.seq_stuck, RE.bindA_exc, RE.bindA_stuck, RE.bindS_stuck, RE.bindT_exc, RE.bindT_stuck, RE.bindTS_exc, RE.bindTS_stuck, RA.bind_exc, RA.bind_stuck, RA.bindA_exc, RA.bindA_stuck, RE.nox_stuck, bind_ite, bindA_ite, bindS_ite, bindT_ite, bindTS_ite, nox_ite, seq_ite, startR, tyA_non, tyA_bl, tyA_int, tyA_str, tyA_tup, List.map_cons, List.map_nil, List.length_cons, List.length_nil, List.cons_append, List.nil_append, List.append_nil, List.getElem?_cons_zero, List.getElem?_cons_succ, List.set_cons_zero, List.set_cons_succ, vIx_t0, vIx_t1, vIx_t2, vIx_t3, vIx_t4, vIx_t5, vEq_ss, vEq_ii, vEq_bb, vNe_ss, vNe_ii, vNe_bb, vLen_tup, truA_tup, truA_bl, vLe_ii, vLt_ii, vGt_ii, vGe_ii, vSub_ii, vAdd_ii, vAddI_ii, vNeg_i, isT_ss, isT_tt, isT_ii, isT_bi, isT_bb, isT_ib, gFld, gMt, ins_wr ok, lk_now, ty_no ok, e, ↓reduceIte, app_no ok _ hn6]
  rw [st]
  exact seq_step s0 (seq_step s1 (seq_step s2 (seq_step s3 (seq_step s4 (seq_step (s5 _) (seq_step s6 hz))))))
theorem e_hear {x v : Int} (ok : OkI S n i) (w : Wf h) (hr : h.room ≤ (r : Int) + 1) (hc : h.cut = false) (hx : 0 ≤ x ∧ x < (h.people.length : Int)) (hv : 0 ≤ v ∧ v ≤ 9999) (c : Cap 0 h)
    (hF : ∀ d h, Wf h → h.room ≤ (r : Int) → h.cut = false → (0 ≤ x ∧ x < (h.people.length : Int)) → isDeedW (isHr 2) d = true → Cap 1 h → Fo [.ob n, d, .int x, .int v] (wr (hC K) S n i h ++ E) = .ok (.bl (isStop d)) (wr (hC K) S n i (doW (hearH r) d x v h) ++ E)) :
    q_Hall_hear K Fo (startR N_Hall_hear.length [.ob n, .int x, .int v]) (wr (hC K) S n i h ++ E) = .ret (.bl (hearH (r + 1) h x v).1) (wr (hC K) S n i (hearH (r + 1) h x v).2 ++ E) := by
  by_cases h0 : h.room = 0
  · have e : hearH (r + 1) h x v = (true, h.cutIt) := by
      show hearW (hearH r) h x v = _
      unfold hearW
      rw [if_pos h0]
    rw [e]
    exact e_hear_cut ok h0 c
  · have h1 : 0 < h.room := by have := w.room; omega
    obtain ⟨w1, s1, m1, n1, p1, r1, c1⟩ := heard_ok (v := v) w h1 hx.1 hx.2
    obtain ⟨o, t, rk, hw, ts, ds, e, _, _, _, _, _, h6, h7⟩ := hr3_parts (pAt_hr w hx.1 hx.2)
    have ed : dsA (pAt h x) = ds := by rw [e]; rfl
    have c2 : Cap ds.length (heardH h x v) := ⟨by have := c.m; omega, by rw [n1, r1]; have := c.n; simp; omega⟩
    have hx2 : 0 ≤ x ∧ x < ((heardH h x v).people.length : Int) := by rw [p1]; exact hx
    obtain ⟨z', lp⟩ := e_hear_loop (K := K) (p := pAt h x) ok hF ds false (heardH h x v) none h7 w1 (by rw [r1]; omega) hx2 c2
    have s2 := ds_ok (v := v) (x := x) (hear_ok r) ds false (heardH h x v) h7 w1 (by rw [r1]; omega) hx.1 hx2.2
    have eh : hearH (r + 1) h x v = ((dsLoop (hearH r) x v ds false (heardH h x v)).1, { (dsLoop (hearH r) x v ds false (heardH h x v)).2 with now := (dsLoop (hearH r) x v ds false (heardH h x v)).2.now.dropLast }) := by
      show hearW (hearH r) h x v = _
      unfold hearW
      rw [if_neg h0, ed]
    have hnow : (dsLoop (hearH r) x v ds false (heardH h x v)).2.now = h.now ++ [.str (tpA (pAt h x))] := s2.now.trans n1
    rw [eh]
    refine e_hear_pre ok w h1 hx c ?_
    have s7 : q_Hall_hear_7 K Fo [some (.ob n), some (.int x), some (.int v), some (pAt h x), some (.bl false), none] (wr (hC K) S n i (heardH h x v) ++ E) = .nx [some (.ob n), some (.int x), some (.int v), some (pAt h x), some (.bl (dsLoop (hearH r) x v ds false (heardH h x v)).1), z'] (wr (hC K) S n i (dsLoop (hearH r) x v ds false (heardH h x v)).2 ++ E) := by
      rw [← lp]
      simp only [q_Hall_hear_7, gFor, gIT, gOp, gVar, gC, List.getElem?_cons_zero, List.getElem?_cons_succ, RE.bind_ok, e, vIx_t5, RE.nox_ok]
    refine seq_step s7 ?_
    have s8 : q_Hall_hear_8 K Fo [some (.ob n), some (.int x), some (.int v), some (pAt h x), some (.bl (dsLoop (hearH r) x v ds false (heardH h x v)).1), z'] (wr (hC K) S n i (dsLoop (hearH r) x v ds false (heardH h x v)).2 ++ E) = .nx [some (.ob n), some (.int x), some (.int v), some (pAt h x), some (.bl (dsLoop (hearH r) x v ds false (heardH h x v)).1), z'] (wr (hC K) S n i { (dsLoop (hearH r) x v ds false (heardH h x v)).2 with now := h.now } ++ E) := by
      simp only [q_Hall_hear_8, wipeR, gVar, gC, gOp, gUn, gAnd, gOr, gNot, gIf, gNil, gCons, gTup, gLst, gCB, gChain, gSet, gExpr, gRet, gRetN, gPass, gBrk, gCt, gRaise, gIfS, gSeq, nName, nTup, setAll, gAsg, gCall, gTru, gNotT, gIsi, RE.bind_ok, RE.bind_exc, RE.bind_stuck, RE.bindA_ok, RE.bindS_ok, RE.bindS_exc, RE.bindT_ok, RE.bindTS_ok, RA.bind_ok, RA.bindA_ok, RE.nox_ok, RS.seq_nx, RS.seq_ret, RS.seq_exc, RS.seq_brk, RS.seq_ct, RS.seq_stuck, RE.bindA_exc, RE.bindA_stuck, RE.bindS_stuck, RE.bindT_exc, RE.bindT_stuck, RE.bindTS_exc, RE.bindTS_stuck, RA.bind_exc, RA.bind_stuck, RA.bindA_exc, RA.bindA_stuck, RE.nox_stuck, bind_ite, bindA_ite, bindS_ite, bindT_ite, bindTS_ite, nox_ite, seq_ite, startR, tyA_non, tyA_bl, tyA_int, tyA_str, tyA_tup, List.map_cons, List.map_nil, List.length_cons, List.length_nil, List.cons_append, List.nil_append, List.append_nil, List.getElem?_cons_zero, List.getElem?_cons_succ, List.set_cons_zero, List.set_cons_succ, vIx_t0, vIx_t1, vIx_t2, vIx_t3, vIx_t4, vIx_t5, vEq_ss, vEq_ii, vEq_bb, vNe_ss, vNe_ii, vNe_bb, vLen_tup, truA_tup, truA_bl, vLe_ii, vLt_ii, vGt_ii, vGe_ii, vSub_ii, vAdd_ii, vAddI_ii, vNeg_i, isT_ss, isT_tt, isT_ii, isT_bi, isT_bb, isT_ib, gFld, gMt, ins_wr ok, lk_now, ty_no ok, ↓reduceIte, pop_no ok hnow]
    refine seq_step s8 ?_
    have : (dsLoop (hearH r) x v ds false (heardH h x v)).2.now.dropLast = h.now := by rw [hnow]; simp
    rw [this]
    rfl
end
end
end Sx.My

set_option Elab.async false
set_option linter.all false
set_option maxRecDepth 100000
set_option maxHeartbeats 4000000
namespace Sx.My
open PySem PySem.Spec PyProof.Rows L2
noncomputable section
variable {P : Program} {w : World} {K : Frg} {mg : Str → Option Value} {base : Heap}
def q_Hall_do_0 (K : Frg) (Fs Fc : List A → Sto → RE) : GS :=
  gIfS (gOp vEq (gOp vIx (gVar 1) (gC (.int 0))) (gC (.str "tell"))) (gExpr (gMeth (He.ga K "Hall") "spread" (Fs) (gVar 0) (gCons (gOp vIx (gVar 1) (gC (.int 1))) (gCons (gOp vMod (gOp vAdd (gVar 3) (gOp vIx (gVar 1) (gC (.int 2)))) (gOp vAdd (gC (.int 9999)) (gC (.int 1)))) (gNil))))) (gPass)
def q_Hall_do_1 (K : Frg) (Fs Fc : List A → Sto → RE) : GS :=
  gIfS (gOp vEq (gOp vIx (gVar 1) (gC (.int 0))) (gC (.str "join"))) (gExpr (gMeth (He.ga K "Hall") "come" (Fc) (gVar 0) (gCons (gOp vIx (gVar 1) (gC (.int 1))) (gNil)))) (gPass)
def q_Hall_do_2 (K : Frg) (Fs Fc : List A → Sto → RE) : GS :=
  gIfS (gOp vEq (gOp vIx (gVar 1) (gC (.int 0))) (gC (.str "leave"))) (gExpr (gMeth (He.ga K "Hall") "drop_all" (F_Hall_drop_all K) (gVar 0) (gCons (gOp vIx (gVar 1) (gC (.int 1))) (gNil)))) (gPass)
def q_Hall_do_3 (K : Frg) (Fs Fc : List A → Sto → RE) : GS :=
  gIfS (gOp vEq (gOp vIx (gVar 1) (gC (.int 0))) (gC (.str "done"))) (gDput (gFld (He.ga K "Hall") "gone" (gVar 0)) (gVar 2) (gC (.bl true))) (gPass)
def q_Hall_do_4 (K : Frg) (Fs Fc : List A → Sto → RE) : GS :=
  gRet (gOp vEq (gOp vIx (gVar 1) (gC (.int 0))) (gC (.str "stop")))
def q_Hall_do (K : Frg) (Fs Fc : List A → Sto → RE) : GS :=
  gSeq (q_Hall_do_0 K Fs Fc) (gSeq (q_Hall_do_1 K Fs Fc) (gSeq (q_Hall_do_2 K Fs Fc) (gSeq (q_Hall_do_3 K Fs Fc) (q_Hall_do_4 K Fs Fc))))
theorem sb_Hall_do {P : Program} {w : World} {K : Frg} {mg : Str → Option Value} {base : Heap} (t : TT K mg base) {d ds dc : Nat} {Fs Fc : List A → Sto → RE} (oks : FnR P w K mg base ds (He.ma K (He.ga K "Hall") "spread") t.f_Hall_spread P_Hall_spread (spF K (tbs K) Fs)) (okc : FnR P w K mg base dc (He.ma K (He.ga K "Hall") "come") t.f_Hall_come P_Hall_come (spF K (tbs K) Fc)) (hds : ds ≤ d) (hdc : dc ≤ d) (hd1 : 1 ≤ d) {cdv : Value} {A : Around} {outer : List Env} {s : Shared} {H : Hp} {E : XK} (hr : Rm d (A.deeper (envOfC "Hall.do" (defScope Hd.s_Hall_do) s.heap.objs.size (He.ma K (He.ga K "Hall") "do") cdv))) :
    SB (cxOf (L2.CX P w) P w K mg base N_Hall_do "Hall.do" (defScope Hd.s_Hall_do) (He.ma K (He.ga K "Hall") "do") cdv A outer s H E) (tbs K) (fun c d _ H2 => E c d H2) (defBody Hd.s_Hall_do) (q_Hall_do K Fs Fc) := by
  have nd : N_Hall_do.Nodup := sc_Hall_do.nd
  have hp := passes_of (X := cxOf (L2.CX P w) P w K mg base N_Hall_do "Hall.do" (defScope Hd.s_Hall_do) (He.ma K (He.ga K "Hall") "do") cdv A outer s H E) (K := fun e s2 => L2.CX P w outer H s E e s2) (E₁ := fun e s2 => L2.CX P w outer H s E e s2) rfl
  have tk : Takes (cxOf (L2.CX P w) P w K mg base N_Hall_do "Hall.do" (defScope Hd.s_Hall_do) (He.ma K (He.ga K "Hall") "do") cdv A outer s H E) (fun c d _ H2 => E c d H2) := takes_of rfl rfl rfl rfl
  exact (sb_cons (ss_if (st_cmp (os_eq hr.units) (se_ix is_ix (se_var' (pv 1)) se_int (fun _ _ => rfl)) se_str (nomark _)) (sb_one (ss_expr (se_meth (se_var' (pv 0)) t.c_Hall t.t_Hall_spread (oks) (hr.mono (by omega)) (b_Hall_spread t) tk (sa_cons (se_ix is_ix (se_var' (pv 1)) se_int (fun _ _ => rfl)) (sa_cons (se_op os_mod (se_op os_add (se_var' (pv 3)) (se_ix is_ix (se_var' (pv 1)) se_int (fun _ _ => rfl))) (se_op os_add (se_c' (pe_glob (v := .int 9999) rfl t.m_MOST_VALUE.choose_spec ⟨_, rfl⟩) (fun _ _ => .int _)) se_int)) sa_nil))))) sb_nil)
  (sb_cons (ss_if (st_cmp (os_eq hr.units) (se_ix is_ix (se_var' (pv 1)) se_int (fun _ _ => rfl)) se_str (nomark _)) (sb_one (ss_expr (se_meth (se_var' (pv 0)) t.c_Hall t.t_Hall_come (okc) (hr.mono (by omega)) (b_Hall_come t) tk (sa_cons (se_ix is_ix (se_var' (pv 1)) se_int (fun _ _ => rfl)) sa_nil)))) sb_nil)
  (sb_cons (ss_if (st_cmp (os_eq hr.units) (se_ix is_ix (se_var' (pv 1)) se_int (fun _ _ => rfl)) se_str (nomark _)) (sb_one (ss_expr (se_meth (se_var' (pv 0)) t.c_Hall t.t_Hall_drop_all (ok_Hall_drop_all t) (hr.mono (by omega)) (b_Hall_drop_all t) tk (sa_cons (se_ix is_ix (se_var' (pv 1)) se_int (fun _ _ => rfl)) sa_nil)))) sb_nil)
  (sb_cons (ss_if (st_cmp (os_eq hr.units) (se_ix is_ix (se_var' (pv 1)) se_int (fun _ _ => rfl)) se_str (nomark _)) (sb_one (ss_dput hr.units (se_fld t.c_Hall t.a_Hall_gone (se_var' (pv 0))) (se_var' (pv 2)) se_bl)) sb_nil)
  (sb_one (ss_ret (se_cmp (os_eq hr.units) (se_ix is_ix (se_var' (pv 1)) se_int (fun _ _ => rfl)) se_str (nomark _))))))))

section
variable {r : Nat} {S E : Sto} {n : Nat} {i : Ids} {h : Ha} {Fs Fc : List A → Sto → RE}
theorem e_do {d : A} {x v : Int} (ok : OkI S n i) (w : Wf h) (hr : h.room ≤ (r : Int)) (hc : h.cut = false) (hx : 0 ≤ x ∧ x < (h.people.length : Int)) (hd : isDeedW (isHr 2) d = true) (c : Cap 1 h)
    (hs : ∀ t v, isWordS t = true → (0 ≤ v ∧ v ≤ 9999) → Fs [.ob n, .str t, .int v] (wr (hC K) S n i h ++ E) = .ok .non (wr (hC K) S n i (spreadW (hearH r) h t v) ++ E))
    (hcm : ∀ p, isHr 3 p = true → Fc [.ob n, p] (wr (hC K) S n i h ++ E) = .ok (.int h.people.length) (wr (hC K) S n i (comeW (hearH r) h p) ++ E)) :
    q_Hall_do K Fs Fc (startR N_Hall_do.length [.ob n, d, .int x, .int v]) (wr (hC K) S n i h ++ E) = .ret (.bl (isStop d)) (wr (hC K) S n i (doW (hearH r) d x v h) ++ E) := by
  have l1 : ∀ h, ((flds i h).lookup ("spread" : Str)).isNone = true := fun h => by rw [(lk_m i h).2.1]; rfl
  have l2 : ∀ h, ((flds i h).lookup ("come" : Str)).isNone = true := fun h => by rw [(lk_m i h).2.2.1]; rfl
  have l3 : ∀ h, ((flds i h).lookup ("drop_all" : Str)).isNone = true := fun h => by rw [(lk_m i h).2.2.2.2.2.1]; rfl
  have hg : h.gone.length < 4000000 := by have := gone_len w; have := c.pe; omega
  rcases deed_cases hd with (e | e) | ⟨t, j, e, ht, j0, j1⟩ | ⟨o, e, ho⟩ | ⟨p, e, hp⟩ <;> subst e
  · rw [do_stop]
    simp only [q_Hall_do, q_Hall_do_0, q_Hall_do_1, q_Hall_do_2, q_Hall_do_3, q_Hall_do_4, wipeR, gVar, gC, gOp, gUn, gAnd, gOr, gNot, gIf, gNil, gCons, gTup, gLst, gCB, gChain, gSet, gExpr, gRet, gRetN, gPass, gBrk, gCt, gRaise, gIfS, gSeq, nName, nTup, setAll, gAsg, gCall, gTru, gNotT, gIsi, RE.bind_ok, RE.bind_exc, RE.bind_stuck, RE.bindA_ok, RE.bindS_ok, RE.bindS_exc, RE.bindT_ok, RE.bindTS_ok, RA.bind_ok, RA.bindA_ok, RE.nox_ok, RS.seq_nx, RS.seq_ret, RS.seq_exc, RS.seq_brk, RS.seq_ct, RS.seq_stuck, RE.bindA_exc, RE.bindA_stuck, RE.bindS_stuck, RE.bindT_exc, RE.bindT_stuck, RE.bindTS_exc, RE.bindTS_stuck, RA.bind_exc, RA.bind_stuck, RA.bindA_exc, RA.bindA_stuck, RE.nox_stuck, bind_ite, bindA_ite, bindS_ite, bindT_ite, bindTS_ite, nox_ite, seq_ite, startR, tyA_non, tyA_bl, tyA_int, tyA_str, tyA_tup, List.map_cons, List.map_nil, List.length_cons, List.length_nil, List.cons_append, List.nil_append, List.append_nil, List.getElem?_cons_zero, List.getElem?_cons_succ, List.set_cons_zero, List.set_cons_succ, vIx_t0, vIx_t1, vIx_t2, vIx_t3, vIx_t4, vIx_t5, vEq_ss, vEq_ii, vEq_bb, vNe_ss, vNe_ii, vNe_bb, vLen_tup, truA_tup, truA_bl, vLe_ii, vLt_ii, vGt_ii, vGe_ii, vSub_ii, vAdd_ii, vAddI_ii, vNeg_i, isT_ss, isT_tt, isT_ii, isT_bi, isT_bb, isT_ib, dk_stop_stop, dk_stop_tell, dk_stop_join, dk_stop_leave, dk_stop_done, Bool.false_eq_true, ↓reduceIte, List.replicate, Nat.reduceAdd, Nat.reduceSub, isStop]
  · rw [do_done]
    simp only [q_Hall_do, q_Hall_do_0, q_Hall_do_1, q_Hall_do_2, q_Hall_do_3, q_Hall_do_4, wipeR, gVar, gC, gOp, gUn, gAnd, gOr, gNot, gIf, gNil, gCons, gTup, gLst, gCB, gChain, gSet, gExpr, gRet, gRetN, gPass, gBrk, gCt, gRaise, gIfS, gSeq, nName, nTup, setAll, gAsg, gCall, gTru, gNotT, gIsi, RE.bind_ok, RE.bind_exc, RE.bind_stuck, RE.bindA_ok, RE.bindS_ok, RE.bindS_exc, RE.bindT_ok, RE.bindTS_ok, RA.bind_ok, RA.bindA_ok, RE.nox_ok, RS.seq_nx, RS.seq_ret, RS.seq_exc, RS.seq_brk, RS.seq_ct, RS.seq_stuck, RE.bindA_exc, RE.bindA_stuck, RE.bindS_stuck, RE.bindT_exc, RE.bindT_stuck, RE.bindTS_exc, RE.bindTS_stuck, RA.bind_exc, RA.bind_stuck, RA.bindA_exc, RA.bindA_stuck, RE.nox_stuck, bind_ite, bindA_ite, bindS_ite, bindT_ite, bindTS_ite, nox_ite, seq_ite, startR, tyA_non, tyA_bl, tyA_int, tyA_str, tyA_tup, List.map_cons, List.map_nil, List.length_cons, List.length_nil, List.cons_append, List.nil_append, List.append_nil, List.getElem?_cons_zero, List.getElem?_cons_succ, List.set_cons_zero, List.set_cons_succ, vIx_t0, vIx_t1, vIx_t2, vIx_t3, vIx_t4, vIx_t5, vEq_ss, vEq_ii, vEq_bb, vNe_ss, vNe_ii, vNe_bb, vLen_tup, truA_tup, truA_bl, vLe_ii, vLt_ii, vGt_ii, vGe_ii, vSub_ii, vAdd_ii, vAddI_ii, vNeg_i, isT_ss, isT_tt, isT_ii, isT_bi, isT_bb, isT_ib, decide_true, dk_done_stop, dk_done_tell, dk_done_join, dk_done_leave, dk_done_done, Bool.false_eq_true, ↓reduceIte, List.replicate, Nat.reduceAdd, Nat.reduceSub, isStop, gDput, gFld, ins_wr ok, lk_gone, put_go ok x hg]
  · rw [do_tell]
    obtain ⟨a, b⟩ := emod_lt' (a := v + j) (b := 10000) (by decide)
    have m1 : ∀ a S, vMod (.int a) (.int (9999 + 1)) S = .ok (.int (a % 10000)) S := fun a S => vMod_pos _ _ _ (by decide)
    have e1 := hs t ((v + j) % 10000) ht ⟨a, by omega⟩
    simp only [q_Hall_do, q_Hall_do_0, q_Hall_do_1, q_Hall_do_2, q_Hall_do_3, q_Hall_do_4, wipeR, gVar, gC, gOp, gUn, gAnd, gOr, gNot, gIf, gNil, gCons, gTup, gLst, gCB, gChain, gSet, gExpr, gRet, gRetN, gPass, gBrk, gCt, gRaise, gIfS, gSeq, nName, nTup, setAll, gAsg, gCall, gTru, gNotT, gIsi, RE.bind_ok, RE.bind_exc, RE.bind_stuck, RE.bindA_ok, RE.bindS_ok, RE.bindS_exc, RE.bindT_ok, RE.bindTS_ok, RA.bind_ok, RA.bindA_ok, RE.nox_ok, RS.seq_nx, RS.seq_ret, RS.seq_exc, RS.seq_brk, RS.seq_ct, RS.seq_stuck, RE.bindA_exc, RE.bindA_stuck, RE.bindS_stuck, RE.bindT_exc, RE.bindT_stuck, RE.bindTS_exc, RE.bindTS_stuck, RA.bind_exc, RA.bind_stuck, RA.bindA_exc, RA.bindA_stuck, RE.nox_stuck, bind_ite, bindA_ite, bindS_ite, bindT_ite, bindTS_ite, nox_ite, seq_ite, startR, tyA_non, tyA_bl, tyA_int, tyA_str, tyA_tup, List.map_cons, List.map_nil, List.length_cons, List.length_nil, List.cons_append, List.nil_append, List.append_nil, List.getElem?_cons_zero, List.getElem?_cons_succ, List.set_cons_zero, List.set_cons_succ, vIx_t0, vIx_t1, vIx_t2, vIx_t3, vIx_t4, vIx_t5, vEq_ss, vEq_ii, vEq_bb, vNe_ss, vNe_ii, vNe_bb, vLen_tup, truA_tup, truA_bl, vLe_ii, vLt_ii, vGt_ii, vGe_ii, vSub_ii, vAdd_ii, vAddI_ii, vNeg_i, isT_ss, isT_tt, isT_ii, isT_bi, isT_bb, isT_ib, decide_true, dk_tell_stop, dk_tell_tell, dk_tell_join, dk_tell_leave, dk_tell_done, Bool.false_eq_true, ↓reduceIte, List.replicate, Nat.reduceAdd, Nat.reduceSub, isStop, gMeth, ins_wr ok, l1, m1, e1]
  · rw [do_leave]
    simp only [q_Hall_do, q_Hall_do_0, q_Hall_do_1, q_Hall_do_2, q_Hall_do_3, q_Hall_do_4, wipeR, gVar, gC, gOp, gUn, gAnd, gOr, gNot, gIf, gNil, gCons, gTup, gLst, gCB, gChain, gSet, gExpr, gRet, gRetN, gPass, gBrk, gCt, gRaise, gIfS, gSeq, nName, nTup, setAll, gAsg, gCall, gTru, gNotT, gIsi, RE.bind_ok, RE.bind_exc, RE.bind_stuck, RE.bindA_ok, RE.bindS_ok, RE.bindS_exc, RE.bindT_ok, RE.bindTS_ok, RA.bind_ok, RA.bindA_ok, RE.nox_ok, RS.seq_nx, RS.seq_ret, RS.seq_exc, RS.seq_brk, RS.seq_ct, RS.seq_stuck, RE.bindA_exc, RE.bindA_stuck, RE.bindS_stuck, RE.bindT_exc, RE.bindT_stuck, RE.bindTS_exc, RE.bindTS_stuck, RA.bind_exc, RA.bind_stuck, RA.bindA_exc, RA.bindA_stuck, RE.nox_stuck, bind_ite, bindA_ite, bindS_ite, bindT_ite, bindTS_ite, nox_ite, seq_ite, startR, tyA_non, tyA_bl, tyA_int, tyA_str, tyA_tup, List.map_cons, List.map_nil, List.length_cons, List.length_nil, List.cons_append, List.nil_append, List.append_nil, List.getElem?_cons_zero, List.getElem?_cons_succ, List.set_cons_zero, List.set_cons_succ, vIx_t0, vIx_t1, vIx_t2, vIx_t3, vIx_t4, vIx_t5, vEq_ss, vEq_ii, vEq_bb, vNe_ss, vNe_ii, vNe_bb, vLen_tup, truA_tup, truA_bl, vLe_ii, vLt_ii, vGt_ii, vGe_ii, vSub_ii, vAdd_ii, vAddI_ii, vNeg_i, isT_ss, isT_tt, isT_ii, isT_bi, isT_bb, isT_ib, decide_true, dk_leave_stop, dk_leave_tell, dk_leave_join, dk_leave_leave, dk_leave_done, Bool.false_eq_true, ↓reduceIte, List.replicate, Nat.reduceAdd, Nat.reduceSub, isStop, gMeth, ins_wr ok, l3, F_drop_at ok w c.pe]
  · rw [do_join]
    have e1 := hcm p (isHr_succ hp)
    simp only [q_Hall_do, q_Hall_do_0, q_Hall_do_1, q_Hall_do_2, q_Hall_do_3, q_Hall_do_4, wipeR, gVar, gC, gOp, gUn, gAnd, gOr, gNot, gIf, gNil, gCons, gTup, gLst, gCB, gChain, gSet, gExpr, gRet, gRetN, gPass, gBrk, gCt, gRaise, gIfS, gSeq, nName, nTup, setAll, gAsg, gCall, gTru, gNotT, gIsi, RE.bind_ok, RE.bind_exc, RE.bind_stuck, RE.bindA_ok, RE.bindS_ok, RE.bindS_exc, RE.bindT_ok, RE.bindTS_ok, RA.bind_ok, RA.bindA_ok, RE.nox_ok, RS.seq_nx, RS.seq_ret, RS.seq_exc, RS.seq_brk, RS.seq_ct, RS.seq_stuck, RE.bindA_exc, RE.bindA_stuck, RE.bindS_stuck, RE.bindT_exc, RE.bindT_stuck, RE.bindTS_exc, RE.bindTS_stuck, RA.bind_exc, RA.bind_stuck, RA.bindA_exc, RA.bindA_stuck, RE.nox_stuck, bind_ite, bindA_ite, bindS_ite, bindT_ite, bindTS_ite, nox_ite, seq_ite, startR, tyA_non, tyA_bl, tyA_int, tyA_str, tyA_tup, List.map_cons, List.map_nil, List.length_cons, List.length_nil, List.cons_append, List.nil_append, List.append_nil, List.getElem?_cons_zero, List.getElem?_cons_succ, List.set_cons_zero, List.set_cons_succ, vIx_t0, vIx_t1, vIx_t2, vIx_t3, vIx_t4, vIx_t5, vEq_ss, vEq_ii, vEq_bb, vNe_ss, vNe_ii, vNe_bb, vLen_tup, truA_tup, truA_bl, vLe_ii, vLt_ii, vGt_ii, vGe_ii, vSub_ii, vAdd_ii, vAddI_ii, vNeg_i, isT_ss, isT_tt, isT_ii, isT_bi, isT_bb, isT_ib, decide_true, dk_join_stop, dk_join_tell, dk_join_join, dk_join_leave, dk_join_done, Bool.false_eq_true, ↓reduceIte, List.replicate, Nat.reduceAdd, Nat.reduceSub, isStop, gMeth, ins_wr ok, l2, e1]
end
def q_Hall_spread_0 (K : Frg) (Fh : List A → Sto → RE) : GS :=
  gIfS (gOp vIn (gVar 1) (gFld (He.ga K "Hall") "now" (gVar 0))) (gSeq (gExpr (gMt "list" vAppend (gFld (He.ga K "Hall") "rows" (gVar 0)) (gCons (gTup (gCons (gC (.str "ring")) (gCons (gCB vTuple (gCons (gOp vAdd (gSlice (gFld (He.ga K "Hall") "now" (gVar 0)) (pSome (gMt "list" vIndex (gFld (He.ga K "Hall") "now" (gVar 0)) (gCons (gVar 1) (gNil)))) (pNone)) (gLst (gCons (gVar 1) (gNil)))) (gNil))) (gNil)))) (gNil))))
  (gRetN)) (gPass)
def q_Hall_spread_1 (K : Frg) (Fh : List A → Sto → RE) : GS :=
  gIfS (gOp vIn (gVar 1) (gFld (He.ga K "Hall") "kept" (gVar 0))) (gDput (gFld (He.ga K "Hall") "lasts" (gVar 0)) (gVar 1) (gVar 2)) (gPass)
def q_Hall_spread_2 (K : Frg) (Fh : List A → Sto → RE) : GS :=
  gFor (gIL (gMeth (He.ga K "Hall") "order" (F_Hall_order K) (gVar 0) (gCons (gVar 1) (gNil)))) (nName 3)
  (gIfS (gAnd (gOp vDnotin (gVar 3) (gFld (He.ga K "Hall") "gone" (gVar 0))) (gAnd (gNot (gTru (gFld (He.ga K "Hall") "cut" (gVar 0)))) (gCall (F_is_fit K) (gCons (gOp vIx (gOp vIx (gFld (He.ga K "Hall") "people" (gVar 0)) (gVar 3)) (gC (.int 4))) (gCons (gVar 2) (gNil)))))) (gIfS (gTru (gMeth (He.ga K "Hall") "hear" (Fh) (gVar 0) (gCons (gVar 3) (gCons (gVar 2) (gNil))))) (gRetN) (gPass)) (gPass))
def q_Hall_spread (K : Frg) (Fh : List A → Sto → RE) : GS :=
  gSeq (q_Hall_spread_0 K Fh) (gSeq (q_Hall_spread_1 K Fh) (q_Hall_spread_2 K Fh))
theorem sb_Hall_spread {P : Program} {w : World} {K : Frg} {mg : Str → Option Value} {base : Heap} (t : TT K mg base) {d dh : Nat} {Fh : List A → Sto → RE} (okh : FnR P w K mg base dh (He.ma K (He.ga K "Hall") "hear") t.f_Hall_hear P_Hall_hear (spF K (tbs K) Fh)) (hdh : dh ≤ d) (hd3 : 3 ≤ d) {cdv : Value} {A : Around} {outer : List Env} {s : Shared} {H : Hp} {E : XK} (hr : Rm d (A.deeper (envOfC "Hall.spread" (defScope Hd.s_Hall_spread) s.heap.objs.size (He.ma K (He.ga K "Hall") "spread") cdv))) :
    SB (cxOf (L2.CX P w) P w K mg base N_Hall_spread "Hall.spread" (defScope Hd.s_Hall_spread) (He.ma K (He.ga K "Hall") "spread") cdv A outer s H E) (tbs K) (fun c d _ H2 => E c d H2) (defBody Hd.s_Hall_spread) (q_Hall_spread K Fh) := by
  have nd : N_Hall_spread.Nodup := sc_Hall_spread.nd
  have hp := passes_of (X := cxOf (L2.CX P w) P w K mg base N_Hall_spread "Hall.spread" (defScope Hd.s_Hall_spread) (He.ma K (He.ga K "Hall") "spread") cdv A outer s H E) (K := fun e s2 => L2.CX P w outer H s E e s2) (E₁ := fun e s2 => L2.CX P w outer H s E e s2) rfl
  have tk : Takes (cxOf (L2.CX P w) P w K mg base N_Hall_spread "Hall.spread" (defScope Hd.s_Hall_spread) (He.ma K (He.ga K "Hall") "spread") cdv A outer s H E) (fun c d _ H2 => E c d H2) := takes_of rfl rfl rfl rfl
  exact (sb_cons (ss_if (st_cmp os_in (se_var' (pv 1)) (se_fld t.c_Hall t.a_Hall_now (se_var' (pv 0))) (by rfl)) (sb_cons (ss_expr (se_bm PySem.F.plainAttrs_list PySem.F.slot_list_append PySem.F.type_list_append ms_append (se_fld t.c_Hall t.a_Hall_rows (se_var' (pv 0))) (sa_cons (se_tup (sa_cons se_str (sa_cons (se_callTy cs_tuple (by rfl) t.n_tuple (by decide +kernel) (sa_cons (se_op os_add (se_slice (se_fld t.c_Hall t.a_Hall_now (se_var' (pv 0))) (so_some (se_bm PySem.F.plainAttrs_list PySem.F.slot_list_index PySem.F.type_list_index ms_index (se_fld t.c_Hall t.a_Hall_now (se_var' (pv 0))) (sa_cons (se_var' (pv 1)) sa_nil))) so_none) (se_lst (sa_cons (se_var' (pv 1)) sa_nil))) sa_nil)) sa_nil))) sa_nil)))
  (sb_one ss_retN)) sb_nil)
  (sb_cons (ss_if (st_cmp os_in (se_var' (pv 1)) (se_fld t.c_Hall t.a_Hall_kept (se_var' (pv 0))) (by rfl)) (sb_one (ss_dput hr.units (se_fld t.c_Hall t.a_Hall_lasts (se_var' (pv 0))) (se_var' (pv 1)) (se_var' (pv 2)))) sb_nil)
  (sb_one (ss_for hp rfl (si_list (se_meth (se_var' (pv 0)) t.c_Hall t.t_Hall_order (ok_Hall_order t) (hr.mono (by omega)) (b_Hall_order t) tk (sa_cons (se_var' (pv 1)) sa_nil))) (sg_name (i := 3) nd rfl (Or.inl rfl))
  (sb_one (ss_if (st_w (sw_and (st_dnotin hr.units (se_var' (pv 3)) (se_fld t.c_Hall t.a_Hall_gone (se_var' (pv 0)))) (sw_and (st_not (st_truth (se_fld t.c_Hall t.a_Hall_cut (se_var' (pv 0))))) (sw_and1 (st_val (se_call (ok_is_fit t) (hr.mono (by omega)) t.m_is_fit t.D_is_fit.kp (b_is_fit t) tk (sa_cons (se_ix is_ix (se_ix is_ix (se_fld t.c_Hall t.a_Hall_people (se_var' (pv 0))) (se_var' (pv 3)) (fun _ _ => rfl)) se_int (fun _ _ => rfl)) (sa_cons (se_var' (pv 2)) sa_nil)))))))) (sb_one (ss_if (st_truth (se_meth (se_var' (pv 0)) t.c_Hall t.t_Hall_hear (okh) (hr.mono (by omega)) (b_Hall_hear t) tk (sa_cons (se_var' (pv 3)) (sa_cons (se_var' (pv 2)) sa_nil)))) (sb_one ss_retN) sb_nil)) sb_nil))))))

section
variable {r : Nat} {S E : Sto} {n : Nat} {i : Ids} {h : Ha} {Fh : List A → Sto → RE}
theorem e_spread_loop {t : Str} {v : Int} {d : Nat} {xs : List A} (ok : OkI S n i) (hv : 0 ≤ v ∧ v ≤ 9999) (hd : ∀ h', itemsAt (wr (hC K) S n i h' ++ E) d = some xs)
    (hF : ∀ x h, Wf h → h.room ≤ (r : Int) → h.cut = false → (0 ≤ x ∧ x < (h.people.length : Int)) → Cap 0 h → Fh [.ob n, .int x, .int v] (wr (hC K) S n i h ++ E) = .ok (.bl (hearH r h x v).1) (wr (hC K) S n i (hearH r h x v).2 ++ E)) :
    ∀ (l : List Int) (h : Ha) (z : Option A), Wf h → h.room ≤ (r : Int) → (∀ x ∈ l, 0 ≤ x ∧ x < (h.people.length : Int)) → Cap 0 h →
    (∃ z', forGo (okAt d xs) (nName 3) (gIfS (gAnd (gOp vDnotin (gVar 3) (gFld (He.ga K "Hall") "gone" (gVar 0))) (gAnd (gNot (gTru (gFld (He.ga K "Hall") "cut" (gVar 0)))) (gCall (F_is_fit K) (gCons (gOp vIx (gOp vIx (gFld (He.ga K "Hall") "people" (gVar 0)) (gVar 3)) (gC (.int 4))) (gCons (gVar 2) (gNil)))))) (gIfS (gTru (gMeth (He.ga K "Hall") "hear" (Fh) (gVar 0) (gCons (gVar 3) (gCons (gVar 2) (gNil))))) (gRetN) (gPass)) (gPass)) (l.map .int) [some (.ob n), some (.str t), some (.int v), z] (wr (hC K) S n i h ++ E) = .nx [some (.ob n), some (.str t), some (.int v), z'] (wr (hC K) S n i (spLoop (hearH r) v l h) ++ E)) ∨
    forGo (okAt d xs) (nName 3) (gIfS (gAnd (gOp vDnotin (gVar 3) (gFld (He.ga K "Hall") "gone" (gVar 0))) (gAnd (gNot (gTru (gFld (He.ga K "Hall") "cut" (gVar 0)))) (gCall (F_is_fit K) (gCons (gOp vIx (gOp vIx (gFld (He.ga K "Hall") "people" (gVar 0)) (gVar 3)) (gC (.int 4))) (gCons (gVar 2) (gNil)))))) (gIfS (gTru (gMeth (He.ga K "Hall") "hear" (Fh) (gVar 0) (gCons (gVar 3) (gCons (gVar 2) (gNil))))) (gRetN) (gPass)) (gPass)) (l.map .int) [some (.ob n), some (.str t), some (.int v), z] (wr (hC K) S n i h ++ E) = .ret .non (wr (hC K) S n i (spLoop (hearH r) v l h) ++ E)
  | [], h, z, w, hr, hl, c => .inl ⟨z, by
    have hk : okAt d xs (wr (hC K) S n i h ++ E) = true := okAt_iff.mpr (hd h)
    simp only [List.map_nil, forGo, hk, ↓reduceIte, spLoop]⟩
  | x :: l, h, z, w, hr, hl, c => by
    have hk : okAt d xs (wr (hC K) S n i h ++ E) = true := okAt_iff.mpr (hd h)
    have hx := hl x (by simp)
    obtain ⟨o, tp, rk, hw, ts, ds, e, _, _, _, _, p5, _⟩ := hr3_parts (pAt_hr w hx.1 hx.2)
    have et : tsA (pAt h x) = ts := by rw [e]; rfl
    have ft : ∀ S', F_is_fit K [ts, .int v] S' = .ok (.bl (fitT ts v)) S' := fun S' => if_pos p5
    have ih0 := e_spread_loop (t := t) ok hv hd hF l h (some (.int x)) w hr (fun y hy => hl y (by simp [hy])) c
    have lk : ((flds i h).lookup ("hear" : Str)).isNone = true := by rw [(lk_m i h).2.2.2.1]; rfl
    unfold spLoop
    rw [et]
    cases hg : goneB h x with
    | true =>
      simp only [Bool.not_true, Bool.false_and, Bool.false_eq_true, ↓reduceIte]
      simp only [List.map_cons, forGo, hk, ↓reduceIte, wipeR, gVar, gC, gOp, gUn, gAnd, gOr, gNot, gIf, gNil, gCons, gTup, gLst, gCB, gChain, gSet, gExpr, gRet, gRetN, gPass, gBrk, gCt, gRaise, gIfS, gSeq, nName, nTup, setAll, gAsg, gCall, gTru, gNotT, gIsi, RE.bind_ok, RE.bind_exc, RE.bind_stuck, RE.bindA_ok, RE.bindS_ok, RE.bindS_exc, RE.bindT_ok, RE.bindTS_ok, RA.bind_ok, RA.bindA_ok, RE.nox_ok, RS.seq_nx, RS.seq_ret, RS.seq_exc, RS.seq_brk, RS.seq_ct, RS.seq_stuck, RE.bindA_exc, RE.bindA_stuck, RE.bindS_stuck, RE.bindT_exc, RE.bindT_stuck, RE.bindTS_exc, RE.bindTS_stuck, RA.bind_exc, RA.bind_stuck, RA.bindA_exc, RA.bindA_stuck, RE.nox_stuck, bind_ite, bindA_ite, bindS_ite, bindT_ite, bindTS_ite, nox_ite, seq_ite, startR, tyA_non, tyA_bl, tyA_int, tyA_str, tyA_tup, List.map_cons, List.map_nil, List.length_cons, List.length_nil, List.cons_append, List.nil_append, List.append_nil, List.getElem?_cons_zero, List.getElem?_cons_succ, List.set_cons_zero, List.set_cons_succ, vIx_t0, vIx_t1, vIx_t2, vIx_t3, vIx_t4, vIx_t5, vEq_ss, vEq_ii, vEq_bb, vNe_ss, vNe_ii, vNe_bb, vLen_tup, truA_tup, truA_bl, vLe_ii, vLt_ii, vGt_ii, vGe_ii, vSub_ii, vAdd_ii, vAddI_ii, vNeg_i, isT_ss, isT_tt, isT_ii, isT_bi, isT_bb, isT_ib, gFld, ins_wr ok, lk_gone, notin_go ok, hg, Bool.not_true, Bool.false_eq_true]
      exact ih0
    | false =>
      cases hc : h.cut with
      | true =>
        simp only [Bool.not_true, Bool.not_false, Bool.true_and, Bool.false_and, Bool.false_eq_true, ↓reduceIte]
        simp only [List.map_cons, forGo, hk, ↓reduceIte, wipeR, gVar, gC, gOp, gUn, gAnd, gOr, gNot, gIf, gNil, gCons, gTup, gLst, gCB, gChain, gSet, gExpr, gRet, gRetN, gPass, gBrk, gCt, gRaise, gIfS, gSeq, nName, nTup, setAll, gAsg, gCall, gTru, gNotT, gIsi, RE.bind_ok, RE.bind_exc, RE.bind_stuck, RE.bindA_ok, RE.bindS_ok, RE.bindS_exc, RE.bindT_ok, RE.bindTS_ok, RA.bind_ok, RA.bindA_ok, RE.nox_ok, RS.seq_nx, RS.seq_ret, RS.seq_exc, RS.seq_brk, RS.seq_ct, RS.seq_stuck, RE.bindA_exc, RE.bindA_stuck, RE.bindS_stuck, RE.bindT_exc, RE.bindT_stuck, RE.bindTS_exc, RE.bindTS_stuck, RA.bind_exc, RA.bind_stuck, RA.bindA_exc, RA.bindA_stuck, RE.nox_stuck, bind_ite, bindA_ite, bindS_ite, bindT_ite, bindTS_ite, nox_ite, seq_ite, startR, tyA_non, tyA_bl, tyA_int, tyA_str, tyA_tup, List.map_cons, List.map_nil, List.length_cons, List.length_nil, List.cons_append, List.nil_append, List.append_nil, List.getElem?_cons_zero, List.getElem?_cons_succ, List.set_cons_zero, List.set_cons_succ, vIx_t0, vIx_t1, vIx_t2, vIx_t3, vIx_t4, vIx_t5, vEq_ss, vEq_ii, vEq_bb, vNe_ss, vNe_ii, vNe_bb, vLen_tup, truA_tup, truA_bl, vLe_ii, vLt_ii, vGt_ii, vGe_ii, vSub_ii, vAdd_ii, vAddI_ii, vNeg_i, isT_ss, isT_tt, isT_ii, isT_bi, isT_bb, isT_ib, gFld, ins_wr ok, lk_gone, lk_cut, notin_go ok, hg, hc, Bool.not_true, Bool.not_false, Bool.false_eq_true]
        exact ih0
      | false =>
        cases hf : fitT ts v with
        | false =>
          simp only [Bool.not_false, Bool.true_and, Bool.false_eq_true, ↓reduceIte]
          simp only [List.map_cons, forGo, hk, ↓reduceIte, wipeR, gVar, gC, gOp, gUn, gAnd, gOr, gNot, gIf, gNil, gCons, gTup, gLst, gCB, gChain, gSet, gExpr, gRet, gRetN, gPass, gBrk, gCt, gRaise, gIfS, gSeq, nName, nTup, setAll, gAsg, gCall, gTru, gNotT, gIsi, RE.bind_ok, RE.bind_exc, RE.bind_stuck, RE.bindA_ok, RE.bindS_ok, RE.bindS_exc, RE.bindT_ok, RE.bindTS_ok, RA.bind_ok, RA.bindA_ok, RE.nox_ok, RS.seq_nx, RS.seq_ret, RS.seq_exc, RS.seq_brk, RS.seq_ct, RS.seq_stuck, RE.bindA_exc, RE.bindA_stuck, RE.bindS_stuck, RE.bindT_exc, RE.bindT_stuck, RE.bindTS_exc, RE.bindTS_stuck, RA.bind_exc, RA.bind_stuck, RA.bindA_exc, RA.bindA_stuck, RE.nox_stuck, bind_ite, bindA_ite, bindS_ite, bindT_ite, bindTS_ite, nox_ite, seq_ite, startR, tyA_non, tyA_bl, tyA_int, tyA_str, tyA_tup, List.map_cons, List.map_nil, List.length_cons, List.length_nil, List.cons_append, List.nil_append, List.append_nil, List.getElem?_cons_zero, List.getElem?_cons_succ, List.set_cons_zero, List.set_cons_succ, vIx_t0, vIx_t1, vIx_t2, vIx_t3, vIx_t4, vIx_t5, vEq_ss, vEq_ii, vEq_bb, vNe_ss, vNe_ii, vNe_bb, vLen_tup, truA_tup, truA_bl, vLe_ii, vLt_ii, vGt_ii, vGe_ii, vSub_ii, vAdd_ii, vAddI_ii, vNeg_i, isT_ss, isT_tt, isT_ii, isT_bi, isT_bb, isT_ib, gFld, ins_wr ok, lk_gone, lk_cut, lk_people, notin_go ok, hg, hc, Bool.not_false, Bool.false_eq_true, ix_pe ok hx.1 hx.2, e, ft, hf]
          exact ih0
        | true =>
          have e1 := hF x h w hr hc hx c
          have s1 := hear_ok r h x v w hr hc hx.1 hx.2 hv.1 hv.2
          have ih1 := e_spread_loop (t := t) ok hv hd hF l (hearH r h x v).2 (some (.int x)) s1.wf (Int.le_trans s1.stp.room hr) (fun y hy => ⟨(hl y (by simp [hy])).1, Int.lt_of_lt_of_le (hl y (by simp [hy])).2 (by have := s1.stp.len; omega)⟩) (Cap.step (j := 0) c s1)
          simp only [Bool.not_false, Bool.true_and, ↓reduceIte]
          cases hb : (hearH r h x v).1 with
          | true =>
            rw [hb] at e1
            right
            simp only [List.map_cons, forGo, hk, ↓reduceIte, wipeR, gVar, gC, gOp, gUn, gAnd, gOr, gNot, gIf, gNil, gCons, gTup, gLst, gCB, gChain, gSet, gExpr, gRet, gRetN, gPass, gBrk, gCt, gRaise, gIfS, gSeq, nName, nTup, setAll, gAsg, gCall, gTru, gNotT, gIsi, RE.bind_ok, RE.bind_exc, RE.bind_stuck, RE.bindA_ok, RE.bindS_ok, RE.bindS_exc, RE.bindT_ok, RE.bindTS_ok, RA.bind_ok, RA.bindA_ok, RE.nox_ok, RS.seq_nx, RS.seq_ret, RS.seq_exc, RS.seq_brk, RS.seq_ct, RS.seq_stuck, RE.bindA_exc, RE.bindA_stuck, RE.bindS_stuck, RE.bindT_exc, RE.bindT_stuck, RE.bindTS_exc, RE.bindTS_stuck, RA.bind_exc, RA.bind_stuck, RA.bindA_exc, RA.bindA_stuck, RE.nox_stuck, bind_ite, bindA_ite, bindS_ite, bindT_ite, bindTS_ite, nox_ite, seq_ite, startR, tyA_non, tyA_bl, tyA_int, tyA_str, tyA_tup, List.map_cons, List.map_nil, List.length_cons, List.length_nil, List.cons_append, List.nil_append, List.append_nil, List.getElem?_cons_zero, List.getElem?_cons_succ, List.set_cons_zero, List.set_cons_succ, vIx_t0, vIx_t1, vIx_t2, vIx_t3, vIx_t4, vIx_t5, vEq_ss, vEq_ii, vEq_bb, vNe_ss, vNe_ii, vNe_bb, vLen_tup, truA_tup, truA_bl, vLe_ii, vLt_ii, vGt_ii, vGe_ii, vSub_ii, vAdd_ii, vAddI_ii, vNeg_i, isT_ss, isT_tt, isT_ii, isT_bi, isT_bb, isT_ib, gFld, gMeth, ins_wr ok, lk_gone, lk_cut, lk_people, notin_go ok, hg, hc, Bool.not_false, ix_pe ok hx.1 hx.2, e, ft, hf, lk, e1]
          | false =>
            rw [hb] at e1
            simp only [Bool.false_eq_true, ↓reduceIte]
            simp only [List.map_cons, forGo, hk, ↓reduceIte, wipeR, gVar, gC, gOp, gUn, gAnd, gOr, gNot, gIf, gNil, gCons, gTup, gLst, gCB, gChain, gSet, gExpr, gRet, gRetN, gPass, gBrk, gCt, gRaise, gIfS, gSeq, nName, nTup, setAll, gAsg, gCall, gTru, gNotT, gIsi, RE.bind_ok, RE.bind_exc, RE.bind_stuck, RE.bindA_ok, RE.bindS_ok, RE.bindS_exc, RE.bindT_ok, RE.bindTS_ok, RA.bind_ok, RA.bindA_ok, RE.nox_ok, RS.seq_nx, RS.seq_ret, RS.seq_exc, RS.seq_brk, RS.seq_ct, RS.seq_stuck, RE.bindA_exc, RE.bindA_stuck, RE.bindS_stuck, RE.bindT_exc, RE.bindT_stuck, RE.bindTS_exc, RE.bindTS_stuck, RA.bind_exc, RA.bind_stuck, RA.bindA_exc, RA.bindA_stuck, RE.nox_stuck, bind_ite, bindA_ite, bindS_ite, bindT_ite, bindTS_ite, nox_ite, seq_ite, startR, tyA_non, tyA_bl, tyA_int, tyA_str, tyA_tup, List.map_cons, List.map_nil, List.length_cons, List.length_nil, List.cons_append, List.nil_append, List.append_nil, List.getElem?_cons_zero, List.getElem?_cons_succ, List.set_cons_zero, List.set_cons_succ, vIx_t0, vIx_t1, vIx_t2, vIx_t3, vIx_t4, vIx_t5, vEq_ss, vEq_ii, vEq_bb, vNe_ss, vNe_ii, vNe_bb, vLen_tup, truA_tup, truA_bl, vLe_ii, vLt_ii, vGt_ii, vGe_ii, vSub_ii, vAdd_ii, vAddI_ii, vNeg_i, isT_ss, isT_tt, isT_ii, isT_bi, isT_bb, isT_ib, gFld, gMeth, ins_wr ok, lk_gone, lk_cut, lk_people, notin_go ok, hg, hc, Bool.not_false, ix_pe ok hx.1 hx.2, e, ft, hf, lk, e1, Bool.false_eq_true]
            exact ih1
theorem e_spread {t : Str} {v : Int} (ok : OkI S n i) (w : Wf h) (hr : h.room ≤ (r : Int)) (ht : isWordS t = true) (hv : 0 ≤ v ∧ v ≤ 9999) (c : Cap 1 h)
    (hF : ∀ E x h, Wf h → h.room ≤ (r : Int) → h.cut = false → (0 ≤ x ∧ x < (h.people.length : Int)) → Cap 0 h → Fh [.ob n, .int x, .int v] (wr (hC K) S n i h ++ E) = .ok (.bl (hearH r h x v).1) (wr (hC K) S n i (hearH r h x v).2 ++ E)) :
    ∃ E', (∃ ρ, q_Hall_spread K Fh (startR N_Hall_spread.length [.ob n, .str t, .int v]) (wr (hC K) S n i h ++ E) = .nx ρ (wr (hC K) S n i (spreadW (hearH r) h t v) ++ E')) ∨ q_Hall_spread K Fh (startR N_Hall_spread.length [.ob n, .str t, .int v]) (wr (hC K) S n i h ++ E) = .ret .non (wr (hC K) S n i (spreadW (hearH r) h t v) ++ E') := by
  have st : startR N_Hall_spread.length [.ob n, .str t, .int v] = [some (.ob n), some (.str t), some (.int v), none] := rfl
  rw [st]
  cases hin : inL t h.now with
  | true =>
    obtain ⟨j, hj, er, hix⟩ := index_no (C := hC K) ok w hin
    have hl : h.rows.length < 4000000 := by have := c.ro; omega
    have es : spreadW (hearH r) h t v = h.row (rRing (h.now.drop j ++ [.str t])) := by
      unfold spreadW
      rw [if_pos hin, er]
    have hnl : (h.now.drop j).length + 1 ≤ 4000000 := by have := c.n; simp; omega
    refine ⟨E ++ [.lst (h.now.drop j), .lst [.str t], .lst (h.now.drop j ++ [.str t])], .inr ?_⟩
    rw [es]
    have g1 : ∀ E2 : Sto, (wr (hC K) S n i h ++ (E ++ (.lst (h.now.drop j) :: E2)))[S.length + E.length]? = some (.lst (h.now.drop j)) := fun E2 => by
      have e1 : S.length + E.length = (wr (hC K) S n i h ++ E).length := by rw [List.length_append, wr_length]
      rw [← List.append_assoc, e1, get_off0]
      rfl
    have g2 : ∀ E2 : Sto, (wr (hC K) S n i h ++ (E ++ (.lst (h.now.drop j) :: .lst [.str t] :: E2)))[S.length + (E.length + 1)]? = some (.lst [.str t]) := fun E2 => by
      have e1 : S.length + (E.length + 1) = (wr (hC K) S n i h ++ E).length + 1 := by rw [List.length_append, wr_length]; omega
      rw [← List.append_assoc, e1, get_off 1]
      rfl
    have g3 : itemsAt (wr (hC K) S n i h ++ (E ++ [.lst (h.now.drop j), .lst [.str t], .lst (h.now.drop j ++ [.str t])])) (S.length + (E.length + 2)) = some (h.now.drop j ++ [.str t]) := by
      have e1 : S.length + (E.length + 2) = (wr (hC K) S n i h ++ E).length + 2 := by rw [List.length_append, wr_length]; omega
      unfold itemsAt
      rw [← List.append_assoc, e1, get_off 2]
      rfl
    have q0 : q_Hall_spread_0 K Fh [some (.ob n), some (.str t), some (.int v), none] (wr (hC K) S n i h ++ E) = .ret .non (wr (hC K) S n i (h.row (rRing (h.now.drop j ++ [.str t]))) ++ (E ++ [.lst (h.now.drop j), .lst [.str t], .lst (h.now.drop j ++ [.str t])])) := by
      simp only [q_Hall_spread_0, wipeR, gVar, gC, gOp, gUn, gAnd, gOr, gNot, gIf, gNil, gCons, gTup, gLst, gCB, gChain, gSet, gExpr, gRet, gRetN, gPass, gBrk, gCt, gRaise, gIfS, gSeq, nName, nTup, setAll, gAsg, gCall, gTru, gNotT, gIsi, RE.bind_ok, RE.bind_exc, RE.bind_stuck, RE.bindA_ok, RE.bindS_ok, RE.bindS_exc, RE.bindT_ok, RE.bindTS_ok, RA.bind_ok, RA.bindA_ok, RE.nox_ok, RS.seq_nx, RS.seq_ret, RS.seq_exc, RS.seq_brk, RS.seq_ct, RS.seq_stuck, RE.bindA_exc, RE.bindA_stuck, RE.bindS_stuck, RE.bindT_exc, RE.bindT_stuck, RE.bindTS_exc, RE.bindTS_stuck, RA.bind_exc, RA.bind_stuck, RA.bindA_exc, RA.bindA_stuck, RE.nox_stuck, bind_ite, bindA_ite, bindS_ite, bindT_ite, bindTS_ite, nox_ite, seq_ite, startR, tyA_non, tyA_bl, tyA_int, tyA_str, tyA_tup, List.map_cons, List.map_nil, List.length_cons, List.length_nil, List.cons_append, List.nil_append, List.append_nil, List.getElem?_cons_zero, List.getElem?_cons_succ, List.set_cons_zero, List.set_cons_succ, vIx_t0, vIx_t1, vIx_t2, vIx_t3, vIx_t4, vIx_t5, vEq_ss, vEq_ii, vEq_bb, vNe_ss, vNe_ii, vNe_bb, vLen_tup, truA_tup, truA_bl, vLe_ii, vLt_ii, vGt_ii, vGe_ii, vSub_ii, vAdd_ii, vAddI_ii, vNeg_i, isT_ss, isT_tt, isT_ii, isT_bi, isT_bb, isT_ib, gFld, gMt, gSlice, pSome, pNone, partOf, ins_wr ok, lk_now, lk_rows, in_no ok w, hin, ↓reduceIte, ty_ro ok, ty_no ok, hix, vCut, it_no ok, cut_from hj, List.append_assoc, List.length_append, wr_length, Nat.zero_add, Nat.reduceAdd, Nat.reduceLeDiff, vAdd, g1, g2, hnl, vTuple, seqOf, Nat.add_assoc, g3, app_ro ok _ hl]
      rfl
    unfold q_Hall_spread
    simp only [gSeq, q0, RS.seq_ret]
  | false =>
    have q0 : q_Hall_spread_0 K Fh [some (.ob n), some (.str t), some (.int v), none] (wr (hC K) S n i h ++ E) = .nx [some (.ob n), some (.str t), some (.int v), none] (wr (hC K) S n i h ++ E) := by
      simp only [q_Hall_spread_0, wipeR, gVar, gC, gOp, gUn, gAnd, gOr, gNot, gIf, gNil, gCons, gTup, gLst, gCB, gChain, gSet, gExpr, gRet, gRetN, gPass, gBrk, gCt, gRaise, gIfS, gSeq, nName, nTup, setAll, gAsg, gCall, gTru, gNotT, gIsi, RE.bind_ok, RE.bind_exc, RE.bind_stuck, RE.bindA_ok, RE.bindS_ok, RE.bindS_exc, RE.bindT_ok, RE.bindTS_ok, RA.bind_ok, RA.bindA_ok, RE.nox_ok, RS.seq_nx, RS.seq_ret, RS.seq_exc, RS.seq_brk, RS.seq_ct, RS.seq_stuck, RE.bindA_exc, RE.bindA_stuck, RE.bindS_stuck, RE.bindT_exc, RE.bindT_stuck, RE.bindTS_exc, RE.bindTS_stuck, RA.bind_exc, RA.bind_stuck, RA.bindA_exc, RA.bindA_stuck, RE.nox_stuck, bind_ite, bindA_ite, bindS_ite, bindT_ite, bindTS_ite, nox_ite, seq_ite, startR, tyA_non, tyA_bl, tyA_int, tyA_str, tyA_tup, List.map_cons, List.map_nil, List.length_cons, List.length_nil, List.cons_append, List.nil_append, List.append_nil, List.getElem?_cons_zero, List.getElem?_cons_succ, List.set_cons_zero, List.set_cons_succ, vIx_t0, vIx_t1, vIx_t2, vIx_t3, vIx_t4, vIx_t5, vEq_ss, vEq_ii, vEq_bb, vNe_ss, vNe_ii, vNe_bb, vLen_tup, truA_tup, truA_bl, vLe_ii, vLt_ii, vGt_ii, vGe_ii, vSub_ii, vAdd_ii, vAddI_ii, vNeg_i, isT_ss, isT_tt, isT_ii, isT_bi, isT_bb, isT_ib, gFld, ins_wr ok, lk_now, in_no ok w, hin, ↓reduceIte, Bool.false_eq_true]
    have hll : h.lasts.length < 4000000 := by have := lasts_len w; omega
    have q1 : q_Hall_spread_1 K Fh [some (.ob n), some (.str t), some (.int v), none] (wr (hC K) S n i h ++ E) = .nx [some (.ob n), some (.str t), some (.int v), none] (wr (hC K) S n i (toldL h t v) ++ E) := by
      unfold toldL
      cases hk : inL t (keptL h) with
      | true => simp only [q_Hall_spread_1, wipeR, gVar, gC, gOp, gUn, gAnd, gOr, gNot, gIf, gNil, gCons, gTup, gLst, gCB, gChain, gSet, gExpr, gRet, gRetN, gPass, gBrk, gCt, gRaise, gIfS, gSeq, nName, nTup, setAll, gAsg, gCall, gTru, gNotT, gIsi, RE.bind_ok, RE.bind_exc, RE.bind_stuck, RE.bindA_ok, RE.bindS_ok, RE.bindS_exc, RE.bindT_ok, RE.bindTS_ok, RA.bind_ok, RA.bindA_ok, RE.nox_ok, RS.seq_nx, RS.seq_ret, RS.seq_exc, RS.seq_brk, RS.seq_ct, RS.seq_stuck, RE.bindA_exc, RE.bindA_stuck, RE.bindS_stuck, RE.bindT_exc, RE.bindT_stuck, RE.bindTS_exc, RE.bindTS_stuck, RA.bind_exc, RA.bind_stuck, RA.bindA_exc, RA.bindA_stuck, RE.nox_stuck, bind_ite, bindA_ite, bindS_ite, bindT_ite, bindTS_ite, nox_ite, seq_ite, startR, tyA_non, tyA_bl, tyA_int, tyA_str, tyA_tup, List.map_cons, List.map_nil, List.length_cons, List.length_nil, List.cons_append, List.nil_append, List.append_nil, List.getElem?_cons_zero, List.getElem?_cons_succ, List.set_cons_zero, List.set_cons_succ, vIx_t0, vIx_t1, vIx_t2, vIx_t3, vIx_t4, vIx_t5, vEq_ss, vEq_ii, vEq_bb, vNe_ss, vNe_ii, vNe_bb, vLen_tup, truA_tup, truA_bl, vLe_ii, vLt_ii, vGt_ii, vGe_ii, vSub_ii, vAdd_ii, vAddI_ii, vNeg_i, isT_ss, isT_tt, isT_ii, isT_bi, isT_bb, isT_ib, gFld, gDput, ins_wr ok, lk_kept, lk_lasts, in_kept w, hk, ↓reduceIte, put_la ok t v hll]
      | false => simp only [q_Hall_spread_1, wipeR, gVar, gC, gOp, gUn, gAnd, gOr, gNot, gIf, gNil, gCons, gTup, gLst, gCB, gChain, gSet, gExpr, gRet, gRetN, gPass, gBrk, gCt, gRaise, gIfS, gSeq, nName, nTup, setAll, gAsg, gCall, gTru, gNotT, gIsi, RE.bind_ok, RE.bind_exc, RE.bind_stuck, RE.bindA_ok, RE.bindS_ok, RE.bindS_exc, RE.bindT_ok, RE.bindTS_ok, RA.bind_ok, RA.bindA_ok, RE.nox_ok, RS.seq_nx, RS.seq_ret, RS.seq_exc, RS.seq_brk, RS.seq_ct, RS.seq_stuck, RE.bindA_exc, RE.bindA_stuck, RE.bindS_stuck, RE.bindT_exc, RE.bindT_stuck, RE.bindTS_exc, RE.bindTS_stuck, RA.bind_exc, RA.bind_stuck, RA.bindA_exc, RA.bindA_stuck, RE.nox_stuck, bind_ite, bindA_ite, bindS_ite, bindT_ite, bindTS_ite, nox_ite, seq_ite, startR, tyA_non, tyA_bl, tyA_int, tyA_str, tyA_tup, List.map_cons, List.map_nil, List.length_cons, List.length_nil, List.cons_append, List.nil_append, List.append_nil, List.getElem?_cons_zero, List.getElem?_cons_succ, List.set_cons_zero, List.set_cons_succ, vIx_t0, vIx_t1, vIx_t2, vIx_t3, vIx_t4, vIx_t5, vEq_ss, vEq_ii, vEq_bb, vNe_ss, vNe_ii, vNe_bb, vLen_tup, truA_tup, truA_bl, vLe_ii, vLt_ii, vGt_ii, vGe_ii, vSub_ii, vAdd_ii, vAddI_ii, vNeg_i, isT_ss, isT_tt, isT_ii, isT_bi, isT_bb, isT_ib, gFld, ins_wr ok, lk_kept, in_kept w, hk, ↓reduceIte, Bool.false_eq_true]
    have s1 := told_ok (t := t) w hv.1 hv.2
    have c1 : Cap 1 (toldL h t v) := Cap.step (j := 0) (by rw [Nat.zero_add]; exact c) s1
    have es : spreadW (hearH r) h t v = spLoop (hearH r) v (orderH (toldL h t v) t) (toldL h t v) := by
      unfold spreadW
      rw [hin]
      rfl
    have hd : ∀ h' : Ha, itemsAt (wr (hC K) S n i h' ++ (E ++ [.lst ((orderH (toldL h t v) t).map .int)])) (S.length + E.length) = some ((orderH (toldL h t v) t).map .int) := fun h' => by
      have e1 : S.length + E.length = (wr (hC K) S n i h' ++ E).length := by rw [List.length_append, wr_length]
      rw [← List.append_assoc, e1]
      exact items_new _ _
    have lp := e_spread_loop (K := K) (r := r) (t := t) (Fh := Fh) (E := E ++ [.lst ((orderH (toldL h t v) t).map .int)]) ok hv hd (fun x h => hF _ x h) (orderH (toldL h t v) t) (toldL h t v) none s1.wf (Int.le_trans s1.stp.room hr) (fun x hx => (order_mem.mp hx).1) (c1.mono (by decide))
    have lk : ((flds i (toldL h t v)).lookup ("order" : Str)).isNone = true := by rw [(lk_m i _).2.2.2.2.1]; rfl
    have q2 : ∀ z, forGo _ _ _ _ _ _ = z → q_Hall_spread_2 K Fh [some (.ob n), some (.str t), some (.int v), none] (wr (hC K) S n i (toldL h t v) ++ E) = z := fun z hz => by
      rw [← hz]
      simp only [q_Hall_spread_2, gFor, gIL, gMeth, gVar, gCons, gNil, List.getElem?_cons_zero, List.getElem?_cons_succ, RE.bind_ok, ins_wr ok, lk, ↓reduceIte, RE.bindA_ok, RA.bindA_ok, RA.bind_ok, F_order_at ok s1.wf c1.pe, hd]
      rfl
    refine ⟨E ++ [.lst ((orderH (toldL h t v) t).map .int)], ?_⟩
    rw [es]
    rcases lp with ⟨z', lp⟩ | lp
    · exact .inl ⟨_, seq_step q0 (seq_step q1 (q2 _ lp))⟩
    · exact .inr (seq_step q0 (seq_step q1 (q2 _ lp)))
end
end
end Sx.My

set_option Elab.async false
set_option linter.all false
set_option maxRecDepth 100000
set_option maxHeartbeats 4000000
namespace Sx.My
open PySem PySem.Spec PyProof.Rows L2
noncomputable section
variable {P : Program} {w : World} {K : Frg} {mg : Str → Option Value} {base : Heap}
def q_Hall_come_0 (K : Frg) (Fh : List A → Sto → RE) : GS :=
  gExpr (gMt "list" vAppend (gFld (He.ga K "Hall") "people" (gVar 0)) (gCons (gVar 1) (gNil)))
def q_Hall_come_1 (K : Frg) (Fh : List A → Sto → RE) : GS :=
  gSet 2 (gOp vSub (gCB vLen (gCons (gFld (He.ga K "Hall") "people" (gVar 0)) (gNil))) (gC (.int 1)))
def q_Hall_come_2 (K : Frg) (Fh : List A → Sto → RE) : GS :=
  gIfS (gAnd (gOp vDin (gOp vIx (gVar 1) (gC (.int 1))) (gFld (He.ga K "Hall") "lasts" (gVar 0))) (gCall (F_is_fit K) (gCons (gOp vIx (gVar 1) (gC (.int 4))) (gCons (gOp vDget (gFld (He.ga K "Hall") "lasts" (gVar 0)) (gOp vIx (gVar 1) (gC (.int 1)))) (gNil))))) (gExpr (gMeth (He.ga K "Hall") "hear" (Fh) (gVar 0) (gCons (gVar 2) (gCons (gOp vDget (gFld (He.ga K "Hall") "lasts" (gVar 0)) (gOp vIx (gVar 1) (gC (.int 1)))) (gNil))))) (gPass)
def q_Hall_come_3 (K : Frg) (Fh : List A → Sto → RE) : GS :=
  gRet (gVar 2)
def q_Hall_come (K : Frg) (Fh : List A → Sto → RE) : GS :=
  gSeq (q_Hall_come_0 K Fh) (gSeq (q_Hall_come_1 K Fh) (gSeq (q_Hall_come_2 K Fh) (q_Hall_come_3 K Fh)))
theorem sb_Hall_come {P : Program} {w : World} {K : Frg} {mg : Str → Option Value} {base : Heap} (t : TT K mg base) {d dh : Nat} {Fh : List A → Sto → RE} (okh : FnR P w K mg base dh (He.ma K (He.ga K "Hall") "hear") t.f_Hall_hear P_Hall_hear (spF K (tbs K) Fh)) (hdh : dh ≤ d) (hd3 : 3 ≤ d) {cdv : Value} {A : Around} {outer : List Env} {s : Shared} {H : Hp} {E : XK} (hr : Rm d (A.deeper (envOfC "Hall.come" (defScope Hd.s_Hall_come) s.heap.objs.size (He.ma K (He.ga K "Hall") "come") cdv))) :
    SB (cxOf (L2.CX P w) P w K mg base N_Hall_come "Hall.come" (defScope Hd.s_Hall_come) (He.ma K (He.ga K "Hall") "come") cdv A outer s H E) (tbs K) (fun c d _ H2 => E c d H2) (defBody Hd.s_Hall_come) (q_Hall_come K Fh) := by
  have nd : N_Hall_come.Nodup := sc_Hall_come.nd
  have hp := passes_of (X := cxOf (L2.CX P w) P w K mg base N_Hall_come "Hall.come" (defScope Hd.s_Hall_come) (He.ma K (He.ga K "Hall") "come") cdv A outer s H E) (K := fun e s2 => L2.CX P w outer H s E e s2) (E₁ := fun e s2 => L2.CX P w outer H s E e s2) rfl
  have tk : Takes (cxOf (L2.CX P w) P w K mg base N_Hall_come "Hall.come" (defScope Hd.s_Hall_come) (He.ma K (He.ga K "Hall") "come") cdv A outer s H E) (fun c d _ H2 => E c d H2) := takes_of rfl rfl rfl rfl
  exact (sb_cons (ss_expr (se_bm PySem.F.plainAttrs_list PySem.F.slot_list_append PySem.F.type_list_append ms_append (se_fld t.c_Hall t.a_Hall_people (se_var' (pv 0))) (sa_cons (se_var' (pv 1)) sa_nil)))
  (sb_cons (ss_set (i := 2) nd rfl (Or.inl rfl) (se_op os_sub (se_callB cs_len (by rfl) t.n_len (by decide +kernel) (sa_cons (se_fld t.c_Hall t.a_Hall_people (se_var' (pv 0))) sa_nil)) se_int))
  (sb_cons (ss_if (st_w (sw_and (st_din hr.units (se_ix is_ix (se_var' (pv 1)) se_int (fun _ _ => rfl)) (se_fld t.c_Hall t.a_Hall_lasts (se_var' (pv 0)))) (sw_and1 (st_val (se_call (ok_is_fit t) (hr.mono (by omega)) t.m_is_fit t.D_is_fit.kp (b_is_fit t) tk (sa_cons (se_ix is_ix (se_var' (pv 1)) se_int (fun _ _ => rfl)) (sa_cons (se_dget hr.units (se_fld t.c_Hall t.a_Hall_lasts (se_var' (pv 0))) (se_ix is_ix (se_var' (pv 1)) se_int (fun _ _ => rfl))) sa_nil))))))) (sb_one (ss_expr (se_meth (se_var' (pv 0)) t.c_Hall t.t_Hall_hear (okh) (hr.mono (by omega)) (b_Hall_hear t) tk (sa_cons (se_var' (pv 2)) (sa_cons (se_dget hr.units (se_fld t.c_Hall t.a_Hall_lasts (se_var' (pv 0))) (se_ix is_ix (se_var' (pv 1)) se_int (fun _ _ => rfl))) sa_nil))))) sb_nil)
  (sb_one (ss_ret (se_var' (pv 2)))))))

section
variable {r : Nat} {S E : Sto} {n : Nat} {i : Ids} {h : Ha} {Fh : List A → Sto → RE}
theorem e_come {p : A} (ok : OkI S n i) (w : Wf h) (hr : h.room ≤ (r : Int)) (hc : h.cut = false) (hp : isHr 3 p = true) (c : Cap 1 h)
    (hF : ∀ E x v h, Wf h → h.room ≤ (r : Int) → h.cut = false → (0 ≤ x ∧ x < (h.people.length : Int)) → (0 ≤ v ∧ v ≤ 9999) → Cap 0 h → Fh [.ob n, .int x, .int v] (wr (hC K) S n i h ++ E) = .ok (.bl (hearH r h x v).1) (wr (hC K) S n i (hearH r h x v).2 ++ E)) :
    q_Hall_come K Fh (startR N_Hall_come.length [.ob n, p]) (wr (hC K) S n i h ++ E) = .ret (.int h.people.length) (wr (hC K) S n i (comeW (hearH r) h p) ++ E) := by
  have st : startR N_Hall_come.length [.ob n, p] = [some (.ob n), some p, none] := rfl
  obtain ⟨o, t, rk, hw, ts, ds, e, p1, p2, p3, p4, p5, p6, p7⟩ := hr3_parts hp
  have hl : h.people.length < 4000000 := by have := c.pe; omega
  have s1 := add_ok w hp
  have c1 : Cap 0 ({ h with people := h.people ++ [p] } : Ha) := Cap.step (j := 1) c s1
  have en : ((h.people ++ [p]).length : Int) - 1 = (h.people.length : Int) := by simp
  have ft : ∀ v S', F_is_fit K [ts, .int v] S' = .ok (.bl (fitT ts v)) S' := fun v S' => if_pos p5
  have q0 : q_Hall_come_0 K Fh [some (.ob n), some p, none] (wr (hC K) S n i h ++ E) = .nx [some (.ob n), some p, none] (wr (hC K) S n i { h with people := h.people ++ [p] } ++ E) := by
    simp only [q_Hall_come_0, wipeR, gVar, gC, gOp, gUn, gAnd, gOr, gNot, gIf, gNil, gCons, gTup, gLst, gCB, gChain, gSet, gExpr, gRet, gRetN, gPass, gBrk, gCt, gRaise, gIfS, gSeq, nName, nTup, setAll, gAsg, gCall, gTru, gNotT, gIsi, RE.bind_ok, RE.bind_exc, RE.bind_stuck, RE.bindA_ok, RE.bindS_ok, RE.bindS_exc, RE.bindT_ok, RE.bindTS_ok, RA.bind_ok, RA.bindA_ok, RE.nox_ok, RS.seq_nx, RS.seq_ret, RS.seq_exc, RS.seq_brk, RS.seq_ct, RS.seq_stuck, RE.bindA_exc, RE.bindA_stuck, RE.bindS_stuck, RE.bindT_exc, RE.bindT_stuck, RE.bindTS_exc, RE.bindTS_stuck, RA.bind_exc, RA.bind_stuck, RA.bindA_exc, RA.bindA_stuck, RE.nox_stuck, bind_ite, bindA_ite, bindS_ite, bindT_ite, bindTS_ite, nox_ite, seq_ite, startR, tyA_non, tyA_bl, tyA_int, tyA_str, tyA_tup, List.map_cons, List.map_nil, List.length_cons, List.length_nil, List.cons_append, List.nil_append, List.append_nil, List.getElem?_cons_zero, List.getElem?_cons_succ, List.set_cons_zero, List.set_cons_succ, vIx_t0, vIx_t1, vIx_t2, vIx_t3, vIx_t4, vIx_t5, vEq_ss, vEq_ii, vEq_bb, vNe_ss, vNe_ii, vNe_bb, vLen_tup, truA_tup, truA_bl, vLe_ii, vLt_ii, vGt_ii, vGe_ii, vSub_ii, vAdd_ii, vAddI_ii, vNeg_i, isT_ss, isT_tt, isT_ii, isT_bi, isT_bb, isT_ib, gFld, gMt, ins_wr ok, lk_people, ty_pe ok, ↓reduceIte, app_pe ok _ hl]
  have q1 : q_Hall_come_1 K Fh [some (.ob n), some p, none] (wr (hC K) S n i { h with people := h.people ++ [p] } ++ E) = .nx [some (.ob n), some p, some (.int (h.people.length : Int))] (wr (hC K) S n i { h with people := h.people ++ [p] } ++ E) := by
    simp only [q_Hall_come_1, wipeR, gVar, gC, gOp, gUn, gAnd, gOr, gNot, gIf, gNil, gCons, gTup, gLst, gCB, gChain, gSet, gExpr, gRet, gRetN, gPass, gBrk, gCt, gRaise, gIfS, gSeq, nName, nTup, setAll, gAsg, gCall, gTru, gNotT, gIsi, RE.bind_ok, RE.bind_exc, RE.bind_stuck, RE.bindA_ok, RE.bindS_ok, RE.bindS_exc, RE.bindT_ok, RE.bindTS_ok, RA.bind_ok, RA.bindA_ok, RE.nox_ok, RS.seq_nx, RS.seq_ret, RS.seq_exc, RS.seq_brk, RS.seq_ct, RS.seq_stuck, RE.bindA_exc, RE.bindA_stuck, RE.bindS_stuck, RE.bindT_exc, RE.bindT_stuck, RE.bindTS_exc, RE.bindTS_stuck, RA.bind_exc, RA.bind_stuck, RA.bindA_exc, RA.bindA_stuck, RE.nox_stuck, bind_ite, bindA_ite, bindS_ite, bindT_ite, bindTS_ite, nox_ite, seq_ite, startR, tyA_non, tyA_bl, tyA_int, tyA_str, tyA_tup, List.map_cons, List.map_nil, List.length_cons, List.length_nil, List.cons_append, List.nil_append, List.append_nil, List.getElem?_cons_zero, List.getElem?_cons_succ, List.set_cons_zero, List.set_cons_succ, vIx_t0, vIx_t1, vIx_t2, vIx_t3, vIx_t4, vIx_t5, vEq_ss, vEq_ii, vEq_bb, vNe_ss, vNe_ii, vNe_bb, vLen_tup, truA_tup, truA_bl, vLe_ii, vLt_ii, vGt_ii, vGe_ii, vSub_ii, vAdd_ii, vAddI_ii, vNeg_i, isT_ss, isT_tt, isT_ii, isT_bi, isT_bb, isT_ib, gFld, ins_wr ok, lk_people, len_pe ok, en]
  have lk : ((flds i ({ h with people := h.people ++ [p] } : Ha)).lookup ("hear" : Str)).isNone = true := by rw [(lk_m i _).2.2.2.1]; rfl
  rw [st]
  refine seq_step q0 (seq_step q1 ?_)
  have etp : tpA p = t := by rw [e]; rfl
  have ets : tsA p = ts := by rw [e]; rfl
  have din : ∀ E, vDin (.str t) (.ob i.la) (wr (hC K) S n i { h with people := h.people ++ [p] } ++ E) = .ok (.bl (valA h.lasts (.inr t)).isSome) (wr (hC K) S n i { h with people := h.people ++ [p] } ++ E) := fun E => by
    unfold vDin
    rw [di_la ok]
    rfl
  have q2 : q_Hall_come_2 K Fh [some (.ob n), some p, some (.int (h.people.length : Int))] (wr (hC K) S n i { h with people := h.people ++ [p] } ++ E) = .nx [some (.ob n), some p, some (.int (h.people.length : Int))] (wr (hC K) S n i (comeW (hearH r) h p) ++ E) := by
    unfold comeW
    rw [etp, ets]
    have ix1 : ∀ S', vIx p (.int 1) S' = .ok (.str t) S' := fun S' => by rw [e]; exact vIx_t1 _ _ _ _
    have ix4 : ∀ S', vIx p (.int 4) S' = .ok ts S' := fun S' => by rw [e]; exact vIx_t4 _ _ _ _ _ _ _
    cases hv : valA h.lasts (.inr t) with
    | none =>
      have hli : lastI h t = none := by unfold lastI; rw [hv]
      rw [hli]
      simp only [q_Hall_come_2, wipeR, gVar, gC, gOp, gUn, gAnd, gOr, gNot, gIf, gNil, gCons, gTup, gLst, gCB, gChain, gSet, gExpr, gRet, gRetN, gPass, gBrk, gCt, gRaise, gIfS, gSeq, nName, nTup, setAll, gAsg, gCall, gTru, gNotT, gIsi, RE.bind_ok, RE.bind_exc, RE.bind_stuck, RE.bindA_ok, RE.bindS_ok, RE.bindS_exc, RE.bindT_ok, RE.bindTS_ok, RA.bind_ok, RA.bindA_ok, RE.nox_ok, RS.seq_nx, RS.seq_ret, RS.seq_exc, RS.seq_brk, RS.seq_ct, RS.seq_stuck, RE.bindA_exc, RE.bindA_stuck, RE.bindS_stuck, RE.bindT_exc, RE.bindT_stuck, RE.bindTS_exc, RE.bindTS_stuck, RA.bind_exc, RA.bind_stuck, RA.bindA_exc, RA.bindA_stuck, RE.nox_stuck, bind_ite, bindA_ite, bindS_ite, bindT_ite, bindTS_ite, nox_ite, seq_ite, startR, tyA_non, tyA_bl, tyA_int, tyA_str, tyA_tup, List.map_cons, List.map_nil, List.length_cons, List.length_nil, List.cons_append, List.nil_append, List.append_nil, List.getElem?_cons_zero, List.getElem?_cons_succ, List.set_cons_zero, List.set_cons_succ, vIx_t0, vIx_t1, vIx_t2, vIx_t3, vIx_t4, vIx_t5, vEq_ss, vEq_ii, vEq_bb, vNe_ss, vNe_ii, vNe_bb, vLen_tup, truA_tup, truA_bl, vLe_ii, vLt_ii, vGt_ii, vGe_ii, vSub_ii, vAdd_ii, vAddI_ii, vNeg_i, isT_ss, isT_tt, isT_ii, isT_bi, isT_bb, isT_ib, gFld, ins_wr ok, lk_lasts, ix1, din, hv, Option.isSome_none, Bool.false_eq_true, ↓reduceIte]
    | some u =>
      obtain ⟨t2, v, e2, _, v0, v1⟩ := w.lasts _ (valA_mem hv)
      cases e2
      have hli : lastI h t = some v := by unfold lastI; rw [hv]
      have dg : ∀ E, vDget (.ob i.la) (.str t) (wr (hC K) S n i { h with people := h.people ++ [p] } ++ E) = .ok (.int v) (wr (hC K) S n i { h with people := h.people ++ [p] } ++ E) := fun E => by
        unfold vDget
        rw [di_la ok]
        show (match valA h.lasts (.inr t) with
          | some v => RE.ok v (wr (hC K) S n i { h with people := h.people ++ [p] } ++ E)
          | none => .stuck) = _
        rw [hv]
      rw [hli]
      dsimp only
      cases hf : fitT ts v with
      | false => simp only [q_Hall_come_2, wipeR, gVar, gC, gOp, gUn, gAnd, gOr, gNot, gIf, gNil, gCons, gTup, gLst, gCB, gChain, gSet, gExpr, gRet, gRetN, gPass, gBrk, gCt, gRaise, gIfS, gSeq, nName, nTup, setAll, gAsg, gCall, gTru, gNotT, gIsi, RE.bind_ok, RE.bind_exc, RE.bind_stuck, RE.bindA_ok, RE.bindS_ok, RE.bindS_exc, RE.bindT_ok, RE.bindTS_ok, RA.bind_ok, RA.bindA_ok, RE.nox_ok, RS.seq_nx, RS.seq_ret, RS.seq_exc, RS.seq_brk, RS.seq_ct, RS.seq_stuck, RE.bindA_exc, RE.bindA_stuck, RE.bindS_stuck, RE.bindT_exc, RE.bindT_stuck, RE.bindTS_exc, RE.bindTS_stuck, RA.bind_exc, RA.bind_stuck, RA.bindA_exc, RA.bindA_stuck, RE.nox_stuck, bind_ite, bindA_ite, bindS_ite, bindT_ite, bindTS_ite, nox_ite, seq_ite, startR, tyA_non, tyA_bl, tyA_int, tyA_str, tyA_tup, List.map_cons, List.map_nil, List.length_cons, List.length_nil, List.cons_append, List.nil_append, List.append_nil, List.getElem?_cons_zero, List.getElem?_cons_succ, List.set_cons_zero, List.set_cons_succ, vIx_t0, vIx_t1, vIx_t2, vIx_t3, vIx_t4, vIx_t5, vEq_ss, vEq_ii, vEq_bb, vNe_ss, vNe_ii, vNe_bb, vLen_tup, truA_tup, truA_bl, vLe_ii, vLt_ii, vGt_ii, vGe_ii, vSub_ii, vAdd_ii, vAddI_ii, vNeg_i, isT_ss, isT_tt, isT_ii, isT_bi, isT_bb, isT_ib, gFld, ins_wr ok, lk_lasts, ix1, ix4, din, dg, ft, hf, hv, Option.isSome_some, Bool.false_eq_true, ↓reduceIte]
      | true =>
        have e1 := hF E (h.people.length : Int) v { h with people := h.people ++ [p] } s1.wf hr hc ⟨by omega, by simp; omega⟩ ⟨v0, v1⟩ c1
        simp only [q_Hall_come_2, wipeR, gVar, gC, gOp, gUn, gAnd, gOr, gNot, gIf, gNil, gCons, gTup, gLst, gCB, gChain, gSet, gExpr, gRet, gRetN, gPass, gBrk, gCt, gRaise, gIfS, gSeq, nName, nTup, setAll, gAsg, gCall, gTru, gNotT, gIsi, RE.bind_ok, RE.bind_exc, RE.bind_stuck, RE.bindA_ok, RE.bindS_ok, RE.bindS_exc, RE.bindT_ok, RE.bindTS_ok, RA.bind_ok, RA.bindA_ok, RE.nox_ok, RS.seq_nx, RS.seq_ret, RS.seq_exc, RS.seq_brk, RS.seq_ct, RS.seq_stuck, RE.bindA_exc, RE.bindA_stuck, RE.bindS_stuck, RE.bindT_exc, RE.bindT_stuck, RE.bindTS_exc, RE.bindTS_stuck, RA.bind_exc, RA.bind_stuck, RA.bindA_exc, RA.bindA_stuck, RE.nox_stuck, bind_ite, bindA_ite, bindS_ite, bindT_ite, bindTS_ite, nox_ite, seq_ite, startR, tyA_non, tyA_bl, tyA_int, tyA_str, tyA_tup, List.map_cons, List.map_nil, List.length_cons, List.length_nil, List.cons_append, List.nil_append, List.append_nil, List.getElem?_cons_zero, List.getElem?_cons_succ, List.set_cons_zero, List.set_cons_succ, vIx_t0, vIx_t1, vIx_t2, vIx_t3, vIx_t4, vIx_t5, vEq_ss, vEq_ii, vEq_bb, vNe_ss, vNe_ii, vNe_bb, vLen_tup, truA_tup, truA_bl, vLe_ii, vLt_ii, vGt_ii, vGe_ii, vSub_ii, vAdd_ii, vAddI_ii, vNeg_i, isT_ss, isT_tt, isT_ii, isT_bi, isT_bb, isT_ib, gFld, gMeth, ins_wr ok, lk_lasts, ix1, ix4, din, dg, ft, hf, hv, lk, e1, Option.isSome_some, ↓reduceIte]
  refine seq_step q2 rfl
end
/-! ### one behind another -/
theorem ok_hear_of (t : TT K mg base) {r d : Nat} {Fo : List A → Sto → RE} (oko : FnR P w K mg base d (He.ma K (He.ga K "Hall") "do") t.f_Hall_do P_Hall_do (spF K (tbs K) Fo))
    (hF : ∀ S n i x v E h d, OkI S n i → 0 < r → Wf h → h.room ≤ ((r - 1 : Nat) : Int) → h.cut = false → (0 ≤ x ∧ x < (h.people.length : Int)) → isDeedW (isHr 2) d = true → Cap 1 h → Fo [.ob n, d, .int x, .int v] (wr (hC K) S n i h ++ E) = .ok (.bl (isStop d)) (wr (hC K) S n i (doW (hearH (r - 1)) d x v h) ++ E)) :
    FnR P w K mg base (d + 1) (He.ma K (He.ga K "Hall") "hear") t.f_Hall_hear P_Hall_hear (spF K (tbs K) (F_Hall_hear r K)) := by
  refine fnF t.D_Hall_hear sc_Hall_hear (fun l S h => by unfold F_Hall_hear at h; split at h <;> first | rfl | exact absurd rfl h) (q_Hall_hear K Fo) (fun cdv A outer s H E hr => sb_Hall_hear t oko (Nat.le_refl d) hr) fun l S b bl h => ?_
  unfold F_Hall_hear at h ⊢
  split at h
  rotate_left
  · exact absurd rfl h
  rename_i o x v
  cases hq : rdH (hC K) S o with
  | none => rw [hq] at h; exact absurd rfl h
  | some z =>
    obtain ⟨n, i, ha⟩ := z
    rw [hq] at h
    dsimp only at h ⊢
    by_cases hk : Wf ha ∧ ha.room ≤ (r : Int) ∧ ha.cut = false ∧ (0 ≤ x ∧ x < (ha.people.length : Int)) ∧ (0 ≤ v ∧ v ≤ 9999) ∧ Cap 0 ha
    rotate_left
    · exact absurd (if_neg hk) h
    rw [if_pos hk]
    obtain ⟨wf, k1, k2, k3, k4, k5⟩ := hk
    obtain ⟨rfl, ok, e⟩ := rd_some hq
    have s := hear_ok r ha x v wf k1 k2 k3.1 k3.2 k4.1 k4.2
    have e2 : q_Hall_hear K Fo (startR N_Hall_hear.length [.ob n, .int x, .int v]) (wr (hC K) S n i ha ++ []) = .ret (.bl (hearH r ha x v).1) (wr (hC K) S n i (hearH r ha x v).2 ++ []) := by
      cases r with
      | zero => exact e_hear_cut ok (by have := wf.room; omega) k5
      | succ r => exact e_hear ok wf k1 k2 k3 k4 k5 (fun d h w1 w2 w3 w4 w5 w6 => hF S n i x v [] h d ok (by omega) w1 w2 w3 w4 w5 w6)
    rw [List.append_nil, e] at e2
    rw [e2]
    exact fitH b ok s.wf (.bl _)
theorem ok_spread_of (t : TT K mg base) {r d : Nat} (hd3 : 3 ≤ d) (okh : FnR P w K mg base d (He.ma K (He.ga K "Hall") "hear") t.f_Hall_hear P_Hall_hear (spF K (tbs K) (F_Hall_hear r K))) :
    FnR P w K mg base (d + 1) (He.ma K (He.ga K "Hall") "spread") t.f_Hall_spread P_Hall_spread (spF K (tbs K) (F_Hall_spread r K)) := by
  refine fnF t.D_Hall_spread sc_Hall_spread (fun l S h => by unfold F_Hall_spread at h; split at h <;> first | rfl | exact absurd rfl h) (q_Hall_spread K (F_Hall_hear r K)) (fun cdv A outer s H E hr => sb_Hall_spread t okh (Nat.le_refl d) hd3 hr) fun l S b bl h => ?_
  unfold F_Hall_spread at h ⊢
  split at h
  rotate_left
  · exact absurd rfl h
  rename_i o tp v
  cases hq : rdH (hC K) S o with
  | none => rw [hq] at h; exact absurd rfl h
  | some z =>
    obtain ⟨n, i, ha⟩ := z
    rw [hq] at h
    dsimp only at h ⊢
    by_cases hk : Wf ha ∧ ha.room ≤ (r : Int) ∧ isWordS tp = true ∧ (0 ≤ v ∧ v ≤ 9999) ∧ Cap 1 ha
    rotate_left
    · exact absurd (if_neg hk) h
    rw [if_pos hk]
    obtain ⟨wf, k1, k2, k3, k4⟩ := hk
    obtain ⟨rfl, ok, e⟩ := rd_some hq
    have s := spread_ok (hear_ok r) k3.1 k3.2 k2 wf k1
    obtain ⟨E', e2⟩ := e_spread (K := K) (E := []) (Fh := F_Hall_hear r K) ok wf k1 k2 k3 k4 (fun E x h w1 w2 w3 w4 w5 => F_hear_at ok w1 w2 w3 w4 k3 w5)
    rw [List.append_nil, e] at e2
    rcases e2 with ⟨ρ, e2⟩ | e2
    · rw [e2]; exact fitHN b ok s.wf
    · rw [e2]; exact fitH b ok s.wf .non
theorem ok_come_of (t : TT K mg base) {r d : Nat} (hd3 : 3 ≤ d) (okh : FnR P w K mg base d (He.ma K (He.ga K "Hall") "hear") t.f_Hall_hear P_Hall_hear (spF K (tbs K) (F_Hall_hear r K))) :
    FnR P w K mg base (d + 1) (He.ma K (He.ga K "Hall") "come") t.f_Hall_come P_Hall_come (spF K (tbs K) (F_Hall_come r K)) := by
  refine fnF t.D_Hall_come sc_Hall_come (fun l S h => by unfold F_Hall_come at h; split at h <;> first | rfl | exact absurd rfl h) (q_Hall_come K (F_Hall_hear r K)) (fun cdv A outer s H E hr => sb_Hall_come t okh (Nat.le_refl d) hd3 hr) fun l S b bl h => ?_
  unfold F_Hall_come at h ⊢
  split at h
  rotate_left
  · exact absurd rfl h
  rename_i o p
  cases hq : rdH (hC K) S o with
  | none => rw [hq] at h; exact absurd rfl h
  | some z =>
    obtain ⟨n, i, ha⟩ := z
    rw [hq] at h
    dsimp only at h ⊢
    by_cases hk : Wf ha ∧ ha.room ≤ (r : Int) ∧ ha.cut = false ∧ isHr 3 p = true ∧ Cap 1 ha
    rotate_left
    · exact absurd (if_neg hk) h
    rw [if_pos hk]
    obtain ⟨wf, k1, k2, k3, k4⟩ := hk
    obtain ⟨rfl, ok, e⟩ := rd_some hq
    have s := come_ok (hear_ok r) k3 wf k1 k2
    have e2 := e_come (K := K) (E := []) (Fh := F_Hall_hear r K) ok wf k1 k2 k3 k4 (fun E x v h w1 w2 w3 w4 w5 w6 => F_hear_at ok w1 w2 w3 w4 w5 w6)
    rw [List.append_nil, e] at e2
    rw [e2]
    exact fitH b ok s.wf (.int _)
theorem ok_do_of (t : TT K mg base) {r d : Nat} (hd1 : 1 ≤ d) (oks : FnR P w K mg base d (He.ma K (He.ga K "Hall") "spread") t.f_Hall_spread P_Hall_spread (spF K (tbs K) (F_Hall_spread r K))) (okc : FnR P w K mg base d (He.ma K (He.ga K "Hall") "come") t.f_Hall_come P_Hall_come (spF K (tbs K) (F_Hall_come r K))) :
    FnR P w K mg base (d + 1) (He.ma K (He.ga K "Hall") "do") t.f_Hall_do P_Hall_do (spF K (tbs K) (F_Hall_do r K)) := by
  refine fnF t.D_Hall_do sc_Hall_do (fun l S h => by unfold F_Hall_do at h; split at h <;> first | rfl | exact absurd rfl h) (q_Hall_do K (F_Hall_spread r K) (F_Hall_come r K)) (fun cdv A outer s H E hr => sb_Hall_do t oks okc (Nat.le_refl d) (Nat.le_refl d) hd1 hr) fun l S b bl h => ?_
  unfold F_Hall_do at h ⊢
  split at h
  rotate_left
  · exact absurd rfl h
  rename_i o dd x v
  cases hq : rdH (hC K) S o with
  | none => rw [hq] at h; exact absurd rfl h
  | some z =>
    obtain ⟨n, i, ha⟩ := z
    rw [hq] at h
    dsimp only at h ⊢
    by_cases hk : Wf ha ∧ ha.room ≤ (r : Int) ∧ ha.cut = false ∧ (0 ≤ x ∧ x < (ha.people.length : Int)) ∧ isDeedW (isHr 2) dd = true ∧ Cap 1 ha
    rotate_left
    · exact absurd (if_neg hk) h
    rw [if_pos hk]
    obtain ⟨wf, k1, k2, k3, k4, k5⟩ := hk
    obtain ⟨rfl, ok, e⟩ := rd_some hq
    have s := do_ok (v := v) (hear_ok r) k4 wf k1 k2 k3.1 k3.2
    have e2 := e_do (K := K) (r := r) (v := v) (E := []) (Fs := F_Hall_spread r K) (Fc := F_Hall_come r K) ok wf k1 k2 k3 k4 k5 (fun tt v w1 w2 => F_spread_at ok wf k1 w1 w2 k5) (fun p w1 => F_come_at ok wf k1 k2 w1 k5)
    rw [List.append_nil, e] at e2
    rw [e2]
    exact fitH b ok s.wf (.bl _)
theorem ok_Hall_hear (t : TT K mg base) : ∀ r : Nat, FnR P w K mg base (4 + 3 * r) (He.ma K (He.ga K "Hall") "hear") t.f_Hall_hear P_Hall_hear (spF K (tbs K) (F_Hall_hear r K))
  | 0 => ok_hear_of t (d := 3) fnr_stuck fun _ _ _ _ _ _ _ _ _ z => absurd z (by omega)
  | r + 1 => by
    have h := ok_Hall_hear t r
    have h2 := ok_do_of t (by omega) (ok_spread_of t (by omega) h) (ok_come_of t (by omega) h)
    exact ok_hear_of t (r := r + 1) h2 fun S n i x v E h d ok _ w1 w2 w3 w4 w5 w6 => F_do_at ok w1 w2 w3 w4 w5 w6
theorem ok_Hall_spread (t : TT K mg base) (r : Nat) : FnR P w K mg base (5 + 3 * r) (He.ma K (He.ga K "Hall") "spread") t.f_Hall_spread P_Hall_spread (spF K (tbs K) (F_Hall_spread r K)) := (show 4 + 3 * r + 1 = 5 + 3 * r by omega) ▸ ok_spread_of t (by omega) (ok_Hall_hear t r)
theorem ok_Hall_come (t : TT K mg base) (r : Nat) : FnR P w K mg base (5 + 3 * r) (He.ma K (He.ga K "Hall") "come") t.f_Hall_come P_Hall_come (spF K (tbs K) (F_Hall_come r K)) := (show 4 + 3 * r + 1 = 5 + 3 * r by omega) ▸ ok_come_of t (by omega) (ok_Hall_hear t r)
end
end Sx.My

set_option Elab.async false
set_option linter.all false
set_option maxRecDepth 100000
set_option maxHeartbeats 4000000
namespace Sx.My
open PySem PySem.Spec PyProof.Rows L2
noncomputable section
variable {P : Program} {w : World} {K : Frg} {mg : Str → Option Value} {base : Heap}
theorem cap_beg {h : Ha} (r : Rest h) : Cap 1 h.begin := ⟨by rw [mh_beg]; have := r.cap; omega, by show h.now.length + 100 ≤ _; rw [r.now]; decide⟩
theorem look_topic_at {t : Str} (ht : isWordS t = true) (S' : Sto) : F_look_topic K [.str t] S' = .ok .non S' := by
  have g : good S' (.str t) = true := nice_good (n := 0) (nice_word (a := .str t) ht) S'
  have e : isWord (.str t) = true := ht
  show (if good S' (.str t) = true then (if isWord (.str t) = true then RE.ok .non S' else .exc (cBadTopic K) S') else .stuck) = _
  rw [if_pos g, if_pos e]
theorem look_value_at {v : Int} (v0 : 0 ≤ v) (v1 : v ≤ 9999) (S' : Sto) : F_look_value K [.int v] S' = .ok .non S' := by
  have g : kn S' (.int v) = true := rfl
  show (if kn S' (.int v) = true then (if isIn (.int v) 0 9999 = true then RE.ok .non S' else .exc (cBadValue K) S') else .stuck) = _
  rw [if_pos g, if_pos (isIn_int v0 v1)]
open Classical in
def F_Hall_tell (K : Frg) : List A → Sto → RE := fun l S => match l with
  | [o, x, y] => (match rdH (hC K) S o with
    | some (n, i, h) => if Rest h ∧ good S x = true ∧ kn S y = true then
        (if isWord x = true then (if isIn y 0 9999 = true then .ok (.ob S.length) (wr (hC K) S n i (tellH h (strA x) (intA y)) ++ [.lst ((tellH h (strA x) (intA y)).rows.drop h.rows.length)]) else .exc (cBadValue K) S) else .exc (cBadTopic K) S) else .stuck
    | none => .stuck)
  | _ => .stuck
-- with Hall_tell
def q_Hall_tell_0 (K : Frg) : GS :=
  gExpr (gCall (F_look_topic K) (gCons (gVar 1) (gNil)))
def q_Hall_tell_1 (K : Frg) : GS :=
  gExpr (gCall (F_look_value K) (gCons (gVar 2) (gNil)))
def q_Hall_tell_2 (K : Frg) : GS :=
  gExpr (gMeth (He.ga K "Hall") "begin" (F_Hall_begin K) (gVar 0) gNil)
def q_Hall_tell_3 (K : Frg) : GS :=
  gSet 3 (gCB vLen (gCons (gFld (He.ga K "Hall") "rows" (gVar 0)) (gNil)))
def q_Hall_tell_4 (K : Frg) : GS :=
  gExpr (gMeth (He.ga K "Hall") "spread" (F_Hall_spread 100 K) (gVar 0) (gCons (gVar 1) (gCons (gVar 2) (gNil))))
def q_Hall_tell_5 (K : Frg) : GS :=
  gRet (gSlice (gFld (He.ga K "Hall") "rows" (gVar 0)) (pSome (gVar 3)) (pNone))
abbrev N_Hall_tell : List Str := ["self", "topic", "value", "many"]
abbrev P_Hall_tell : List Str := ["self", "topic", "value"]
theorem sc_Hall_tell : FnScope N_Hall_tell P_Hall_tell (defScope Hd.s_Hall_tell) := ⟨rfl, rfl, rfl, by decide +kernel, rfl, by decide +kernel, by decide +kernel⟩
theorem b_Hall_tell {K : Frg} {mg : Str → Option Value} {base : Heap} (t : TT K mg base) : Binds K t.f_Hall_tell P_Hall_tell [] := FunD.bindsN t.D_Hall_tell fun _ _ _ _ _ _ us hl => match us, hl with | [_, _, _], _ => rfl
def q_Hall_tell (K : Frg) : GS :=
  gSeq (q_Hall_tell_0 K ) (gSeq (q_Hall_tell_1 K ) (gSeq (q_Hall_tell_2 K ) (gSeq (q_Hall_tell_3 K ) (gSeq (q_Hall_tell_4 K ) (q_Hall_tell_5 K )))))
theorem sb_Hall_tell {P : Program} {w : World} {K : Frg} {mg : Str → Option Value} {base : Heap} (t : TT K mg base)  {cdv : Value} {A : Around} {outer : List Env} {s : Shared} {H : Hp} {E : XK} (hr : Rm 305 (A.deeper (envOfC "Hall.tell" (defScope Hd.s_Hall_tell) s.heap.objs.size (He.ma K (He.ga K "Hall") "tell") cdv))) :
    SB (cxOf (L2.CX P w) P w K mg base N_Hall_tell "Hall.tell" (defScope Hd.s_Hall_tell) (He.ma K (He.ga K "Hall") "tell") cdv A outer s H E) (tbs K) (fun c d _ H2 => E c d H2) (defBody Hd.s_Hall_tell) (q_Hall_tell K ) := by
  have nd : N_Hall_tell.Nodup := sc_Hall_tell.nd
  have hp := passes_of (X := cxOf (L2.CX P w) P w K mg base N_Hall_tell "Hall.tell" (defScope Hd.s_Hall_tell) (He.ma K (He.ga K "Hall") "tell") cdv A outer s H E) (K := fun e s2 => L2.CX P w outer H s E e s2) (E₁ := fun e s2 => L2.CX P w outer H s E e s2) rfl
  have tk : Takes (cxOf (L2.CX P w) P w K mg base N_Hall_tell "Hall.tell" (defScope Hd.s_Hall_tell) (He.ma K (He.ga K "Hall") "tell") cdv A outer s H E) (fun c d _ H2 => E c d H2) := takes_of rfl rfl rfl rfl
  exact (sb_cons (ss_expr (se_call (ok_look_topic t) (hr.mono (by omega)) t.m_look_topic t.D_look_topic.kp (b_look_topic t) tk (sa_cons (se_var' (pv 1)) sa_nil)))
  (sb_cons (ss_expr (se_call (ok_look_value t) (hr.mono (by omega)) t.m_look_value t.D_look_value.kp (b_look_value t) tk (sa_cons (se_var' (pv 2)) sa_nil)))
  (sb_cons (ss_expr (se_meth0 (se_var' (pv 0)) t.c_Hall t.t_Hall_begin (ok_Hall_begin t) (hr.mono (by omega)) (b_Hall_begin t) tk))
  (sb_cons (ss_set (i := 3) nd rfl (Or.inl rfl) (se_callB cs_len (by rfl) t.n_len (by decide +kernel) (sa_cons (se_fld t.c_Hall t.a_Hall_rows (se_var' (pv 0))) sa_nil)))
  (sb_cons (ss_expr (se_meth (se_var' (pv 0)) t.c_Hall t.t_Hall_spread (ok_Hall_spread t 100) (hr.mono (by omega)) (b_Hall_spread t) tk (sa_cons (se_var' (pv 1)) (sa_cons (se_var' (pv 2)) sa_nil))))
  (sb_one (ss_ret (se_slice (se_fld t.c_Hall t.a_Hall_rows (se_var' (pv 0))) (so_some (se_var' (pv 3))) so_none))))))))

theorem e_tell {S E : Sto} {n : Nat} {i : Ids} {h : Ha} {t : Str} {v : Int} (ok : OkI S n i) (r : Rest h) (ht : isWordS t = true) (v0 : 0 ≤ v) (v1 : v ≤ 9999) : q_Hall_tell K (startR N_Hall_tell.length [.ob n, .str t, .int v]) (wr (hC K) S n i h ++ E) = .ret (.ob (S.length + E.length)) (wr (hC K) S n i (tellH h t v) ++ (E ++ [.lst ((tellH h t v).rows.drop h.rows.length)])) := by
  have w := r.wf
  have g1 := look_topic_at (K := K) ht
  have g2 := look_value_at (K := K) v0 v1
  have l1 : ∀ h, ((flds i h).lookup ("begin" : Str)).isNone = true := fun h => by rw [(lk_m i h).2.2.2.2.2.2]; rfl
  have l2 : ∀ h, ((flds i h).lookup ("spread" : Str)).isNone = true := fun h => by rw [(lk_m i h).2.1]; rfl
  have e1 : F_Hall_begin K [.ob n] (wr (hC K) S n i h ++ E) = .ok .non (wr (hC K) S n i h.begin ++ E) := F_begin_at ok w
  have e2 : F_Hall_spread 100 K [.ob n, .str t, .int v] (wr (hC K) S n i h.begin ++ E) = .ok .non (wr (hC K) S n i (tellH h t v) ++ E) := F_spread_at ok (wf_beg w) (Int.le_refl _) ht ⟨v0, v1⟩ (cap_beg r)
  obtain ⟨rl, hrl⟩ := (tell_ok w ht v0 v1).stp.rows
  have hle : h.rows.length ≤ (tellH h t v).rows.length := by
    rw [hrl, List.length_append]
    show h.rows.length ≤ h.rows.length + _
    omega
  have eb : h.begin.rows = h.rows := rfl
  have st : startR N_Hall_tell.length [.ob n, .str t, .int v] = [some (.ob n), some (.str t), some (.int v), none] := rfl
  rw [st]
  have s0 : q_Hall_tell_0 K [some (.ob n), some (.str t), some (.int v), none] (wr (hC K) S n i h ++ E) = .nx [some (.ob n), some (.str t), some (.int v), none] (wr (hC K) S n i h ++ E) := by
    simp only [q_Hall_tell_0, wipeR, gVar, gC, gOp, gUn, gAnd, gOr, gNot, gIf, gNil, gCons, gTup, gLst, gCB, gChain, gSet, gExpr, gRet, gRetN, gPass, gBrk, gCt, gRaise, gIfS, gSeq, nName, nTup, setAll, gAsg, gCall, gTru, gNotT, gIsi, RE.bind_ok, RE.bind_exc, RE.bind_stuck, RE.bindA_ok, RE.bindS_ok, RE.bindS_exc, RE.bindT_ok, RE.bindTS_ok, RA.bind_ok, RA.bindA_ok, RE.nox_ok, RS.seq_nx, RS.seq_ret, RS.seq_exc, RS.seq_brk, RS.seq_ct, RS.seq_stuck, RE.bindA_exc, RE.bindA_stuck, RE.bindS_stuck, RE.bindT_exc, RE.bindT_stuck, RE.bindTS_exc, RE.bindTS_stuck, RA.bind_exc, RA.bind_stuck, RA.bindA_exc, RA.bindA_stuck, RE.nox_stuck, bind_ite, bindA_ite, bindS_ite, bindT_ite, bindTS_ite, nox_ite, seq_ite, startR, tyA_non, tyA_bl, tyA_int, tyA_str, tyA_tup, List.map_cons, List.map_nil, List.length_cons, List.length_nil, List.cons_append, List.nil_append, List.append_nil, List.getElem?_cons_zero, List.getElem?_cons_succ, List.set_cons_zero, List.set_cons_succ, vIx_t0, vIx_t1, vIx_t2, vIx_t3, vIx_t4, vIx_t5, vEq_ss, vEq_ii, vEq_bb, vNe_ss, vNe_ii, vNe_bb, vLen_tup, truA_tup, truA_bl, vLe_ii, vLt_ii, vGt_ii, vGe_ii, vSub_ii, vAdd_ii, vAddI_ii, vNeg_i, isT_ss, isT_tt, isT_ii, isT_bi, isT_bb, isT_ib, g1]
  have s1 : q_Hall_tell_1 K [some (.ob n), some (.str t), some (.int v), none] (wr (hC K) S n i h ++ E) = .nx [some (.ob n), some (.str t), some (.int v), none] (wr (hC K) S n i h ++ E) := by
    simp only [q_Hall_tell_1, wipeR, gVar, gC, gOp, gUn, gAnd, gOr, gNot, gIf, gNil, gCons, gTup, gLst, gCB, gChain, gSet, gExpr, gRet, gRetN, gPass, gBrk, gCt, gRaise, gIfS, gSeq, nName, nTup, setAll, gAsg, gCall, gTru, gNotT, gIsi, RE.bind_ok, RE.bind_exc, RE.bind_stuck, RE.bindA_ok, RE.bindS_ok, RE.bindS_exc, RE.bindT_ok, RE.bindTS_ok, RA.bind_ok, RA.bindA_ok, RE.nox_ok, RS.seq_nx, RS.seq_ret, RS.seq_exc, RS.seq_brk, RS.seq_ct, RS.seq_stuck, RE.bindA_exc, RE.bindA_stuck, RE.bindS_stuck, RE.bindT_exc, RE.bindT_stuck, RE.bindTS_exc, RE.bindTS_stuck, RA.bind_exc, RA.bind_stuck, RA.bindA_exc, RA.bindA_stuck, RE.nox_stuck, bind_ite, bindA_ite, bindS_ite, bindT_ite, bindTS_ite, nox_ite, seq_ite, startR, tyA_non, tyA_bl, tyA_int, tyA_str, tyA_tup, List.map_cons, List.map_nil, List.length_cons, List.length_nil, List.cons_append, List.nil_append, List.append_nil, List.getElem?_cons_zero, List.getElem?_cons_succ, List.set_cons_zero, List.set_cons_succ, vIx_t0, vIx_t1, vIx_t2, vIx_t3, vIx_t4, vIx_t5, vEq_ss, vEq_ii, vEq_bb, vNe_ss, vNe_ii, vNe_bb, vLen_tup, truA_tup, truA_bl, vLe_ii, vLt_ii, vGt_ii, vGe_ii, vSub_ii, vAdd_ii, vAddI_ii, vNeg_i, isT_ss, isT_tt, isT_ii, isT_bi, isT_bb, isT_ib, g2]
  have s2 : q_Hall_tell_2 K [some (.ob n), some (.str t), some (.int v), none] (wr (hC K) S n i h ++ E) = .nx [some (.ob n), some (.str t), some (.int v), none] (wr (hC K) S n i h.begin ++ E) := by
    simp only [q_Hall_tell_2, wipeR, gVar, gC, gOp, gUn, gAnd, gOr, gNot, gIf, gNil, gCons, gTup, gLst, gCB, gChain, gSet, gExpr, gRet, gRetN, gPass, gBrk, gCt, gRaise, gIfS, gSeq, nName, nTup, setAll, gAsg, gCall, gTru, gNotT, gIsi, RE.bind_ok, RE.bind_exc, RE.bind_stuck, RE.bindA_ok, RE.bindS_ok, RE.bindS_exc, RE.bindT_ok, RE.bindTS_ok, RA.bind_ok, RA.bindA_ok, RE.nox_ok, RS.seq_nx, RS.seq_ret, RS.seq_exc, RS.seq_brk, RS.seq_ct, RS.seq_stuck, RE.bindA_exc, RE.bindA_stuck, RE.bindS_stuck, RE.bindT_exc, RE.bindT_stuck, RE.bindTS_exc, RE.bindTS_stuck, RA.bind_exc, RA.bind_stuck, RA.bindA_exc, RA.bindA_stuck, RE.nox_stuck, bind_ite, bindA_ite, bindS_ite, bindT_ite, bindTS_ite, nox_ite, seq_ite, startR, tyA_non, tyA_bl, tyA_int, tyA_str, tyA_tup, List.map_cons, List.map_nil, List.length_cons, List.length_nil, List.cons_append, List.nil_append, List.append_nil, List.getElem?_cons_zero, List.getElem?_cons_succ, List.set_cons_zero, List.set_cons_succ, vIx_t0, vIx_t1, vIx_t2, vIx_t3, vIx_t4, vIx_t5, vEq_ss, vEq_ii, vEq_bb, vNe_ss, vNe_ii, vNe_bb, vLen_tup, truA_tup, truA_bl, vLe_ii, vLt_ii, vGt_ii, vGe_ii, vSub_ii, vAdd_ii, vAddI_ii, vNeg_i, isT_ss, isT_tt, isT_ii, isT_bi, isT_bb, isT_ib, gMeth, ins_wr ok, l1, ↓reduceIte, e1]
  have s3 : q_Hall_tell_3 K [some (.ob n), some (.str t), some (.int v), none] (wr (hC K) S n i h.begin ++ E) = .nx [some (.ob n), some (.str t), some (.int v), some (.int (h.rows.length : Int))] (wr (hC K) S n i h.begin ++ E) := by
    simp only [q_Hall_tell_3, wipeR, gVar, gC, gOp, gUn, gAnd, gOr, gNot, gIf, gNil, gCons, gTup, gLst, gCB, gChain, gSet, gExpr, gRet, gRetN, gPass, gBrk, gCt, gRaise, gIfS, gSeq, nName, nTup, setAll, gAsg, gCall, gTru, gNotT, gIsi, RE.bind_ok, RE.bind_exc, RE.bind_stuck, RE.bindA_ok, RE.bindS_ok, RE.bindS_exc, RE.bindT_ok, RE.bindTS_ok, RA.bind_ok, RA.bindA_ok, RE.nox_ok, RS.seq_nx, RS.seq_ret, RS.seq_exc, RS.seq_brk, RS.seq_ct, RS.seq_stuck, RE.bindA_exc, RE.bindA_stuck, RE.bindS_stuck, RE.bindT_exc, RE.bindT_stuck, RE.bindTS_exc, RE.bindTS_stuck, RA.bind_exc, RA.bind_stuck, RA.bindA_exc, RA.bindA_stuck, RE.nox_stuck, bind_ite, bindA_ite, bindS_ite, bindT_ite, bindTS_ite, nox_ite, seq_ite, startR, tyA_non, tyA_bl, tyA_int, tyA_str, tyA_tup, List.map_cons, List.map_nil, List.length_cons, List.length_nil, List.cons_append, List.nil_append, List.append_nil, List.getElem?_cons_zero, List.getElem?_cons_succ, List.set_cons_zero, List.set_cons_succ, vIx_t0, vIx_t1, vIx_t2, vIx_t3, vIx_t4, vIx_t5, vEq_ss, vEq_ii, vEq_bb, vNe_ss, vNe_ii, vNe_bb, vLen_tup, truA_tup, truA_bl, vLe_ii, vLt_ii, vGt_ii, vGe_ii, vSub_ii, vAdd_ii, vAddI_ii, vNeg_i, isT_ss, isT_tt, isT_ii, isT_bi, isT_bb, isT_ib, gFld, ins_wr ok, lk_rows, len_ro ok, eb]
  have s4 : q_Hall_tell_4 K [some (.ob n), some (.str t), some (.int v), some (.int (h.rows.length : Int))] (wr (hC K) S n i h.begin ++ E) = .nx [some (.ob n), some (.str t), some (.int v), some (.int (h.rows.length : Int))] (wr (hC K) S n i (tellH h t v) ++ E) := by
    simp only [q_Hall_tell_4, wipeR, gVar, gC, gOp, gUn, gAnd, gOr, gNot, gIf, gNil, gCons, gTup, gLst, gCB, gChain, gSet, gExpr, gRet, gRetN, gPass, gBrk, gCt, gRaise, gIfS, gSeq, nName, nTup, setAll, gAsg, gCall, gTru, gNotT, gIsi, RE.bind_ok, RE.bind_exc, RE.bind_stuck, RE.bindA_ok, RE.bindS_ok, RE.bindS_exc, RE.bindT_ok, RE.bindTS_ok, RA.bind_ok, RA.bindA_ok, RE.nox_ok, RS.seq_nx, RS.seq_ret, RS.seq_exc, RS.seq_brk, RS.seq_ct, RS.seq_stuck, RE.bindA_exc, RE.bindA_stuck, RE.bindS_stuck, RE.bindT_exc, RE.bindT_stuck, RE.bindTS_exc, RE.bindTS_stuck, RA.bind_exc, RA.bind_stuck, RA.bindA_exc, RA.bindA_stuck, RE.nox_stuck, bind_ite, bindA_ite, bindS_ite, bindT_ite, bindTS_ite, nox_ite, seq_ite, startR, tyA_non, tyA_bl, tyA_int, tyA_str, tyA_tup, List.map_cons, List.map_nil, List.length_cons, List.length_nil, List.cons_append, List.nil_append, List.append_nil, List.getElem?_cons_zero, List.getElem?_cons_succ, List.set_cons_zero, List.set_cons_succ, vIx_t0, vIx_t1, vIx_t2, vIx_t3, vIx_t4, vIx_t5, vEq_ss, vEq_ii, vEq_bb, vNe_ss, vNe_ii, vNe_bb, vLen_tup, truA_tup, truA_bl, vLe_ii, vLt_ii, vGt_ii, vGe_ii, vSub_ii, vAdd_ii, vAddI_ii, vNeg_i, isT_ss, isT_tt, isT_ii, isT_bi, isT_bb, isT_ib, gMeth, ins_wr ok, l2, ↓reduceIte, e2]
  refine seq_step s0 (seq_step s1 (seq_step s2 (seq_step s3 (seq_step s4 ?_))))
  simp only [q_Hall_tell_5, wipeR, gVar, gC, gOp, gUn, gAnd, gOr, gNot, gIf, gNil, gCons, gTup, gLst, gCB, gChain, gSet, gExpr, gRet, gRetN, gPass, gBrk, gCt, gRaise, gIfS, gSeq, nName, nTup, setAll, gAsg, gCall, gTru, gNotT, gIsi, RE.bind_ok, RE.bind_exc, RE.bind_stuck, RE.bindA_ok, RE.bindS_ok, RE.bindS_exc, RE.bindT_ok, RE.bindTS_ok, RA.bind_ok, RA.bindA_ok, RE.nox_ok, RS.seq_nx, RS.seq_ret, RS.seq_exc, RS.seq_brk, RS.seq_ct, RS.seq_stuck, RE.bindA_exc, RE.bindA_stuck, RE.bindS_stuck, RE.bindT_exc, RE.bindT_stuck, RE.bindTS_exc, RE.bindTS_stuck, RA.bind_exc, RA.bind_stuck, RA.bindA_exc, RA.bindA_stuck, RE.nox_stuck, bind_ite, bindA_ite, bindS_ite, bindT_ite, bindTS_ite, nox_ite, seq_ite, startR, tyA_non, tyA_bl, tyA_int, tyA_str, tyA_tup, List.map_cons, List.map_nil, List.length_cons, List.length_nil, List.cons_append, List.nil_append, List.append_nil, List.getElem?_cons_zero, List.getElem?_cons_succ, List.set_cons_zero, List.set_cons_succ, vIx_t0, vIx_t1, vIx_t2, vIx_t3, vIx_t4, vIx_t5, vEq_ss, vEq_ii, vEq_bb, vNe_ss, vNe_ii, vNe_bb, vLen_tup, truA_tup, truA_bl, vLe_ii, vLt_ii, vGt_ii, vGe_ii, vSub_ii, vAdd_ii, vAddI_ii, vNeg_i, isT_ss, isT_tt, isT_ii, isT_bi, isT_bb, isT_ib, gFld, gSlice, pSome, pNone, partOf, ins_wr ok, lk_rows, vCut, it_ro ok, cut_from hle, List.length_append, wr_length, List.append_assoc]
theorem ok_Hall_tell (t : TT K mg base) : FnR P w K mg base 306 (He.ma K (He.ga K "Hall") "tell") t.f_Hall_tell P_Hall_tell (spF K (tbs K) (F_Hall_tell K)) := by
  refine fnF t.D_Hall_tell sc_Hall_tell (fun l S h => by unfold F_Hall_tell at h; split at h <;> first | rfl | exact absurd rfl h) (q_Hall_tell K) (fun cdv A outer s H E hr => sb_Hall_tell t hr) fun l S b bl h => ?_
  unfold F_Hall_tell at h ⊢
  split at h
  rotate_left
  · exact absurd rfl h
  rename_i o x y
  cases hq : rdH (hC K) S o with
  | none => rw [hq] at h; exact absurd rfl h
  | some z =>
  obtain ⟨n, i, ha⟩ := z
  rw [hq] at h
  dsimp only at h ⊢
  by_cases hk : Rest ha ∧ good S x = true ∧ kn S y = true
  rotate_left
  · exact absurd (if_neg hk) h
  rw [if_pos hk]
  obtain ⟨rfl, ok, e⟩ := rd_some hq
  obtain ⟨r, gx, ky⟩ := hk
  cases hx : isWord x with
  | false =>
    have e2 : q_Hall_tell K (startR N_Hall_tell.length [.ob n, x, y]) S = .exc (cBadTopic K) [some (.ob n), some x, some y, none] S := by
      simp [q_Hall_tell, q_Hall_tell_0, wipeR, gVar, gC, gOp, gUn, gAnd, gOr, gNot, gIf, gNil, gCons, gTup, gLst, gCB, gChain, gSet, gExpr, gRet, gRetN, gPass, gBrk, gCt, gRaise, gIfS, gSeq, nName, nTup, setAll, gAsg, gCall, gTru, gNotT, gIsi, RE.bind_ok, RE.bind_exc, RE.bind_stuck, RE.bindA_ok, RE.bindS_ok, RE.bindS_exc, RE.bindT_ok, RE.bindTS_ok, RA.bind_ok, RA.bindA_ok, RE.nox_ok, RS.seq_nx, RS.seq_ret, RS.seq_exc, RS.seq_brk, RS.seq_ct, RS.seq_stuck, RE.bindA_exc, RE.bindA_stuck, RE.bindS_stuck, RE.bindT_exc, RE.bindT_stuck, RE.bindTS_exc, RE.bindTS_stuck, RA.bind_exc, RA.bind_stuck, RA.bindA_exc, RA.bindA_stuck, RE.nox_stuck, bind_ite, bindA_ite, bindS_ite, bindT_ite, bindTS_ite, nox_ite, seq_ite, startR, tyA_non, tyA_bl, tyA_int, tyA_str, tyA_tup, List.map_cons, List.map_nil, List.length_cons, List.length_nil, List.cons_append, List.nil_append, List.append_nil, List.getElem?_cons_zero, List.getElem?_cons_succ, List.set_cons_zero, List.set_cons_succ, vIx_t0, vIx_t1, vIx_t2, vIx_t3, vIx_t4, vIx_t5, vEq_ss, vEq_ii, vEq_bb, vNe_ss, vNe_ii, vNe_bb, vLen_tup, truA_tup, truA_bl, vLe_ii, vLt_ii, vGt_ii, vGe_ii, vSub_ii, vAdd_ii, vAddI_ii, vNeg_i, isT_ss, isT_tt, isT_ii, isT_bi, isT_bb, isT_ib, F_look_topic, gx, hx]
    rw [e2]
    exact fitX b
  | true =>
    cases hy : isIn y 0 9999 with
    | false =>
      have e2 : q_Hall_tell K (startR N_Hall_tell.length [.ob n, x, y]) S = .exc (cBadValue K) [some (.ob n), some x, some y, none] S := by
        simp [q_Hall_tell, q_Hall_tell_0, q_Hall_tell_1, wipeR, gVar, gC, gOp, gUn, gAnd, gOr, gNot, gIf, gNil, gCons, gTup, gLst, gCB, gChain, gSet, gExpr, gRet, gRetN, gPass, gBrk, gCt, gRaise, gIfS, gSeq, nName, nTup, setAll, gAsg, gCall, gTru, gNotT, gIsi, RE.bind_ok, RE.bind_exc, RE.bind_stuck, RE.bindA_ok, RE.bindS_ok, RE.bindS_exc, RE.bindT_ok, RE.bindTS_ok, RA.bind_ok, RA.bindA_ok, RE.nox_ok, RS.seq_nx, RS.seq_ret, RS.seq_exc, RS.seq_brk, RS.seq_ct, RS.seq_stuck, RE.bindA_exc, RE.bindA_stuck, RE.bindS_stuck, RE.bindT_exc, RE.bindT_stuck, RE.bindTS_exc, RE.bindTS_stuck, RA.bind_exc, RA.bind_stuck, RA.bindA_exc, RA.bindA_stuck, RE.nox_stuck, bind_ite, bindA_ite, bindS_ite, bindT_ite, bindTS_ite, nox_ite, seq_ite, startR, tyA_non, tyA_bl, tyA_int, tyA_str, tyA_tup, List.map_cons, List.map_nil, List.length_cons, List.length_nil, List.cons_append, List.nil_append, List.append_nil, List.getElem?_cons_zero, List.getElem?_cons_succ, List.set_cons_zero, List.set_cons_succ, vIx_t0, vIx_t1, vIx_t2, vIx_t3, vIx_t4, vIx_t5, vEq_ss, vEq_ii, vEq_bb, vNe_ss, vNe_ii, vNe_bb, vLen_tup, truA_tup, truA_bl, vLe_ii, vLt_ii, vGt_ii, vGe_ii, vSub_ii, vAdd_ii, vAddI_ii, vNeg_i, isT_ss, isT_tt, isT_ii, isT_bi, isT_bb, isT_ib, F_look_topic, F_look_value, gx, hx, hy, ky]
      rw [e2]
      exact fitX b
    | true =>
      obtain ⟨ex, hw⟩ := isWord_str hx
      obtain ⟨ey, y0, y1⟩ := isIn_int' hy
      have e2 := e_tell (K := K) (E := []) ok r hw y0 y1
      rw [List.append_nil, e, ← ex, ← ey] at e2
      rw [e2]
      have wf2 := (tell_ok r.wf hw y0 y1).wf
      have hl : (wr (hC K) S n i (tellH ha (strA x) (intA y))).length = S.length := wr_length
      have key := Fit.retL (n := S.length) (xs := (tellH ha (strA x) (intA y)).rows.drop ha.rows.length) (S := wr (hC K) S n i (tellH ha (strA x) (intA y))) (E := [] ++ [.lst ((tellH ha (strA x) (intA y)).rows.drop ha.rows.length)]) (d := S.length + ([] : Sto).length) (by rw [hl]; exact Nat.le_refl _) (by rw [List.nil_append, List.length_nil, Nat.add_zero, ← hl, get_off0]; rfl) (fun z hz => nice_bel (wf2.rows z (List.mem_of_mem_drop hz)) _) (wf_bel b ok wf2) (by rw [hl]; exact Nat.le_refl _)
      rw [hl] at key
      exact key
open Classical in
def F_Hall_enter (K : Frg) : List A → Sto → RE := fun l S => match l with
  | [o, p] => (match rdH (hC K) S o with
    | some (n, i, h) => if Rest h ∧ good S p = true then (if isHr 3 p = true then .ok (.int h.people.length) (wr (hC K) S n i (enterH h p)) else .exc (cBadHearer K) S) else .stuck
    | none => .stuck)
  | _ => .stuck
-- with Hall_enter
def q_Hall_enter_0 (K : Frg) : GS :=
  gExpr (gCall (F_checked K) (gCons (gVar 1) (gNil)))
def q_Hall_enter_1 (K : Frg) : GS :=
  gExpr (gMeth (He.ga K "Hall") "begin" (F_Hall_begin K) (gVar 0) gNil)
def q_Hall_enter_2 (K : Frg) : GS :=
  gRet (gMeth (He.ga K "Hall") "come" (F_Hall_come 100 K) (gVar 0) (gCons (gVar 1) (gNil)))
abbrev N_Hall_enter : List Str := ["self", "hearer"]
abbrev P_Hall_enter : List Str := ["self", "hearer"]
theorem sc_Hall_enter : FnScope N_Hall_enter P_Hall_enter (defScope Hd.s_Hall_enter) := ⟨rfl, rfl, rfl, by decide +kernel, rfl, by decide +kernel, by decide +kernel⟩
theorem b_Hall_enter {K : Frg} {mg : Str → Option Value} {base : Heap} (t : TT K mg base) : Binds K t.f_Hall_enter P_Hall_enter [] := FunD.bindsN t.D_Hall_enter fun _ _ _ _ _ _ us hl => match us, hl with | [_, _], _ => rfl
def q_Hall_enter (K : Frg) : GS :=
  gSeq (q_Hall_enter_0 K ) (gSeq (q_Hall_enter_1 K ) (q_Hall_enter_2 K ))
theorem sb_Hall_enter {P : Program} {w : World} {K : Frg} {mg : Str → Option Value} {base : Heap} (t : TT K mg base)  {cdv : Value} {A : Around} {outer : List Env} {s : Shared} {H : Hp} {E : XK} (hr : Rm 305 (A.deeper (envOfC "Hall.enter" (defScope Hd.s_Hall_enter) s.heap.objs.size (He.ma K (He.ga K "Hall") "enter") cdv))) :
    SB (cxOf (L2.CX P w) P w K mg base N_Hall_enter "Hall.enter" (defScope Hd.s_Hall_enter) (He.ma K (He.ga K "Hall") "enter") cdv A outer s H E) (tbs K) (fun c d _ H2 => E c d H2) (defBody Hd.s_Hall_enter) (q_Hall_enter K ) := by
  have nd : N_Hall_enter.Nodup := sc_Hall_enter.nd
  have hp := passes_of (X := cxOf (L2.CX P w) P w K mg base N_Hall_enter "Hall.enter" (defScope Hd.s_Hall_enter) (He.ma K (He.ga K "Hall") "enter") cdv A outer s H E) (K := fun e s2 => L2.CX P w outer H s E e s2) (E₁ := fun e s2 => L2.CX P w outer H s E e s2) rfl
  have tk : Takes (cxOf (L2.CX P w) P w K mg base N_Hall_enter "Hall.enter" (defScope Hd.s_Hall_enter) (He.ma K (He.ga K "Hall") "enter") cdv A outer s H E) (fun c d _ H2 => E c d H2) := takes_of rfl rfl rfl rfl
  exact (sb_cons (ss_expr (se_call (ok_checked t) (hr.mono (by omega)) t.m_checked t.D_checked.kp (b_checked t) tk (sa_cons (se_var' (pv 1)) sa_nil)))
  (sb_cons (ss_expr (se_meth0 (se_var' (pv 0)) t.c_Hall t.t_Hall_begin (ok_Hall_begin t) (hr.mono (by omega)) (b_Hall_begin t) tk))
  (sb_one (ss_ret (se_meth (se_var' (pv 0)) t.c_Hall t.t_Hall_come (ok_Hall_come t 100) (hr.mono (by omega)) (b_Hall_come t) tk (sa_cons (se_var' (pv 1)) sa_nil))))))

theorem e_enter {S E : Sto} {n : Nat} {i : Ids} {h : Ha} {p : A} (ok : OkI S n i) (r : Rest h) (hp : isHr 3 p = true) : q_Hall_enter K (startR N_Hall_enter.length [.ob n, p]) (wr (hC K) S n i h ++ E) = .ret (.int h.people.length) (wr (hC K) S n i (enterH h p) ++ E) := by
  have w := r.wf
  have g1 : ∀ S', F_checked K [p] S' = .ok p S' := fun S' => by
    have g : good S' p = true := nice_good (nice_hr hp) S'
    show (if good S' p = true then (if isHr 3 p = true then RE.ok p S' else .exc (cBadHearer K) S') else .stuck) = _
    rw [if_pos g, if_pos hp]
  have l1 : ∀ h, ((flds i h).lookup ("begin" : Str)).isNone = true := fun h => by rw [(lk_m i h).2.2.2.2.2.2]; rfl
  have l2 : ∀ h, ((flds i h).lookup ("come" : Str)).isNone = true := fun h => by rw [(lk_m i h).2.2.1]; rfl
  have e1 : F_Hall_begin K [.ob n] (wr (hC K) S n i h ++ E) = .ok .non (wr (hC K) S n i h.begin ++ E) := F_begin_at ok w
  have e2 : F_Hall_come 100 K [.ob n, p] (wr (hC K) S n i h.begin ++ E) = .ok (.int h.people.length) (wr (hC K) S n i (enterH h p) ++ E) := F_come_at ok (wf_beg w) (Int.le_refl _) rfl hp (cap_beg r)
  simp only [q_Hall_enter, q_Hall_enter_0, q_Hall_enter_1, q_Hall_enter_2, wipeR, gVar, gC, gOp, gUn, gAnd, gOr, gNot, gIf, gNil, gCons, gTup, gLst, gCB, gChain, gSet, gExpr, gRet, gRetN, gPass, gBrk, gCt, gRaise, gIfS, gSeq, nName, nTup, setAll, gAsg, gCall, gTru, gNotT, gIsi, RE.bind_ok, RE.bind_exc, RE.bind_stuck, RE.bindA_ok, RE.bindS_ok, RE.bindS_exc, RE.bindT_ok, RE.bindTS_ok, RA.bind_ok, RA.bindA_ok, RE.nox_ok, RS.seq_nx, RS.seq_ret, RS.seq_exc, RS.seq_brk, RS.seq_ct, RS.seq_stuck, RE.bindA_exc, RE.bindA_stuck, RE.bindS_stuck, RE.bindT_exc, RE.bindT_stuck, RE.bindTS_exc, RE.bindTS_stuck, RA.bind_exc, RA.bind_stuck, RA.bindA_exc, RA.bindA_stuck, RE.nox_stuck, bind_ite, bindA_ite, bindS_ite, bindT_ite, bindTS_ite, nox_ite, seq_ite, startR, tyA_non, tyA_bl, tyA_int, tyA_str, tyA_tup, List.map_cons, List.map_nil, List.length_cons, List.length_nil, List.cons_append, List.nil_append, List.append_nil, List.getElem?_cons_zero, List.getElem?_cons_succ, List.set_cons_zero, List.set_cons_succ, vIx_t0, vIx_t1, vIx_t2, vIx_t3, vIx_t4, vIx_t5, vEq_ss, vEq_ii, vEq_bb, vNe_ss, vNe_ii, vNe_bb, vLen_tup, truA_tup, truA_bl, vLe_ii, vLt_ii, vGt_ii, vGe_ii, vSub_ii, vAdd_ii, vAddI_ii, vNeg_i, isT_ss, isT_tt, isT_ii, isT_bi, isT_bb, isT_ib, g1, gMeth, ins_wr ok, l1, l2, ↓reduceIte, e1, e2, List.replicate, Nat.reduceAdd, Nat.reduceSub]
theorem ok_Hall_enter (t : TT K mg base) : FnR P w K mg base 306 (He.ma K (He.ga K "Hall") "enter") t.f_Hall_enter P_Hall_enter (spF K (tbs K) (F_Hall_enter K)) := by
  refine fnF t.D_Hall_enter sc_Hall_enter (fun l S h => by unfold F_Hall_enter at h; split at h <;> first | rfl | exact absurd rfl h) (q_Hall_enter K) (fun cdv A outer s H E hr => sb_Hall_enter t hr) fun l S b bl h => ?_
  unfold F_Hall_enter at h ⊢
  split at h
  rotate_left
  · exact absurd rfl h
  rename_i o p
  cases hq : rdH (hC K) S o with
  | none => rw [hq] at h; exact absurd rfl h
  | some z =>
  obtain ⟨n, i, ha⟩ := z
  rw [hq] at h
  dsimp only at h ⊢
  by_cases hk : Rest ha ∧ good S p = true
  rotate_left
  · exact absurd (if_neg hk) h
  rw [if_pos hk]
  obtain ⟨rfl, ok, e⟩ := rd_some hq
  obtain ⟨r, gp⟩ := hk
  cases hp : isHr 3 p with
  | false =>
    have e2 : q_Hall_enter K (startR N_Hall_enter.length [.ob n, p]) S = .exc (cBadHearer K) [some (.ob n), some p] S := by
      simp [q_Hall_enter, q_Hall_enter_0, wipeR, gVar, gC, gOp, gUn, gAnd, gOr, gNot, gIf, gNil, gCons, gTup, gLst, gCB, gChain, gSet, gExpr, gRet, gRetN, gPass, gBrk, gCt, gRaise, gIfS, gSeq, nName, nTup, setAll, gAsg, gCall, gTru, gNotT, gIsi, RE.bind_ok, RE.bind_exc, RE.bind_stuck, RE.bindA_ok, RE.bindS_ok, RE.bindS_exc, RE.bindT_ok, RE.bindTS_ok, RA.bind_ok, RA.bindA_ok, RE.nox_ok, RS.seq_nx, RS.seq_ret, RS.seq_exc, RS.seq_brk, RS.seq_ct, RS.seq_stuck, RE.bindA_exc, RE.bindA_stuck, RE.bindS_stuck, RE.bindT_exc, RE.bindT_stuck, RE.bindTS_exc, RE.bindTS_stuck, RA.bind_exc, RA.bind_stuck, RA.bindA_exc, RA.bindA_stuck, RE.nox_stuck, bind_ite, bindA_ite, bindS_ite, bindT_ite, bindTS_ite, nox_ite, seq_ite, startR, tyA_non, tyA_bl, tyA_int, tyA_str, tyA_tup, List.map_cons, List.map_nil, List.length_cons, List.length_nil, List.cons_append, List.nil_append, List.append_nil, List.getElem?_cons_zero, List.getElem?_cons_succ, List.set_cons_zero, List.set_cons_succ, vIx_t0, vIx_t1, vIx_t2, vIx_t3, vIx_t4, vIx_t5, vEq_ss, vEq_ii, vEq_bb, vNe_ss, vNe_ii, vNe_bb, vLen_tup, truA_tup, truA_bl, vLe_ii, vLt_ii, vGt_ii, vGe_ii, vSub_ii, vAdd_ii, vAddI_ii, vNeg_i, isT_ss, isT_tt, isT_ii, isT_bi, isT_bb, isT_ib, F_checked, gp, hp]
    rw [e2]
    exact fitX b
  | true =>
    have e2 := e_enter (K := K) (E := []) ok r hp
    rw [List.append_nil, e] at e2
    rw [e2]
    exact fitH b ok (enter_ok r.wf hp).wf (.int _)
open Classical in
def F_Hall_leave (K : Frg) : List A → Sto → RE := fun l S => match l with
  | [o, x] => (match rdH (hC K) S o with
    | some (n, i, h) => if Rest h ∧ good S x = true then (if isWord x = true then .ok (.int (dropL h (strA x)).length) (wr (hC K) S n i (dropW h (strA x))) else .exc (cBadTopic K) S) else .stuck
    | none => .stuck)
  | _ => .stuck
-- with Hall_leave
def q_Hall_leave_0 (K : Frg) : GS :=
  gExpr (gCall (F_look_topic K) (gCons (gVar 1) (gNil)))
def q_Hall_leave_1 (K : Frg) : GS :=
  gRet (gMeth (He.ga K "Hall") "drop_all" (F_Hall_drop_all K) (gVar 0) (gCons (gVar 1) (gNil)))
abbrev N_Hall_leave : List Str := ["self", "owner"]
abbrev P_Hall_leave : List Str := ["self", "owner"]
theorem sc_Hall_leave : FnScope N_Hall_leave P_Hall_leave (defScope Hd.s_Hall_leave) := ⟨rfl, rfl, rfl, by decide +kernel, rfl, by decide +kernel, by decide +kernel⟩
theorem b_Hall_leave {K : Frg} {mg : Str → Option Value} {base : Heap} (t : TT K mg base) : Binds K t.f_Hall_leave P_Hall_leave [] := FunD.bindsN t.D_Hall_leave fun _ _ _ _ _ _ us hl => match us, hl with | [_, _], _ => rfl
def q_Hall_leave (K : Frg) : GS :=
  gSeq (q_Hall_leave_0 K ) (q_Hall_leave_1 K )
theorem sb_Hall_leave {P : Program} {w : World} {K : Frg} {mg : Str → Option Value} {base : Heap} (t : TT K mg base)  {cdv : Value} {A : Around} {outer : List Env} {s : Shared} {H : Hp} {E : XK} (hr : Rm 2 (A.deeper (envOfC "Hall.leave" (defScope Hd.s_Hall_leave) s.heap.objs.size (He.ma K (He.ga K "Hall") "leave") cdv))) :
    SB (cxOf (L2.CX P w) P w K mg base N_Hall_leave "Hall.leave" (defScope Hd.s_Hall_leave) (He.ma K (He.ga K "Hall") "leave") cdv A outer s H E) (tbs K) (fun c d _ H2 => E c d H2) (defBody Hd.s_Hall_leave) (q_Hall_leave K ) := by
  have nd : N_Hall_leave.Nodup := sc_Hall_leave.nd
  have hp := passes_of (X := cxOf (L2.CX P w) P w K mg base N_Hall_leave "Hall.leave" (defScope Hd.s_Hall_leave) (He.ma K (He.ga K "Hall") "leave") cdv A outer s H E) (K := fun e s2 => L2.CX P w outer H s E e s2) (E₁ := fun e s2 => L2.CX P w outer H s E e s2) rfl
  have tk : Takes (cxOf (L2.CX P w) P w K mg base N_Hall_leave "Hall.leave" (defScope Hd.s_Hall_leave) (He.ma K (He.ga K "Hall") "leave") cdv A outer s H E) (fun c d _ H2 => E c d H2) := takes_of rfl rfl rfl rfl
  exact (sb_cons (ss_expr (se_call (ok_look_topic t) (hr.mono (by omega)) t.m_look_topic t.D_look_topic.kp (b_look_topic t) tk (sa_cons (se_var' (pv 1)) sa_nil)))
  (sb_one (ss_ret (se_meth (se_var' (pv 0)) t.c_Hall t.t_Hall_drop_all (ok_Hall_drop_all t) (hr.mono (by omega)) (b_Hall_drop_all t) tk (sa_cons (se_var' (pv 1)) sa_nil)))))

theorem e_leave {S E : Sto} {n : Nat} {i : Ids} {h : Ha} {x : Str} (ok : OkI S n i) (r : Rest h) (hx : isWordS x = true) : q_Hall_leave K (startR N_Hall_leave.length [.ob n, .str x]) (wr (hC K) S n i h ++ E) = .ret (.int (dropL h x).length) (wr (hC K) S n i (dropW h x) ++ E) := by
  have l3 : ∀ h, ((flds i h).lookup ("drop_all" : Str)).isNone = true := fun h => by rw [(lk_m i h).2.2.2.2.2.1]; rfl
  simp only [q_Hall_leave, q_Hall_leave_0, q_Hall_leave_1, wipeR, gVar, gC, gOp, gUn, gAnd, gOr, gNot, gIf, gNil, gCons, gTup, gLst, gCB, gChain, gSet, gExpr, gRet, gRetN, gPass, gBrk, gCt, gRaise, gIfS, gSeq, nName, nTup, setAll, gAsg, gCall, gTru, gNotT, gIsi, RE.bind_ok, RE.bind_exc, RE.bind_stuck, RE.bindA_ok, RE.bindS_ok, RE.bindS_exc, RE.bindT_ok, RE.bindTS_ok, RA.bind_ok, RA.bindA_ok, RE.nox_ok, RS.seq_nx, RS.seq_ret, RS.seq_exc, RS.seq_brk, RS.seq_ct, RS.seq_stuck, RE.bindA_exc, RE.bindA_stuck, RE.bindS_stuck, RE.bindT_exc, RE.bindT_stuck, RE.bindTS_exc, RE.bindTS_stuck, RA.bind_exc, RA.bind_stuck, RA.bindA_exc, RA.bindA_stuck, RE.nox_stuck, bind_ite, bindA_ite, bindS_ite, bindT_ite, bindTS_ite, nox_ite, seq_ite, startR, tyA_non, tyA_bl, tyA_int, tyA_str, tyA_tup, List.map_cons, List.map_nil, List.length_cons, List.length_nil, List.cons_append, List.nil_append, List.append_nil, List.getElem?_cons_zero, List.getElem?_cons_succ, List.set_cons_zero, List.set_cons_succ, vIx_t0, vIx_t1, vIx_t2, vIx_t3, vIx_t4, vIx_t5, vEq_ss, vEq_ii, vEq_bb, vNe_ss, vNe_ii, vNe_bb, vLen_tup, truA_tup, truA_bl, vLe_ii, vLt_ii, vGt_ii, vGe_ii, vSub_ii, vAdd_ii, vAddI_ii, vNeg_i, isT_ss, isT_tt, isT_ii, isT_bi, isT_bb, isT_ib, look_topic_at hx, gMeth, ins_wr ok, l3, ↓reduceIte, F_drop_at ok r.wf r.pe, List.replicate, Nat.reduceAdd, Nat.reduceSub]
theorem ok_Hall_leave (t : TT K mg base) : FnR P w K mg base 3 (He.ma K (He.ga K "Hall") "leave") t.f_Hall_leave P_Hall_leave (spF K (tbs K) (F_Hall_leave K)) := by
  refine fnF t.D_Hall_leave sc_Hall_leave (fun l S h => by unfold F_Hall_leave at h; split at h <;> first | rfl | exact absurd rfl h) (q_Hall_leave K) (fun cdv A outer s H E hr => sb_Hall_leave t hr) fun l S b bl h => ?_
  unfold F_Hall_leave at h ⊢
  split at h
  rotate_left
  · exact absurd rfl h
  rename_i o x
  cases hq : rdH (hC K) S o with
  | none => rw [hq] at h; exact absurd rfl h
  | some z =>
  obtain ⟨n, i, ha⟩ := z
  rw [hq] at h
  dsimp only at h ⊢
  by_cases hk : Rest ha ∧ good S x = true
  rotate_left
  · exact absurd (if_neg hk) h
  rw [if_pos hk]
  obtain ⟨rfl, ok, e⟩ := rd_some hq
  obtain ⟨r, gx⟩ := hk
  cases hx : isWord x with
  | false =>
    have e2 : q_Hall_leave K (startR N_Hall_leave.length [.ob n, x]) S = .exc (cBadTopic K) [some (.ob n), some x] S := by
      simp [q_Hall_leave, q_Hall_leave_0, wipeR, gVar, gC, gOp, gUn, gAnd, gOr, gNot, gIf, gNil, gCons, gTup, gLst, gCB, gChain, gSet, gExpr, gRet, gRetN, gPass, gBrk, gCt, gRaise, gIfS, gSeq, nName, nTup, setAll, gAsg, gCall, gTru, gNotT, gIsi, RE.bind_ok, RE.bind_exc, RE.bind_stuck, RE.bindA_ok, RE.bindS_ok, RE.bindS_exc, RE.bindT_ok, RE.bindTS_ok, RA.bind_ok, RA.bindA_ok, RE.nox_ok, RS.seq_nx, RS.seq_ret, RS.seq_exc, RS.seq_brk, RS.seq_ct, RS.seq_stuck, RE.bindA_exc, RE.bindA_stuck, RE.bindS_stuck, RE.bindT_exc, RE.bindT_stuck, RE.bindTS_exc, RE.bindTS_stuck, RA.bind_exc, RA.bind_stuck, RA.bindA_exc, RA.bindA_stuck, RE.nox_stuck, bind_ite, bindA_ite, bindS_ite, bindT_ite, bindTS_ite, nox_ite, seq_ite, startR, tyA_non, tyA_bl, tyA_int, tyA_str, tyA_tup, List.map_cons, List.map_nil, List.length_cons, List.length_nil, List.cons_append, List.nil_append, List.append_nil, List.getElem?_cons_zero, List.getElem?_cons_succ, List.set_cons_zero, List.set_cons_succ, vIx_t0, vIx_t1, vIx_t2, vIx_t3, vIx_t4, vIx_t5, vEq_ss, vEq_ii, vEq_bb, vNe_ss, vNe_ii, vNe_bb, vLen_tup, truA_tup, truA_bl, vLe_ii, vLt_ii, vGt_ii, vGe_ii, vSub_ii, vAdd_ii, vAddI_ii, vNeg_i, isT_ss, isT_tt, isT_ii, isT_bi, isT_bb, isT_ib, F_look_topic, gx, hx]
    rw [e2]
    exact fitX b
  | true =>
    obtain ⟨ex, hw⟩ := isWord_str hx
    have e2 := e_leave (K := K) (E := []) ok r hw
    rw [List.append_nil, e, ← ex] at e2
    rw [e2]
    exact fitH b ok (drop_ok r.wf).wf (.int _)
open Classical in
def F_Hall_journal (K : Frg) : List A → Sto → RE := fun l S => match l with
  | [o] => (match rdH (hC K) S o with
    | some (n, i, h) => if Rest h then .ok (.ob S.length) (S ++ [.lst h.rows]) else .stuck
    | none => .stuck)
  | _ => .stuck
-- with Hall_journal
def q_Hall_journal_0 (K : Frg) : GS :=
  gRet (gCB vList (gCons (gFld (He.ga K "Hall") "rows" (gVar 0)) (gNil)))
abbrev N_Hall_journal : List Str := ["self"]
abbrev P_Hall_journal : List Str := ["self"]
theorem sc_Hall_journal : FnScope N_Hall_journal P_Hall_journal (defScope Hd.s_Hall_journal) := ⟨rfl, rfl, rfl, by decide +kernel, rfl, by decide +kernel, by decide +kernel⟩
theorem b_Hall_journal {K : Frg} {mg : Str → Option Value} {base : Heap} (t : TT K mg base) : Binds K t.f_Hall_journal P_Hall_journal [] := FunD.bindsN t.D_Hall_journal fun _ _ _ _ _ _ us hl => match us, hl with | [_], _ => rfl
def q_Hall_journal (K : Frg) : GS :=
  q_Hall_journal_0 K 
theorem sb_Hall_journal {P : Program} {w : World} {K : Frg} {mg : Str → Option Value} {base : Heap} (t : TT K mg base)  {cdv : Value} {A : Around} {outer : List Env} {s : Shared} {H : Hp} {E : XK} (hr : Rm 0 (A.deeper (envOfC "Hall.journal" (defScope Hd.s_Hall_journal) s.heap.objs.size (He.ma K (He.ga K "Hall") "journal") cdv))) :
    SB (cxOf (L2.CX P w) P w K mg base N_Hall_journal "Hall.journal" (defScope Hd.s_Hall_journal) (He.ma K (He.ga K "Hall") "journal") cdv A outer s H E) (tbs K) (fun c d _ H2 => E c d H2) (defBody Hd.s_Hall_journal) (q_Hall_journal K ) := by
  have nd : N_Hall_journal.Nodup := sc_Hall_journal.nd
  have hp := passes_of (X := cxOf (L2.CX P w) P w K mg base N_Hall_journal "Hall.journal" (defScope Hd.s_Hall_journal) (He.ma K (He.ga K "Hall") "journal") cdv A outer s H E) (K := fun e s2 => L2.CX P w outer H s E e s2) (E₁ := fun e s2 => L2.CX P w outer H s E e s2) rfl
  have tk : Takes (cxOf (L2.CX P w) P w K mg base N_Hall_journal "Hall.journal" (defScope Hd.s_Hall_journal) (He.ma K (He.ga K "Hall") "journal") cdv A outer s H E) (fun c d _ H2 => E c d H2) := takes_of rfl rfl rfl rfl
  exact (sb_one (ss_ret (se_callTy cs_list (by rfl) t.n_list (by decide +kernel) (sa_cons (se_fld t.c_Hall t.a_Hall_rows (se_var' (pv 0))) sa_nil))))

theorem ok_Hall_journal (t : TT K mg base) : FnR P w K mg base 1 (He.ma K (He.ga K "Hall") "journal") t.f_Hall_journal P_Hall_journal (spF K (tbs K) (F_Hall_journal K)) := by
  refine fnF t.D_Hall_journal sc_Hall_journal (fun l S h => by unfold F_Hall_journal at h; split at h <;> first | rfl | exact absurd rfl h) (q_Hall_journal K) (fun cdv A outer s H E hr => sb_Hall_journal t hr) fun l S b bl h => ?_
  unfold F_Hall_journal at h ⊢
  split at h
  rotate_left
  · exact absurd rfl h
  rename_i o
  cases hq : rdH (hC K) S o with
  | none => rw [hq] at h; exact absurd rfl h
  | some z =>
  obtain ⟨n, i, ha⟩ := z
  rw [hq] at h
  dsimp only at h ⊢
  by_cases hk : Rest ha
  rotate_left
  · exact absurd (if_neg hk) h
  rw [if_pos hk]
  obtain ⟨rfl, ok, e⟩ := rd_some hq
  have e2 : ∀ E, q_Hall_journal K (startR N_Hall_journal.length [.ob n]) (wr (hC K) S n i ha ++ E) = .ret (.ob (S.length + E.length)) (wr (hC K) S n i ha ++ (E ++ [.lst ha.rows])) := fun E => by
    simp only [q_Hall_journal, q_Hall_journal_0, wipeR, gVar, gC, gOp, gUn, gAnd, gOr, gNot, gIf, gNil, gCons, gTup, gLst, gCB, gChain, gSet, gExpr, gRet, gRetN, gPass, gBrk, gCt, gRaise, gIfS, gSeq, nName, nTup, setAll, gAsg, gCall, gTru, gNotT, gIsi, RE.bind_ok, RE.bind_exc, RE.bind_stuck, RE.bindA_ok, RE.bindS_ok, RE.bindS_exc, RE.bindT_ok, RE.bindTS_ok, RA.bind_ok, RA.bindA_ok, RE.nox_ok, RS.seq_nx, RS.seq_ret, RS.seq_exc, RS.seq_brk, RS.seq_ct, RS.seq_stuck, RE.bindA_exc, RE.bindA_stuck, RE.bindS_stuck, RE.bindT_exc, RE.bindT_stuck, RE.bindTS_exc, RE.bindTS_stuck, RA.bind_exc, RA.bind_stuck, RA.bindA_exc, RA.bindA_stuck, RE.nox_stuck, bind_ite, bindA_ite, bindS_ite, bindT_ite, bindTS_ite, nox_ite, seq_ite, startR, tyA_non, tyA_bl, tyA_int, tyA_str, tyA_tup, List.map_cons, List.map_nil, List.length_cons, List.length_nil, List.cons_append, List.nil_append, List.append_nil, List.getElem?_cons_zero, List.getElem?_cons_succ, List.set_cons_zero, List.set_cons_succ, vIx_t0, vIx_t1, vIx_t2, vIx_t3, vIx_t4, vIx_t5, vEq_ss, vEq_ii, vEq_bb, vNe_ss, vNe_ii, vNe_bb, vLen_tup, truA_tup, truA_bl, vLe_ii, vLt_ii, vGt_ii, vGe_ii, vSub_ii, vAdd_ii, vAddI_ii, vNeg_i, isT_ss, isT_tt, isT_ii, isT_bi, isT_bb, isT_ib, gFld, ins_wr ok, lk_rows, vList, seqOf, it_ro ok, List.length_append, wr_length, List.append_assoc, List.replicate, Nat.reduceAdd, Nat.reduceSub]
  have e3 := e2 []
  rw [List.append_nil, e] at e3
  rw [e3]
  refine Fit.retL (by simp) ?_ (fun x hx => nice_bel (hk.wf.rows x hx) _) b (Nat.le_refl _)
  simp
open Classical in
def F_Hall_hearers (K : Frg) : List A → Sto → RE := fun l S => match l with
  | [o, x] => (match rdH (hC K) S o with
    | some (n, i, h) => if Rest h ∧ good S x = true then (if isWord x = true then .ok (.ob S.length) (S ++ [.lst ((orderH h (strA x)).map .int)]) else .exc (cBadTopic K) S) else .stuck
    | none => .stuck)
  | _ => .stuck
-- with Hall_hearers
def q_Hall_hearers_0 (K : Frg) : GS :=
  gExpr (gCall (F_look_topic K) (gCons (gVar 1) (gNil)))
def q_Hall_hearers_1 (K : Frg) : GS :=
  gRet (gMeth (He.ga K "Hall") "order" (F_Hall_order K) (gVar 0) (gCons (gVar 1) (gNil)))
abbrev N_Hall_hearers : List Str := ["self", "topic"]
abbrev P_Hall_hearers : List Str := ["self", "topic"]
theorem sc_Hall_hearers : FnScope N_Hall_hearers P_Hall_hearers (defScope Hd.s_Hall_hearers) := ⟨rfl, rfl, rfl, by decide +kernel, rfl, by decide +kernel, by decide +kernel⟩
theorem b_Hall_hearers {K : Frg} {mg : Str → Option Value} {base : Heap} (t : TT K mg base) : Binds K t.f_Hall_hearers P_Hall_hearers [] := FunD.bindsN t.D_Hall_hearers fun _ _ _ _ _ _ us hl => match us, hl with | [_, _], _ => rfl
def q_Hall_hearers (K : Frg) : GS :=
  gSeq (q_Hall_hearers_0 K ) (q_Hall_hearers_1 K )
theorem sb_Hall_hearers {P : Program} {w : World} {K : Frg} {mg : Str → Option Value} {base : Heap} (t : TT K mg base)  {cdv : Value} {A : Around} {outer : List Env} {s : Shared} {H : Hp} {E : XK} (hr : Rm 3 (A.deeper (envOfC "Hall.hearers" (defScope Hd.s_Hall_hearers) s.heap.objs.size (He.ma K (He.ga K "Hall") "hearers") cdv))) :
    SB (cxOf (L2.CX P w) P w K mg base N_Hall_hearers "Hall.hearers" (defScope Hd.s_Hall_hearers) (He.ma K (He.ga K "Hall") "hearers") cdv A outer s H E) (tbs K) (fun c d _ H2 => E c d H2) (defBody Hd.s_Hall_hearers) (q_Hall_hearers K ) := by
  have nd : N_Hall_hearers.Nodup := sc_Hall_hearers.nd
  have hp := passes_of (X := cxOf (L2.CX P w) P w K mg base N_Hall_hearers "Hall.hearers" (defScope Hd.s_Hall_hearers) (He.ma K (He.ga K "Hall") "hearers") cdv A outer s H E) (K := fun e s2 => L2.CX P w outer H s E e s2) (E₁ := fun e s2 => L2.CX P w outer H s E e s2) rfl
  have tk : Takes (cxOf (L2.CX P w) P w K mg base N_Hall_hearers "Hall.hearers" (defScope Hd.s_Hall_hearers) (He.ma K (He.ga K "Hall") "hearers") cdv A outer s H E) (fun c d _ H2 => E c d H2) := takes_of rfl rfl rfl rfl
  exact (sb_cons (ss_expr (se_call (ok_look_topic t) (hr.mono (by omega)) t.m_look_topic t.D_look_topic.kp (b_look_topic t) tk (sa_cons (se_var' (pv 1)) sa_nil)))
  (sb_one (ss_ret (se_meth (se_var' (pv 0)) t.c_Hall t.t_Hall_order (ok_Hall_order t) (hr.mono (by omega)) (b_Hall_order t) tk (sa_cons (se_var' (pv 1)) sa_nil)))))

theorem ok_Hall_hearers (t : TT K mg base) : FnR P w K mg base 4 (He.ma K (He.ga K "Hall") "hearers") t.f_Hall_hearers P_Hall_hearers (spF K (tbs K) (F_Hall_hearers K)) := by
  refine fnF t.D_Hall_hearers sc_Hall_hearers (fun l S h => by unfold F_Hall_hearers at h; split at h <;> first | rfl | exact absurd rfl h) (q_Hall_hearers K) (fun cdv A outer s H E hr => sb_Hall_hearers t hr) fun l S b bl h => ?_
  unfold F_Hall_hearers at h ⊢
  split at h
  rotate_left
  · exact absurd rfl h
  rename_i o x
  cases hq : rdH (hC K) S o with
  | none => rw [hq] at h; exact absurd rfl h
  | some z =>
  obtain ⟨n, i, ha⟩ := z
  rw [hq] at h
  dsimp only at h ⊢
  by_cases hk : Rest ha ∧ good S x = true
  rotate_left
  · exact absurd (if_neg hk) h
  rw [if_pos hk]
  obtain ⟨rfl, ok, e⟩ := rd_some hq
  obtain ⟨r, gx⟩ := hk
  cases hx : isWord x with
  | false =>
    have e2 : q_Hall_hearers K (startR N_Hall_hearers.length [.ob n, x]) S = .exc (cBadTopic K) [some (.ob n), some x] S := by
      simp [q_Hall_hearers, q_Hall_hearers_0, wipeR, gVar, gC, gOp, gUn, gAnd, gOr, gNot, gIf, gNil, gCons, gTup, gLst, gCB, gChain, gSet, gExpr, gRet, gRetN, gPass, gBrk, gCt, gRaise, gIfS, gSeq, nName, nTup, setAll, gAsg, gCall, gTru, gNotT, gIsi, RE.bind_ok, RE.bind_exc, RE.bind_stuck, RE.bindA_ok, RE.bindS_ok, RE.bindS_exc, RE.bindT_ok, RE.bindTS_ok, RA.bind_ok, RA.bindA_ok, RE.nox_ok, RS.seq_nx, RS.seq_ret, RS.seq_exc, RS.seq_brk, RS.seq_ct, RS.seq_stuck, RE.bindA_exc, RE.bindA_stuck, RE.bindS_stuck, RE.bindT_exc, RE.bindT_stuck, RE.bindTS_exc, RE.bindTS_stuck, RA.bind_exc, RA.bind_stuck, RA.bindA_exc, RA.bindA_stuck, RE.nox_stuck, bind_ite, bindA_ite, bindS_ite, bindT_ite, bindTS_ite, nox_ite, seq_ite, startR, tyA_non, tyA_bl, tyA_int, tyA_str, tyA_tup, List.map_cons, List.map_nil, List.length_cons, List.length_nil, List.cons_append, List.nil_append, List.append_nil, List.getElem?_cons_zero, List.getElem?_cons_succ, List.set_cons_zero, List.set_cons_succ, vIx_t0, vIx_t1, vIx_t2, vIx_t3, vIx_t4, vIx_t5, vEq_ss, vEq_ii, vEq_bb, vNe_ss, vNe_ii, vNe_bb, vLen_tup, truA_tup, truA_bl, vLe_ii, vLt_ii, vGt_ii, vGe_ii, vSub_ii, vAdd_ii, vAddI_ii, vNeg_i, isT_ss, isT_tt, isT_ii, isT_bi, isT_bb, isT_ib, F_look_topic, gx, hx]
    rw [e2]
    exact fitX b
  | true =>
    obtain ⟨ex, hw⟩ := isWord_str hx
    have l3 : ∀ h, ((flds i h).lookup ("order" : Str)).isNone = true := fun h => by rw [(lk_m i h).2.2.2.2.1]; rfl
    have e2 : ∀ E, q_Hall_hearers K (startR N_Hall_hearers.length [.ob n, .str (strA x)]) (wr (hC K) S n i ha ++ E) = .ret (.ob (S.length + E.length)) (wr (hC K) S n i ha ++ (E ++ [.lst ((orderH ha (strA x)).map .int)])) := fun E => by
      simp only [q_Hall_hearers, q_Hall_hearers_0, q_Hall_hearers_1, wipeR, gVar, gC, gOp, gUn, gAnd, gOr, gNot, gIf, gNil, gCons, gTup, gLst, gCB, gChain, gSet, gExpr, gRet, gRetN, gPass, gBrk, gCt, gRaise, gIfS, gSeq, nName, nTup, setAll, gAsg, gCall, gTru, gNotT, gIsi, RE.bind_ok, RE.bind_exc, RE.bind_stuck, RE.bindA_ok, RE.bindS_ok, RE.bindS_exc, RE.bindT_ok, RE.bindTS_ok, RA.bind_ok, RA.bindA_ok, RE.nox_ok, RS.seq_nx, RS.seq_ret, RS.seq_exc, RS.seq_brk, RS.seq_ct, RS.seq_stuck, RE.bindA_exc, RE.bindA_stuck, RE.bindS_stuck, RE.bindT_exc, RE.bindT_stuck, RE.bindTS_exc, RE.bindTS_stuck, RA.bind_exc, RA.bind_stuck, RA.bindA_exc, RA.bindA_stuck, RE.nox_stuck, bind_ite, bindA_ite, bindS_ite, bindT_ite, bindTS_ite, nox_ite, seq_ite, startR, tyA_non, tyA_bl, tyA_int, tyA_str, tyA_tup, List.map_cons, List.map_nil, List.length_cons, List.length_nil, List.cons_append, List.nil_append, List.append_nil, List.getElem?_cons_zero, List.getElem?_cons_succ, List.set_cons_zero, List.set_cons_succ, vIx_t0, vIx_t1, vIx_t2, vIx_t3, vIx_t4, vIx_t5, vEq_ss, vEq_ii, vEq_bb, vNe_ss, vNe_ii, vNe_bb, vLen_tup, truA_tup, truA_bl, vLe_ii, vLt_ii, vGt_ii, vGe_ii, vSub_ii, vAdd_ii, vAddI_ii, vNeg_i, isT_ss, isT_tt, isT_ii, isT_bi, isT_bb, isT_ib, look_topic_at hw, gMeth, ins_wr ok, l3, ↓reduceIte, F_order_at ok r.wf r.pe, List.replicate, Nat.reduceAdd, Nat.reduceSub]
    have e3 := e2 []
    rw [List.append_nil, e, ← ex] at e3
    rw [e3]
    refine Fit.retL (by simp) ?_ (fun y hy => ?_) b (Nat.le_refl _)
    · simp
    · obtain ⟨k, _, rfl⟩ := List.mem_map.mp hy
      exact .int k
open Classical in
def F_Hall_last (K : Frg) : List A → Sto → RE := fun l S => match l with
  | [o, x] => (match rdH (hC K) S o with
    | some (n, i, h) => if Rest h ∧ good S x = true then (if isWord x = true then .ok ((valA h.lasts (.inr (strA x))).getD .non) S else .exc (cBadTopic K) S) else .stuck
    | none => .stuck)
  | _ => .stuck
-- with Hall_last
def q_Hall_last_0 (K : Frg) : GS :=
  gExpr (gCall (F_look_topic K) (gCons (gVar 1) (gNil)))
def q_Hall_last_1 (K : Frg) : GS :=
  gRet (gDgetD (gFld (He.ga K "Hall") "lasts" (gVar 0)) (gVar 1) (gC .non))
abbrev N_Hall_last : List Str := ["self", "topic"]
abbrev P_Hall_last : List Str := ["self", "topic"]
theorem sc_Hall_last : FnScope N_Hall_last P_Hall_last (defScope Hd.s_Hall_last) := ⟨rfl, rfl, rfl, by decide +kernel, rfl, by decide +kernel, by decide +kernel⟩
theorem b_Hall_last {K : Frg} {mg : Str → Option Value} {base : Heap} (t : TT K mg base) : Binds K t.f_Hall_last P_Hall_last [] := FunD.bindsN t.D_Hall_last fun _ _ _ _ _ _ us hl => match us, hl with | [_, _], _ => rfl
def q_Hall_last (K : Frg) : GS :=
  gSeq (q_Hall_last_0 K ) (q_Hall_last_1 K )
theorem sb_Hall_last {P : Program} {w : World} {K : Frg} {mg : Str → Option Value} {base : Heap} (t : TT K mg base)  {cdv : Value} {A : Around} {outer : List Env} {s : Shared} {H : Hp} {E : XK} (hr : Rm 2 (A.deeper (envOfC "Hall.last" (defScope Hd.s_Hall_last) s.heap.objs.size (He.ma K (He.ga K "Hall") "last") cdv))) :
    SB (cxOf (L2.CX P w) P w K mg base N_Hall_last "Hall.last" (defScope Hd.s_Hall_last) (He.ma K (He.ga K "Hall") "last") cdv A outer s H E) (tbs K) (fun c d _ H2 => E c d H2) (defBody Hd.s_Hall_last) (q_Hall_last K ) := by
  have nd : N_Hall_last.Nodup := sc_Hall_last.nd
  have hp := passes_of (X := cxOf (L2.CX P w) P w K mg base N_Hall_last "Hall.last" (defScope Hd.s_Hall_last) (He.ma K (He.ga K "Hall") "last") cdv A outer s H E) (K := fun e s2 => L2.CX P w outer H s E e s2) (E₁ := fun e s2 => L2.CX P w outer H s E e s2) rfl
  have tk : Takes (cxOf (L2.CX P w) P w K mg base N_Hall_last "Hall.last" (defScope Hd.s_Hall_last) (He.ma K (He.ga K "Hall") "last") cdv A outer s H E) (fun c d _ H2 => E c d H2) := takes_of rfl rfl rfl rfl
  exact (sb_cons (ss_expr (se_call (ok_look_topic t) (hr.mono (by omega)) t.m_look_topic t.D_look_topic.kp (b_look_topic t) tk (sa_cons (se_var' (pv 1)) sa_nil)))
  (sb_one (ss_ret (se_dgetD hr.units (se_fld t.c_Hall t.a_Hall_lasts (se_var' (pv 0))) (se_var' (pv 1)) se_non))))

theorem ok_Hall_last (t : TT K mg base) : FnR P w K mg base 3 (He.ma K (He.ga K "Hall") "last") t.f_Hall_last P_Hall_last (spF K (tbs K) (F_Hall_last K)) := by
  refine fnF t.D_Hall_last sc_Hall_last (fun l S h => by unfold F_Hall_last at h; split at h <;> first | rfl | exact absurd rfl h) (q_Hall_last K) (fun cdv A outer s H E hr => sb_Hall_last t hr) fun l S b bl h => ?_
  unfold F_Hall_last at h ⊢
  split at h
  rotate_left
  · exact absurd rfl h
  rename_i o x
  cases hq : rdH (hC K) S o with
  | none => rw [hq] at h; exact absurd rfl h
  | some z =>
  obtain ⟨n, i, ha⟩ := z
  rw [hq] at h
  dsimp only at h ⊢
  by_cases hk : Rest ha ∧ good S x = true
  rotate_left
  · exact absurd (if_neg hk) h
  rw [if_pos hk]
  obtain ⟨rfl, ok, e⟩ := rd_some hq
  obtain ⟨r, gx⟩ := hk
  cases hx : isWord x with
  | false =>
    have e2 : q_Hall_last K (startR N_Hall_last.length [.ob n, x]) S = .exc (cBadTopic K) [some (.ob n), some x] S := by
      simp [q_Hall_last, q_Hall_last_0, wipeR, gVar, gC, gOp, gUn, gAnd, gOr, gNot, gIf, gNil, gCons, gTup, gLst, gCB, gChain, gSet, gExpr, gRet, gRetN, gPass, gBrk, gCt, gRaise, gIfS, gSeq, nName, nTup, setAll, gAsg, gCall, gTru, gNotT, gIsi, RE.bind_ok, RE.bind_exc, RE.bind_stuck, RE.bindA_ok, RE.bindS_ok, RE.bindS_exc, RE.bindT_ok, RE.bindTS_ok, RA.bind_ok, RA.bindA_ok, RE.nox_ok, RS.seq_nx, RS.seq_ret, RS.seq_exc, RS.seq_brk, RS.seq_ct, RS.seq_stuck, RE.bindA_exc, RE.bindA_stuck, RE.bindS_stuck, RE.bindT_exc, RE.bindT_stuck, RE.bindTS_exc, RE.bindTS_stuck, RA.bind_exc, RA.bind_stuck, RA.bindA_exc, RA.bindA_stuck, RE.nox_stuck, bind_ite, bindA_ite, bindS_ite, bindT_ite, bindTS_ite, nox_ite, seq_ite, startR, tyA_non, tyA_bl, tyA_int, tyA_str, tyA_tup, List.map_cons, List.map_nil, List.length_cons, List.length_nil, List.cons_append, List.nil_append, List.append_nil, List.getElem?_cons_zero, List.getElem?_cons_succ, List.set_cons_zero, List.set_cons_succ, vIx_t0, vIx_t1, vIx_t2, vIx_t3, vIx_t4, vIx_t5, vEq_ss, vEq_ii, vEq_bb, vNe_ss, vNe_ii, vNe_bb, vLen_tup, truA_tup, truA_bl, vLe_ii, vLt_ii, vGt_ii, vGe_ii, vSub_ii, vAdd_ii, vAddI_ii, vNeg_i, isT_ss, isT_tt, isT_ii, isT_bi, isT_bb, isT_ib, F_look_topic, gx, hx]
    rw [e2]
    exact fitX b
  | true =>
    obtain ⟨ex, hw⟩ := isWord_str hx
    have e2 : ∀ E, q_Hall_last K (startR N_Hall_last.length [.ob n, .str (strA x)]) (wr (hC K) S n i ha ++ E) = .ret ((valA ha.lasts (.inr (strA x))).getD .non) (wr (hC K) S n i ha ++ E) := fun E => by
      simp only [q_Hall_last, q_Hall_last_0, q_Hall_last_1, wipeR, gVar, gC, gOp, gUn, gAnd, gOr, gNot, gIf, gNil, gCons, gTup, gLst, gCB, gChain, gSet, gExpr, gRet, gRetN, gPass, gBrk, gCt, gRaise, gIfS, gSeq, nName, nTup, setAll, gAsg, gCall, gTru, gNotT, gIsi, RE.bind_ok, RE.bind_exc, RE.bind_stuck, RE.bindA_ok, RE.bindS_ok, RE.bindS_exc, RE.bindT_ok, RE.bindTS_ok, RA.bind_ok, RA.bindA_ok, RE.nox_ok, RS.seq_nx, RS.seq_ret, RS.seq_exc, RS.seq_brk, RS.seq_ct, RS.seq_stuck, RE.bindA_exc, RE.bindA_stuck, RE.bindS_stuck, RE.bindT_exc, RE.bindT_stuck, RE.bindTS_exc, RE.bindTS_stuck, RA.bind_exc, RA.bind_stuck, RA.bindA_exc, RA.bindA_stuck, RE.nox_stuck, bind_ite, bindA_ite, bindS_ite, bindT_ite, bindTS_ite, nox_ite, seq_ite, startR, tyA_non, tyA_bl, tyA_int, tyA_str, tyA_tup, List.map_cons, List.map_nil, List.length_cons, List.length_nil, List.cons_append, List.nil_append, List.append_nil, List.getElem?_cons_zero, List.getElem?_cons_succ, List.set_cons_zero, List.set_cons_succ, vIx_t0, vIx_t1, vIx_t2, vIx_t3, vIx_t4, vIx_t5, vEq_ss, vEq_ii, vEq_bb, vNe_ss, vNe_ii, vNe_bb, vLen_tup, truA_tup, truA_bl, vLe_ii, vLt_ii, vGt_ii, vGe_ii, vSub_ii, vAdd_ii, vAddI_ii, vNeg_i, isT_ss, isT_tt, isT_ii, isT_bi, isT_bb, isT_ib, look_topic_at hw, gFld, gDgetD, ins_wr ok, lk_lasts, di_la ok, keyA, List.replicate, Nat.reduceAdd, Nat.reduceSub]
    have e3 := e2 []
    rw [List.append_nil, e, ← ex] at e3
    rw [e3]
    refine fitP b ?_
    cases hv : valA ha.lasts (.inr (strA x)) with
    | none => exact .non
    | some u =>
      obtain ⟨t2, v, e4, _⟩ := r.wf.lasts _ (valA_mem hv)
      cases e4
      exact .int v
end
end Sx.My

set_option Elab.async false
set_option linter.all false
set_option maxRecDepth 100000
set_option maxHeartbeats 4000000
namespace Sx.My
open PySem PySem.Spec PyProof.Rows L2
noncomputable section
variable {P : Program} {w : World} {K : Frg} {mg : Str → Option Value} {base : Heap}
open Classical in
def F_Hall_look_number (K : Frg) : List A → Sto → RE := fun l S => match l with
  | [o, x] => (match rdH (hC K) S o with
    | some (n, i, h) => if kn S x = true then (if isIn x 0 ((h.people.length : Int) - 1) = true then .ok .non S else .exc (cBadHearer K) S) else .stuck
    | none => .stuck)
  | _ => .stuck
-- with Hall_look_number
def q_Hall_look_number_0 (K : Frg) : GS :=
  gIfS (gNot (gCall (F_is_within K) (gCons (gVar 1) (gCons (gC (.int 0)) (gCons (gOp vSub (gCB vLen (gCons (gFld (He.ga K "Hall") "people" (gVar 0)) (gNil))) (gC (.int 1))) (gNil)))))) (gRaise (.ref (He.ga K "BadHearer"))) (gPass)
abbrev N_Hall_look_number : List Str := ["self", "number"]
abbrev P_Hall_look_number : List Str := ["self", "number"]
theorem sc_Hall_look_number : FnScope N_Hall_look_number P_Hall_look_number (defScope Hd.s_Hall_look_number) := ⟨rfl, rfl, rfl, by decide +kernel, rfl, by decide +kernel, by decide +kernel⟩
theorem b_Hall_look_number {K : Frg} {mg : Str → Option Value} {base : Heap} (t : TT K mg base) : Binds K t.f_Hall_look_number P_Hall_look_number [] := FunD.bindsN t.D_Hall_look_number fun _ _ _ _ _ _ us hl => match us, hl with | [_, _], _ => rfl
def q_Hall_look_number (K : Frg) : GS :=
  q_Hall_look_number_0 K 
theorem sb_Hall_look_number {P : Program} {w : World} {K : Frg} {mg : Str → Option Value} {base : Heap} (t : TT K mg base)  {cdv : Value} {A : Around} {outer : List Env} {s : Shared} {H : Hp} {E : XK} (hr : Rm 1 (A.deeper (envOfC "Hall.look_number" (defScope Hd.s_Hall_look_number) s.heap.objs.size (He.ma K (He.ga K "Hall") "look_number") cdv))) :
    SB (cxOf (L2.CX P w) P w K mg base N_Hall_look_number "Hall.look_number" (defScope Hd.s_Hall_look_number) (He.ma K (He.ga K "Hall") "look_number") cdv A outer s H E) (tbs K) (fun c d _ H2 => E c d H2) (defBody Hd.s_Hall_look_number) (q_Hall_look_number K ) := by
  have nd : N_Hall_look_number.Nodup := sc_Hall_look_number.nd
  have hp := passes_of (X := cxOf (L2.CX P w) P w K mg base N_Hall_look_number "Hall.look_number" (defScope Hd.s_Hall_look_number) (He.ma K (He.ga K "Hall") "look_number") cdv A outer s H E) (K := fun e s2 => L2.CX P w outer H s E e s2) (E₁ := fun e s2 => L2.CX P w outer H s E e s2) rfl
  have tk : Takes (cxOf (L2.CX P w) P w K mg base N_Hall_look_number "Hall.look_number" (defScope Hd.s_Hall_look_number) (He.ma K (He.ga K "Hall") "look_number") cdv A outer s H E) (fun c d _ H2 => E c d H2) := takes_of rfl rfl rfl rfl
  exact (sb_one (ss_if (st_not (st_val (se_call (ok_is_within t) (hr.mono (by omega)) t.m_is_within t.D_is_within.kp (b_is_within t) tk (sa_cons (se_var' (pv 1)) (sa_cons se_int (sa_cons (se_op os_sub (se_callB cs_len (by rfl) t.n_len (by decide +kernel) (sa_cons (se_fld t.c_Hall t.a_Hall_people (se_var' (pv 0))) sa_nil)) se_int) sa_nil)))))) (sb_one (ss_raise rfl tk (pmk_own PySem.F.excBase_ValueError t.x_BadHearer.1 t.m_BadHearer t.x_BadHearer.2.1 (raises_own t.x_BadHearer.2.2.1 t.x_BadHearer.2.2.2) (by exact rfl)))) sb_nil))

theorem ok_Hall_look_number (t : TT K mg base) : FnR P w K mg base 2 (He.ma K (He.ga K "Hall") "look_number") t.f_Hall_look_number P_Hall_look_number (spF K (tbs K) (F_Hall_look_number K)) := by
  refine fnF t.D_Hall_look_number sc_Hall_look_number (fun l S h => by unfold F_Hall_look_number at h; split at h <;> first | rfl | exact absurd rfl h) (q_Hall_look_number K) (fun cdv A outer s H E hr => sb_Hall_look_number t hr) fun l S b bl h => ?_
  unfold F_Hall_look_number at h ⊢
  split at h
  rotate_left
  · exact absurd rfl h
  rename_i o x
  cases hq : rdH (hC K) S o with
  | none => rw [hq] at h; exact absurd rfl h
  | some z =>
  obtain ⟨n, i, ha⟩ := z
  rw [hq] at h
  dsimp only at h ⊢
  by_cases hk : kn S x = true
  rotate_left
  · exact absurd (if_neg hk) h
  rw [if_pos hk]
  obtain ⟨rfl, ok, e⟩ := rd_some hq
  have e2 : ∀ E, kn (wr (hC K) S n i ha ++ E) x = true → q_Hall_look_number K (startR N_Hall_look_number.length [.ob n, x]) (wr (hC K) S n i ha ++ E) = if isIn x 0 ((ha.people.length : Int) - 1) = true then .nx [some (.ob n), some x] (wr (hC K) S n i ha ++ E) else .exc (cBadHearer K) [some (.ob n), some x] (wr (hC K) S n i ha ++ E) := fun E hx => by
    cases hi : isIn x 0 ((ha.people.length : Int) - 1) <;> simp only [q_Hall_look_number, q_Hall_look_number_0, wipeR, gVar, gC, gOp, gUn, gAnd, gOr, gNot, gIf, gNil, gCons, gTup, gLst, gCB, gChain, gSet, gExpr, gRet, gRetN, gPass, gBrk, gCt, gRaise, gIfS, gSeq, nName, nTup, setAll, gAsg, gCall, gTru, gNotT, gIsi, RE.bind_ok, RE.bind_exc, RE.bind_stuck, RE.bindA_ok, RE.bindS_ok, RE.bindS_exc, RE.bindT_ok, RE.bindTS_ok, RA.bind_ok, RA.bindA_ok, RE.nox_ok, RS.seq_nx, RS.seq_ret, RS.seq_exc, RS.seq_brk, RS.seq_ct, RS.seq_stuck, RE.bindA_exc, RE.bindA_stuck, RE.bindS_stuck, RE.bindT_exc, RE.bindT_stuck, RE.bindTS_exc, RE.bindTS_stuck, RA.bind_exc, RA.bind_stuck, RA.bindA_exc, RA.bindA_stuck, RE.nox_stuck, bind_ite, bindA_ite, bindS_ite, bindT_ite, bindTS_ite, nox_ite, seq_ite, startR, tyA_non, tyA_bl, tyA_int, tyA_str, tyA_tup, List.map_cons, List.map_nil, List.length_cons, List.length_nil, List.cons_append, List.nil_append, List.append_nil, List.getElem?_cons_zero, List.getElem?_cons_succ, List.set_cons_zero, List.set_cons_succ, vIx_t0, vIx_t1, vIx_t2, vIx_t3, vIx_t4, vIx_t5, vEq_ss, vEq_ii, vEq_bb, vNe_ss, vNe_ii, vNe_bb, vLen_tup, truA_tup, truA_bl, vLe_ii, vLt_ii, vGt_ii, vGe_ii, vSub_ii, vAdd_ii, vAddI_ii, vNeg_i, isT_ss, isT_tt, isT_ii, isT_bi, isT_bb, isT_ib, gFld, ins_wr ok, lk_people, len_pe ok, F_is_within, hx, hi, ↓reduceIte, Bool.not_true, Bool.not_false, Bool.false_eq_true, List.replicate, Nat.reduceAdd, Nat.reduceSub]
  have e3 := e2 []
  rw [List.append_nil, e] at e3
  rw [e3 hk]
  split
  · exact fitN b
  · exact fitX b
theorem F_num_at {S E : Sto} {n : Nat} {i : Ids} {h : Ha} {x : Int} (ok : OkI S n i) (hx : 0 ≤ x ∧ x < (h.people.length : Int)) : F_Hall_look_number K [.ob n, .int x] (wr (hC K) S n i h ++ E) = .ok .non (wr (hC K) S n i h ++ E) := by
  unfold F_Hall_look_number
  simp only [rd_wr ok]
  have g : kn (wr (hC K) S n i h ++ E) (.int x) = true := rfl
  rw [if_pos g, if_pos (isIn_int hx.1 (by omega))]
open Classical in
def F_Hall_hearer (K : Frg) : List A → Sto → RE := fun l S => match l with
  | [o, x] => (match rdH (hC K) S o with
    | some (n, i, h) => if Wf h ∧ kn S x = true then (if isIn x 0 ((h.people.length : Int) - 1) = true then .ok (pAt h (intA x)) S else .exc (cBadHearer K) S) else .stuck
    | none => .stuck)
  | _ => .stuck
-- with Hall_hearer
def q_Hall_hearer_0 (K : Frg) : GS :=
  gExpr (gMeth (He.ga K "Hall") "look_number" (F_Hall_look_number K) (gVar 0) (gCons (gVar 1) (gNil)))
def q_Hall_hearer_1 (K : Frg) : GS :=
  gRet (gOp vIx (gFld (He.ga K "Hall") "people" (gVar 0)) (gVar 1))
abbrev N_Hall_hearer : List Str := ["self", "number"]
abbrev P_Hall_hearer : List Str := ["self", "number"]
theorem sc_Hall_hearer : FnScope N_Hall_hearer P_Hall_hearer (defScope Hd.s_Hall_hearer) := ⟨rfl, rfl, rfl, by decide +kernel, rfl, by decide +kernel, by decide +kernel⟩
theorem b_Hall_hearer {K : Frg} {mg : Str → Option Value} {base : Heap} (t : TT K mg base) : Binds K t.f_Hall_hearer P_Hall_hearer [] := FunD.bindsN t.D_Hall_hearer fun _ _ _ _ _ _ us hl => match us, hl with | [_, _], _ => rfl
def q_Hall_hearer (K : Frg) : GS :=
  gSeq (q_Hall_hearer_0 K ) (q_Hall_hearer_1 K )
theorem sb_Hall_hearer {P : Program} {w : World} {K : Frg} {mg : Str → Option Value} {base : Heap} (t : TT K mg base)  {cdv : Value} {A : Around} {outer : List Env} {s : Shared} {H : Hp} {E : XK} (hr : Rm 2 (A.deeper (envOfC "Hall.hearer" (defScope Hd.s_Hall_hearer) s.heap.objs.size (He.ma K (He.ga K "Hall") "hearer") cdv))) :
    SB (cxOf (L2.CX P w) P w K mg base N_Hall_hearer "Hall.hearer" (defScope Hd.s_Hall_hearer) (He.ma K (He.ga K "Hall") "hearer") cdv A outer s H E) (tbs K) (fun c d _ H2 => E c d H2) (defBody Hd.s_Hall_hearer) (q_Hall_hearer K ) := by
  have nd : N_Hall_hearer.Nodup := sc_Hall_hearer.nd
  have hp := passes_of (X := cxOf (L2.CX P w) P w K mg base N_Hall_hearer "Hall.hearer" (defScope Hd.s_Hall_hearer) (He.ma K (He.ga K "Hall") "hearer") cdv A outer s H E) (K := fun e s2 => L2.CX P w outer H s E e s2) (E₁ := fun e s2 => L2.CX P w outer H s E e s2) rfl
  have tk : Takes (cxOf (L2.CX P w) P w K mg base N_Hall_hearer "Hall.hearer" (defScope Hd.s_Hall_hearer) (He.ma K (He.ga K "Hall") "hearer") cdv A outer s H E) (fun c d _ H2 => E c d H2) := takes_of rfl rfl rfl rfl
  exact (sb_cons (ss_expr (se_meth (se_var' (pv 0)) t.c_Hall t.t_Hall_look_number (ok_Hall_look_number t) (hr.mono (by omega)) (b_Hall_look_number t) tk (sa_cons (se_var' (pv 1)) sa_nil)))
  (sb_one (ss_ret (se_ix is_ix (se_fld t.c_Hall t.a_Hall_people (se_var' (pv 0))) (se_var' (pv 1)) (fun _ _ => rfl)))))

theorem ok_Hall_hearer (t : TT K mg base) : FnR P w K mg base 3 (He.ma K (He.ga K "Hall") "hearer") t.f_Hall_hearer P_Hall_hearer (spF K (tbs K) (F_Hall_hearer K)) := by
  refine fnF t.D_Hall_hearer sc_Hall_hearer (fun l S h => by unfold F_Hall_hearer at h; split at h <;> first | rfl | exact absurd rfl h) (q_Hall_hearer K) (fun cdv A outer s H E hr => sb_Hall_hearer t hr) fun l S b bl h => ?_
  unfold F_Hall_hearer at h ⊢
  split at h
  rotate_left
  · exact absurd rfl h
  rename_i o x
  cases hq : rdH (hC K) S o with
  | none => rw [hq] at h; exact absurd rfl h
  | some z =>
  obtain ⟨n, i, ha⟩ := z
  rw [hq] at h
  dsimp only at h ⊢
  by_cases hk : Wf ha ∧ kn S x = true
  rotate_left
  · exact absurd (if_neg hk) h
  rw [if_pos hk]
  obtain ⟨rfl, ok, e⟩ := rd_some hq
  obtain ⟨wf, kx⟩ := hk
  have l1 : ∀ h, ((flds i h).lookup ("look_number" : Str)).isNone = true := fun h => rfl
  cases hi : isIn x 0 ((ha.people.length : Int) - 1) with
  | false =>
    have e2 : ∀ E, kn (wr (hC K) S n i ha ++ E) x = true → q_Hall_hearer K (startR N_Hall_hearer.length [.ob n, x]) (wr (hC K) S n i ha ++ E) = .exc (cBadHearer K) [some (.ob n), some x] (wr (hC K) S n i ha ++ E) := fun E hx => by
      have e1 : F_Hall_look_number K [.ob n, x] (wr (hC K) S n i ha ++ E) = .exc (cBadHearer K) (wr (hC K) S n i ha ++ E) := by
        unfold F_Hall_look_number
        simp only [rd_wr ok]
        rw [if_pos hx, hi]
        rfl
      simp only [q_Hall_hearer, q_Hall_hearer_0, wipeR, gVar, gC, gOp, gUn, gAnd, gOr, gNot, gIf, gNil, gCons, gTup, gLst, gCB, gChain, gSet, gExpr, gRet, gRetN, gPass, gBrk, gCt, gRaise, gIfS, gSeq, nName, nTup, setAll, gAsg, gCall, gTru, gNotT, gIsi, RE.bind_ok, RE.bind_exc, RE.bind_stuck, RE.bindA_ok, RE.bindS_ok, RE.bindS_exc, RE.bindT_ok, RE.bindTS_ok, RA.bind_ok, RA.bindA_ok, RE.nox_ok, RS.seq_nx, RS.seq_ret, RS.seq_exc, RS.seq_brk, RS.seq_ct, RS.seq_stuck, RE.bindA_exc, RE.bindA_stuck, RE.bindS_stuck, RE.bindT_exc, RE.bindT_stuck, RE.bindTS_exc, RE.bindTS_stuck, RA.bind_exc, RA.bind_stuck, RA.bindA_exc, RA.bindA_stuck, RE.nox_stuck, bind_ite, bindA_ite, bindS_ite, bindT_ite, bindTS_ite, nox_ite, seq_ite, startR, tyA_non, tyA_bl, tyA_int, tyA_str, tyA_tup, List.map_cons, List.map_nil, List.length_cons, List.length_nil, List.cons_append, List.nil_append, List.append_nil, List.getElem?_cons_zero, List.getElem?_cons_succ, List.set_cons_zero, List.set_cons_succ, vIx_t0, vIx_t1, vIx_t2, vIx_t3, vIx_t4, vIx_t5, vEq_ss, vEq_ii, vEq_bb, vNe_ss, vNe_ii, vNe_bb, vLen_tup, truA_tup, truA_bl, vLe_ii, vLt_ii, vGt_ii, vGe_ii, vSub_ii, vAdd_ii, vAddI_ii, vNeg_i, isT_ss, isT_tt, isT_ii, isT_bi, isT_bb, isT_ib, gMeth, ins_wr ok, l1, ↓reduceIte, e1, List.replicate, Nat.reduceAdd, Nat.reduceSub]
    have e3 := e2 []
    rw [List.append_nil, e] at e3
    rw [e3 kx]
    exact fitX b
  | true =>
    obtain ⟨ex, x0, x1⟩ := isIn_int' hi
    have hx : 0 ≤ intA x ∧ intA x < (ha.people.length : Int) := ⟨x0, by omega⟩
    have e2 : ∀ E, q_Hall_hearer K (startR N_Hall_hearer.length [.ob n, .int (intA x)]) (wr (hC K) S n i ha ++ E) = .ret (pAt ha (intA x)) (wr (hC K) S n i ha ++ E) := fun E => by
      simp only [q_Hall_hearer, q_Hall_hearer_0, q_Hall_hearer_1, wipeR, gVar, gC, gOp, gUn, gAnd, gOr, gNot, gIf, gNil, gCons, gTup, gLst, gCB, gChain, gSet, gExpr, gRet, gRetN, gPass, gBrk, gCt, gRaise, gIfS, gSeq, nName, nTup, setAll, gAsg, gCall, gTru, gNotT, gIsi, RE.bind_ok, RE.bind_exc, RE.bind_stuck, RE.bindA_ok, RE.bindS_ok, RE.bindS_exc, RE.bindT_ok, RE.bindTS_ok, RA.bind_ok, RA.bindA_ok, RE.nox_ok, RS.seq_nx, RS.seq_ret, RS.seq_exc, RS.seq_brk, RS.seq_ct, RS.seq_stuck, RE.bindA_exc, RE.bindA_stuck, RE.bindS_stuck, RE.bindT_exc, RE.bindT_stuck, RE.bindTS_exc, RE.bindTS_stuck, RA.bind_exc, RA.bind_stuck, RA.bindA_exc, RA.bindA_stuck, RE.nox_stuck, bind_ite, bindA_ite, bindS_ite, bindT_ite, bindTS_ite, nox_ite, seq_ite, startR, tyA_non, tyA_bl, tyA_int, tyA_str, tyA_tup, List.map_cons, List.map_nil, List.length_cons, List.length_nil, List.cons_append, List.nil_append, List.append_nil, List.getElem?_cons_zero, List.getElem?_cons_succ, List.set_cons_zero, List.set_cons_succ, vIx_t0, vIx_t1, vIx_t2, vIx_t3, vIx_t4, vIx_t5, vEq_ss, vEq_ii, vEq_bb, vNe_ss, vNe_ii, vNe_bb, vLen_tup, truA_tup, truA_bl, vLe_ii, vLt_ii, vGt_ii, vGe_ii, vSub_ii, vAdd_ii, vAddI_ii, vNeg_i, isT_ss, isT_tt, isT_ii, isT_bi, isT_bb, isT_ib, gFld, gMeth, ins_wr ok, l1, ↓reduceIte, F_num_at ok hx, lk_people, ix_pe ok hx.1 hx.2, List.replicate, Nat.reduceAdd, Nat.reduceSub]
    have e3 := e2 []
    rw [List.append_nil, e, ← ex] at e3
    rw [e3]
    exact fitP b (nice_bel (nice_hr (pAt_hr wf hx.1 hx.2)) _)
open Classical in
def F_Hall_is_there (K : Frg) : List A → Sto → RE := fun l S => match l with
  | [o, x] => (match rdH (hC K) S o with
    | some (n, i, h) => if kn S x = true then (if isIn x 0 ((h.people.length : Int) - 1) = true then .ok (.bl (!goneB h (intA x))) S else .exc (cBadHearer K) S) else .stuck
    | none => .stuck)
  | _ => .stuck
end
end Sx.My

set_option Elab.async false
set_option linter.all false
set_option maxRecDepth 100000
set_option maxHeartbeats 4000000
namespace Sx.My
open PySem PySem.Spec PyProof.Rows L2
noncomputable section
variable {P : Program} {w : World} {K : Frg} {mg : Str → Option Value} {base : Heap}
def lenOk : A → Bool
  | .tup l => decide (l.length ≤ 1000)
  | _ => true
def F_look_kept (K : Frg) : List A → Sto → RE := fun l S => match l with
  | [x] => if (good S x && lenOk x) = true then (if keptOk x = true then .ok .non S else .exc (cBadTopic K) S) else .stuck
  | _ => .stuck
def q_look_kept_0 (K : Frg) : GS :=
  gIfS (gOr (gNot (gIsi "tuple" (gVar 0))) (gTru (gLc (gIT (gVar 0)) (nName 2) (gNot (gCall (F_is_word K) (gCons (gVar 2) (gNil)))) (gVar 2) [2]))) (gRaise (.ref (He.ga K "BadTopic"))) (gPass)
def q_look_kept_1 (K : Frg) : GS :=
  gIfS (gTru (gLc (gIR2 (gCons (gC (.int 1)) (gCons (gCB vLen (gCons (gVar 0) (gNil))) (gNil)))) (nName 1) (gOp vGe (gOp vIx (gVar 0) (gOp vSub (gVar 1) (gC (.int 1)))) (gOp vIx (gVar 0) (gVar 1))) (gVar 1) [1])) (gRaise (.ref (He.ga K "BadTopic"))) (gPass)
abbrev N_look_kept : List Str := ["kept", "at", "topic"]
abbrev P_look_kept : List Str := ["kept"]
theorem sc_look_kept : FnScope N_look_kept P_look_kept (defScope Hd.s_look_kept) := ⟨rfl, rfl, rfl, by decide +kernel, rfl, by decide +kernel, by decide +kernel⟩
theorem b_look_kept {K : Frg} {mg : Str → Option Value} {base : Heap} (t : TT K mg base) : Binds K t.f_look_kept P_look_kept [] := FunD.bindsN t.D_look_kept fun _ _ _ _ _ _ us hl => match us, hl with | [_], _ => rfl
def q_look_kept (K : Frg) : GS :=
  gSeq (q_look_kept_0 K ) (q_look_kept_1 K )
theorem sb_look_kept {P : Program} {w : World} {K : Frg} {mg : Str → Option Value} {base : Heap} (t : TT K mg base)  {cdv : Value} {A : Around} {outer : List Env} {s : Shared} {H : Hp} {E : XK} (hr : Rm 1 (A.deeper (envOfC "look_kept" (defScope Hd.s_look_kept) s.heap.objs.size (He.ga K "look_kept") cdv))) :
    SB (cxOf (L2.CX P w) P w K mg base N_look_kept "look_kept" (defScope Hd.s_look_kept) (He.ga K "look_kept") cdv A outer s H E) (tbs K) (fun c d _ H2 => E c d H2) (defBody Hd.s_look_kept) (q_look_kept K ) := by
  have nd : N_look_kept.Nodup := sc_look_kept.nd
  have hp := passes_of (X := cxOf (L2.CX P w) P w K mg base N_look_kept "look_kept" (defScope Hd.s_look_kept) (He.ga K "look_kept") cdv A outer s H E) (K := fun e s2 => L2.CX P w outer H s E e s2) (E₁ := fun e s2 => L2.CX P w outer H s E e s2) rfl
  have tk : Takes (cxOf (L2.CX P w) P w K mg base N_look_kept "look_kept" (defScope Hd.s_look_kept) (He.ga K "look_kept") cdv A outer s H E) (fun c d _ H2 => E c d H2) := takes_of rfl rfl rfl rfl
  exact (sb_cons (ss_if (st_w (sw_or (st_not (st_val (se_isi (by decide) (by decide +kernel) t.n_isinstance t.n_tuple (se_var' (pv 0))))) (sw_or1 (st_truth (se_lc (own := [("topic", 2)]) rfl nd (si_tup (se_var' (pv 0))) (blkOk_by (own := [("topic", 2)]) (N := N_look_kept) (sc := defScope Hd.s_look_kept) (by decide +kernel)) (tg_name (by decide)) (fun _ _ _ _ _ => (pg_name (i := 2) nd rfl (Or.inl rfl))) (fun _ _ _ _ _ => (sts_one (st_not (st_val (se_call (ok_is_word t) (hr.mono (by omega)) t.m_is_word t.D_is_word.kp (b_is_word t) takes0 (sa_cons (se_var' (pv 2)) sa_nil)))))) (fun _ _ _ _ _ => (se_var' (pv 2)))))))) (sb_one (ss_raise rfl tk (pmk_own PySem.F.excBase_ValueError t.x_BadTopic.1 t.m_BadTopic t.x_BadTopic.2.1 (raises_own t.x_BadTopic.2.2.1 t.x_BadTopic.2.2.2) (by exact rfl)))) sb_nil)
  (sb_one (ss_if (st_truth (se_lc (own := [("at", 1)]) rfl nd (si_range2 t.n_range (sa_cons se_int (sa_cons (se_callB cs_len (by rfl) t.n_len (by decide +kernel) (sa_cons (se_var' (pv 0)) sa_nil)) sa_nil))) (blkOk_by (own := [("at", 1)]) (N := N_look_kept) (sc := defScope Hd.s_look_kept) (by decide +kernel)) (tg_name (by decide)) (fun _ _ _ _ _ => (pg_name (i := 1) nd rfl (Or.inl rfl))) (fun _ _ _ _ _ => (sts_one (st_cmp os_ge (se_ix is_ix (se_var' (pv 0)) (se_op os_sub (se_var' (pv 1)) se_int) (fun _ _ => rfl)) (se_ix is_ix (se_var' (pv 0)) (se_var' (pv 1)) (fun _ _ => rfl)) (nomark _)))) (fun _ _ _ _ _ => (se_var' (pv 1))))) (sb_one (ss_raise rfl tk (pmk_own PySem.F.excBase_ValueError t.x_BadTopic.1 t.m_BadTopic t.x_BadTopic.2.1 (raises_own t.x_BadTopic.2.2.1 t.x_BadTopic.2.2.2) (by exact rfl)))) sb_nil)))

theorem lk_words {l : List A} (hw : l.all isWord = true) (k : Int) (k0 : 0 ≤ k) (k1 : k < (l.length : Int)) : ∃ y, L2.atI l k = some (.str y) := by
  have hk : k.toNat < l.length := by omega
  refine ⟨strA (l.getD k.toNat .non), ?_⟩
  rw [atI_getD A.non k0 k1]
  have h2 := List.all_eq_true.mp hw l[k.toNat] (List.getElem_mem hk)
  have e : l.getD k.toNat .non = l[k.toNat] := by simp [hk]
  rw [e]
  exact congrArg some (isWord_str h2).1

def rsL (l : List A) : List A := (rngA 1 (l.length - 1)).filter (intP (riseAt l))
theorem lk_elt {l : List A} {S : Sto} {k : Nat} {y1 y2 : Str} (e1 : L2.atI l (1 + (k : Int) - 1) = some (.str y1)) (e2 : L2.atI l (1 + (k : Int)) = some (.str y2)) : gOp vGe (gOp vIx (gVar 0) (gOp vSub (gVar 1) (gC (.int 1)))) (gOp vIx (gVar 0) (gVar 1)) [some (.tup l), some (.int (1 + (k : Int))), none] S = .ok (.bl (intP (riseAt l) (.int (1 + (k : Int))))) S := by
  simp only [wipeR, gVar, gC, gOp, gUn, gAnd, gOr, gNot, gIf, gNil, gCons, gTup, gLst, gCB, gChain, gSet, gExpr, gRet, gRetN, gPass, gBrk, gCt, gRaise, gIfS, gSeq, nName, nTup, setAll, gAsg, gCall, gTru, gNotT, gIsi, RE.bind_ok, RE.bind_exc, RE.bind_stuck, RE.bindA_ok, RE.bindS_ok, RE.bindS_exc, RE.bindT_ok, RE.bindTS_ok, RA.bind_ok, RA.bindA_ok, RE.nox_ok, RS.seq_nx, RS.seq_ret, RS.seq_exc, RS.seq_brk, RS.seq_ct, RS.seq_stuck, RE.bindA_exc, RE.bindA_stuck, RE.bindS_stuck, RE.bindT_exc, RE.bindT_stuck, RE.bindTS_exc, RE.bindTS_stuck, RA.bind_exc, RA.bind_stuck, RA.bindA_exc, RA.bindA_stuck, RE.nox_stuck, bind_ite, bindA_ite, bindS_ite, bindT_ite, bindTS_ite, nox_ite, seq_ite, startR, tyA_non, tyA_bl, tyA_int, tyA_str, tyA_tup, List.map_cons, List.map_nil, List.length_cons, List.length_nil, List.cons_append, List.nil_append, List.append_nil, List.getElem?_cons_zero, List.getElem?_cons_succ, List.set_cons_zero, List.set_cons_succ, vIx_t0, vIx_t1, vIx_t2, vIx_t3, vIx_t4, vIx_t5, vEq_ss, vEq_ii, vEq_bb, vNe_ss, vNe_ii, vNe_bb, vLen_tup, truA_tup, truA_bl, vLe_ii, vLt_ii, vGt_ii, vGe_ii, vSub_ii, vAdd_ii, vAddI_ii, vNeg_i, isT_ss, isT_tt, isT_ii, isT_bi, isT_bb, isT_ib, vIx_tupE, e1, e2, intP, riseAt, vGe]
theorem lk_gi {l : List A} {S : Sto} (hl : l.length ≤ 1000) : gIR2 (gCons (gC (.int 1)) (gCons (gCB vLen (gCons (gVar 0) (gNil))) (gNil))) [some (.tup l), none, none] S = .ok (rngA 1 (l.length - 1)) (fun _ => true) S := by
  have en : ((l.length : Int) - 1).toNat = l.length - 1 := by omega
  have b3 : ((l.length : Int) < 1000000 ∧ (-1000000 : Int) < (l.length : Int)) ∧ (1 : Int) < 1000000 ∧ (-1000000 : Int) < 1 := ⟨⟨by omega, by omega⟩, by decide, by decide⟩
  simp only [gIR2, gCons, gNil, gC, gCB, gVar, List.getElem?_cons_zero, RE.bindA_ok, RA.bindA_ok, RA.bind_ok, vLen_tup, RE.nox_ok]
  rw [if_pos b3, en]
theorem lk_lc {l : List A} {S : Sto} (hl : l.length ≤ 1000) (hw : l.all isWord = true) : lcGo (fun _ => true) (nName 1) (gOp vGe (gOp vIx (gVar 0) (gOp vSub (gVar 1) (gC (.int 1)))) (gOp vIx (gVar 0) (gVar 1))) (gVar 1) [some (.tup l), none, none] S.length (rngA 1 (l.length - 1)) (S ++ [.lst []]) = .ok (.ob S.length) (S ++ [.lst (rsL l)]) := by
  have lc2 := lc_eq (chk := fun _ => true) (gg := nName 1) (gt := gOp vGe (gOp vIx (gVar 0) (gOp vSub (gVar 1) (gC (.int 1)))) (gOp vIx (gVar 0) (gVar 1))) (ge := gVar 1) (ρ0 := [some (.tup l), none, none]) (S0 := S) (intP (riseAt l)) id (fun _ => rfl) (rngA 1 (l.length - 1)) [] (fun a ha => by
    obtain ⟨k, hk, rfl⟩ := List.mem_map.mp ha
    simp only [List.mem_range] at hk
    obtain ⟨y1, e1⟩ := lk_words hw (1 + (k : Int) - 1) (by omega) (by omega)
    obtain ⟨y2, e2⟩ := lk_words hw (1 + (k : Int)) (by omega) (by omega)
    exact ⟨[some (.tup l), some (.int (1 + (k : Int))), none], fun _ => rfl, fun l2 => ⟨lk_elt e1 e2, fun _ => rfl⟩⟩) (by rw [List.length_nil, Nat.zero_add]; unfold rngA; rw [List.length_map, List.length_range]; omega)
  simp only [List.nil_append, List.map_id] at lc2
  exact lc2
theorem e_lk1 {l : List A} {S : Sto} (hl : l.length ≤ 1000) (hw : l.all isWord = true) : q_look_kept_1 K [some (.tup l), none, none] S = if (rsL l).isEmpty = true then .nx [some (.tup l), none, none] (S ++ [.lst (rsL l)]) else .exc (cBadTopic K) [some (.tup l), none, none] (S ++ [.lst (rsL l)]) := by
  have lc2 := gLc_ok (gg := nName 1) (gt := gOp vGe (gOp vIx (gVar 0) (gOp vSub (gVar 1) (gC (.int 1)))) (gOp vIx (gVar 0) (gVar 1))) (ge := gVar 1) (vs := [1]) (lk_gi (S := S) hl) (ρ0 := [some (.tup l), none, none]) rfl
  rw [lk_lc hl hw] at lc2
  have it : itemsAt (S ++ [.lst (rsL l)]) S.length = some (rsL l) := items_new _ _
  generalize rsL l = r at lc2 it ⊢
  cases hb : r.isEmpty with
  | true => simp only [q_look_kept_1, gIfS, gTru, lc2, RE.bind_ok, truA, seqOf, it, Option.map_some, hb, Bool.not_true, RE.bindTS_ok, Bool.false_eq_true, ↓reduceIte, gPass]
  | false => simp only [q_look_kept_1, gIfS, gTru, lc2, RE.bind_ok, truA, seqOf, it, Option.map_some, hb, Bool.not_false, RE.bindTS_ok, gRaise, Bool.false_eq_true, ↓reduceIte]
theorem e_look_kept {x : A} {S : Sto} (g : good S x = true) (hl : lenOk x = true) : ∃ E ρ, q_look_kept K (startR N_look_kept.length [x]) S = if keptOk x = true then .nx ρ (S ++ E) else .exc (cBadTopic K) ρ (S ++ E) := by
  have st : startR N_look_kept.length [x] = [some x, none, none] := rfl
  cases x
  case ob m =>
    obtain ⟨ty, hty⟩ := kn_some (good_kn g)
    obtain ⟨h1, h2, h3, h4⟩ := isi_ob hty
    exact ⟨[], [some (.ob m), none, none], by simp [q_look_kept, q_look_kept_0, wipeR, gVar, gC, gOp, gUn, gAnd, gOr, gNot, gIf, gNil, gCons, gTup, gLst, gCB, gChain, gSet, gExpr, gRet, gRetN, gPass, gBrk, gCt, gRaise, gIfS, gSeq, nName, nTup, setAll, gAsg, gCall, gTru, gNotT, gIsi, RE.bind_ok, RE.bind_exc, RE.bind_stuck, RE.bindA_ok, RE.bindS_ok, RE.bindS_exc, RE.bindT_ok, RE.bindTS_ok, RA.bind_ok, RA.bindA_ok, RE.nox_ok, RS.seq_nx, RS.seq_ret, RS.seq_exc, RS.seq_brk, RS.seq_ct, RS.seq_stuck, RE.bindA_exc, RE.bindA_stuck, RE.bindS_stuck, RE.bindT_exc, RE.bindT_stuck, RE.bindTS_exc, RE.bindTS_stuck, RA.bind_exc, RA.bind_stuck, RA.bindA_exc, RA.bindA_stuck, RE.nox_stuck, bind_ite, bindA_ite, bindS_ite, bindT_ite, bindTS_ite, nox_ite, seq_ite, startR, tyA_non, tyA_bl, tyA_int, tyA_str, tyA_tup, List.map_cons, List.map_nil, List.length_cons, List.length_nil, List.cons_append, List.nil_append, List.append_nil, List.getElem?_cons_zero, List.getElem?_cons_succ, List.set_cons_zero, List.set_cons_succ, vIx_t0, vIx_t1, vIx_t2, vIx_t3, vIx_t4, vIx_t5, vEq_ss, vEq_ii, vEq_bb, vNe_ss, vNe_ii, vNe_bb, vLen_tup, truA_tup, truA_bl, vLe_ii, vLt_ii, vGt_ii, vGe_ii, vSub_ii, vAdd_ii, vAddI_ii, vNeg_i, isT_ss, isT_tt, isT_ii, isT_bi, isT_bb, isT_ib, hty, h4, keptOk]⟩
  case tup l =>
    have hl : l.length ≤ 1000 := by simpa [lenOk] using hl
    have gl := good_tup.mp g
    have lc := lc_eq (chk := fun _ => true) (gg := nName 2) (gt := gNot (gCall (F_is_word K) (gCons (gVar 2) (gNil)))) (ge := gVar 2) (ρ0 := [some (.tup l), none, none]) (S0 := S) (fun a => !isWord a) id (fun _ => rfl) l [] (fun a ha => by
      refine ⟨[some (.tup l), none, some a], fun _ => rfl, fun l2 => ⟨?_, fun _ => rfl⟩⟩
      simp only [wipeR, gVar, gC, gOp, gUn, gAnd, gOr, gNot, gIf, gNil, gCons, gTup, gLst, gCB, gChain, gSet, gExpr, gRet, gRetN, gPass, gBrk, gCt, gRaise, gIfS, gSeq, nName, nTup, setAll, gAsg, gCall, gTru, gNotT, gIsi, RE.bind_ok, RE.bind_exc, RE.bind_stuck, RE.bindA_ok, RE.bindS_ok, RE.bindS_exc, RE.bindT_ok, RE.bindTS_ok, RA.bind_ok, RA.bindA_ok, RE.nox_ok, RS.seq_nx, RS.seq_ret, RS.seq_exc, RS.seq_brk, RS.seq_ct, RS.seq_stuck, RE.bindA_exc, RE.bindA_stuck, RE.bindS_stuck, RE.bindT_exc, RE.bindT_stuck, RE.bindTS_exc, RE.bindTS_stuck, RA.bind_exc, RA.bind_stuck, RA.bindA_exc, RA.bindA_stuck, RE.nox_stuck, bind_ite, bindA_ite, bindS_ite, bindT_ite, bindTS_ite, nox_ite, seq_ite, startR, tyA_non, tyA_bl, tyA_int, tyA_str, tyA_tup, List.map_cons, List.map_nil, List.length_cons, List.length_nil, List.cons_append, List.nil_append, List.append_nil, List.getElem?_cons_zero, List.getElem?_cons_succ, List.set_cons_zero, List.set_cons_succ, vIx_t0, vIx_t1, vIx_t2, vIx_t3, vIx_t4, vIx_t5, vEq_ss, vEq_ii, vEq_bb, vNe_ss, vNe_ii, vNe_bb, vLen_tup, truA_tup, truA_bl, vLe_ii, vLt_ii, vGt_ii, vGe_ii, vSub_ii, vAdd_ii, vAddI_ii, vNeg_i, isT_ss, isT_tt, isT_ii, isT_bi, isT_bb, isT_ib, F_is_word, good_lst (gl a ha) l2, ↓reduceIte]) (by simp; omega)
    simp only [List.nil_append, List.map_id] at lc
    rw [st]
    by_cases hw : l.all isWord = true
    · have hf : l.filter (fun a => !isWord a) = [] := by
        rw [List.filter_eq_nil_iff]
        intro a ha
        simp [List.all_eq_true.mp hw a ha]
      rw [hf] at lc
      have s0 : q_look_kept_0 K [some (.tup l), none, none] S = .nx [some (.tup l), none, none] (S ++ [.lst []]) := by
        simp only [q_look_kept_0, wipeR, gVar, gC, gOp, gUn, gAnd, gOr, gNot, gIf, gNil, gCons, gTup, gLst, gCB, gChain, gSet, gExpr, gRet, gRetN, gPass, gBrk, gCt, gRaise, gIfS, gSeq, nName, nTup, setAll, gAsg, gCall, gTru, gNotT, gIsi, RE.bind_ok, RE.bind_exc, RE.bind_stuck, RE.bindA_ok, RE.bindS_ok, RE.bindS_exc, RE.bindT_ok, RE.bindTS_ok, RA.bind_ok, RA.bindA_ok, RE.nox_ok, RS.seq_nx, RS.seq_ret, RS.seq_exc, RS.seq_brk, RS.seq_ct, RS.seq_stuck, RE.bindA_exc, RE.bindA_stuck, RE.bindS_stuck, RE.bindT_exc, RE.bindT_stuck, RE.bindTS_exc, RE.bindTS_stuck, RA.bind_exc, RA.bind_stuck, RA.bindA_exc, RA.bindA_stuck, RE.nox_stuck, bind_ite, bindA_ite, bindS_ite, bindT_ite, bindTS_ite, nox_ite, seq_ite, startR, tyA_non, tyA_bl, tyA_int, tyA_str, tyA_tup, List.map_cons, List.map_nil, List.length_cons, List.length_nil, List.cons_append, List.nil_append, List.append_nil, List.getElem?_cons_zero, List.getElem?_cons_succ, List.set_cons_zero, List.set_cons_succ, vIx_t0, vIx_t1, vIx_t2, vIx_t3, vIx_t4, vIx_t5, vEq_ss, vEq_ii, vEq_bb, vNe_ss, vNe_ii, vNe_bb, vLen_tup, truA_tup, truA_bl, vLe_ii, vLt_ii, vGt_ii, vGe_ii, vSub_ii, vAdd_ii, vAddI_ii, vNeg_i, isT_ss, isT_tt, isT_ii, isT_bi, isT_bb, isT_ib, gLc, gIT, wipeR, Bool.not_true, Bool.false_eq_true, ↓reduceIte, lc, truA, seqOf, items_new, Option.map_some, List.isEmpty_nil]
      have ek : keptOk (.tup l) = (rsL l).isEmpty := by
        show (l.all isWord && (rsL l).isEmpty) = _
        rw [hw, Bool.true_and]
      rw [ek]
      refine ⟨[.lst [], .lst (rsL l)], [some (.tup l), none, none], ?_⟩
      have e1 := e_lk1 (K := K) (S := S ++ [.lst []]) hl hw
      rw [List.append_assoc] at e1
      exact seq_step s0 e1
    · have hf : (l.filter (fun a => !isWord a)).isEmpty = false := by
        rw [Bool.eq_false_iff]
        intro z
        refine hw (List.all_eq_true.mpr fun a ha => ?_)
        have := List.filter_eq_nil_iff.mp (List.isEmpty_iff.mp z) a ha
        simpa using this
      have ek : keptOk (.tup l) = false := by
        show (l.all isWord && (rsL l).isEmpty) = false
        simp only [Bool.not_eq_true] at hw
        rw [hw, Bool.false_and]
      rw [ek]
      refine ⟨[.lst (l.filter (fun a => !isWord a))], [some (.tup l), none, none], ?_⟩
      simp only [q_look_kept, q_look_kept_0, wipeR, gVar, gC, gOp, gUn, gAnd, gOr, gNot, gIf, gNil, gCons, gTup, gLst, gCB, gChain, gSet, gExpr, gRet, gRetN, gPass, gBrk, gCt, gRaise, gIfS, gSeq, nName, nTup, setAll, gAsg, gCall, gTru, gNotT, gIsi, RE.bind_ok, RE.bind_exc, RE.bind_stuck, RE.bindA_ok, RE.bindS_ok, RE.bindS_exc, RE.bindT_ok, RE.bindTS_ok, RA.bind_ok, RA.bindA_ok, RE.nox_ok, RS.seq_nx, RS.seq_ret, RS.seq_exc, RS.seq_brk, RS.seq_ct, RS.seq_stuck, RE.bindA_exc, RE.bindA_stuck, RE.bindS_stuck, RE.bindT_exc, RE.bindT_stuck, RE.bindTS_exc, RE.bindTS_stuck, RA.bind_exc, RA.bind_stuck, RA.bindA_exc, RA.bindA_stuck, RE.nox_stuck, bind_ite, bindA_ite, bindS_ite, bindT_ite, bindTS_ite, nox_ite, seq_ite, startR, tyA_non, tyA_bl, tyA_int, tyA_str, tyA_tup, List.map_cons, List.map_nil, List.length_cons, List.length_nil, List.cons_append, List.nil_append, List.append_nil, List.getElem?_cons_zero, List.getElem?_cons_succ, List.set_cons_zero, List.set_cons_succ, vIx_t0, vIx_t1, vIx_t2, vIx_t3, vIx_t4, vIx_t5, vEq_ss, vEq_ii, vEq_bb, vNe_ss, vNe_ii, vNe_bb, vLen_tup, truA_tup, truA_bl, vLe_ii, vLt_ii, vGt_ii, vGe_ii, vSub_ii, vAdd_ii, vAddI_ii, vNeg_i, isT_ss, isT_tt, isT_ii, isT_bi, isT_bb, isT_ib, gLc, gIT, wipeR, Bool.not_true, Bool.false_eq_true, ↓reduceIte, lc, truA, seqOf, items_new, Option.map_some, hf, Bool.not_false]
  case non => exact ⟨[], [some .non, none, none], by simp [q_look_kept, q_look_kept_0, wipeR, gVar, gC, gOp, gUn, gAnd, gOr, gNot, gIf, gNil, gCons, gTup, gLst, gCB, gChain, gSet, gExpr, gRet, gRetN, gPass, gBrk, gCt, gRaise, gIfS, gSeq, nName, nTup, setAll, gAsg, gCall, gTru, gNotT, gIsi, RE.bind_ok, RE.bind_exc, RE.bind_stuck, RE.bindA_ok, RE.bindS_ok, RE.bindS_exc, RE.bindT_ok, RE.bindTS_ok, RA.bind_ok, RA.bindA_ok, RE.nox_ok, RS.seq_nx, RS.seq_ret, RS.seq_exc, RS.seq_brk, RS.seq_ct, RS.seq_stuck, RE.bindA_exc, RE.bindA_stuck, RE.bindS_stuck, RE.bindT_exc, RE.bindT_stuck, RE.bindTS_exc, RE.bindTS_stuck, RA.bind_exc, RA.bind_stuck, RA.bindA_exc, RA.bindA_stuck, RE.nox_stuck, bind_ite, bindA_ite, bindS_ite, bindT_ite, bindTS_ite, nox_ite, seq_ite, startR, tyA_non, tyA_bl, tyA_int, tyA_str, tyA_tup, List.map_cons, List.map_nil, List.length_cons, List.length_nil, List.cons_append, List.nil_append, List.append_nil, List.getElem?_cons_zero, List.getElem?_cons_succ, List.set_cons_zero, List.set_cons_succ, vIx_t0, vIx_t1, vIx_t2, vIx_t3, vIx_t4, vIx_t5, vEq_ss, vEq_ii, vEq_bb, vNe_ss, vNe_ii, vNe_bb, vLen_tup, truA_tup, truA_bl, vLe_ii, vLt_ii, vGt_ii, vGe_ii, vSub_ii, vAdd_ii, vAddI_ii, vNeg_i, isT_ss, isT_tt, isT_ii, isT_bi, isT_bb, isT_ib, isT, keptOk]⟩
  case bl c => exact ⟨[], [some (.bl c), none, none], by simp [q_look_kept, q_look_kept_0, wipeR, gVar, gC, gOp, gUn, gAnd, gOr, gNot, gIf, gNil, gCons, gTup, gLst, gCB, gChain, gSet, gExpr, gRet, gRetN, gPass, gBrk, gCt, gRaise, gIfS, gSeq, nName, nTup, setAll, gAsg, gCall, gTru, gNotT, gIsi, RE.bind_ok, RE.bind_exc, RE.bind_stuck, RE.bindA_ok, RE.bindS_ok, RE.bindS_exc, RE.bindT_ok, RE.bindTS_ok, RA.bind_ok, RA.bindA_ok, RE.nox_ok, RS.seq_nx, RS.seq_ret, RS.seq_exc, RS.seq_brk, RS.seq_ct, RS.seq_stuck, RE.bindA_exc, RE.bindA_stuck, RE.bindS_stuck, RE.bindT_exc, RE.bindT_stuck, RE.bindTS_exc, RE.bindTS_stuck, RA.bind_exc, RA.bind_stuck, RA.bindA_exc, RA.bindA_stuck, RE.nox_stuck, bind_ite, bindA_ite, bindS_ite, bindT_ite, bindTS_ite, nox_ite, seq_ite, startR, tyA_non, tyA_bl, tyA_int, tyA_str, tyA_tup, List.map_cons, List.map_nil, List.length_cons, List.length_nil, List.cons_append, List.nil_append, List.append_nil, List.getElem?_cons_zero, List.getElem?_cons_succ, List.set_cons_zero, List.set_cons_succ, vIx_t0, vIx_t1, vIx_t2, vIx_t3, vIx_t4, vIx_t5, vEq_ss, vEq_ii, vEq_bb, vNe_ss, vNe_ii, vNe_bb, vLen_tup, truA_tup, truA_bl, vLe_ii, vLt_ii, vGt_ii, vGe_ii, vSub_ii, vAdd_ii, vAddI_ii, vNeg_i, isT_ss, isT_tt, isT_ii, isT_bi, isT_bb, isT_ib, isT, keptOk]⟩
  case int c => exact ⟨[], [some (.int c), none, none], by simp [q_look_kept, q_look_kept_0, wipeR, gVar, gC, gOp, gUn, gAnd, gOr, gNot, gIf, gNil, gCons, gTup, gLst, gCB, gChain, gSet, gExpr, gRet, gRetN, gPass, gBrk, gCt, gRaise, gIfS, gSeq, nName, nTup, setAll, gAsg, gCall, gTru, gNotT, gIsi, RE.bind_ok, RE.bind_exc, RE.bind_stuck, RE.bindA_ok, RE.bindS_ok, RE.bindS_exc, RE.bindT_ok, RE.bindTS_ok, RA.bind_ok, RA.bindA_ok, RE.nox_ok, RS.seq_nx, RS.seq_ret, RS.seq_exc, RS.seq_brk, RS.seq_ct, RS.seq_stuck, RE.bindA_exc, RE.bindA_stuck, RE.bindS_stuck, RE.bindT_exc, RE.bindT_stuck, RE.bindTS_exc, RE.bindTS_stuck, RA.bind_exc, RA.bind_stuck, RA.bindA_exc, RA.bindA_stuck, RE.nox_stuck, bind_ite, bindA_ite, bindS_ite, bindT_ite, bindTS_ite, nox_ite, seq_ite, startR, tyA_non, tyA_bl, tyA_int, tyA_str, tyA_tup, List.map_cons, List.map_nil, List.length_cons, List.length_nil, List.cons_append, List.nil_append, List.append_nil, List.getElem?_cons_zero, List.getElem?_cons_succ, List.set_cons_zero, List.set_cons_succ, vIx_t0, vIx_t1, vIx_t2, vIx_t3, vIx_t4, vIx_t5, vEq_ss, vEq_ii, vEq_bb, vNe_ss, vNe_ii, vNe_bb, vLen_tup, truA_tup, truA_bl, vLe_ii, vLt_ii, vGt_ii, vGe_ii, vSub_ii, vAdd_ii, vAddI_ii, vNeg_i, isT_ss, isT_tt, isT_ii, isT_bi, isT_bb, isT_ib, isT, keptOk]⟩
  case str c => exact ⟨[], [some (.str c), none, none], by simp [q_look_kept, q_look_kept_0, wipeR, gVar, gC, gOp, gUn, gAnd, gOr, gNot, gIf, gNil, gCons, gTup, gLst, gCB, gChain, gSet, gExpr, gRet, gRetN, gPass, gBrk, gCt, gRaise, gIfS, gSeq, nName, nTup, setAll, gAsg, gCall, gTru, gNotT, gIsi, RE.bind_ok, RE.bind_exc, RE.bind_stuck, RE.bindA_ok, RE.bindS_ok, RE.bindS_exc, RE.bindT_ok, RE.bindTS_ok, RA.bind_ok, RA.bindA_ok, RE.nox_ok, RS.seq_nx, RS.seq_ret, RS.seq_exc, RS.seq_brk, RS.seq_ct, RS.seq_stuck, RE.bindA_exc, RE.bindA_stuck, RE.bindS_stuck, RE.bindT_exc, RE.bindT_stuck, RE.bindTS_exc, RE.bindTS_stuck, RA.bind_exc, RA.bind_stuck, RA.bindA_exc, RA.bindA_stuck, RE.nox_stuck, bind_ite, bindA_ite, bindS_ite, bindT_ite, bindTS_ite, nox_ite, seq_ite, startR, tyA_non, tyA_bl, tyA_int, tyA_str, tyA_tup, List.map_cons, List.map_nil, List.length_cons, List.length_nil, List.cons_append, List.nil_append, List.append_nil, List.getElem?_cons_zero, List.getElem?_cons_succ, List.set_cons_zero, List.set_cons_succ, vIx_t0, vIx_t1, vIx_t2, vIx_t3, vIx_t4, vIx_t5, vEq_ss, vEq_ii, vEq_bb, vNe_ss, vNe_ii, vNe_bb, vLen_tup, truA_tup, truA_bl, vLe_ii, vLt_ii, vGt_ii, vGe_ii, vSub_ii, vAdd_ii, vAddI_ii, vNeg_i, isT_ss, isT_tt, isT_ii, isT_bi, isT_bb, isT_ib, isT, keptOk]⟩
theorem ok_look_kept (t : TT K mg base) : FnR P w K mg base 2 (He.ga K "look_kept") t.f_look_kept P_look_kept (spF K (tbs K) (F_look_kept K)) := by
  refine fnF t.D_look_kept sc_look_kept (fun l S h => by unfold F_look_kept at h; split at h <;> first | rfl | exact absurd rfl h) (q_look_kept K) (fun cdv A outer s H E hr => sb_look_kept t hr) fun l S b bl h => ?_
  unfold F_look_kept at h ⊢
  split at h
  rotate_left
  · exact absurd rfl h
  rename_i x
  by_cases hk : (good S x && lenOk x) = true
  rotate_left
  · exact absurd (if_neg hk) h
  rw [if_pos hk]
  simp only [Bool.and_eq_true] at hk
  obtain ⟨E, ρ, e⟩ := e_look_kept (K := K) hk.1 hk.2
  rw [e]
  split
  · exact Fit.nx b (Nat.le_refl _)
  · exact fitXE b
open Classical in
def F_Hall___init__ (K : Frg) : List A → Sto → RE := fun l S => match l with
  | [.ob n, x] => if n + 1 = S.length ∧ S[n]? = some (.ins (hC K) []) ∧ (good S x && lenOk x) = true ∧ Bel n x then
      (if keptOk x = true then .ok .non (S.take n ++ hB (hC K) n (newHa x)) else .exc (cBadTopic K) S) else .stuck
  | _ => .stuck
def q_Hall___init___0 (K : Frg) : GS :=
  gExpr (gCall (F_look_kept K) (gCons (gVar 1) (gNil)))
def q_Hall___init___1 (K : Frg) : GS :=
  gSetFld (He.ga K "Hall") "kept" (gVar 0) (gVar 1)
def q_Hall___init___2 (K : Frg) : GS :=
  gSetFld (He.ga K "Hall") "lasts" (gVar 0) (gDnew)
def q_Hall___init___3 (K : Frg) : GS :=
  gSetFld (He.ga K "Hall") "people" (gVar 0) (gLst (gNil))
def q_Hall___init___4 (K : Frg) : GS :=
  gSetFld (He.ga K "Hall") "gone" (gVar 0) (gDnew)
def q_Hall___init___5 (K : Frg) : GS :=
  gSetFld (He.ga K "Hall") "rows" (gVar 0) (gLst (gNil))
def q_Hall___init___6 (K : Frg) : GS :=
  gSetFld (He.ga K "Hall") "now" (gVar 0) (gLst (gNil))
def q_Hall___init___7 (K : Frg) : GS :=
  gSetFld (He.ga K "Hall") "room" (gVar 0) (gC (.int 100))
def q_Hall___init___8 (K : Frg) : GS :=
  gSetFld (He.ga K "Hall") "cut" (gVar 0) (gC (.bl false))
abbrev N_Hall___init__ : List Str := ["self", "kept"]
abbrev P_Hall___init__ : List Str := ["self", "kept"]
theorem sc_Hall___init__ : FnScope N_Hall___init__ P_Hall___init__ (defScope Hd.s_Hall___init__) := ⟨rfl, rfl, rfl, by decide +kernel, rfl, by decide +kernel, by decide +kernel⟩
theorem b_Hall___init__ {K : Frg} {mg : Str → Option Value} {base : Heap} (t : TT K mg base) : Binds K t.f_Hall___init__ P_Hall___init__ [] := FunD.bindsN t.D_Hall___init__ fun _ _ _ _ _ _ us hl => match us, hl with | [_, _], _ => rfl
def q_Hall___init__ (K : Frg) : GS :=
  gSeq (q_Hall___init___0 K ) (gSeq (q_Hall___init___1 K ) (gSeq (q_Hall___init___2 K ) (gSeq (q_Hall___init___3 K ) (gSeq (q_Hall___init___4 K ) (gSeq (q_Hall___init___5 K ) (gSeq (q_Hall___init___6 K ) (gSeq (q_Hall___init___7 K ) (q_Hall___init___8 K ))))))))
theorem sb_Hall___init__ {P : Program} {w : World} {K : Frg} {mg : Str → Option Value} {base : Heap} (t : TT K mg base)  {cdv : Value} {A : Around} {outer : List Env} {s : Shared} {H : Hp} {E : XK} (hr : Rm 2 (A.deeper (envOfC "Hall.__init__" (defScope Hd.s_Hall___init__) s.heap.objs.size (He.ma K (He.ga K "Hall") "__init__") cdv))) :
    SB (cxOf (L2.CX P w) P w K mg base N_Hall___init__ "Hall.__init__" (defScope Hd.s_Hall___init__) (He.ma K (He.ga K "Hall") "__init__") cdv A outer s H E) (tbs K) (fun c d _ H2 => E c d H2) (defBody Hd.s_Hall___init__) (q_Hall___init__ K ) := by
  have nd : N_Hall___init__.Nodup := sc_Hall___init__.nd
  have hp := passes_of (X := cxOf (L2.CX P w) P w K mg base N_Hall___init__ "Hall.__init__" (defScope Hd.s_Hall___init__) (He.ma K (He.ga K "Hall") "__init__") cdv A outer s H E) (K := fun e s2 => L2.CX P w outer H s E e s2) (E₁ := fun e s2 => L2.CX P w outer H s E e s2) rfl
  have tk : Takes (cxOf (L2.CX P w) P w K mg base N_Hall___init__ "Hall.__init__" (defScope Hd.s_Hall___init__) (He.ma K (He.ga K "Hall") "__init__") cdv A outer s H E) (fun c d _ H2 => E c d H2) := takes_of rfl rfl rfl rfl
  exact (sb_cons (ss_expr (se_call (ok_look_kept t) (hr.mono (by omega)) t.m_look_kept t.D_look_kept.kp (b_look_kept t) tk (sa_cons (se_var' (pv 1)) sa_nil)))
  (sb_cons (ss_fld t.c_Hall t.a_Hall_kept (se_var' (pv 0)) (se_var' (pv 1)))
  (sb_cons (ss_fld t.c_Hall t.a_Hall_lasts (se_var' (pv 0)) se_dnew)
  (sb_cons (ss_fld t.c_Hall t.a_Hall_people (se_var' (pv 0)) (se_lst sa_nil))
  (sb_cons (ss_fld t.c_Hall t.a_Hall_gone (se_var' (pv 0)) se_dnew)
  (sb_cons (ss_fld t.c_Hall t.a_Hall_rows (se_var' (pv 0)) (se_lst sa_nil))
  (sb_cons (ss_fld t.c_Hall t.a_Hall_now (se_var' (pv 0)) (se_lst sa_nil))
  (sb_cons (ss_fld t.c_Hall t.a_Hall_room (se_var' (pv 0)) (se_c' (pe_glob (v := .int 100) rfl t.m_MOST_HEARD.choose_spec ⟨_, rfl⟩) (fun _ _ => .int _)))
  (sb_one (ss_fld t.c_Hall t.a_Hall_cut (se_var' (pv 0)) se_bl))))))))))

theorem ins_off {C : Addr} {S E : Sto} {fs : List (Str × A)} : insAt C (.ob S.length) (S ++ .ins C fs :: E) = some (S.length, fs) := by
  show (match (S ++ .ins C fs :: E)[S.length]? with
    | some (.ins C' fs) => if C' = C then some (S.length, fs) else none
    | _ => none) = _
  rw [get_off0]
  exact if_pos rfl
theorem putA_new {f : Str} {a : A} : putA f a [] = [(f, a)] := rfl
theorem putA_ne {f g : Str} {a b : A} {l : List (Str × A)} (h : g ≠ f) : putA f a ((g, b) :: l) = (g, b) :: putA f a l := by
  rw [putA, if_neg h]
theorem e_init {S : Sto} {x : A} (hk : ∀ S', F_look_kept K [x] (S ++ S') = .ok .non (S ++ S')) : q_Hall___init__ K (startR N_Hall___init__.length [.ob S.length, x]) (S ++ [.ins (hC K) []]) = .nx [some (.ob S.length), some x] (S ++ hB (hC K) S.length (newHa x)) := by
  have st : startR N_Hall___init__.length [.ob S.length, x] = [some (.ob S.length), some x] := rfl
  rw [st]
  have s0 : q_Hall___init___0 K [some (.ob S.length), some x] (S ++ [.ins (hC K) []]) = .nx [some (.ob S.length), some x] (S ++ [.ins (hC K) []]) := by
    simp only [q_Hall___init___0, wipeR, gVar, gC, gOp, gUn, gAnd, gOr, gNot, gIf, gNil, gCons, gTup, gLst, gCB, gChain, gSet, gExpr, gRet, gRetN, gPass, gBrk, gCt, gRaise, gIfS, gSeq, nName, nTup, setAll, gAsg, gCall, gTru, gNotT, gIsi, RE.bind_ok, RE.bind_exc, RE.bind_stuck, RE.bindA_ok, RE.bindS_ok, RE.bindS_exc, RE.bindT_ok, RE.bindTS_ok, RA.bind_ok, RA.bindA_ok, RE.nox_ok, RS.seq_nx, RS.seq_ret, RS.seq_exc, RS.seq_brk, RS.seq_ct, RS.seq_stuck, RE.bindA_exc, RE.bindA_stuck, RE.bindS_stuck, RE.bindT_exc, RE.bindT_stuck, RE.bindTS_exc, RE.bindTS_stuck, RA.bind_exc, RA.bind_stuck, RA.bindA_exc, RA.bindA_stuck, RE.nox_stuck, bind_ite, bindA_ite, bindS_ite, bindT_ite, bindTS_ite, nox_ite, seq_ite, startR, tyA_non, tyA_bl, tyA_int, tyA_str, tyA_tup, List.map_cons, List.map_nil, List.length_cons, List.length_nil, List.cons_append, List.nil_append, List.append_nil, List.getElem?_cons_zero, List.getElem?_cons_succ, List.set_cons_zero, List.set_cons_succ, vIx_t0, vIx_t1, vIx_t2, vIx_t3, vIx_t4, vIx_t5, vEq_ss, vEq_ii, vEq_bb, vNe_ss, vNe_ii, vNe_bb, vLen_tup, truA_tup, truA_bl, vLe_ii, vLt_ii, vGt_ii, vGe_ii, vSub_ii, vAdd_ii, vAddI_ii, vNeg_i, isT_ss, isT_tt, isT_ii, isT_bi, isT_bb, isT_ib, hk]
  have s1 : q_Hall___init___1 K [some (.ob S.length), some x] (S ++ [.ins (hC K) []]) = .nx [some (.ob S.length), some x] (S ++ [.ins (hC K) [("kept", x)]]) := by
    simp only [q_Hall___init___1, wipeR, gVar, gC, gOp, gUn, gAnd, gOr, gNot, gIf, gNil, gCons, gTup, gLst, gCB, gChain, gSet, gExpr, gRet, gRetN, gPass, gBrk, gCt, gRaise, gIfS, gSeq, nName, nTup, setAll, gAsg, gCall, gTru, gNotT, gIsi, RE.bind_ok, RE.bind_exc, RE.bind_stuck, RE.bindA_ok, RE.bindS_ok, RE.bindS_exc, RE.bindT_ok, RE.bindTS_ok, RA.bind_ok, RA.bindA_ok, RE.nox_ok, RS.seq_nx, RS.seq_ret, RS.seq_exc, RS.seq_brk, RS.seq_ct, RS.seq_stuck, RE.bindA_exc, RE.bindA_stuck, RE.bindS_stuck, RE.bindT_exc, RE.bindT_stuck, RE.bindTS_exc, RE.bindTS_stuck, RA.bind_exc, RA.bind_stuck, RA.bindA_exc, RA.bindA_stuck, RE.nox_stuck, bind_ite, bindA_ite, bindS_ite, bindT_ite, bindTS_ite, nox_ite, seq_ite, startR, tyA_non, tyA_bl, tyA_int, tyA_str, tyA_tup, List.map_cons, List.map_nil, List.length_cons, List.length_nil, List.cons_append, List.nil_append, List.append_nil, List.getElem?_cons_zero, List.getElem?_cons_succ, List.set_cons_zero, List.set_cons_succ, vIx_t0, vIx_t1, vIx_t2, vIx_t3, vIx_t4, vIx_t5, vEq_ss, vEq_ii, vEq_bb, vNe_ss, vNe_ii, vNe_bb, vLen_tup, truA_tup, truA_bl, vLe_ii, vLt_ii, vGt_ii, vGe_ii, vSub_ii, vAdd_ii, vAddI_ii, vNeg_i, isT_ss, isT_tt, isT_ii, isT_bi, isT_bb, isT_ib, gSetFld, ins_off, putA_new, Nat.reduceLT, ↓reduceIte, set_off0]
  have s2 : q_Hall___init___2 K [some (.ob S.length), some x] (S ++ [.ins (hC K) [("kept", x)]]) = .nx [some (.ob S.length), some x] (S ++ [.ins (hC K) [("kept", x), ("lasts", .ob (S.length + 1))], .dic []]) := by
    simp only [q_Hall___init___2, wipeR, gVar, gC, gOp, gUn, gAnd, gOr, gNot, gIf, gNil, gCons, gTup, gLst, gCB, gChain, gSet, gExpr, gRet, gRetN, gPass, gBrk, gCt, gRaise, gIfS, gSeq, nName, nTup, setAll, gAsg, gCall, gTru, gNotT, gIsi, RE.bind_ok, RE.bind_exc, RE.bind_stuck, RE.bindA_ok, RE.bindS_ok, RE.bindS_exc, RE.bindT_ok, RE.bindTS_ok, RA.bind_ok, RA.bindA_ok, RE.nox_ok, RS.seq_nx, RS.seq_ret, RS.seq_exc, RS.seq_brk, RS.seq_ct, RS.seq_stuck, RE.bindA_exc, RE.bindA_stuck, RE.bindS_stuck, RE.bindT_exc, RE.bindT_stuck, RE.bindTS_exc, RE.bindTS_stuck, RA.bind_exc, RA.bind_stuck, RA.bindA_exc, RA.bindA_stuck, RE.nox_stuck, bind_ite, bindA_ite, bindS_ite, bindT_ite, bindTS_ite, nox_ite, seq_ite, startR, tyA_non, tyA_bl, tyA_int, tyA_str, tyA_tup, List.map_cons, List.map_nil, List.length_cons, List.length_nil, List.cons_append, List.nil_append, List.append_nil, List.getElem?_cons_zero, List.getElem?_cons_succ, List.set_cons_zero, List.set_cons_succ, vIx_t0, vIx_t1, vIx_t2, vIx_t3, vIx_t4, vIx_t5, vEq_ss, vEq_ii, vEq_bb, vNe_ss, vNe_ii, vNe_bb, vLen_tup, truA_tup, truA_bl, vLe_ii, vLt_ii, vGt_ii, vGe_ii, vSub_ii, vAdd_ii, vAddI_ii, vNeg_i, isT_ss, isT_tt, isT_ii, isT_bi, isT_bb, isT_ib, gSetFld, gDnew, List.append_assoc, ins_off, putA_new, putA_ne (show ("kept" : Str) ≠ "lasts" by decide), Nat.reduceLT, Nat.reduceAdd, ↓reduceIte, set_off0, List.length_append]
  have s3 : q_Hall___init___3 K [some (.ob S.length), some x] (S ++ [.ins (hC K) [("kept", x), ("lasts", .ob (S.length + 1))], .dic []]) = .nx [some (.ob S.length), some x] (S ++ [.ins (hC K) [("kept", x), ("lasts", .ob (S.length + 1)), ("people", .ob (S.length + 2))], .dic [], .lst []]) := by
    simp only [q_Hall___init___3, wipeR, gVar, gC, gOp, gUn, gAnd, gOr, gNot, gIf, gNil, gCons, gTup, gLst, gCB, gChain, gSet, gExpr, gRet, gRetN, gPass, gBrk, gCt, gRaise, gIfS, gSeq, nName, nTup, setAll, gAsg, gCall, gTru, gNotT, gIsi, RE.bind_ok, RE.bind_exc, RE.bind_stuck, RE.bindA_ok, RE.bindS_ok, RE.bindS_exc, RE.bindT_ok, RE.bindTS_ok, RA.bind_ok, RA.bindA_ok, RE.nox_ok, RS.seq_nx, RS.seq_ret, RS.seq_exc, RS.seq_brk, RS.seq_ct, RS.seq_stuck, RE.bindA_exc, RE.bindA_stuck, RE.bindS_stuck, RE.bindT_exc, RE.bindT_stuck, RE.bindTS_exc, RE.bindTS_stuck, RA.bind_exc, RA.bind_stuck, RA.bindA_exc, RA.bindA_stuck, RE.nox_stuck, bind_ite, bindA_ite, bindS_ite, bindT_ite, bindTS_ite, nox_ite, seq_ite, startR, tyA_non, tyA_bl, tyA_int, tyA_str, tyA_tup, List.map_cons, List.map_nil, List.length_cons, List.length_nil, List.cons_append, List.nil_append, List.append_nil, List.getElem?_cons_zero, List.getElem?_cons_succ, List.set_cons_zero, List.set_cons_succ, vIx_t0, vIx_t1, vIx_t2, vIx_t3, vIx_t4, vIx_t5, vEq_ss, vEq_ii, vEq_bb, vNe_ss, vNe_ii, vNe_bb, vLen_tup, truA_tup, truA_bl, vLe_ii, vLt_ii, vGt_ii, vGe_ii, vSub_ii, vAdd_ii, vAddI_ii, vNeg_i, isT_ss, isT_tt, isT_ii, isT_bi, isT_bb, isT_ib, gSetFld, gLst, List.append_assoc, ins_off, putA_new, putA_ne (show ("kept" : Str) ≠ "people" by decide), putA_ne (show ("lasts" : Str) ≠ "people" by decide), Nat.reduceLT, Nat.reduceLeDiff, Nat.reduceAdd, ↓reduceIte, set_off0, List.length_append]
  have s4 : q_Hall___init___4 K [some (.ob S.length), some x] (S ++ [.ins (hC K) [("kept", x), ("lasts", .ob (S.length + 1)), ("people", .ob (S.length + 2))], .dic [], .lst []]) = .nx [some (.ob S.length), some x] (S ++ [.ins (hC K) [("kept", x), ("lasts", .ob (S.length + 1)), ("people", .ob (S.length + 2)), ("gone", .ob (S.length + 3))], .dic [], .lst [], .dic []]) := by
    simp only [q_Hall___init___4, wipeR, gVar, gC, gOp, gUn, gAnd, gOr, gNot, gIf, gNil, gCons, gTup, gLst, gCB, gChain, gSet, gExpr, gRet, gRetN, gPass, gBrk, gCt, gRaise, gIfS, gSeq, nName, nTup, setAll, gAsg, gCall, gTru, gNotT, gIsi, RE.bind_ok, RE.bind_exc, RE.bind_stuck, RE.bindA_ok, RE.bindS_ok, RE.bindS_exc, RE.bindT_ok, RE.bindTS_ok, RA.bind_ok, RA.bindA_ok, RE.nox_ok, RS.seq_nx, RS.seq_ret, RS.seq_exc, RS.seq_brk, RS.seq_ct, RS.seq_stuck, RE.bindA_exc, RE.bindA_stuck, RE.bindS_stuck, RE.bindT_exc, RE.bindT_stuck, RE.bindTS_exc, RE.bindTS_stuck, RA.bind_exc, RA.bind_stuck, RA.bindA_exc, RA.bindA_stuck, RE.nox_stuck, bind_ite, bindA_ite, bindS_ite, bindT_ite, bindTS_ite, nox_ite, seq_ite, startR, tyA_non, tyA_bl, tyA_int, tyA_str, tyA_tup, List.map_cons, List.map_nil, List.length_cons, List.length_nil, List.cons_append, List.nil_append, List.append_nil, List.getElem?_cons_zero, List.getElem?_cons_succ, List.set_cons_zero, List.set_cons_succ, vIx_t0, vIx_t1, vIx_t2, vIx_t3, vIx_t4, vIx_t5, vEq_ss, vEq_ii, vEq_bb, vNe_ss, vNe_ii, vNe_bb, vLen_tup, truA_tup, truA_bl, vLe_ii, vLt_ii, vGt_ii, vGe_ii, vSub_ii, vAdd_ii, vAddI_ii, vNeg_i, isT_ss, isT_tt, isT_ii, isT_bi, isT_bb, isT_ib, gSetFld, gDnew, List.append_assoc, ins_off, putA_new, putA_ne (show ("kept" : Str) ≠ "gone" by decide), putA_ne (show ("lasts" : Str) ≠ "gone" by decide), putA_ne (show ("people" : Str) ≠ "gone" by decide), Nat.reduceLT, Nat.reduceLeDiff, Nat.reduceAdd, ↓reduceIte, set_off0, List.length_append]
  have s5 : q_Hall___init___5 K [some (.ob S.length), some x] (S ++ [.ins (hC K) [("kept", x), ("lasts", .ob (S.length + 1)), ("people", .ob (S.length + 2)), ("gone", .ob (S.length + 3))], .dic [], .lst [], .dic []]) = .nx [some (.ob S.length), some x] (S ++ [.ins (hC K) [("kept", x), ("lasts", .ob (S.length + 1)), ("people", .ob (S.length + 2)), ("gone", .ob (S.length + 3)), ("rows", .ob (S.length + 4))], .dic [], .lst [], .dic [], .lst []]) := by
    simp only [q_Hall___init___5, wipeR, gVar, gC, gOp, gUn, gAnd, gOr, gNot, gIf, gNil, gCons, gTup, gLst, gCB, gChain, gSet, gExpr, gRet, gRetN, gPass, gBrk, gCt, gRaise, gIfS, gSeq, nName, nTup, setAll, gAsg, gCall, gTru, gNotT, gIsi, RE.bind_ok, RE.bind_exc, RE.bind_stuck, RE.bindA_ok, RE.bindS_ok, RE.bindS_exc, RE.bindT_ok, RE.bindTS_ok, RA.bind_ok, RA.bindA_ok, RE.nox_ok, RS.seq_nx, RS.seq_ret, RS.seq_exc, RS.seq_brk, RS.seq_ct, RS.seq_stuck, RE.bindA_exc, RE.bindA_stuck, RE.bindS_stuck, RE.bindT_exc, RE.bindT_stuck, RE.bindTS_exc, RE.bindTS_stuck, RA.bind_exc, RA.bind_stuck, RA.bindA_exc, RA.bindA_stuck, RE.nox_stuck, bind_ite, bindA_ite, bindS_ite, bindT_ite, bindTS_ite, nox_ite, seq_ite, startR, tyA_non, tyA_bl, tyA_int, tyA_str, tyA_tup, List.map_cons, List.map_nil, List.length_cons, List.length_nil, List.cons_append, List.nil_append, List.append_nil, List.getElem?_cons_zero, List.getElem?_cons_succ, List.set_cons_zero, List.set_cons_succ, vIx_t0, vIx_t1, vIx_t2, vIx_t3, vIx_t4, vIx_t5, vEq_ss, vEq_ii, vEq_bb, vNe_ss, vNe_ii, vNe_bb, vLen_tup, truA_tup, truA_bl, vLe_ii, vLt_ii, vGt_ii, vGe_ii, vSub_ii, vAdd_ii, vAddI_ii, vNeg_i, isT_ss, isT_tt, isT_ii, isT_bi, isT_bb, isT_ib, gSetFld, gLst, List.append_assoc, ins_off, putA_new, putA_ne (show ("kept" : Str) ≠ "rows" by decide), putA_ne (show ("lasts" : Str) ≠ "rows" by decide), putA_ne (show ("people" : Str) ≠ "rows" by decide), putA_ne (show ("gone" : Str) ≠ "rows" by decide), Nat.reduceLT, Nat.reduceLeDiff, Nat.reduceAdd, ↓reduceIte, set_off0, List.length_append]
  have s6 : q_Hall___init___6 K [some (.ob S.length), some x] (S ++ [.ins (hC K) [("kept", x), ("lasts", .ob (S.length + 1)), ("people", .ob (S.length + 2)), ("gone", .ob (S.length + 3)), ("rows", .ob (S.length + 4))], .dic [], .lst [], .dic [], .lst []]) = .nx [some (.ob S.length), some x] (S ++ [.ins (hC K) [("kept", x), ("lasts", .ob (S.length + 1)), ("people", .ob (S.length + 2)), ("gone", .ob (S.length + 3)), ("rows", .ob (S.length + 4)), ("now", .ob (S.length + 5))], .dic [], .lst [], .dic [], .lst [], .lst []]) := by
    simp only [q_Hall___init___6, wipeR, gVar, gC, gOp, gUn, gAnd, gOr, gNot, gIf, gNil, gCons, gTup, gLst, gCB, gChain, gSet, gExpr, gRet, gRetN, gPass, gBrk, gCt, gRaise, gIfS, gSeq, nName, nTup, setAll, gAsg, gCall, gTru, gNotT, gIsi, RE.bind_ok, RE.bind_exc, RE.bind_stuck, RE.bindA_ok, RE.bindS_ok, RE.bindS_exc, RE.bindT_ok, RE.bindTS_ok, RA.bind_ok, RA.bindA_ok, RE.nox_ok, RS.seq_nx, RS.seq_ret, RS.seq_exc, RS.seq_brk, RS.seq_ct, RS.seq_stuck, RE.bindA_exc, RE.bindA_stuck, RE.bindS_stuck, RE.bindT_exc, RE.bindT_stuck, RE.bindTS_exc, RE.bindTS_stuck, RA.bind_exc, RA.bind_stuck, RA.bindA_exc, RA.bindA_stuck, RE.nox_stuck, bind_ite, bindA_ite, bindS_ite, bindT_ite, bindTS_ite, nox_ite, seq_ite, startR, tyA_non, tyA_bl, tyA_int, tyA_str, tyA_tup, List.map_cons, List.map_nil, List.length_cons, List.length_nil, List.cons_append, List.nil_append, List.append_nil, List.getElem?_cons_zero, List.getElem?_cons_succ, List.set_cons_zero, List.set_cons_succ, vIx_t0, vIx_t1, vIx_t2, vIx_t3, vIx_t4, vIx_t5, vEq_ss, vEq_ii, vEq_bb, vNe_ss, vNe_ii, vNe_bb, vLen_tup, truA_tup, truA_bl, vLe_ii, vLt_ii, vGt_ii, vGe_ii, vSub_ii, vAdd_ii, vAddI_ii, vNeg_i, isT_ss, isT_tt, isT_ii, isT_bi, isT_bb, isT_ib, gSetFld, gLst, List.append_assoc, ins_off, putA_new, putA_ne (show ("kept" : Str) ≠ "now" by decide), putA_ne (show ("lasts" : Str) ≠ "now" by decide), putA_ne (show ("people" : Str) ≠ "now" by decide), putA_ne (show ("gone" : Str) ≠ "now" by decide), putA_ne (show ("rows" : Str) ≠ "now" by decide), Nat.reduceLT, Nat.reduceLeDiff, Nat.reduceAdd, ↓reduceIte, set_off0, List.length_append]
  have s7 : q_Hall___init___7 K [some (.ob S.length), some x] (S ++ [.ins (hC K) [("kept", x), ("lasts", .ob (S.length + 1)), ("people", .ob (S.length + 2)), ("gone", .ob (S.length + 3)), ("rows", .ob (S.length + 4)), ("now", .ob (S.length + 5))], .dic [], .lst [], .dic [], .lst [], .lst []]) = .nx [some (.ob S.length), some x] (S ++ [.ins (hC K) [("kept", x), ("lasts", .ob (S.length + 1)), ("people", .ob (S.length + 2)), ("gone", .ob (S.length + 3)), ("rows", .ob (S.length + 4)), ("now", .ob (S.length + 5)), ("room", .int 100)], .dic [], .lst [], .dic [], .lst [], .lst []]) := by
    simp only [q_Hall___init___7, wipeR, gVar, gC, gOp, gUn, gAnd, gOr, gNot, gIf, gNil, gCons, gTup, gLst, gCB, gChain, gSet, gExpr, gRet, gRetN, gPass, gBrk, gCt, gRaise, gIfS, gSeq, nName, nTup, setAll, gAsg, gCall, gTru, gNotT, gIsi, RE.bind_ok, RE.bind_exc, RE.bind_stuck, RE.bindA_ok, RE.bindS_ok, RE.bindS_exc, RE.bindT_ok, RE.bindTS_ok, RA.bind_ok, RA.bindA_ok, RE.nox_ok, RS.seq_nx, RS.seq_ret, RS.seq_exc, RS.seq_brk, RS.seq_ct, RS.seq_stuck, RE.bindA_exc, RE.bindA_stuck, RE.bindS_stuck, RE.bindT_exc, RE.bindT_stuck, RE.bindTS_exc, RE.bindTS_stuck, RA.bind_exc, RA.bind_stuck, RA.bindA_exc, RA.bindA_stuck, RE.nox_stuck, bind_ite, bindA_ite, bindS_ite, bindT_ite, bindTS_ite, nox_ite, seq_ite, startR, tyA_non, tyA_bl, tyA_int, tyA_str, tyA_tup, List.map_cons, List.map_nil, List.length_cons, List.length_nil, List.cons_append, List.nil_append, List.append_nil, List.getElem?_cons_zero, List.getElem?_cons_succ, List.set_cons_zero, List.set_cons_succ, vIx_t0, vIx_t1, vIx_t2, vIx_t3, vIx_t4, vIx_t5, vEq_ss, vEq_ii, vEq_bb, vNe_ss, vNe_ii, vNe_bb, vLen_tup, truA_tup, truA_bl, vLe_ii, vLt_ii, vGt_ii, vGe_ii, vSub_ii, vAdd_ii, vAddI_ii, vNeg_i, isT_ss, isT_tt, isT_ii, isT_bi, isT_bb, isT_ib, gSetFld, ins_off, putA_new, putA_ne (show ("kept" : Str) ≠ "room" by decide), putA_ne (show ("lasts" : Str) ≠ "room" by decide), putA_ne (show ("people" : Str) ≠ "room" by decide), putA_ne (show ("gone" : Str) ≠ "room" by decide), putA_ne (show ("rows" : Str) ≠ "room" by decide), putA_ne (show ("now" : Str) ≠ "room" by decide), Nat.reduceLT, Nat.reduceLeDiff, Nat.reduceAdd, ↓reduceIte, set_off0]
  have s8 : q_Hall___init___8 K [some (.ob S.length), some x] (S ++ [.ins (hC K) [("kept", x), ("lasts", .ob (S.length + 1)), ("people", .ob (S.length + 2)), ("gone", .ob (S.length + 3)), ("rows", .ob (S.length + 4)), ("now", .ob (S.length + 5)), ("room", .int 100)], .dic [], .lst [], .dic [], .lst [], .lst []]) = .nx [some (.ob S.length), some x] (S ++ hB (hC K) S.length (newHa x)) := by
    simp only [q_Hall___init___8, wipeR, gVar, gC, gOp, gUn, gAnd, gOr, gNot, gIf, gNil, gCons, gTup, gLst, gCB, gChain, gSet, gExpr, gRet, gRetN, gPass, gBrk, gCt, gRaise, gIfS, gSeq, nName, nTup, setAll, gAsg, gCall, gTru, gNotT, gIsi, RE.bind_ok, RE.bind_exc, RE.bind_stuck, RE.bindA_ok, RE.bindS_ok, RE.bindS_exc, RE.bindT_ok, RE.bindTS_ok, RA.bind_ok, RA.bindA_ok, RE.nox_ok, RS.seq_nx, RS.seq_ret, RS.seq_exc, RS.seq_brk, RS.seq_ct, RS.seq_stuck, RE.bindA_exc, RE.bindA_stuck, RE.bindS_stuck, RE.bindT_exc, RE.bindT_stuck, RE.bindTS_exc, RE.bindTS_stuck, RA.bind_exc, RA.bind_stuck, RA.bindA_exc, RA.bindA_stuck, RE.nox_stuck, bind_ite, bindA_ite, bindS_ite, bindT_ite, bindTS_ite, nox_ite, seq_ite, startR, tyA_non, tyA_bl, tyA_int, tyA_str, tyA_tup, List.map_cons, List.map_nil, List.length_cons, List.length_nil, List.cons_append, List.nil_append, List.append_nil, List.getElem?_cons_zero, List.getElem?_cons_succ, List.set_cons_zero, List.set_cons_succ, vIx_t0, vIx_t1, vIx_t2, vIx_t3, vIx_t4, vIx_t5, vEq_ss, vEq_ii, vEq_bb, vNe_ss, vNe_ii, vNe_bb, vLen_tup, truA_tup, truA_bl, vLe_ii, vLt_ii, vGt_ii, vGe_ii, vSub_ii, vAdd_ii, vAddI_ii, vNeg_i, isT_ss, isT_tt, isT_ii, isT_bi, isT_bb, isT_ib, gSetFld, ins_off, putA_new, putA_ne (show ("kept" : Str) ≠ "cut" by decide), putA_ne (show ("lasts" : Str) ≠ "cut" by decide), putA_ne (show ("people" : Str) ≠ "cut" by decide), putA_ne (show ("gone" : Str) ≠ "cut" by decide), putA_ne (show ("rows" : Str) ≠ "cut" by decide), putA_ne (show ("now" : Str) ≠ "cut" by decide), putA_ne (show ("room" : Str) ≠ "cut" by decide), Nat.reduceLT, Nat.reduceLeDiff, Nat.reduceAdd, ↓reduceIte, set_off0, hB, flds, newIds, newHa]
  exact seq_step s0 (seq_step s1 (seq_step s2 (seq_step s3 (seq_step s4 (seq_step s5 (seq_step s6 (seq_step s7 s8)))))))
theorem keptOk_nice {x : A} (h : keptOk x = true) (hl : lenOk x = true) : ∃ ks : List Str, x = .tup (ks.map .str) ∧ (∀ k ∈ ks, isWordS k = true) ∧ ks.length ≤ 1000 := by
  cases x with
  | tup l =>
    simp only [keptOk, Bool.and_eq_true] at h
    refine ⟨l.map strA, ?_, fun k hk => ?_, by simpa [lenOk] using hl⟩
    · congr 1
      rw [List.map_map]
      symm
      conv => rhs; rw [← List.map_id l]
      refine List.map_congr_left fun a ha => ?_
      exact (isWord_str (List.all_eq_true.mp h.1 a ha)).1.symm
    · obtain ⟨a, ha, rfl⟩ := List.mem_map.mp hk
      exact (isWord_str (List.all_eq_true.mp h.1 a ha)).2
  | _ => cases h
theorem ok_Hall___init__ (t : TT K mg base) : FnR P w K mg base 3 (He.ma K (He.ga K "Hall") "__init__") t.f_Hall___init__ P_Hall___init__ (spF K (tbs K) (F_Hall___init__ K)) := by
  refine fnF t.D_Hall___init__ sc_Hall___init__ (fun l S h => by unfold F_Hall___init__ at h; split at h <;> first | rfl | exact absurd rfl h) (q_Hall___init__ K) (fun cdv A outer s H E hr => sb_Hall___init__ t hr) fun l S b bl h => ?_
  unfold F_Hall___init__ at h ⊢
  split at h
  rotate_left
  · exact absurd rfl h
  rename_i n x
  split at h
  rotate_left
  · exact absurd rfl h
  rename_i hk
  rw [if_pos hk]
  obtain ⟨hn, hg, hx, bx⟩ := hk
  simp only [Bool.and_eq_true] at hx
  have hS : S = S.take n ++ [.ins (hC K) []] := by
    apply List.ext_getElem?
    intro k
    by_cases hk : k < n
    · rw [List.getElem?_append_left (by simp; omega), List.getElem?_take, if_pos hk]
    · by_cases hk2 : k = n
      · subst hk2
        rw [hg, List.getElem?_append_right (by simp; omega)]
        have : k - (S.take k).length = 0 := by simp; omega
        rw [this]
        rfl
      · rw [List.getElem?_eq_none (by omega), List.getElem?_eq_none (by simp; omega)]
  have hl : (S.take n).length = n := by simp; omega
  cases hq : keptOk x with
  | true =>
    have g2 : ∀ S', F_look_kept K [x] (S.take n ++ S') = .ok .non (S.take n ++ S') := fun S' => by
      obtain ⟨ks, e, hw, hl⟩ := keptOk_nice hq hx.2
      have g : good (S.take n ++ S') x = true := by
        rw [e]
        exact good_tup.mpr fun y hy => by
          obtain ⟨k, hk, rfl⟩ := List.mem_map.mp hy
          exact nice_good (n := 0) (nice_word (a := .str k) (hw k hk)) _
      unfold F_look_kept
      simp only [g, hx.2, hq, Bool.and_self, ↓reduceIte]
    have e := e_init (K := K) g2
    rw [hl, ← hS] at e
    rw [e]
    have hlen : (S.take n ++ hB (hC K) n (newHa x)).length = n + 6 := by rw [List.length_append, hl]; rfl
    have key := Fit.nx (n := S.length) (S := S.take n ++ hB (hC K) n (newHa x)) (E := []) (ρ := [some (.ob n), some x]) (fun o ho => ?_) (by rw [hlen]; omega)
    · rw [List.append_nil] at key
      exact key
    · rw [hlen]
      rcases List.mem_append.mp ho with ho | ho
      · exact BelO.mono (b o (List.mem_of_mem_take ho)) (by omega)
      · simp only [hB, newHa, List.mem_cons, List.not_mem_nil, or_false] at ho
        rcases ho with e | e | e | e | e | e <;> subst e
        · intro p hp
          simp only [flds, newIds, List.mem_cons, List.not_mem_nil, or_false] at hp
          rcases hp with e | e | e | e | e | e | e | e <;> subst e
          · exact bx.mono (by omega)
          · exact .ob (by omega)
          · exact .ob (by omega)
          · exact .ob (by omega)
          · exact .ob (by omega)
          · exact .ob (by omega)
          · exact .int _
          · exact .bl _
        all_goals (intro p hp; cases hp)
  | false =>
    have e : q_Hall___init__ K (startR N_Hall___init__.length [.ob n, x]) S = .exc (cBadTopic K) [some (.ob n), some x] S := by
      have st : startR N_Hall___init__.length [.ob n, x] = [some (.ob n), some x] := rfl
      rw [st]
      simp only [q_Hall___init__, q_Hall___init___0, wipeR, gVar, gC, gOp, gUn, gAnd, gOr, gNot, gIf, gNil, gCons, gTup, gLst, gCB, gChain, gSet, gExpr, gRet, gRetN, gPass, gBrk, gCt, gRaise, gIfS, gSeq, nName, nTup, setAll, gAsg, gCall, gTru, gNotT, gIsi, RE.bind_ok, RE.bind_exc, RE.bind_stuck, RE.bindA_ok, RE.bindS_ok, RE.bindS_exc, RE.bindT_ok, RE.bindTS_ok, RA.bind_ok, RA.bindA_ok, RE.nox_ok, RS.seq_nx, RS.seq_ret, RS.seq_exc, RS.seq_brk, RS.seq_ct, RS.seq_stuck, RE.bindA_exc, RE.bindA_stuck, RE.bindS_stuck, RE.bindT_exc, RE.bindT_stuck, RE.bindTS_exc, RE.bindTS_stuck, RA.bind_exc, RA.bind_stuck, RA.bindA_exc, RA.bindA_stuck, RE.nox_stuck, bind_ite, bindA_ite, bindS_ite, bindT_ite, bindTS_ite, nox_ite, seq_ite, startR, tyA_non, tyA_bl, tyA_int, tyA_str, tyA_tup, List.map_cons, List.map_nil, List.length_cons, List.length_nil, List.cons_append, List.nil_append, List.append_nil, List.getElem?_cons_zero, List.getElem?_cons_succ, List.set_cons_zero, List.set_cons_succ, vIx_t0, vIx_t1, vIx_t2, vIx_t3, vIx_t4, vIx_t5, vEq_ss, vEq_ii, vEq_bb, vNe_ss, vNe_ii, vNe_bb, vLen_tup, truA_tup, truA_bl, vLe_ii, vLt_ii, vGt_ii, vGe_ii, vSub_ii, vAdd_ii, vAddI_ii, vNeg_i, isT_ss, isT_tt, isT_ii, isT_bi, isT_bb, isT_ib, F_look_kept, hx, hq, Bool.and_self, Bool.false_eq_true, ↓reduceIte]
    rw [e]
    exact fitX b
end
end Sx.My

set_option Elab.async false
set_option linter.all false
set_option maxRecDepth 100000
set_option maxHeartbeats 4000000
namespace Sx.My
open PySem PySem.Spec PyProof.Rows L2
noncomputable section
variable {P : Program} {w : World} {K : Frg} {mg : Str → Option Value} {base : Heap}
/-! a hall's block in a store, and its methods -/
section
variable {pre E : Sto} {n : Nat} {h : Ha}
theorem ins_B (hn : pre.length = n) : insAt (hC K) (.ob n) (pre ++ (hB (hC K) n h ++ E)) = some (n, flds (newIds n) h) := by
  have := ins_wr (C := hC K) (h := h) (E := []) (hB_ok (C := hC K) (h := h) (E := E) hn)
  rw [hB_wr hn, List.append_nil] at this
  exact this
theorem len_B (hn : pre.length = n) : (pre ++ (hB (hC K) n h ++ E)).length = E.length + (n + 6) := by
  rw [List.length_append, len_hB, hn]
  omega
theorem lkN_enter (i : Ids) (h : Ha) : ((flds i h).lookup ("enter" : Str)).isNone = true := rfl
theorem lkN_leave (i : Ids) (h : Ha) : ((flds i h).lookup ("leave" : Str)).isNone = true := rfl
theorem lkN_tell (i : Ids) (h : Ha) : ((flds i h).lookup ("tell" : Str)).isNone = true := rfl
theorem lkN_journal (i : Ids) (h : Ha) : ((flds i h).lookup ("journal" : Str)).isNone = true := rfl
theorem lkN_hearers (i : Ids) (h : Ha) : ((flds i h).lookup ("hearers" : Str)).isNone = true := rfl
theorem lkN_last (i : Ids) (h : Ha) : ((flds i h).lookup ("last" : Str)).isNone = true := rfl
theorem lkN_hearer (i : Ids) (h : Ha) : ((flds i h).lookup ("hearer" : Str)).isNone = true := rfl
theorem lkN_is_there (i : Ids) (h : Ha) : ((flds i h).lookup ("is_there" : Str)).isNone = true := rfl
theorem lkN_look_number (i : Ids) (h : Ha) : ((flds i h).lookup ("look_number" : Str)).isNone = true := rfl
theorem lkN_order (i : Ids) (h : Ha) : ((flds i h).lookup ("order" : Str)).isNone = true := rfl
theorem good_word {S : Sto} {t : Str} (ht : isWordS t = true) : good S (.str t) = true := nice_good (n := 0) (nice_word (a := .str t) ht) S
theorem good_hr {S : Sto} {p : A} {m : Nat} (hp : isHr m p = true) : good S p = true := nice_good (nice_hr hp) S
theorem F_tell_B (hn : pre.length = n) {t : Str} {v : Int} (r : Rest h) (ht : isWordS t = true) (v0 : 0 ≤ v) (v1 : v ≤ 9999) :
    F_Hall_tell K [.ob n, .str t, .int v] (pre ++ (hB (hC K) n h ++ E)) = .ok (.ob (E.length + (n + 6))) (pre ++ (hB (hC K) n (tellH h t v) ++ (E ++ [.lst ((tellH h t v).rows.drop h.rows.length)]))) := by
  unfold F_Hall_tell
  simp only [hB_rd hn]
  rw [if_pos ⟨r, good_word ht, rfl⟩, if_pos (show isWord (.str t) = true from ht), if_pos (isIn_int v0 v1), hB_wr hn, len_B hn, List.append_assoc, List.append_assoc]
  rfl
theorem F_enter_B (hn : pre.length = n) {p : A} (r : Rest h) (hp : isHr 3 p = true) :
    F_Hall_enter K [.ob n, p] (pre ++ (hB (hC K) n h ++ E)) = .ok (.int h.people.length) (pre ++ (hB (hC K) n (enterH h p) ++ E)) := by
  unfold F_Hall_enter
  simp only [hB_rd hn]
  rw [if_pos ⟨r, good_hr hp⟩, if_pos hp, hB_wr hn]
theorem F_leave_B (hn : pre.length = n) {o : Str} (r : Rest h) (ho : isWordS o = true) :
    F_Hall_leave K [.ob n, .str o] (pre ++ (hB (hC K) n h ++ E)) = .ok (.int (dropL h o).length) (pre ++ (hB (hC K) n (dropW h o) ++ E)) := by
  unfold F_Hall_leave
  simp only [hB_rd hn]
  rw [if_pos ⟨r, good_word ho⟩, if_pos (show isWord (.str o) = true from ho), hB_wr hn]
  rfl
theorem F_journal_B (hn : pre.length = n) (r : Rest h) :
    F_Hall_journal K [.ob n] (pre ++ (hB (hC K) n h ++ E)) = .ok (.ob (E.length + (n + 6))) (pre ++ (hB (hC K) n h ++ (E ++ [.lst h.rows]))) := by
  unfold F_Hall_journal
  simp only [hB_rd hn]
  rw [if_pos r, len_B hn, List.append_assoc, List.append_assoc]
theorem F_hearers_B (hn : pre.length = n) {t : Str} (r : Rest h) (ht : isWordS t = true) :
    F_Hall_hearers K [.ob n, .str t] (pre ++ (hB (hC K) n h ++ E)) = .ok (.ob (E.length + (n + 6))) (pre ++ (hB (hC K) n h ++ (E ++ [.lst ((orderH h t).map .int)]))) := by
  unfold F_Hall_hearers
  simp only [hB_rd hn]
  rw [if_pos ⟨r, good_word ht⟩, if_pos (show isWord (.str t) = true from ht), len_B hn, List.append_assoc, List.append_assoc]
  rfl
theorem F_last_B (hn : pre.length = n) {t : Str} (r : Rest h) (ht : isWordS t = true) :
    F_Hall_last K [.ob n, .str t] (pre ++ (hB (hC K) n h ++ E)) = .ok ((valA h.lasts (.inr t)).getD .non) (pre ++ (hB (hC K) n h ++ E)) := by
  unfold F_Hall_last
  simp only [hB_rd hn]
  rw [if_pos ⟨r, good_word ht⟩, if_pos (show isWord (.str t) = true from ht)]
  rfl
theorem F_hearer_B (hn : pre.length = n) {x : Int} (w : Wf h) (h0 : 0 ≤ x) (h1 : x < h.people.length) :
    F_Hall_hearer K [.ob n, .int x] (pre ++ (hB (hC K) n h ++ E)) = .ok (pAt h x) (pre ++ (hB (hC K) n h ++ E)) := by
  unfold F_Hall_hearer
  simp only [hB_rd hn]
  rw [if_pos ⟨w, rfl⟩, if_pos (isIn_int h0 (by omega))]
  rfl
theorem F_there_B (hn : pre.length = n) {x : Int} (w : Wf h) (h0 : 0 ≤ x) (h1 : x < h.people.length) :
    F_Hall_is_there K [.ob n, .int x] (pre ++ (hB (hC K) n h ++ E)) = .ok (.bl (!goneB h x)) (pre ++ (hB (hC K) n h ++ E)) := by
  unfold F_Hall_is_there
  simp only [hB_rd hn]
  rw [if_pos (show kn (pre ++ (hB (hC K) n h ++ E)) (.int x) = true from rfl), if_pos (isIn_int h0 (by omega))]
  rfl
theorem F_init_B (hn : pre.length = n) {x : A} (hx : keptOk x = true) (hl : lenOk x = true) (hw : nice 1 x = true) :
    F_Hall___init__ K [.ob n, x] (pre ++ [.ins (hC K) []]) = .ok .non (pre ++ hB (hC K) n (newHa x)) := by
  subst hn
  unfold F_Hall___init__
  have e : (pre ++ [O.ins (hC K) []])[pre.length]? = some (.ins (hC K) []) := by simp
  have g : good (pre ++ [O.ins (hC K) []]) x = true := nice_good hw _
  simp only
  rw [if_pos ⟨by simp, e, by rw [g, hl]; rfl, nice_bel hw _⟩, if_pos hx]
  simp
theorem make_B {gs : GA} {ρ : Ro} {S S1 : Sto} {x : A} (h : gs ρ S = .ok [x] S1) (hx : keptOk x = true) (hl : lenOk x = true) (hw : nice 1 x = true) : gMake (He.ga K "Hall") (F_Hall___init__ K) gs ρ S = .ok (.ob S1.length) (S1 ++ hB (hC K) S1.length (newHa x)) := by
  have e : F_Hall___init__ K [.ob S1.length, x] (S1 ++ [.ins (He.ga K "Hall") []]) = .ok .non (S1 ++ hB (hC K) S1.length (newHa x)) := F_init_B rfl hx hl hw
  unfold gMake
  rw [h]
  simp only [RA.bind_ok, e, RE.bind_ok]
end
end
end Sx.My

set_option Elab.async false
set_option linter.all false
set_option maxRecDepth 100000
set_option maxHeartbeats 4000000
namespace Sx.My
open PySem PySem.Spec PyProof.Rows L2
noncomputable section
variable {P : Program} {w : World} {K : Frg} {mg : Str → Option Value} {base : Heap}
def q_law_0 (K : Frg) : GS :=
  gSet 1 (gMake (He.ga K "Hall") (F_Hall___init__ K) (gCons (gTup (gNil)) (gNil)))
def q_law_1 (K : Frg) : GS :=
  gSet 2 (gOp vAdd (gC (.int 1)) (gOp vMod (gCall (F__law_cell K) (gCons (gVar 0) (gCons (gC (.int 0)) (gNil)))) (gC (.int 30))))
def q_law_2 (K : Frg) : GS :=
  gSet 3 (gOp vMod (gCall (F__law_cell K) (gCons (gVar 0) (gCons (gC (.int 1)) (gNil)))) (gC (.int 13)))
def q_law_3 (K : Frg) : GS :=
  gSet 4 (gOp vMod (gCall (F__law_cell K) (gCons (gVar 0) (gCons (gC (.int 2)) (gNil)))) (gC (.int 2)))
def q_law_4 (K : Frg) : GS :=
  gFor (gIR1 (gCons (gVar 2) (gNil))) (nName 5)
  (gExpr (gMeth (He.ga K "Hall") "enter" (F_Hall_enter K) (gVar 1) (gCons (gTup (gCons (gC (.str "x")) (gCons (gC (.str "a")) (gCons (gC (.int 5)) (gCons (gC (.str "always")) (gCons (gTup (gCons (gC (.str "any")) (gNil))) (gCons (gTup (gCons (gTup (gCons (gC (.str "tell")) (gCons (gC (.str "b")) (gCons (gC (.int 1)) (gNil))))) (gNil))) (gNil)))))))) (gNil))))
def q_law_5 (K : Frg) : GS :=
  gFor (gIR1 (gCons (gVar 3) (gNil))) (nName 5)
  (gExpr (gMeth (He.ga K "Hall") "enter" (F_Hall_enter K) (gVar 1) (gCons (gTup (gCons (gC (.str "y")) (gCons (gC (.str "b")) (gCons (gC (.int 5)) (gCons (gC (.str "always")) (gCons (gTup (gCons (gC (.str "any")) (gNil))) (gCons (gOp vMulT (gTup (gCons (gTup (gCons (gC (.str "tell")) (gCons (gC (.str "c")) (gCons (gC (.int 2)) (gNil))))) (gNil))) (gVar 4)) (gNil)))))))) (gNil))))
def q_law_6 (K : Frg) : GS :=
  gExpr (gMeth (He.ga K "Hall") "enter" (F_Hall_enter K) (gVar 1) (gCons (gTup (gCons (gC (.str "z")) (gCons (gC (.str "c")) (gCons (gC (.int 5)) (gCons (gC (.str "always")) (gCons (gTup (gCons (gC (.str "any")) (gNil))) (gCons (gTup (gNil)) (gNil)))))))) (gNil)))
def q_law_7b_0 (K : Frg) : GS :=
  gSet 7 (gOp vIx (gLst (gCons (gOp vMod (gCall (F__law_cell K) (gCons (gVar 0) (gCons (gC (.int 3)) (gNil)))) (gC (.int 10000))) (gCons (gC (.int 9998)) (gNil)))) (gOp vMod (gCall (F__law_cell K) (gCons (gVar 0) (gCons (gC (.int 4)) (gNil)))) (gC (.int 2))))
def q_law_7b_1 (K : Frg) : GS :=
  gSet 8 (gLst (gNil))
def q_law_7b_2b_0 (K : Frg) : GS :=
  gExpr (gMt "list" vAppend (gVar 8) (gCons (gTup (gCons (gC (.str "heard")) (gCons (gVar 5) (gCons (gC (.str "a")) (gCons (gVar 7) (gNil)))))) (gNil)))
def q_law_7b_2b_1b_0 (K : Frg) : GS :=
  gExpr (gMt "list" vAppend (gVar 8) (gCons (gTup (gCons (gC (.str "heard")) (gCons (gOp vAdd (gVar 2) (gVar 9)) (gCons (gC (.str "b")) (gCons (gOp vMod (gOp vAdd (gVar 7) (gC (.int 1))) (gC (.int 10000))) (gNil)))))) (gNil)))
def q_law_7b_2b_1b_1 (K : Frg) : GS :=
  gSet 8 (gOp vAdd (gVar 8) (gOp vMul (gLst (gCons (gTup (gCons (gC (.str "heard")) (gCons (gOp vAdd (gVar 2) (gVar 3)) (gCons (gC (.str "c")) (gCons (gOp vMod (gOp vAdd (gVar 7) (gC (.int 3))) (gC (.int 10000))) (gNil)))))) (gNil))) (gVar 4)))
def q_law_7b_2b_1b (K : Frg) : GS :=
  gSeq (q_law_7b_2b_1b_0 K ) (q_law_7b_2b_1b_1 K )
def q_law_7b_2b_1 (K : Frg) : GS :=
  gFor (gIR1 (gCons (gVar 3) (gNil))) (nName 9)
  (q_law_7b_2b_1b K )
def q_law_7b_2b (K : Frg) : GS :=
  gSeq (q_law_7b_2b_0 K ) (q_law_7b_2b_1 K )
def q_law_7b_2 (K : Frg) : GS :=
  gFor (gIR1 (gCons (gVar 2) (gNil))) (nName 5)
  (q_law_7b_2b K )
def q_law_7b_3 (K : Frg) : GS :=
  gIfS (gOp vGt (gCB vLen (gCons (gVar 8) (gNil))) (gC (.int 100))) (gSet 8 (gOp vAdd (gSlice (gVar 8) (pNone) (pSome (gC (.int 100)))) (gLst (gCons (gTup (gCons (gC (.str "cut")) (gNil))) (gNil))))) (gPass)
def q_law_7b_4 (K : Frg) : GS :=
  gIfS (gOp vNe (gMeth (He.ga K "Hall") "tell" (F_Hall_tell K) (gVar 1) (gCons (gC (.str "a")) (gCons (gVar 7) (gNil)))) (gVar 8)) (gRet (gC (.bl false))) (gPass)
def q_law_7b (K : Frg) : GS :=
  gSeq (q_law_7b_0 K ) (gSeq (q_law_7b_1 K ) (gSeq (q_law_7b_2 K ) (gSeq (q_law_7b_3 K ) (q_law_7b_4 K ))))
def q_law_7 (K : Frg) : GS :=
  gFor (gIR1 (gCons (gC (.int 2)) (gNil))) (nName 6)
  (q_law_7b K )
def q_law_8 (K : Frg) : GS :=
  gRet (gAnd (gOp vEq (gCB vLen (gCons (gMeth (He.ga K "Hall") "journal" (F_Hall_journal K) (gVar 1) gNil) (gNil))) (gOp vMul (gC (.int 2)) (gCB vLen (gCons (gVar 8) (gNil))))) (gOp vEq (gMeth (He.ga K "Hall") "hearers" (F_Hall_hearers K) (gVar 1) (gCons (gC (.str "c")) (gNil))) (gLst (gCons (gOp vAdd (gVar 2) (gVar 3)) (gNil)))))
abbrev N_law : List Str := ["script", "hall", "many", "few", "third", "k", "time", "value", "due", "j"]
abbrev P_law : List Str := ["script"]
theorem sc_law : FnScope N_law P_law (defScope Hd.s_law) := ⟨rfl, rfl, rfl, by decide +kernel, rfl, by decide +kernel, by decide +kernel⟩
theorem b_law {K : Frg} {mg : Str → Option Value} {base : Heap} (t : TT K mg base) : Binds K t.f_law P_law [] := FunD.bindsN t.D_law fun _ _ _ _ _ _ us hl => match us, hl with | [_], _ => rfl
def q_law (K : Frg) : GS :=
  gSeq (q_law_0 K ) (gSeq (q_law_1 K ) (gSeq (q_law_2 K ) (gSeq (q_law_3 K ) (gSeq (q_law_4 K ) (gSeq (q_law_5 K ) (gSeq (q_law_6 K ) (gSeq (q_law_7 K ) (q_law_8 K ))))))))
theorem sb_law {P : Program} {w : World} {K : Frg} {mg : Str → Option Value} {base : Heap} (t : TT K mg base)  {cdv : Value} {A : Around} {outer : List Env} {s : Shared} {H : Hp} {E : XK} (hr : Rm 309 (A.deeper (envOfC "law" (defScope Hd.s_law) s.heap.objs.size (He.ga K "law") cdv))) :
    SB (cxOf (L2.CX P w) P w K mg base N_law "law" (defScope Hd.s_law) (He.ga K "law") cdv A outer s H E) (tbs K) (fun c d _ H2 => E c d H2) (defBody Hd.s_law) (q_law K ) := by
  have nd : N_law.Nodup := sc_law.nd
  have hp := passes_of (X := cxOf (L2.CX P w) P w K mg base N_law "law" (defScope Hd.s_law) (He.ga K "law") cdv A outer s H E) (K := fun e s2 => L2.CX P w outer H s E e s2) (E₁ := fun e s2 => L2.CX P w outer H s E e s2) rfl
  have tk : Takes (cxOf (L2.CX P w) P w K mg base N_law "law" (defScope Hd.s_law) (He.ga K "law") cdv A outer s H E) (fun c d _ H2 => E c d H2) := takes_of rfl rfl rfl rfl
  exact (sb_cons (ss_set (i := 1) nd rfl (Or.inl rfl) (se_make t.k_Hall (ok_Hall___init__ t) (hr.mono (by omega)) t.m_Hall (b_Hall___init__ t) tk (sa_cons (se_tup sa_nil) sa_nil)))
  (sb_cons (ss_set (i := 2) nd rfl (Or.inl rfl) (se_op os_add se_int (se_op os_mod (se_call (ok__law_cell t) (hr.mono (by omega)) t.m__law_cell t.D__law_cell.kp (b__law_cell t) tk (sa_cons (se_var' (pv 0)) (sa_cons se_int sa_nil))) se_int)))
  (sb_cons (ss_set (i := 3) nd rfl (Or.inl rfl) (se_op os_mod (se_call (ok__law_cell t) (hr.mono (by omega)) t.m__law_cell t.D__law_cell.kp (b__law_cell t) tk (sa_cons (se_var' (pv 0)) (sa_cons se_int sa_nil))) se_int))
  (sb_cons (ss_set (i := 4) nd rfl (Or.inl rfl) (se_op os_mod (se_call (ok__law_cell t) (hr.mono (by omega)) t.m__law_cell t.D__law_cell.kp (b__law_cell t) tk (sa_cons (se_var' (pv 0)) (sa_cons se_int sa_nil))) se_int))
  (sb_cons (ss_for hp rfl (si_range1 t.n_range (sa_cons (se_var' (pv 2)) sa_nil)) (sg_name (i := 5) nd rfl (Or.inl rfl))
  (sb_one (ss_expr (se_meth (se_var' (pv 1)) t.c_Hall t.t_Hall_enter (ok_Hall_enter t) (hr.mono (by omega)) (b_Hall_enter t) tk (sa_cons (se_tup (sa_cons se_str (sa_cons se_str (sa_cons se_int (sa_cons se_str (sa_cons (se_tup (sa_cons se_str sa_nil)) (sa_cons (se_tup (sa_cons (se_tup (sa_cons se_str (sa_cons se_str (sa_cons se_int sa_nil)))) sa_nil)) sa_nil))))))) sa_nil)))))
  (sb_cons (ss_for hp rfl (si_range1 t.n_range (sa_cons (se_var' (pv 3)) sa_nil)) (sg_name (i := 5) nd rfl (Or.inl rfl))
  (sb_one (ss_expr (se_meth (se_var' (pv 1)) t.c_Hall t.t_Hall_enter (ok_Hall_enter t) (hr.mono (by omega)) (b_Hall_enter t) tk (sa_cons (se_tup (sa_cons se_str (sa_cons se_str (sa_cons se_int (sa_cons se_str (sa_cons (se_tup (sa_cons se_str sa_nil)) (sa_cons (se_op os_mulT (se_tup (sa_cons (se_tup (sa_cons se_str (sa_cons se_str (sa_cons se_int sa_nil)))) sa_nil)) (se_var' (pv 4))) sa_nil))))))) sa_nil)))))
  (sb_cons (ss_expr (se_meth (se_var' (pv 1)) t.c_Hall t.t_Hall_enter (ok_Hall_enter t) (hr.mono (by omega)) (b_Hall_enter t) tk (sa_cons (se_tup (sa_cons se_str (sa_cons se_str (sa_cons se_int (sa_cons se_str (sa_cons (se_tup (sa_cons se_str sa_nil)) (sa_cons (se_tup sa_nil) sa_nil))))))) sa_nil)))
  (sb_cons (ss_for hp rfl (si_range1 t.n_range (sa_cons se_int sa_nil)) (sg_name (i := 6) nd rfl (Or.inl rfl))
  (sb_cons (ss_set (i := 7) nd rfl (Or.inl rfl) (se_ix is_ix (se_lst (sa_cons (se_op os_mod (se_call (ok__law_cell t) (hr.mono (by omega)) t.m__law_cell t.D__law_cell.kp (b__law_cell t) tk (sa_cons (se_var' (pv 0)) (sa_cons se_int sa_nil))) se_int) (sa_cons se_int sa_nil))) (se_op os_mod (se_call (ok__law_cell t) (hr.mono (by omega)) t.m__law_cell t.D__law_cell.kp (b__law_cell t) tk (sa_cons (se_var' (pv 0)) (sa_cons se_int sa_nil))) se_int) (fun _ _ => rfl)))
  (sb_cons (ss_set (i := 8) nd rfl (Or.inl rfl) (se_lst sa_nil))
  (sb_cons (ss_for hp rfl (si_range1 t.n_range (sa_cons (se_var' (pv 2)) sa_nil)) (sg_name (i := 5) nd rfl (Or.inl rfl))
  (sb_cons (ss_expr (se_bm PySem.F.plainAttrs_list PySem.F.slot_list_append PySem.F.type_list_append ms_append (se_var' (pv 8)) (sa_cons (se_tup (sa_cons se_str (sa_cons (se_var' (pv 5)) (sa_cons se_str (sa_cons (se_var' (pv 7)) sa_nil))))) sa_nil)))
  (sb_one (ss_for hp rfl (si_range1 t.n_range (sa_cons (se_var' (pv 3)) sa_nil)) (sg_name (i := 9) nd rfl (Or.inl rfl))
  (sb_cons (ss_expr (se_bm PySem.F.plainAttrs_list PySem.F.slot_list_append PySem.F.type_list_append ms_append (se_var' (pv 8)) (sa_cons (se_tup (sa_cons se_str (sa_cons (se_op os_add (se_var' (pv 2)) (se_var' (pv 9))) (sa_cons se_str (sa_cons (se_op os_mod (se_op os_add (se_var' (pv 7)) se_int) se_int) sa_nil))))) sa_nil)))
  (sb_one (ss_set (i := 8) nd rfl (Or.inl rfl) (se_op os_add (se_var' (pv 8)) (se_op os_mul (se_lst (sa_cons (se_tup (sa_cons se_str (sa_cons (se_op os_add (se_var' (pv 2)) (se_var' (pv 3))) (sa_cons se_str (sa_cons (se_op os_mod (se_op os_add (se_var' (pv 7)) se_int) se_int) sa_nil))))) sa_nil)) (se_var' (pv 4)))))))))))
  (sb_cons (ss_if (st_cmp os_gt (se_callB cs_len (by rfl) t.n_len (by decide +kernel) (sa_cons (se_var' (pv 8)) sa_nil)) se_int (nomark _)) (sb_one (ss_set (i := 8) nd rfl (Or.inl rfl) (se_op os_add (se_slice (se_var' (pv 8)) so_none (so_some se_int)) (se_lst (sa_cons (se_tup (sa_cons se_str sa_nil)) sa_nil))))) sb_nil)
  (sb_one (ss_if (st_cmp (os_ne hr.units) (se_meth (se_var' (pv 1)) t.c_Hall t.t_Hall_tell (ok_Hall_tell t) (hr.mono (by omega)) (b_Hall_tell t) tk (sa_cons se_str (sa_cons (se_var' (pv 7)) sa_nil))) (se_var' (pv 8)) (nomark _)) (sb_one (ss_ret se_bl)) sb_nil)))))))
  (sb_one (ss_ret (se_and (se_cmp (os_eq hr.units) (se_callB cs_len (by rfl) t.n_len (by decide +kernel) (sa_cons (se_meth0 (se_var' (pv 1)) t.c_Hall t.t_Hall_journal (ok_Hall_journal t) (hr.mono (by omega)) (b_Hall_journal t) tk) sa_nil)) (se_op os_mul se_int (se_callB cs_len (by rfl) t.n_len (by decide +kernel) (sa_cons (se_var' (pv 8)) sa_nil))) (nomark _)) (se_one (se_cmp (os_eq hr.units) (se_meth (se_var' (pv 1)) t.c_Hall t.t_Hall_hearers (ok_Hall_hearers t) (hr.mono (by omega)) (b_Hall_hearers t) tk (sa_cons se_str sa_nil)) (se_lst (sa_cons (se_op os_add (se_var' (pv 2)) (se_var' (pv 3))) sa_nil)) (nomark _))))))))))))))

end
end Sx.My

set_option Elab.async false
set_option linter.all false
set_option maxRecDepth 100000
set_option maxHeartbeats 4000000
namespace Sx.My
open PySem PySem.Spec PyProof.Rows L2
noncomputable section
variable {P : Program} {w : World} {K : Frg} {mg : Str → Option Value} {base : Heap}
abbrev rho9 (ha ma fe th k ti va du j : Option A) : Ro := [some (.ob 0), ha, ma, fe, th, k, ti, va, du, j]
def sN (o0 : O) (K : Frg) (h : Ha) (E : Sto) : Sto := [o0] ++ (hB (hC K) 1 h ++ E)
section
variable {o0 : O} {ns : List Int} {h : Ha} {E F : Sto} {a b c d e f g i j : Option A}
theorem gOp_eq (v : A → A → Sto → RE) (g1 g2 : GE) (ρ : Ro) (S : Sto) : gOp v g1 g2 ρ S = (g1 ρ S).bind fun a S1 => (g2 ρ S1).bind fun b S2 => (v a b S2).nox := rfl
theorem sN_app : sN o0 K h E ++ F = sN o0 K h (E ++ F) := by unfold sN; simp only [List.append_assoc]
theorem sN_len : (sN o0 K h E).length = E.length + 7 := len_B (pre := [o0]) rfl
theorem sN_ins : insAt (hC K) (.ob 1) (sN o0 K h E) = some (1, flds (newIds 1) h) := ins_B (pre := [o0]) rfl
theorem sN_items (k : Nat) : itemsAt (sN o0 K h E) (k + 7) = itemsAt E k := rfl
theorem sN_get (k : Nat) : (sN o0 K h E)[k + 7]? = E[k]? := rfl
theorem sN_set (k : Nat) (y : O) : (sN o0 K h E).set (k + 7) y = sN o0 K h (E.set k y) := rfl
theorem sN_cell (ho : o0.items = some (ns.map .int)) {k : Int} (hk : 0 ≤ k) : F__law_cell K [.ob 0, .int k] (sN o0 K h E) = .ok (.int (cellOf ns k)) (sN o0 K h E) := F__law_cell_at (by show itemsAt (o0 :: _) 0 = _; rw [itemsAt_c0]; exact ho) hk
theorem sN_tell {t : Str} {v : Int} (r : Rest h) (ht : isWordS t = true) (v0 : 0 ≤ v) (v1 : v ≤ 9999) : F_Hall_tell K [.ob 1, .str t, .int v] (sN o0 K h E) = .ok (.ob (E.length + 7)) (sN o0 K (tellH h t v) (E ++ [.lst ((tellH h t v).rows.drop h.rows.length)])) := F_tell_B (pre := [o0]) rfl r ht v0 v1
theorem sN_enter {p : A} (r : Rest h) (hp : isHr 3 p = true) : F_Hall_enter K [.ob 1, p] (sN o0 K h E) = .ok (.int h.people.length) (sN o0 K (enterH h p) E) := F_enter_B (pre := [o0]) rfl r hp
theorem sN_journal (r : Rest h) : F_Hall_journal K [.ob 1] (sN o0 K h E) = .ok (.ob (E.length + 7)) (sN o0 K h (E ++ [.lst h.rows])) := F_journal_B (pre := [o0]) rfl r
theorem sN_hearers {t : Str} (r : Rest h) (ht : isWordS t = true) : F_Hall_hearers K [.ob 1, .str t] (sN o0 K h E) = .ok (.ob (E.length + 7)) (sN o0 K h (E ++ [.lst ((orderH h t).map .int)])) := F_hearers_B (pre := [o0]) rfl r ht
def hP (ps : List A) : Ha := ⟨.tup [], [], ps, [], [], [], 100, false⟩
theorem rest_hP {ps : List A} (hp : ∀ a ∈ ps, isHr 3 a = true) (hl : ps.length ≤ 80000) : Rest (hP ps) := by
  refine ⟨⟨⟨[], rfl, fun k hk => (nomatch hk), by decide⟩, fun p hp => (nomatch hp), List.nodup_nil, hp, fun p hp => (nomatch hp), List.nodup_nil, fun r hr => (nomatch hr), fun r hr => (nomatch hr), (by decide : (0 : Int) ≤ 100 ∧ (100 : Int) ≤ 100)⟩, rfl, ?_⟩
  show 0 + ps.length ≤ 80000
  omega
theorem enter_hP {ps : List A} {p : A} : enterH (hP ps) p = hP (ps ++ [p]) := enter9 rfl
theorem isX : isHr 3 hrX = true := by decide +kernel
theorem isY (d : Bool) : isHr 3 (hrY d) = true := by cases d <;> decide +kernel
theorem isZ : isHr 3 hrZ = true := by decide +kernel
def dI (d : Bool) : Int := if d = true then 1 else 0
theorem w0 : q_law_0 K (startR N_law.length [.ob 0]) [o0] = .nx (rho9 (some (.ob 1)) none none none none none none none none) (sN o0 K (hP []) []) := by
  unfold q_law_0 gSet
  rw [make_B (S1 := [o0]) (x := .tup []) rfl (by decide +kernel) (by decide +kernel) (by decide +kernel)]
  simp only [RE.bindS_ok, sN, List.append_nil]
  try rfl
theorem w1 (ho : o0.items = some (ns.map .int)) : ∃ m : Nat, (1 ≤ m ∧ m ≤ 30) ∧ q_law_1 K (rho9 a none none none none none none none none) (sN o0 K h E) = .nx (rho9 a (some (.int m)) none none none none none none none) (sN o0 K h E) := by
  obtain ⟨n0, n1⟩ := emod_lt' (a := cellOf ns 0) (b := 30) (by decide)
  refine ⟨(1 + cellOf ns 0 % 30).toNat, by omega, ?_⟩
  have e : (((1 + cellOf ns 0 % 30).toNat : Nat) : Int) = 1 + cellOf ns 0 % 30 := by omega
  rw [e]
  simp only [q_law_1, wipeR, gVar, gC, gOp, gUn, gAnd, gOr, gNot, gIf, gNil, gCons, gTup, gLst, gCB, gChain, gSet, gExpr, gRet, gRetN, gPass, gBrk, gCt, gRaise, gIfS, gSeq, nName, nTup, setAll, gAsg, gCall, gTru, gNotT, gIsi, RE.bind_ok, RE.bind_exc, RE.bind_stuck, RE.bindA_ok, RE.bindS_ok, RE.bindS_exc, RE.bindT_ok, RE.bindTS_ok, RA.bind_ok, RA.bindA_ok, RE.nox_ok, RS.seq_nx, RS.seq_ret, RS.seq_exc, RS.seq_brk, RS.seq_ct, RS.seq_stuck, RE.bindA_exc, RE.bindA_stuck, RE.bindS_stuck, RE.bindT_exc, RE.bindT_stuck, RE.bindTS_exc, RE.bindTS_stuck, RA.bind_exc, RA.bind_stuck, RA.bindA_exc, RA.bindA_stuck, RE.nox_stuck, bind_ite, bindA_ite, bindS_ite, bindT_ite, bindTS_ite, nox_ite, seq_ite, startR, tyA_non, tyA_bl, tyA_int, tyA_str, tyA_tup, List.map_cons, List.map_nil, List.length_cons, List.length_nil, List.cons_append, List.nil_append, List.append_nil, List.getElem?_cons_zero, List.getElem?_cons_succ, List.set_cons_zero, List.set_cons_succ, vIx_t0, vIx_t1, vIx_t2, vIx_t3, vIx_t4, vIx_t5, vEq_ss, vEq_ii, vEq_bb, vNe_ss, vNe_ii, vNe_bb, vLen_tup, truA_tup, truA_bl, vLe_ii, vLt_ii, vGt_ii, vGe_ii, vSub_ii, vAdd_ii, vAddI_ii, vNeg_i, isT_ss, isT_tt, isT_ii, isT_bi, isT_bb, isT_ib, sN_cell (K := K) (h := h) (E := E) ho (k := 0) (by omega), vMod_pos _ 30 _ (by decide)]
theorem w2 (ho : o0.items = some (ns.map .int)) : ∃ m : Nat, m ≤ 12 ∧ q_law_2 K (rho9 a b none none none none none none none) (sN o0 K h E) = .nx (rho9 a b (some (.int m)) none none none none none none) (sN o0 K h E) := by
  obtain ⟨n0, n1⟩ := emod_lt' (a := cellOf ns 1) (b := 13) (by decide)
  refine ⟨(cellOf ns 1 % 13).toNat, by omega, ?_⟩
  have e : (((cellOf ns 1 % 13).toNat : Nat) : Int) = cellOf ns 1 % 13 := by omega
  rw [e]
  simp only [q_law_2, wipeR, gVar, gC, gOp, gUn, gAnd, gOr, gNot, gIf, gNil, gCons, gTup, gLst, gCB, gChain, gSet, gExpr, gRet, gRetN, gPass, gBrk, gCt, gRaise, gIfS, gSeq, nName, nTup, setAll, gAsg, gCall, gTru, gNotT, gIsi, RE.bind_ok, RE.bind_exc, RE.bind_stuck, RE.bindA_ok, RE.bindS_ok, RE.bindS_exc, RE.bindT_ok, RE.bindTS_ok, RA.bind_ok, RA.bindA_ok, RE.nox_ok, RS.seq_nx, RS.seq_ret, RS.seq_exc, RS.seq_brk, RS.seq_ct, RS.seq_stuck, RE.bindA_exc, RE.bindA_stuck, RE.bindS_stuck, RE.bindT_exc, RE.bindT_stuck, RE.bindTS_exc, RE.bindTS_stuck, RA.bind_exc, RA.bind_stuck, RA.bindA_exc, RA.bindA_stuck, RE.nox_stuck, bind_ite, bindA_ite, bindS_ite, bindT_ite, bindTS_ite, nox_ite, seq_ite, startR, tyA_non, tyA_bl, tyA_int, tyA_str, tyA_tup, List.map_cons, List.map_nil, List.length_cons, List.length_nil, List.cons_append, List.nil_append, List.append_nil, List.getElem?_cons_zero, List.getElem?_cons_succ, List.set_cons_zero, List.set_cons_succ, vIx_t0, vIx_t1, vIx_t2, vIx_t3, vIx_t4, vIx_t5, vEq_ss, vEq_ii, vEq_bb, vNe_ss, vNe_ii, vNe_bb, vLen_tup, truA_tup, truA_bl, vLe_ii, vLt_ii, vGt_ii, vGe_ii, vSub_ii, vAdd_ii, vAddI_ii, vNeg_i, isT_ss, isT_tt, isT_ii, isT_bi, isT_bb, isT_ib, sN_cell (K := K) (h := h) (E := E) ho (k := 1) (by omega), vMod_pos _ 13 _ (by decide)]
theorem w3 (ho : o0.items = some (ns.map .int)) : ∃ t : Bool, q_law_3 K (rho9 a b c none none none none none none) (sN o0 K h E) = .nx (rho9 a b c (some (.int (dI t))) none none none none none) (sN o0 K h E) := by
  obtain ⟨n0, n1⟩ := emod_lt' (a := cellOf ns 2) (b := 2) (by decide)
  refine ⟨decide (cellOf ns 2 % 2 = 1), ?_⟩
  have e : dI (decide (cellOf ns 2 % 2 = 1)) = cellOf ns 2 % 2 := by
    unfold dI
    by_cases h1 : cellOf ns 2 % 2 = 1
    · simp [h1]
    · simp [h1]; omega
  rw [e]
  simp only [q_law_3, wipeR, gVar, gC, gOp, gUn, gAnd, gOr, gNot, gIf, gNil, gCons, gTup, gLst, gCB, gChain, gSet, gExpr, gRet, gRetN, gPass, gBrk, gCt, gRaise, gIfS, gSeq, nName, nTup, setAll, gAsg, gCall, gTru, gNotT, gIsi, RE.bind_ok, RE.bind_exc, RE.bind_stuck, RE.bindA_ok, RE.bindS_ok, RE.bindS_exc, RE.bindT_ok, RE.bindTS_ok, RA.bind_ok, RA.bindA_ok, RE.nox_ok, RS.seq_nx, RS.seq_ret, RS.seq_exc, RS.seq_brk, RS.seq_ct, RS.seq_stuck, RE.bindA_exc, RE.bindA_stuck, RE.bindS_stuck, RE.bindT_exc, RE.bindT_stuck, RE.bindTS_exc, RE.bindTS_stuck, RA.bind_exc, RA.bind_stuck, RA.bindA_exc, RA.bindA_stuck, RE.nox_stuck, bind_ite, bindA_ite, bindS_ite, bindT_ite, bindTS_ite, nox_ite, seq_ite, startR, tyA_non, tyA_bl, tyA_int, tyA_str, tyA_tup, List.map_cons, List.map_nil, List.length_cons, List.length_nil, List.cons_append, List.nil_append, List.append_nil, List.getElem?_cons_zero, List.getElem?_cons_succ, List.set_cons_zero, List.set_cons_succ, vIx_t0, vIx_t1, vIx_t2, vIx_t3, vIx_t4, vIx_t5, vEq_ss, vEq_ii, vEq_bb, vNe_ss, vNe_ii, vNe_bb, vLen_tup, truA_tup, truA_bl, vLe_ii, vLt_ii, vGt_ii, vGe_ii, vSub_ii, vAdd_ii, vAddI_ii, vNeg_i, isT_ss, isT_tt, isT_ii, isT_bi, isT_bb, isT_ib, sN_cell (K := K) (h := h) (E := E) ho (k := 2) (by omega), vMod_pos _ 2 _ (by decide)]
theorem hrs_rep {k : Nat} {p a : A} (hp : isHr 3 p = true) (h : a ∈ List.replicate k p) : isHr 3 a = true := by
  rw [List.eq_of_mem_replicate h]
  exact hp
theorem w4 {m : Nat} (hm : m ≤ 30) : ∃ k, q_law_4 K (rho9 (some (.ob 1)) (some (.int m)) b c none none none none none) (sN o0 K (hP []) E) = .nx (rho9 (some (.ob 1)) (some (.int m)) b c k none none none none) (sN o0 K (hP (List.replicate m hrX)) E) := by
  unfold q_law_4
  rw [gFor_ok (gIR1_ok (j := (m : Int)) (S1 := sN o0 K (hP []) E) rfl (by omega) (by omega))]
  refine for_wp (fun k ρ S => ∃ kk, ρ = rho9 (some (.ob 1)) (some (.int m)) b c kk none none none none ∧ S = sN o0 K (hP (List.replicate k hrX)) E) (fun _ _ _ _ => rfl) _ 0 _ _ ⟨none, rfl, rfl⟩ ?_ (fun r => ∃ k, r = .nx (rho9 (some (.ob 1)) (some (.int m)) b c k none none none none) (sN o0 K (hP (List.replicate m hrX)) E)) ?_
  · rintro k y ρ S hy ⟨kk, rfl, rfl⟩
    obtain ⟨hk, hy2⟩ := rngA_at hy
    subst hy2
    refine ⟨rho9 (some (.ob 1)) (some (.int m)) b c (some (.int (k : Int))) none none none none, _, rfl, fun Q hQ => ?_⟩
    rw [Nat.zero_add] at hQ ⊢
    have en := sN_enter (K := K) (o0 := o0) (E := E) (rest_hP (ps := List.replicate k hrX) (fun a ha => hrs_rep isX ha) (by rw [List.length_replicate]; omega)) isX
    rw [enter_hP, ← List.replicate_succ'] at en
    generalize sN o0 K (hP (List.replicate (k + 1) hrX)) E = S1 at en hQ
    generalize ((hP (List.replicate k hrX)).people.length : Int) = n0 at en
    have ins := sN_ins (K := K) (o0 := o0) (h := hP (List.replicate k hrX)) (E := E)
    generalize hq : flds (newIds 1) (hP (List.replicate k hrX)) = fl at ins
    have lk : (fl.lookup ("enter" : Str)).isNone = true := by rw [← hq]; exact lkN_enter _ _
    generalize sN o0 K (hP (List.replicate k hrX)) E = S0 at *
    unfold hrX aAny at en
    simp only [wipeR, gVar, gC, gOp, gUn, gAnd, gOr, gNot, gIf, gNil, gCons, gTup, gLst, gCB, gChain, gSet, gExpr, gRet, gRetN, gPass, gBrk, gCt, gRaise, gIfS, gSeq, nName, nTup, setAll, gAsg, gCall, gTru, gNotT, gIsi, RE.bind_ok, RE.bind_exc, RE.bind_stuck, RE.bindA_ok, RE.bindS_ok, RE.bindS_exc, RE.bindT_ok, RE.bindTS_ok, RA.bind_ok, RA.bindA_ok, RE.nox_ok, RS.seq_nx, RS.seq_ret, RS.seq_exc, RS.seq_brk, RS.seq_ct, RS.seq_stuck, RE.bindA_exc, RE.bindA_stuck, RE.bindS_stuck, RE.bindT_exc, RE.bindT_stuck, RE.bindTS_exc, RE.bindTS_stuck, RA.bind_exc, RA.bind_stuck, RA.bindA_exc, RA.bindA_stuck, RE.nox_stuck, bind_ite, bindA_ite, bindS_ite, bindT_ite, bindTS_ite, nox_ite, seq_ite, startR, tyA_non, tyA_bl, tyA_int, tyA_str, tyA_tup, List.map_cons, List.map_nil, List.length_cons, List.length_nil, List.cons_append, List.nil_append, List.append_nil, List.getElem?_cons_zero, List.getElem?_cons_succ, List.set_cons_zero, List.set_cons_succ, vIx_t0, vIx_t1, vIx_t2, vIx_t3, vIx_t4, vIx_t5, vEq_ss, vEq_ii, vEq_bb, vNe_ss, vNe_ii, vNe_bb, vLen_tup, truA_tup, truA_bl, vLe_ii, vLt_ii, vGt_ii, vGe_ii, vSub_ii, vAdd_ii, vAddI_ii, vNeg_i, isT_ss, isT_tt, isT_ii, isT_bi, isT_bb, isT_ib, Nat.zero_add, Nat.reduceAdd, Nat.reduceLeDiff, Nat.zero_le, gMeth, ins, lk, ↓reduceIte, en]
    exact (hQ _ _ ⟨_, rfl, rfl⟩).1
  · rintro ρ S ⟨kk, rfl, rfl⟩
    rw [Nat.zero_add]
    have : (rngA 0 (m : Int).toNat).length = m := by simp [rngA]
    rw [this]
    exact ⟨kk, rfl⟩
theorem w5 {n : Nat} {t : Bool} (hn : n ≤ 12) {ps : List A} (hp : ∀ a ∈ ps, isHr 3 a = true) (hl : ps.length ≤ 30) {k0 : Option A} : ∃ k, q_law_5 K (rho9 (some (.ob 1)) b (some (.int n)) (some (.int (dI t))) k0 none none none none) (sN o0 K (hP ps) E) = .nx (rho9 (some (.ob 1)) b (some (.int n)) (some (.int (dI t))) k none none none none) (sN o0 K (hP (ps ++ List.replicate n (hrY t))) E) := by
  unfold q_law_5
  rw [gFor_ok (gIR1_ok (j := (n : Int)) (S1 := sN o0 K (hP ps) E) rfl (by omega) (by omega))]
  refine for_wp (fun k ρ S => ∃ kk, ρ = rho9 (some (.ob 1)) b (some (.int n)) (some (.int (dI t))) kk none none none none ∧ S = sN o0 K (hP (ps ++ List.replicate k (hrY t))) E) (fun _ _ _ _ => rfl) _ 0 _ _ ⟨k0, rfl, by rw [List.replicate_zero, List.append_nil]⟩ ?_ (fun r => ∃ k, r = .nx (rho9 (some (.ob 1)) b (some (.int n)) (some (.int (dI t))) k none none none none) (sN o0 K (hP (ps ++ List.replicate n (hrY t))) E)) ?_
  · rintro k y ρ S hy ⟨kk, rfl, rfl⟩
    obtain ⟨hk, hy2⟩ := rngA_at hy
    subst hy2
    refine ⟨rho9 (some (.ob 1)) b (some (.int n)) (some (.int (dI t))) (some (.int (k : Int))) none none none none, _, rfl, fun Q hQ => ?_⟩
    rw [Nat.zero_add] at hQ ⊢
    have en := sN_enter (K := K) (o0 := o0) (E := E) (rest_hP (ps := ps ++ List.replicate k (hrY t)) (fun a ha => (List.mem_append.mp ha).elim (hp a) (hrs_rep (isY t))) (by rw [List.length_append, List.length_replicate]; omega)) (isY t)
    rw [enter_hP, List.append_assoc, ← List.replicate_succ'] at en
    generalize sN o0 K (hP (ps ++ List.replicate (k + 1) (hrY t))) E = S1 at en hQ
    generalize ((hP (ps ++ List.replicate k (hrY t))).people.length : Int) = n0 at en
    have ins := sN_ins (K := K) (o0 := o0) (h := hP (ps ++ List.replicate k (hrY t))) (E := E)
    generalize hq : flds (newIds 1) (hP (ps ++ List.replicate k (hrY t))) = fl at ins
    have lk : (fl.lookup ("enter" : Str)).isNone = true := by rw [← hq]; exact lkN_enter _ _
    generalize sN o0 K (hP (ps ++ List.replicate k (hrY t))) E = S0 at *
    have mt : ∀ S : Sto, vMulT (.tup [.tup [.str "tell", .str "c", .int 2]]) (.int (dI t)) S = .ok (.tup (if t = true then [.tup [.str "tell", .str "c", .int 2]] else [])) S := by cases t <;> intro S <;> rfl
    unfold hrY aAny at en
    simp only [wipeR, gVar, gC, gOp, gUn, gAnd, gOr, gNot, gIf, gNil, gCons, gTup, gLst, gCB, gChain, gSet, gExpr, gRet, gRetN, gPass, gBrk, gCt, gRaise, gIfS, gSeq, nName, nTup, setAll, gAsg, gCall, gTru, gNotT, gIsi, RE.bind_ok, RE.bind_exc, RE.bind_stuck, RE.bindA_ok, RE.bindS_ok, RE.bindS_exc, RE.bindT_ok, RE.bindTS_ok, RA.bind_ok, RA.bindA_ok, RE.nox_ok, RS.seq_nx, RS.seq_ret, RS.seq_exc, RS.seq_brk, RS.seq_ct, RS.seq_stuck, RE.bindA_exc, RE.bindA_stuck, RE.bindS_stuck, RE.bindT_exc, RE.bindT_stuck, RE.bindTS_exc, RE.bindTS_stuck, RA.bind_exc, RA.bind_stuck, RA.bindA_exc, RA.bindA_stuck, RE.nox_stuck, bind_ite, bindA_ite, bindS_ite, bindT_ite, bindTS_ite, nox_ite, seq_ite, startR, tyA_non, tyA_bl, tyA_int, tyA_str, tyA_tup, List.map_cons, List.map_nil, List.length_cons, List.length_nil, List.cons_append, List.nil_append, List.append_nil, List.getElem?_cons_zero, List.getElem?_cons_succ, List.set_cons_zero, List.set_cons_succ, vIx_t0, vIx_t1, vIx_t2, vIx_t3, vIx_t4, vIx_t5, vEq_ss, vEq_ii, vEq_bb, vNe_ss, vNe_ii, vNe_bb, vLen_tup, truA_tup, truA_bl, vLe_ii, vLt_ii, vGt_ii, vGe_ii, vSub_ii, vAdd_ii, vAddI_ii, vNeg_i, isT_ss, isT_tt, isT_ii, isT_bi, isT_bb, isT_ib, Nat.zero_add, Nat.reduceAdd, Nat.reduceLeDiff, Nat.zero_le, gMeth, ins, lk, ↓reduceIte, mt, en]
    exact (hQ _ _ ⟨_, rfl, rfl⟩).1
  · rintro ρ S ⟨kk, rfl, rfl⟩
    rw [Nat.zero_add]
    have : (rngA 0 (n : Int).toNat).length = n := by simp [rngA]
    rw [this]
    exact ⟨kk, rfl⟩
theorem w6 {ps : List A} (hp : ∀ a ∈ ps, isHr 3 a = true) (hl : ps.length ≤ 80000) : q_law_6 K (rho9 (some (.ob 1)) b c d e none none none none) (sN o0 K (hP ps) E) = .nx (rho9 (some (.ob 1)) b c d e none none none none) (sN o0 K (hP (ps ++ [hrZ])) E) := by
  have en := sN_enter (K := K) (o0 := o0) (E := E) (rest_hP hp hl) isZ
  rw [enter_hP] at en
  generalize sN o0 K (hP (ps ++ [hrZ])) E = S1 at *
  unfold hrZ aAny at en
  simp only [q_law_6, wipeR, gVar, gC, gOp, gUn, gAnd, gOr, gNot, gIf, gNil, gCons, gTup, gLst, gCB, gChain, gSet, gExpr, gRet, gRetN, gPass, gBrk, gCt, gRaise, gIfS, gSeq, nName, nTup, setAll, gAsg, gCall, gTru, gNotT, gIsi, RE.bind_ok, RE.bind_exc, RE.bind_stuck, RE.bindA_ok, RE.bindS_ok, RE.bindS_exc, RE.bindT_ok, RE.bindTS_ok, RA.bind_ok, RA.bindA_ok, RE.nox_ok, RS.seq_nx, RS.seq_ret, RS.seq_exc, RS.seq_brk, RS.seq_ct, RS.seq_stuck, RE.bindA_exc, RE.bindA_stuck, RE.bindS_stuck, RE.bindT_exc, RE.bindT_stuck, RE.bindTS_exc, RE.bindTS_stuck, RA.bind_exc, RA.bind_stuck, RA.bindA_exc, RA.bindA_stuck, RE.nox_stuck, bind_ite, bindA_ite, bindS_ite, bindT_ite, bindTS_ite, nox_ite, seq_ite, startR, tyA_non, tyA_bl, tyA_int, tyA_str, tyA_tup, List.map_cons, List.map_nil, List.length_cons, List.length_nil, List.cons_append, List.nil_append, List.append_nil, List.getElem?_cons_zero, List.getElem?_cons_succ, List.set_cons_zero, List.set_cons_succ, vIx_t0, vIx_t1, vIx_t2, vIx_t3, vIx_t4, vIx_t5, vEq_ss, vEq_ii, vEq_bb, vNe_ss, vNe_ii, vNe_bb, vLen_tup, truA_tup, truA_bl, vLe_ii, vLt_ii, vGt_ii, vGe_ii, vSub_ii, vAdd_ii, vAddI_ii, vNeg_i, isT_ss, isT_tt, isT_ii, isT_bi, isT_bb, isT_ib, Nat.zero_add, Nat.reduceAdd, Nat.reduceLeDiff, Nat.zero_le, gMeth, sN_ins, lkN_enter, ↓reduceIte, en]
/-! one telling -/
theorem val_at {v : Int} (v0 : 0 ≤ v) (v1 : v ≤ 9999) (c : Int) : ∃ u : Int, L2.atI [A.int v, .int 9998] (c % 2) = some (.int u) ∧ 0 ≤ u ∧ u ≤ 9999 := by
  obtain ⟨h1, h2⟩ := emod_lt' (a := c) (b := 2) (by decide)
  rcases (show c % 2 = 0 ∨ c % 2 = 1 by omega) with e | e
  · exact ⟨v, by rw [e]; rfl, v0, v1⟩
  · exact ⟨9998, by rw [e]; rfl, by decide, by decide⟩
theorem w7a (ho : o0.items = some (ns.map .int)) : ∃ v : Int, (0 ≤ v ∧ v ≤ 9999) ∧ ∀ {a b c d e f g i j : Option A} {h : Ha} {E : Sto}, ∃ F, q_law_7b_0 K (rho9 a b c d e f g i j) (sN o0 K h E) = .nx (rho9 a b c d e f (some (.int v)) i j) (sN o0 K h (E ++ F)) := by
  obtain ⟨n0, n1⟩ := emod_lt' (a := cellOf ns 3) (b := 10000) (by decide)
  obtain ⟨v, ev, hv⟩ := val_at n0 (show cellOf ns 3 % 10000 ≤ 9999 by omega) (cellOf ns 4)
  refine ⟨v, hv, fun {a b c d e f g i j h E} => ⟨[.lst [.int (cellOf ns 3 % 10000), .int 9998]], ?_⟩⟩
  have c1 := sN_cell (K := K) (h := h) (E := E) ho (k := 3) (by omega)
  have c2 := sN_cell (K := K) (h := h) (E := E ++ [.lst [.int (cellOf ns 3 % 10000), .int 9998]]) ho (k := 4) (by omega)
  have i1 : itemsAt (sN o0 K h (E ++ [.lst [.int (cellOf ns 3 % 10000), .int 9998]])) (E.length + 7) = some [.int (cellOf ns 3 % 10000), .int 9998] := by rw [sN_items]; exact items_off0
  have l1 : gLst (gCons (gOp vMod (gCall (F__law_cell K) (gCons (gVar 0) (gCons (gC (.int 3)) (gNil)))) (gC (.int 10000))) (gCons (gC (.int 9998)) (gNil))) (rho9 a b c d e f g i j) (sN o0 K h E) = .ok (.ob (E.length + 7)) (sN o0 K h (E ++ [.lst [.int (cellOf ns 3 % 10000), .int 9998]])) := by
    rw [← sN_app, ← sN_len (o0 := o0) (K := K) (h := h) (E := E)]
    simp only [gLst, gOp, gCall, gCons, gNil, gVar, gC, List.getElem?_cons_zero, List.getElem?_cons_succ, RE.bindA_ok, RA.bindA_ok, RA.bind_ok, RE.bind_ok, c1, vMod_pos _ 10000 _ (by decide), RE.nox_ok]
    try rfl
  unfold q_law_7b_0 gSet
  rw [gOp_eq, l1]
  simp only [RE.bind_ok, gOp, gCall, gCons, gNil, gVar, gC, List.getElem?_cons_zero, List.getElem?_cons_succ, RE.bindA_ok, RA.bindA_ok, RA.bind_ok, c2, vMod_pos _ 2 _ (by decide), RE.nox_ok, vIx_obE, i1, ev]
  try rfl
theorem w7b : q_law_7b_1 K (rho9 a b c d e f g i j) (sN o0 K h E) = .nx (rho9 a b c d e f g (some (.ob (E.length + 7))) j) (sN o0 K h (E ++ [.lst []])) := by
  rw [← sN_app, ← sN_len (o0 := o0) (K := K) (h := h) (E := E)]
  rfl
theorem w7c {p : Nat} {rs : List A} {k v : Int} (hE : E[p]? = some (.lst rs)) (hl : rs.length < 4000000) : q_law_7b_2b_0 K (rho9 a b c d (some (.int k)) f (some (.int v)) (some (.ob (p + 7))) j) (sN o0 K h E) = .nx (rho9 a b c d (some (.int k)) f (some (.int v)) (some (.ob (p + 7))) j) (sN o0 K h (E.set p (.lst (rs ++ [rHeard k "a" v])))) := by
  have g8 : (sN o0 K h E)[p + 7]? = some (.lst rs) := by rw [sN_get]; exact hE
  have ap := append_at (y := rHeard k "a" v) g8 hl
  rw [sN_set] at ap
  have ty := tyB_list g8
  unfold rHeard at ap ⊢
  simp only [q_law_7b_2b_0, wipeR, gVar, gC, gOp, gUn, gAnd, gOr, gNot, gIf, gNil, gCons, gTup, gLst, gCB, gChain, gSet, gExpr, gRet, gRetN, gPass, gBrk, gCt, gRaise, gIfS, gSeq, nName, nTup, setAll, gAsg, gCall, gTru, gNotT, gIsi, RE.bind_ok, RE.bind_exc, RE.bind_stuck, RE.bindA_ok, RE.bindS_ok, RE.bindS_exc, RE.bindT_ok, RE.bindTS_ok, RA.bind_ok, RA.bindA_ok, RE.nox_ok, RS.seq_nx, RS.seq_ret, RS.seq_exc, RS.seq_brk, RS.seq_ct, RS.seq_stuck, RE.bindA_exc, RE.bindA_stuck, RE.bindS_stuck, RE.bindT_exc, RE.bindT_stuck, RE.bindTS_exc, RE.bindTS_stuck, RA.bind_exc, RA.bind_stuck, RA.bindA_exc, RA.bindA_stuck, RE.nox_stuck, bind_ite, bindA_ite, bindS_ite, bindT_ite, bindTS_ite, nox_ite, seq_ite, startR, tyA_non, tyA_bl, tyA_int, tyA_str, tyA_tup, List.map_cons, List.map_nil, List.length_cons, List.length_nil, List.cons_append, List.nil_append, List.append_nil, List.getElem?_cons_zero, List.getElem?_cons_succ, List.set_cons_zero, List.set_cons_succ, vIx_t0, vIx_t1, vIx_t2, vIx_t3, vIx_t4, vIx_t5, vEq_ss, vEq_ii, vEq_bb, vNe_ss, vNe_ii, vNe_bb, vLen_tup, truA_tup, truA_bl, vLe_ii, vLt_ii, vGt_ii, vGe_ii, vSub_ii, vAdd_ii, vAddI_ii, vNeg_i, isT_ss, isT_tt, isT_ii, isT_bi, isT_bb, isT_ib, gMt, ty, ↓reduceIte, List.length_cons, List.length_nil, Nat.zero_add, Nat.reduceAdd, Nat.reduceLeDiff, ap]
theorem w7d {p m : Nat} {rs : List A} {y v : Int} (hE : E[p]? = some (.lst rs)) (hl : rs.length < 4000000) : q_law_7b_2b_1b_0 K (rho9 a (some (.int m)) c d e f (some (.int v)) (some (.ob (p + 7))) (some (.int y))) (sN o0 K h E) = .nx (rho9 a (some (.int m)) c d e f (some (.int v)) (some (.ob (p + 7))) (some (.int y))) (sN o0 K h (E.set p (.lst (rs ++ [rHeard ((m : Int) + y) "b" ((v + 1) % 10000)])))) := by
  have g8 : (sN o0 K h E)[p + 7]? = some (.lst rs) := by rw [sN_get]; exact hE
  have ap := append_at (y := rHeard ((m : Int) + y) "b" ((v + 1) % 10000)) g8 hl
  rw [sN_set] at ap
  have ty := tyB_list g8
  unfold rHeard at ap ⊢
  simp only [q_law_7b_2b_1b_0, wipeR, gVar, gC, gOp, gUn, gAnd, gOr, gNot, gIf, gNil, gCons, gTup, gLst, gCB, gChain, gSet, gExpr, gRet, gRetN, gPass, gBrk, gCt, gRaise, gIfS, gSeq, nName, nTup, setAll, gAsg, gCall, gTru, gNotT, gIsi, RE.bind_ok, RE.bind_exc, RE.bind_stuck, RE.bindA_ok, RE.bindS_ok, RE.bindS_exc, RE.bindT_ok, RE.bindTS_ok, RA.bind_ok, RA.bindA_ok, RE.nox_ok, RS.seq_nx, RS.seq_ret, RS.seq_exc, RS.seq_brk, RS.seq_ct, RS.seq_stuck, RE.bindA_exc, RE.bindA_stuck, RE.bindS_stuck, RE.bindT_exc, RE.bindT_stuck, RE.bindTS_exc, RE.bindTS_stuck, RA.bind_exc, RA.bind_stuck, RA.bindA_exc, RA.bindA_stuck, RE.nox_stuck, bind_ite, bindA_ite, bindS_ite, bindT_ite, bindTS_ite, nox_ite, seq_ite, startR, tyA_non, tyA_bl, tyA_int, tyA_str, tyA_tup, List.map_cons, List.map_nil, List.length_cons, List.length_nil, List.cons_append, List.nil_append, List.append_nil, List.getElem?_cons_zero, List.getElem?_cons_succ, List.set_cons_zero, List.set_cons_succ, vIx_t0, vIx_t1, vIx_t2, vIx_t3, vIx_t4, vIx_t5, vEq_ss, vEq_ii, vEq_bb, vNe_ss, vNe_ii, vNe_bb, vLen_tup, truA_tup, truA_bl, vLe_ii, vLt_ii, vGt_ii, vGe_ii, vSub_ii, vAdd_ii, vAddI_ii, vNeg_i, isT_ss, isT_tt, isT_ii, isT_bi, isT_bb, isT_ib, gMt, ty, ↓reduceIte, List.length_cons, List.length_nil, Nat.zero_add, Nat.reduceAdd, Nat.reduceLeDiff, vMod_pos _ 10000 _ (by decide), ap]
theorem w7e {p m n : Nat} {rs : List A} {v : Int} {t : Bool} (hE : E[p]? = some (.lst rs)) (hl : rs.length < 3900000) : ∃ F p', (E ++ F)[p']? = some (.lst (rs ++ (if t = true then evZ m n (((v + 1) % 10000 + 2) % 10000) else []))) ∧ q_law_7b_2b_1b_1 K (rho9 a (some (.int m)) (some (.int n)) (some (.int (dI t))) e f (some (.int v)) (some (.ob (p + 7))) j) (sN o0 K h E) = .nx (rho9 a (some (.int m)) (some (.int n)) (some (.int (dI t))) e f (some (.int v)) (some (.ob (p' + 7))) j) (sN o0 K h (E ++ F)) := by
  have ez : evZ m n (((v + 1) % 10000 + 2) % 10000) = [rHeard ((m : Int) + (n : Int)) "c" ((v + 3) % 10000)] := by
    unfold evZ
    rw [show ((v + 1) % 10000 + 2) % 10000 = (v + 3) % 10000 by omega]
    rfl
  rw [ez]
  obtain ⟨R, hR⟩ : ∃ R, R = rHeard ((m : Int) + (n : Int)) "c" ((v + 3) % 10000) := ⟨_, rfl⟩
  rw [← hR]
  refine ⟨[.lst [R], .lst (if t = true then [R] else []), .lst (rs ++ (if t = true then [R] else []))], E.length + 2, by rw [get_off]; rfl, ?_⟩
  have l1 : gLst (gCons (gTup (gCons (gC (.str "heard")) (gCons (gOp vAdd (gVar 2) (gVar 3)) (gCons (gC (.str "c")) (gCons (gOp vMod (gOp vAdd (gVar 7) (gC (.int 3))) (gC (.int 10000))) (gNil)))))) (gNil)) (rho9 a (some (.int m)) (some (.int n)) (some (.int (dI t))) e f (some (.int v)) (some (.ob (p + 7))) j) (sN o0 K h E) = .ok (.ob (E.length + 7)) (sN o0 K h (E ++ [.lst [R]])) := by
    rw [← sN_app, ← sN_len (o0 := o0) (K := K) (h := h) (E := E), hR]
    unfold rHeard
    simp only [wipeR, gVar, gC, gOp, gUn, gAnd, gOr, gNot, gIf, gNil, gCons, gTup, gLst, gCB, gChain, gSet, gExpr, gRet, gRetN, gPass, gBrk, gCt, gRaise, gIfS, gSeq, nName, nTup, setAll, gAsg, gCall, gTru, gNotT, gIsi, RE.bind_ok, RE.bind_exc, RE.bind_stuck, RE.bindA_ok, RE.bindS_ok, RE.bindS_exc, RE.bindT_ok, RE.bindTS_ok, RA.bind_ok, RA.bindA_ok, RE.nox_ok, RS.seq_nx, RS.seq_ret, RS.seq_exc, RS.seq_brk, RS.seq_ct, RS.seq_stuck, RE.bindA_exc, RE.bindA_stuck, RE.bindS_stuck, RE.bindT_exc, RE.bindT_stuck, RE.bindTS_exc, RE.bindTS_stuck, RA.bind_exc, RA.bind_stuck, RA.bindA_exc, RA.bindA_stuck, RE.nox_stuck, bind_ite, bindA_ite, bindS_ite, bindT_ite, bindTS_ite, nox_ite, seq_ite, startR, tyA_non, tyA_bl, tyA_int, tyA_str, tyA_tup, List.map_cons, List.map_nil, List.length_cons, List.length_nil, List.cons_append, List.nil_append, List.append_nil, List.getElem?_cons_zero, List.getElem?_cons_succ, List.set_cons_zero, List.set_cons_succ, vIx_t0, vIx_t1, vIx_t2, vIx_t3, vIx_t4, vIx_t5, vEq_ss, vEq_ii, vEq_bb, vNe_ss, vNe_ii, vNe_bb, vLen_tup, truA_tup, truA_bl, vLe_ii, vLt_ii, vGt_ii, vGe_ii, vSub_ii, vAdd_ii, vAddI_ii, vNeg_i, isT_ss, isT_tt, isT_ii, isT_bi, isT_bb, isT_ib, Nat.zero_add, Nat.reduceAdd, Nat.reduceLeDiff, Nat.zero_le, ↓reduceIte, vMod_pos _ 10000 _ (by decide)]
  have m1 : vMul (.ob (E.length + 7)) (.int (dI t)) (sN o0 K h (E ++ [.lst [R]])) = .ok (.ob (E.length + 8)) (sN o0 K h (E ++ [.lst [R], .lst (if t = true then [R] else [])])) := by
    have g0 : (sN o0 K h (E ++ [.lst [R]]))[E.length + 7]? = some (.lst [R]) := by rw [sN_get]; exact get_off0
    show (match (sN o0 K h (E ++ [O.lst [R]]))[E.length + 7]? with
      | some (O.lst xs) => if 0 ≤ dI t ∧ dI t ≤ 1000 ∧ xs.length ≤ 100 then RE.ok (.ob (sN o0 K h (E ++ [O.lst [R]])).length) (sN o0 K h (E ++ [O.lst [R]]) ++ [O.lst (repA (dI t).toNat xs)]) else .stuck
      | _ => .stuck) = _
    rw [g0]
    simp only
    rw [if_pos ⟨by cases t <;> decide, by cases t <;> decide, show 1 ≤ 100 by decide⟩, sN_len, sN_app, List.length_append, List.append_assoc]
    cases t <;> rfl
  have a1 : vAdd (.ob (p + 7)) (.ob (E.length + 8)) (sN o0 K h (E ++ [.lst [R], .lst (if t = true then [R] else [])])) = .ok (.ob (E.length + 2 + 7)) (sN o0 K h (E ++ [.lst [R], .lst (if t = true then [R] else []), .lst (rs ++ (if t = true then [R] else []))])) := by
    have g0 : (sN o0 K h (E ++ [.lst [R], .lst (if t = true then [R] else [])]))[p + 7]? = some (.lst rs) := by rw [sN_get]; exact get_app hE _
    have g1 : (sN o0 K h (E ++ [.lst [R], .lst (if t = true then [R] else [])]))[E.length + 8]? = some (.lst (if t = true then [R] else [])) := by
      rw [show E.length + 8 = (E.length + 1) + 7 by omega, sN_get, get_off]
      rfl
    rw [vAdd_lists g0 g1 (by cases t <;> simp <;> omega), sN_len, sN_app, List.length_append, List.append_assoc]
    rfl
  unfold q_law_7b_2b_1b_1 gSet
  rw [gOp_eq, show (gVar 8 : GE) (rho9 a (some (.int m)) (some (.int n)) (some (.int (dI t))) e f (some (.int v)) (some (.ob (p + 7))) j) (sN o0 K h E) = .ok (.ob (p + 7)) (sN o0 K h E) from rfl]
  simp only [RE.bind_ok]
  rw [gOp_eq, l1]
  simp only [RE.bind_ok]
  rw [show (gVar 4 : GE) (rho9 a (some (.int m)) (some (.int n)) (some (.int (dI t))) e f (some (.int v)) (some (.ob (p + 7))) j) (sN o0 K h (E ++ [.lst [R]])) = .ok (.int (dI t)) (sN o0 K h (E ++ [.lst [R]])) from rfl]
  simp only [RE.bind_ok, m1, RE.nox_ok, a1]
  try rfl
theorem len_flat {f : Int → List A} {c : Nat} : ∀ l : List Int, (∀ x, (f x).length ≤ c) → (l.flatMap f).length ≤ c * l.length
  | [], _ => Nat.zero_le _
  | x :: l, h => by
    rw [List.flatMap_cons, List.length_append, List.length_cons, Nat.mul_succ]
    have := len_flat l h
    have := h x
    omega
theorem nmB_len {m n : Nat} : (nmB m n).length = n := by unfold nmB rngI; simp
theorem nmA_len {m : Nat} : (nmA m).length = m := by unfold nmA rngI; simp
theorem nmB_succ {m k : Nat} : nmB m (k + 1) = nmB m k ++ [(m : Int) + (k : Int)] := by
  unfold nmB rngI
  rw [List.range_succ]
  simp
theorem nmA_succ {k : Nat} : nmA (k + 1) = nmA k ++ [(k : Int)] := by
  unfold nmA rngI
  rw [List.range_succ]
  simp
theorem evY_len {m n : Nat} {t : Bool} {v x : Int} : (evY m n t v x).length ≤ 2 := by
  unfold evY evZ
  cases t <;> simp
theorem evX_len {m n : Nat} {t : Bool} {v x : Int} : (evX m n t v x).length ≤ 2 * n + 1 := by
  unfold evX
  rw [List.length_cons]
  have := len_flat (f := evY m n t ((v + 1) % 10000)) (c := 2) (nmB m n) (fun x => evY_len)
  rw [nmB_len] at this
  omega
theorem rng_len {n : Nat} : (rngA 0 (n : Int).toNat).length = n := by simp [rngA]
theorem w7f {p m n : Nat} {rs : List A} {v : Int} {t : Bool} (hE : E[p]? = some (.lst rs)) (hl : rs.length ≤ 100000) (hn : n ≤ 12) : ∃ E' p' j', E'[p']? = some (.lst (rs ++ (nmB m n).flatMap (evY m n t ((v + 1) % 10000)))) ∧ q_law_7b_2b_1 K (rho9 a (some (.int m)) (some (.int n)) (some (.int (dI t))) e f (some (.int v)) (some (.ob (p + 7))) j) (sN o0 K h E) = .nx (rho9 a (some (.int m)) (some (.int n)) (some (.int (dI t))) e f (some (.int v)) (some (.ob (p' + 7))) j') (sN o0 K h E') := by
  unfold q_law_7b_2b_1
  rw [gFor_ok (gIR1_ok (j := (n : Int)) (S1 := sN o0 K h E) rfl (by omega) (by omega))]
  refine for_wp (fun k ρ S => ∃ E' p' j', E'[p']? = some (.lst (rs ++ (nmB m k).flatMap (evY m n t ((v + 1) % 10000)))) ∧ ρ = rho9 a (some (.int m)) (some (.int n)) (some (.int (dI t))) e f (some (.int v)) (some (.ob (p' + 7))) j' ∧ S = sN o0 K h E') (fun _ _ _ _ => rfl) _ 0 _ _ ⟨E, p, j, by rw [show (nmB m 0).flatMap (evY m n t ((v + 1) % 10000)) = [] from rfl, List.append_nil]; exact hE, rfl, rfl⟩ ?_ (fun r => ∃ E' p' j', E'[p']? = some (.lst (rs ++ (nmB m n).flatMap (evY m n t ((v + 1) % 10000)))) ∧ r = .nx (rho9 a (some (.int m)) (some (.int n)) (some (.int (dI t))) e f (some (.int v)) (some (.ob (p' + 7))) j') (sN o0 K h E')) ?_
  · rintro k y ρ S hy ⟨E', p', j', g, rfl, rfl⟩
    obtain ⟨hk, hy2⟩ := rngA_at hy
    subst hy2
    refine ⟨rho9 a (some (.int m)) (some (.int n)) (some (.int (dI t))) e f (some (.int v)) (some (.ob (p' + 7))) (some (.int (k : Int))), _, rfl, fun Q hQ => ?_⟩
    rw [Nat.zero_add] at hQ g
    have hlen : (rs ++ (nmB m k).flatMap (evY m n t ((v + 1) % 10000))).length ≤ 200000 := by
      have := len_flat (f := evY m n t ((v + 1) % 10000)) (c := 2) (nmB m k) (fun x => evY_len)
      rw [nmB_len] at this
      rw [List.length_append]
      have hk2 : k < n := by omega
      omega
    generalize hG : rs ++ (nmB m k).flatMap (evY m n t ((v + 1) % 10000)) = G at g hlen
    have hp' : p' < E'.length := (List.getElem?_eq_some_iff.mp g).1
    have e1 := w7d (K := K) (o0 := o0) (h := h) (a := a) (c := some (.int n)) (d := some (.int (dI t))) (e := e) (f := f) (m := m) (y := (k : Int)) (v := v) g (by omega)
    have g1 : (E'.set p' (.lst (G ++ [rHeard ((m : Int) + (k : Int)) "b" ((v + 1) % 10000)])))[p']? = some (.lst (G ++ [rHeard ((m : Int) + (k : Int)) "b" ((v + 1) % 10000)])) := List.getElem?_set_self hp'
    obtain ⟨F, p2, g2, e2⟩ := w7e (K := K) (o0 := o0) (h := h) (a := a) (e := e) (f := f) (j := some (.int (k : Int))) (m := m) (n := n) (v := v) (t := t) g1 (by rw [List.length_append]; show G.length + 1 < _; omega)
    have bb : q_law_7b_2b_1b K (rho9 a (some (.int m)) (some (.int n)) (some (.int (dI t))) e f (some (.int v)) (some (.ob (p' + 7))) (some (.int (k : Int)))) (sN o0 K h E') = _ := seq_step e1 e2
    rw [bb]
    refine (hQ _ _ ⟨_, p2, _, ?_, rfl, rfl⟩).1
    rw [g2, nmB_succ, List.flatMap_append, ← List.append_assoc, hG]
    simp [evY]
  · rintro ρ S ⟨E', p', j', g, rfl, rfl⟩
    rw [Nat.zero_add, rng_len] at g
    exact ⟨E', p', j', g, rfl⟩
theorem w7g {p m n : Nat} {v : Int} {t : Bool} (hE : E[p]? = some (.lst [])) (hn : n ≤ 12) (hm : m ≤ 30) : ∃ E' p' e' j', E'[p']? = some (.lst (due9 m n t v)) ∧ q_law_7b_2 K (rho9 a (some (.int m)) (some (.int n)) (some (.int (dI t))) e f (some (.int v)) (some (.ob (p + 7))) j) (sN o0 K h E) = .nx (rho9 a (some (.int m)) (some (.int n)) (some (.int (dI t))) e' f (some (.int v)) (some (.ob (p' + 7))) j') (sN o0 K h E') := by
  unfold q_law_7b_2
  rw [gFor_ok (gIR1_ok (j := (m : Int)) (S1 := sN o0 K h E) rfl (by omega) (by omega))]
  refine for_wp (fun k ρ S => ∃ E' p' e' j', E'[p']? = some (.lst ((nmA k).flatMap (evX m n t v))) ∧ ρ = rho9 a (some (.int m)) (some (.int n)) (some (.int (dI t))) e' f (some (.int v)) (some (.ob (p' + 7))) j' ∧ S = sN o0 K h E') (fun _ _ _ _ => rfl) _ 0 _ _ ⟨E, p, e, j, hE, rfl, rfl⟩ ?_ (fun r => ∃ E' p' e' j', E'[p']? = some (.lst (due9 m n t v)) ∧ r = .nx (rho9 a (some (.int m)) (some (.int n)) (some (.int (dI t))) e' f (some (.int v)) (some (.ob (p' + 7))) j') (sN o0 K h E')) ?_
  · rintro k y ρ S hy ⟨E', p', e', j', g, rfl, rfl⟩
    obtain ⟨hk, hy2⟩ := rngA_at hy
    subst hy2
    refine ⟨rho9 a (some (.int m)) (some (.int n)) (some (.int (dI t))) (some (.int (k : Int))) f (some (.int v)) (some (.ob (p' + 7))) j', _, rfl, fun Q hQ => ?_⟩
    rw [Nat.zero_add] at hQ g
    have hlen : ((nmA k).flatMap (evX m n t v)).length ≤ 1000 := by
      have := len_flat (f := evX m n t v) (c := 25) (nmA k) (fun x => Nat.le_trans evX_len (by omega))
      rw [nmA_len] at this
      have hk2 : k < m := by omega
      omega
    generalize hG : (nmA k).flatMap (evX m n t v) = G at g hlen
    have hp' : p' < E'.length := (List.getElem?_eq_some_iff.mp g).1
    have e1 := w7c (K := K) (o0 := o0) (h := h) (a := a) (b := some (.int m)) (c := some (.int n)) (d := some (.int (dI t))) (f := f) (j := j') (k := (k : Int)) (v := v) g (by omega)
    have g1 : (E'.set p' (.lst (G ++ [rHeard (k : Int) "a" v])))[p']? = some (.lst (G ++ [rHeard (k : Int) "a" v])) := List.getElem?_set_self hp'
    obtain ⟨E2, p2, j2, g2, e2⟩ := w7f (K := K) (o0 := o0) (h := h) (a := a) (e := some (.int (k : Int))) (f := f) (j := j') (m := m) (n := n) (v := v) (t := t) g1 (by rw [List.length_append]; show G.length + 1 ≤ _; omega) hn
    have bb : q_law_7b_2b K (rho9 a (some (.int m)) (some (.int n)) (some (.int (dI t))) (some (.int (k : Int))) f (some (.int v)) (some (.ob (p' + 7))) j') (sN o0 K h E') = _ := seq_step e1 e2
    rw [bb]
    refine (hQ _ _ ⟨_, p2, _, _, ?_, rfl, rfl⟩).1
    rw [g2, nmA_succ, List.flatMap_append, hG]
    simp [evX]
  · rintro ρ S ⟨E', p', e', j', g, rfl, rfl⟩
    rw [Nat.zero_add, rng_len] at g
    exact ⟨E', p', e', j', g, rfl⟩
theorem cut_to {xs : List A} {j : Nat} (hj : j ≤ xs.length) : cutA xs none (some (j : Int)) = xs.take j := by
  unfold cutA
  have e1 : HT.sIx xs.length xs.length (some (j : Int)) = j := by
    rw [HT.sIx_nat]
    omega
  have e2 : HT.sIx xs.length 0 none = 0 := rfl
  rw [e1, e2]
  simp
theorem w7h {p : Nat} {rs : List A} (hE : E[p]? = some (.lst rs)) (hl : rs.length ≤ 1000) : ∃ F p', (E ++ F)[p']? = some (.lst (cut9 rs)) ∧ q_law_7b_3 K (rho9 a b c d e f g (some (.ob (p + 7))) j) (sN o0 K h E) = .nx (rho9 a b c d e f g (some (.ob (p' + 7))) j) (sN o0 K h (E ++ F)) := by
  have i0 : itemsAt (sN o0 K h E) (p + 7) = some rs := by rw [sN_items]; exact items_of_get hE
  have l1 : vLen [.ob (p + 7)] (sN o0 K h E) = .ok (.int rs.length) (sN o0 K h E) := vLen_ob i0
  by_cases hc : 100 < rs.length
  · refine ⟨[.lst (rs.take 100), .lst [rCut], .lst (rs.take 100 ++ [rCut])], E.length + 2, by rw [get_off]; unfold cut9; rw [if_pos hc]; rfl, ?_⟩
    have h1 : decide ((rs.length : Int) > 100) = true := decide_eq_true (by omega)
    have c1 : vCut (.ob (p + 7)) none (some 100) (sN o0 K h E) = .ok (.ob (E.length + 7)) (sN o0 K h (E ++ [.lst (rs.take 100)])) := by
      rw [vCut_ob i0, sN_len, sN_app, show ((100 : Int)) = ((100 : Nat) : Int) from rfl, cut_to (by omega)]
    have l2 : gLst (gCons (gTup (gCons (gC (.str "cut")) (gNil))) (gNil)) (rho9 a b c d e f g (some (.ob (p + 7))) j) (sN o0 K h (E ++ [.lst (rs.take 100)])) = .ok (.ob (E.length + 8)) (sN o0 K h (E ++ [.lst (rs.take 100), .lst [rCut]])) := by
      have : sN o0 K h (E ++ [.lst (rs.take 100), .lst [rCut]]) = sN o0 K h (E ++ [.lst (rs.take 100)]) ++ [.lst [rCut]] := by rw [sN_app, List.append_assoc]; rfl
      rw [this]
      have e8 : E.length + 8 = (sN o0 K h (E ++ [.lst (rs.take 100)])).length := by rw [sN_len, List.length_append]; rfl
      rw [e8]
      rfl
    have a1 : vAdd (.ob (E.length + 7)) (.ob (E.length + 8)) (sN o0 K h (E ++ [.lst (rs.take 100), .lst [rCut]])) = .ok (.ob (E.length + 2 + 7)) (sN o0 K h (E ++ [.lst (rs.take 100), .lst [rCut], .lst (rs.take 100 ++ [rCut])])) := by
      have g0 : (sN o0 K h (E ++ [.lst (rs.take 100), .lst [rCut]]))[E.length + 7]? = some (.lst (rs.take 100)) := by rw [sN_get]; exact get_off0
      have g1 : (sN o0 K h (E ++ [.lst (rs.take 100), .lst [rCut]]))[E.length + 8]? = some (.lst [rCut]) := by
        rw [show E.length + 8 = (E.length + 1) + 7 by omega, sN_get, get_off]
        rfl
      rw [vAdd_lists g0 g1 (by rw [List.length_take]; show min 100 rs.length + 1 ≤ _; omega), sN_len, sN_app, List.length_append, List.append_assoc]
      rfl
    have s1 : gSlice (gVar 8) pNone (pSome (gC (.int 100))) (rho9 a b c d e f g (some (.ob (p + 7))) j) (sN o0 K h E) = .ok (.ob (E.length + 7)) (sN o0 K h (E ++ [.lst (rs.take 100)])) := by
      rw [← c1]
      rfl
    unfold q_law_7b_3 gIfS
    simp only [gOp, gCB, gCons, gNil, gVar, gC, List.getElem?_cons_zero, List.getElem?_cons_succ, RE.bindA_ok, RA.bindA_ok, RA.bind_ok, RE.bind_ok, RE.nox_ok, l1, vGt_ii, h1, RE.bindTS_ok, ↓reduceIte]
    unfold gSet
    rw [gOp_eq, s1]
    simp only [RE.bind_ok]
    rw [l2]
    simp only [RE.bind_ok, a1, RE.nox_ok, RE.bindS_ok]
    try rfl
  · refine ⟨[], p, by rw [List.append_nil]; unfold cut9; rw [if_neg hc]; exact hE, ?_⟩
    have h1 : decide ((rs.length : Int) > 100) = false := decide_eq_false (by omega)
    rw [List.append_nil]
    unfold q_law_7b_3 gIfS
    simp only [gOp, gCB, gCons, gNil, gVar, gC, List.getElem?_cons_zero, List.getElem?_cons_succ, RE.bindA_ok, RA.bindA_ok, RA.bind_ok, RE.bind_ok, RE.nox_ok, l1, vGt_ii, h1, RE.bindTS_ok, ↓reduceIte, Bool.false_eq_true, gPass]
theorem w7i {p m n : Nat} {t : Bool} {v : Int} (r : Rest h) (l : Lk (ppl m n t) [] h) (hv : 0 ≤ v ∧ v ≤ 9999) (hE : E[p]? = some (.lst (cut9 (due9 m n t v)))) : q_law_7b_4 K (rho9 (some (.ob 1)) b c d e f (some (.int v)) (some (.ob (p + 7))) j) (sN o0 K h E) = .nx (rho9 (some (.ob 1)) b c d e f (some (.int v)) (some (.ob (p + 7))) j) (sN o0 K (tellH h "a" v) (E ++ [.lst (cut9 (due9 m n t v))])) := by
  have tl := sN_tell (K := K) (o0 := o0) (E := E) (t := "a") (v := v) r (by decide +kernel) hv.1 hv.2
  obtain ⟨er, lk⟩ := tell9 (v := v) l
  have wf := (tell_ok (v := v) r.wf (t := "a") (by decide +kernel) hv.1 hv.2).wf
  have nc : ∀ x ∈ cut9 (due9 m n t v), nice 3 x = true := fun x hx => wf.rows x (by rw [er]; exact List.mem_append_right _ hx)
  rw [er, List.drop_left] at tl
  generalize tellH h "a" v = h1 at *
  have i1 : itemsAt (sN o0 K h1 (E ++ [.lst (cut9 (due9 m n t v))])) (E.length + 7) = some (cut9 (due9 m n t v)) := by rw [sN_items]; exact items_off0
  have i2 : itemsAt (sN o0 K h1 (E ++ [.lst (cut9 (due9 m n t v))])) (p + 7) = some (cut9 (due9 m n t v)) := by rw [sN_items]; exact items_of_get (get_app hE _)
  have ne := vNe_lists i1 i2 nc (by decide)
  unfold q_law_7b_4 gIfS
  simp only [gOp, gMeth, gCons, gNil, gVar, gC, List.getElem?_cons_zero, List.getElem?_cons_succ, RE.bindA_ok, RA.bindA_ok, RA.bind_ok, RE.bind_ok, RE.nox_ok, sN_ins, lkN_tell, ↓reduceIte, tl, ne, RE.bindTS_ok, Bool.false_eq_true, gPass]
theorem cut9_len {l : List A} : (cut9 l).length ≤ 101 := by
  unfold cut9
  split
  · rw [List.length_append, List.length_take]
    show min 100 l.length + 1 ≤ 101
    omega
  · omega
theorem w7 (ho : o0.items = some (ns.map .int)) {m n : Nat} {t : Bool} (r : Rest h) (l : Lk (ppl m n t) [] h) (h0 : h.rows = []) (hm : m ≤ 30) (hn : n ≤ 12) : ∃ (h' : Ha) (E' : Sto) (p : Nat) (L : List A) (k ti va j' : Option A), Rest h' ∧ Lk (ppl m n t) [] h' ∧ h'.rows.length = 2 * L.length ∧ L.length ≤ 101 ∧ E'[p]? = some (.lst L) ∧ q_law_7 K (rho9 (some (.ob 1)) (some (.int m)) (some (.int n)) (some (.int (dI t))) e none none none none) (sN o0 K h E) = .nx (rho9 (some (.ob 1)) (some (.int m)) (some (.int n)) (some (.int (dI t))) k ti va (some (.ob (p + 7))) j') (sN o0 K h' E') := by
  obtain ⟨v, hv, ea⟩ := w7a (K := K) ho
  unfold q_law_7
  rw [gFor_ok (gIR1_ok (j := 2) (S1 := sN o0 K h E) rfl (by decide) (by decide))]
  refine for_wp (fun k ρ S => ∃ h' E' e' f' va du j', Rest h' ∧ Lk (ppl m n t) [] h' ∧ h'.rows.length = k * (cut9 (due9 m n t v)).length ∧ (k = 0 ∨ ∃ p, du = some (.ob (p + 7)) ∧ E'[p]? = some (.lst (cut9 (due9 m n t v)))) ∧ ρ = rho9 (some (.ob 1)) (some (.int m)) (some (.int n)) (some (.int (dI t))) e' f' va du j' ∧ S = sN o0 K h' E') (fun _ _ _ _ => rfl) _ 0 _ _ ⟨h, E, e, none, none, none, none, r, l, by rw [h0]; simp, .inl rfl, rfl, rfl⟩ ?_ (fun r => ∃ (h' : Ha) (E' : Sto) (p : Nat) (L : List A) (k ti va j' : Option A), Rest h' ∧ Lk (ppl m n t) [] h' ∧ h'.rows.length = 2 * L.length ∧ L.length ≤ 101 ∧ E'[p]? = some (.lst L) ∧ r = .nx (rho9 (some (.ob 1)) (some (.int m)) (some (.int n)) (some (.int (dI t))) k ti va (some (.ob (p + 7))) j') (sN o0 K h' E')) ?_
  · rintro k y ρ S hy ⟨h', E', e', f', va, du, j', r', l', hr', _, rfl, rfl⟩
    have hy3 := rngA_at hy
    obtain ⟨hk, hy2⟩ := hy3
    subst hy2
    have hk2 : k < 2 := hk
    refine ⟨rho9 (some (.ob 1)) (some (.int m)) (some (.int n)) (some (.int (dI t))) e' (some (.int (k : Int))) va du j', _, rfl, fun Q hQ => ?_⟩
    rw [Nat.zero_add] at hQ hr'
    obtain ⟨F0, e0⟩ := ea (a := some (.ob 1)) (b := some (.int m)) (c := some (.int n)) (d := some (.int (dI t))) (e := e') (f := some (.int (k : Int))) (g := va) (i := du) (j := j') (h := h') (E := E')
    have e1 := w7b (K := K) (o0 := o0) (h := h') (E := E' ++ F0) (a := some (.ob 1)) (b := some (.int m)) (c := some (.int n)) (d := some (.int (dI t))) (e := e') (f := some (.int (k : Int))) (g := some (.int v)) (i := du) (j := j')
    obtain ⟨E2, p2, k2, j2, g2, e2⟩ := w7g (K := K) (o0 := o0) (h := h') (E := E' ++ F0 ++ [.lst []]) (p := (E' ++ F0).length) (a := some (.ob 1)) (e := e') (f := some (.int (k : Int))) (j := j') (m := m) (n := n) (t := t) (v := v) get_off0 hn hm
    have hlen : (due9 m n t v).length ≤ 1000 := by
      have := len_flat (f := evX m n t v) (c := 25) (nmA m) (fun x => Nat.le_trans evX_len (by omega))
      rw [nmA_len] at this
      unfold due9
      omega
    obtain ⟨F3, p3, g3, e3⟩ := w7h (K := K) (o0 := o0) (h := h') (a := some (.ob 1)) (b := some (.int m)) (c := some (.int n)) (d := some (.int (dI t))) (e := k2) (f := some (.int (k : Int))) (g := some (.int v)) (j := j2) g2 hlen
    have e4 := w7i (K := K) (o0 := o0) (b := some (.int m)) (c := some (.int n)) (d := some (.int (dI t))) (e := k2) (f := some (.int (k : Int))) (j := j2) r' l' hv g3
    have bb : q_law_7b K (rho9 (some (.ob 1)) (some (.int m)) (some (.int n)) (some (.int (dI t))) e' (some (.int (k : Int))) va du j') (sN o0 K h' E') = _ := seq_step e0 (seq_step e1 (seq_step e2 (seq_step e3 e4)))
    rw [bb]
    obtain ⟨er, lk⟩ := tell9 (v := v) l'
    have ok := tell_ok (v := v) r'.wf (t := "a") (by decide +kernel) hv.1 hv.2
    have rl : (tellH h' "a" v).rows.length = (k + 1) * (cut9 (due9 m n t v)).length := by
      rw [er, List.length_append, hr', Nat.succ_mul]
    have cl := cut9_len (l := due9 m n t v)
    refine (hQ _ _ ⟨tellH h' "a" v, E2 ++ F3 ++ [.lst (cut9 (due9 m n t v))], k2, some (.int (k : Int)), some (.int v), some (.ob (p3 + 7)), j2, ⟨ok.wf, by rw [ok.now]; exact l'.now, ?_⟩, lk, rl, .inr ⟨p3, rfl, get_app g3 _⟩, rfl, rfl⟩).1
    rw [er, lk.people, ppl_len, List.length_append, hr']
    have : k * (cut9 (due9 m n t v)).length ≤ 1 * 101 := Nat.mul_le_mul (by omega) cl
    omega
  · rintro ρ S ⟨h', E', e', f', va, du, j', r', l', hr', hp, rfl, rfl⟩
    rcases hp with hp | ⟨p, rfl, hp⟩
    · exact absurd hp (by decide)
    · exact ⟨h', E', p, cut9 (due9 m n t v), e', f', va, j', r', l', hr', cut9_len, hp, rfl⟩
theorem w8 {m n p : Nat} {t : Bool} {L : List A} (r : Rest h) (l : Lk (ppl m n t) [] h) (hr : h.rows.length = 2 * L.length) (hE : E[p]? = some (.lst L)) : ∃ F, q_law_8 K (rho9 (some (.ob 1)) (some (.int m)) (some (.int n)) d e f g (some (.ob (p + 7))) j) (sN o0 K h E) = .ret (.bl true) (sN o0 K h (E ++ F)) := by
  have j1 := sN_journal (K := K) (o0 := o0) (E := E) r
  have i1 : itemsAt (sN o0 K h (E ++ [.lst h.rows])) (E.length + 7) = some h.rows := by rw [sN_items]; exact items_off0
  have i2 : itemsAt (sN o0 K h (E ++ [.lst h.rows])) (p + 7) = some L := by rw [sN_items]; exact items_of_get (get_app hE _)
  have l1 := vLen_ob i1
  have l2 := vLen_ob i2
  have h1 := sN_hearers (K := K) (o0 := o0) (E := E ++ [.lst h.rows]) (t := "c") r (by decide +kernel)
  rw [order_c l.people l.gone] at h1
  have mm : ∀ S : Sto, vMul (.int 2) (.int (L.length : Int)) S = .ok (.int (2 * (L.length : Int))) S := fun _ => rfl
  have q1 : decide ((h.rows.length : Int) = 2 * (L.length : Int)) = true := decide_eq_true (by omega)
  obtain ⟨E1, hE1⟩ : ∃ E1, E1 = E ++ [O.lst h.rows] := ⟨_, rfl⟩
  have ll : gLst (gCons (gOp vAdd (gVar 2) (gVar 3)) (gNil)) (rho9 (some (.ob 1)) (some (.int m)) (some (.int n)) d e f g (some (.ob (p + 7))) j) (sN o0 K h (E1 ++ [.lst ([((m + n : Nat) : Int)].map A.int)])) = .ok (.ob (E1.length + 8)) (sN o0 K h (E1 ++ [.lst ([((m + n : Nat) : Int)].map A.int), .lst ([((m + n : Nat) : Int)].map A.int)])) := by
    have : sN o0 K h (E1 ++ [.lst ([((m + n : Nat) : Int)].map A.int), .lst ([((m + n : Nat) : Int)].map A.int)]) = sN o0 K h (E1 ++ [.lst ([((m + n : Nat) : Int)].map A.int)]) ++ [.lst ([((m + n : Nat) : Int)].map A.int)] := by rw [sN_app, List.append_assoc]; rfl
    rw [this, show E1.length + 8 = (sN o0 K h (E1 ++ [.lst ([((m + n : Nat) : Int)].map A.int)])).length by rw [sN_len, List.length_append]; rfl]
    rfl
  rw [← hE1] at j1 l1 l2 h1
  have i3 : itemsAt (sN o0 K h (E1 ++ [.lst ([((m + n : Nat) : Int)].map A.int), .lst ([((m + n : Nat) : Int)].map A.int)])) (E1.length + 7) = some ([((m + n : Nat) : Int)].map A.int) := by rw [sN_items]; exact items_off0
  have i4 : itemsAt (sN o0 K h (E1 ++ [.lst ([((m + n : Nat) : Int)].map A.int), .lst ([((m + n : Nat) : Int)].map A.int)])) (E1.length + 8) = some ([((m + n : Nat) : Int)].map A.int) := by
    rw [show E1.length + 8 = (E1.length + 1) + 7 by omega, sN_items, items_off]
    rfl
  have q2 := vEq_lists i3 i4 (k := 3) (fun x hx => by
    simp only [List.map_cons, List.map_nil, List.mem_singleton] at hx
    subst hx
    exact nice_int) (by decide)
  refine ⟨[.lst h.rows, .lst ([((m + n : Nat) : Int)].map A.int), .lst ([((m + n : Nat) : Int)].map A.int)], ?_⟩
  have eE : E ++ [O.lst h.rows, .lst ([((m + n : Nat) : Int)].map A.int), .lst ([((m + n : Nat) : Int)].map A.int)] = E1 ++ [.lst ([((m + n : Nat) : Int)].map A.int), .lst ([((m + n : Nat) : Int)].map A.int)] := by rw [hE1, List.append_assoc]; rfl
  rw [eE]
  have e1 : gOp vEq (gCB vLen (gCons (gMeth (He.ga K "Hall") "journal" (F_Hall_journal K) (gVar 1) gNil) (gNil))) (gOp vMul (gC (.int 2)) (gCB vLen (gCons (gVar 8) (gNil)))) (rho9 (some (.ob 1)) (some (.int m)) (some (.int n)) d e f g (some (.ob (p + 7))) j) (sN o0 K h E) = .ok (.bl true) (sN o0 K h E1) := by
    simp only [gOp, gCB, gMeth, gC, gVar, gCons, gNil, List.getElem?_cons_zero, List.getElem?_cons_succ, RE.bindA_ok, RA.bindA_ok, RA.bind_ok, RE.bind_ok, RE.nox_ok, RE.bindT_ok, RE.bindS_ok, sN_ins, lkN_journal, ↓reduceIte, j1, l1, l2, mm, vEq_ii, q1]
  have e2 : gOp vEq (gMeth (He.ga K "Hall") "hearers" (F_Hall_hearers K) (gVar 1) (gCons (gC (.str "c")) (gNil))) (gLst (gCons (gOp vAdd (gVar 2) (gVar 3)) (gNil))) (rho9 (some (.ob 1)) (some (.int m)) (some (.int n)) d e f g (some (.ob (p + 7))) j) (sN o0 K h E1) = .ok (.bl true) (sN o0 K h (E1 ++ [.lst ([((m + n : Nat) : Int)].map A.int), .lst ([((m + n : Nat) : Int)].map A.int)])) := by
    have gm : gMeth (He.ga K "Hall") "hearers" (F_Hall_hearers K) (gVar 1) (gCons (gC (.str "c")) (gNil)) (rho9 (some (.ob 1)) (some (.int m)) (some (.int n)) d e f g (some (.ob (p + 7))) j) (sN o0 K h E1) = .ok (.ob (E1.length + 7)) (sN o0 K h (E1 ++ [.lst ([((m + n : Nat) : Int)].map A.int)])) := by
      simp only [gMeth, gC, gVar, gCons, gNil, List.getElem?_cons_zero, List.getElem?_cons_succ, RE.bindA_ok, RA.bindA_ok, RA.bind_ok, RE.bind_ok, sN_ins, lkN_hearers, ↓reduceIte, h1]
    rw [gOp_eq, gm]
    simp only [RE.bind_ok]
    rw [ll]
    simp only [RE.bind_ok, q2, RE.nox_ok]
  unfold q_law_8 gRet gAnd
  rw [e1]
  simp only [RE.bindT_ok, truA_bl, ↓reduceIte]
  rw [e2]
  simp only [RE.bindS_ok]
end
theorem law_true {o0 : O} {ns : List Int} (ho : o0.items = some (ns.map .int)) : ∃ E, q_law K (startR N_law.length [.ob 0]) [o0] = .ret (.bl true) ([o0] ++ E) := by
  have e0 := w0 (K := K) (o0 := o0)
  obtain ⟨m, hm, e1⟩ := w1 (K := K) (h := hP []) (E := []) (a := some (.ob 1)) ho
  obtain ⟨n, hn, e2⟩ := w2 (K := K) (h := hP []) (E := []) (a := some (.ob 1)) (b := some (.int m)) ho
  obtain ⟨t, e3⟩ := w3 (K := K) (h := hP []) (E := []) (a := some (.ob 1)) (b := some (.int m)) (c := some (.int n)) ho
  obtain ⟨k4, e4⟩ := w4 (K := K) (o0 := o0) (E := []) (b := some (.int n)) (c := some (.int (dI t))) hm.2
  obtain ⟨k5, e5⟩ := w5 (K := K) (o0 := o0) (E := []) (b := some (.int m)) (n := n) (t := t) (k0 := k4) hn (ps := List.replicate m hrX) (fun a ha => hrs_rep isX ha) (by rw [List.length_replicate]; exact hm.2)
  have hp6 : ∀ a ∈ List.replicate m hrX ++ List.replicate n (hrY t), isHr 3 a = true := fun a ha => (List.mem_append.mp ha).elim (hrs_rep isX) (hrs_rep (isY t))
  have hl6 : (List.replicate m hrX ++ List.replicate n (hrY t)).length ≤ 42 := by
    rw [List.length_append, List.length_replicate, List.length_replicate]
    omega
  have e6 := w6 (K := K) (o0 := o0) (E := []) (b := some (.int m)) (c := some (.int n)) (d := some (.int (dI t))) (e := k5) hp6 (by omega)
  have ep : List.replicate m hrX ++ List.replicate n (hrY t) ++ [hrZ] = ppl m n t := by rw [List.append_assoc]; rfl
  rw [ep] at e6
  have r6 : Rest (hP (ppl m n t)) := rest_hP (fun a ha => by
    rw [← ep] at ha
    rcases List.mem_append.mp ha with ha | ha
    · exact hp6 a ha
    · rw [List.mem_singleton.mp ha]; exact isZ) (by rw [ppl_len]; omega)
  obtain ⟨h', E', p, L, k7, ti, va, j', r7, l7, hr7, hL, g7, e7⟩ := w7 (K := K) (h := hP (ppl m n t)) (E := []) (e := k5) ho r6 ⟨rfl, rfl, rfl, rfl⟩ rfl hm.2 hn
  obtain ⟨F8, e8⟩ := w8 (K := K) (o0 := o0) (d := some (.int (dI t))) (e := k7) (f := ti) (g := va) (j := j') r7 l7 hr7 g7
  exact ⟨_, seq_step e0 (seq_step e1 (seq_step e2 (seq_step e3 (seq_step e4 (seq_step e5 (seq_step e6 (seq_step e7 e8)))))))⟩
theorem ok_law (t : TT K mg base) : FnR P w K mg base 310 (He.ga K "law") t.f_law P_law (spF K (tbs K) F_law) := by
  refine fnF t.D_law sc_law F_law_len (q_law K) (fun cdv A outer s H E hr => sb_law t hr) fun l S b bl h => ?_
  obtain ⟨ns, o, rfl, rfl, ho, hl, e⟩ := F_law_cases h
  rw [e]
  obtain ⟨E, e2⟩ := law_true (K := K) ho
  rw [e2]
  exact fitPE b (.bl _)
theorem law_at {w : World} {K : Frg} {mg : Str → Option Value} {fa : Addr} {h : Heap} (t : Hd.Tx K mg) (KX : K.In h) (c : He.SaysX Hd.fa Hd.fn [] Hd.tf Hd.ex w h K) (hmg : mg "law" = some (.ref fa)) : LamX.LawAtS PySem.Challenge.rw_hearlines_k09_cut w K (L2.CX PySem.Challenge.rw_hearlines_k09_cut.prog w) 200 63 "script" mg fa h := by
  have e := hmg.symm.trans t.m_law
  cases e
  have m1 : ∀ p ∈ [ctO K], p = ctO K := fun p hp => List.mem_singleton.mp hp
  have m2 : (("Hall", some "order") : He.Defn) ∈ Hd.tf := List.mem_singleton.mpr rfl
  exact law_end (d := 310) (tbs K) [ctO K] (fun p hp => by rw [m1 p hp]; exact c.empty _ m2) (fun p hp => by rw [m1 p hp]; exact c.out _ m2) (fun p hp => by rw [m1 p hp]; exact PySem.W.codeHd_of_K KX (c.hd _ m2))
    (fun H hH p hp => by rw [List.mem_singleton.mp hp]; exact LamX.TabS.nil (hH _ (List.mem_singleton.mpr rfl))) (FunD.bindsN t.D_law fun _ _ _ _ _ _ us hl => match us, hl with | [_], _ => rfl) KX
    (fun s u => FunD.bindsA (ps := P_law) t.D_law (fun _ _ _ _ _ _ us hl => match us, hl with | [_], _ => rfl) s [u] rfl) (by decide) (fun base _ _ hb => ok_law ⟨t, hb _ (List.mem_singleton.mpr rfl)⟩)
end
end Sx.My
open PySem PySem.W PySem.Calls PyProof.Rows
set_option maxRecDepth 100000 in
set_option maxHeartbeats 0 in
theorem PySem.Challenge.cw_hearlines_k09_cut_holds : PySem.Challenge.rw_hearlines_k09_cut.Holds := by
  w_on; o_law
  refine HandSHeadRun.head_any (r := OpenLaw.row PySem.Challenge.rw_hearlines_k09_cut) (q := view (OpenLaw.row PySem.Challenge.rw_hearlines_k09_cut).prog [30]) (H := Hd.hk) (ob := Hd.ob) (M := 12000) (loose := Hd.lo) (d := HandSHeadRun.topDef (OpenLaw.row PySem.Challenge.rw_hearlines_k09_cut).prog 30) (kwd := []) Hd.ob_eq
    (by kernel_rfl) (fun s => by kernel_rfl) Hd.run (by kernel_rfl) (by kernel_rfl) (by kernel_rfl) (by rfl) (by first | assumption | decide +kernel) (by decide +kernel) ⟨rfl, rfl, rfl, rfl, rfl, by decide +kernel⟩ ?hw ?hc
  case hw => w_witness2
  case hc =>
    refine LamX.walk_ofTsE (l := PySem.Challenge.rw_hearlines_k09_cut) (n := 63) (k := 200) (x := "script") (CX := fun w => L2.CX (PySem.Challenge.rw_hearlines_k09_cut).prog w) rfl (by decide) (by kernel_rfl) ⟨rfl, by decide, by decide⟩ ?F (fun _ _ _ _ _ z => Sx.noCX z)
    intro w mg fa h Y G hmg0
    obtain ⟨K, KX, c⟩ := Y
    have hmg : mg ("law" : PySem.Str) = some (.ref fa) := by
      have e : (HandSHeadRun.topDef (OpenLaw.row PySem.Challenge.rw_hearlines_k09_cut).prog 30).name = ("law" : PySem.Str) := by kernel_rfl
      rw [← e]
      exact hmg0
    obtain ⟨t⟩ := Hd.tx_mk KX G c
    exact ⟨K, KX, Sx.My.law_at t KX c hmg⟩


