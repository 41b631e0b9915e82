import PyProof.Rows.All
import Wide.All
import OpenK.AllK
import Wide.FinOn
import HandS.ForMost
import HandS.ForExc
import HandS.Style
import HandS.NoneIn
import HandS.ExcCtx
import HandS.HotCalls
import HandS.Zip
import KE.GoesMore
import HandS.ExcField
import HandS.TupAny
import HandS.Deep
import HandS.TupLe
import HandS.IsInst
import HandS.Star
import HandS.Conv
import HandS.SortRule
import KE.SortData
import HandS.Small
import HandS.Words
import HandS.ExcSuper
import HandS.HeadWalk
import HandS.CallRecv
import KE.KSuper
import PySem.Challenge.RW_twicedated_k50_whole_spans
set_option Elab.async false
set_option linter.all false
set_option maxRecDepth 100000
set_option maxHeartbeats 4000000
/-! Data by themselves: what a run computes, with lists, tuples and texts as plain values. -/
namespace Dn
open PySem L2

inductive D where
  | non | bl (b : Bool) | int (i : Int) | str (s : Str) | tup (xs : List D) | lst (xs : List D) | frz (xs : List D)
  | dct (kvs : List (D × D)) | ins (c : Nat) (fs : List D) | ref (n : Nat)

/-- a thing of the store: it may change -/
inductive Ob where
  | lst (xs : List D) | gone
abbrev Store := List Ob

/-- a slot -/
inductive Cell where
  | em | dat (d : D) | own (d : D) | exn (c : Nat) (fs : List D)
abbrev Env := List Cell

inductive R (α : Type) where
  | ok (a : α) (m : Store) | exc (c : Nat) (fs : List D) (m : Store) | stuck
inductive SR where
  | nx (e : Env) (m : Store) | ret (d : D) (m : Store) | brk (e : Env) (m : Store) | ct (e : Env) (m : Store) | exc (c : Nat) (fs : List D) (e : Env) (m : Store) | stuck
abbrev Orc := Nat → List D → Store → R D
abbrev EvE := Orc → Env → Store → R D
abbrev EvA := Orc → Env → Store → R (List D)
abbrev EvT := Orc → Env → Store → R Bool
abbrev EvS := Orc → Env → Store → SR

def R.bind {α β : Type} (r : R α) (f : α → Store → R β) : R β := match r with
  | .ok a m => f a m
  | .exc c fs m => .exc c fs m
  | .stuck => .stuck
@[simp] theorem R.bind_ok {α β : Type} (a : α) (m : Store) (f : α → Store → R β) : (R.ok a m).bind f = f a m := rfl
@[simp] theorem R.bind_exc {α β : Type} (c : Nat) (fs : List D) (m : Store) (f : α → Store → R β) : (R.exc c fs m).bind f = .exc c fs m := rfl
@[simp] theorem R.bind_stuck {α β : Type} (f : α → Store → R β) : (R.stuck : R α).bind f = .stuck := rfl
def R.of {α : Type} (o : Option α) (m : Store) : R α := match o with
  | some a => .ok a m
  | none => .stuck
@[simp] theorem R.of_some {α : Type} (a : α) (m : Store) : R.of (some a) m = .ok a m := rfl
@[simp] theorem R.of_none {α : Type} (m : Store) : R.of (none : Option α) m = .stuck := rfl

/-! ### what stands for what -/
/-- the names of the store's things -/
abbrev Th := Nat → Option Addr

mutual
inductive DR (K : PySem.W.Frag) (S : Hp) (t : Th) : V → D → Prop
  | non : DR K S t .non .non
  | bl (b : Bool) : DR K S t (.bl b) (.bl b)
  | int (i : Int) : DR K S t (.int i) (.int i)
  | str (x : Str) : DR K S t (.str x) (.str x)
  | lst {a : Addr} {vs : List V} {ds : List D} : S a = some (.lst vs) → DRs K S t vs ds → DR K S t (.ref a) (.lst ds)
  | frz {a : Addr} {vs : List V} {ds : List D} : SqL K S a vs → DRs K S t vs ds → DR K S t (.ref a) (.frz ds)
  | tup {a : Addr} {vs : List V} {ds : List D} : SqT K S a vs → DRs K S t vs ds → DR K S t (.ref a) (.tup ds)
  | ref {n : Nat} {a : Addr} : t n = some a → DR K S t (.ref a) (.ref n)
inductive DRs (K : PySem.W.Frag) (S : Hp) (t : Th) : List V → List D → Prop
  | nil : DRs K S t [] []
  | cons {v : V} {vs : List V} {d : D} {ds : List D} : DR K S t v d → DRs K S t vs ds → DRs K S t (v :: vs) (d :: ds)
end

def Sub (S S' : Hp) : Prop := ∀ a o, S a = some o → S' a = some o
def TSub (t t' : Th) : Prop := ∀ n a, t n = some a → t' n = some a
theorem Sub.refl (S : Hp) : Sub S S := fun _ _ h => h
theorem Sub.trans {S S1 S2 : Hp} (a : Sub S S1) (b : Sub S1 S2) : Sub S S2 := fun x o h => b x o (a x o h)
theorem TSub.refl (t : Th) : TSub t t := fun _ _ h => h
theorem TSub.trans {t t1 t2 : Th} (a : TSub t t1) (b : TSub t1 t2) : TSub t t2 := fun n x h => b n x (a n x h)
section
variable {K : PySem.W.Frag} {S S' H : Hp} {t t' : Th}
theorem Sub.sqL {a : Addr} {vs : List V} (e : Sub S S') (h : SqL K S a vs) : SqL K S' a vs := by
  rcases h with (h | ⟨o, h⟩) | h
  · exact .inl (.inl (e _ _ h))
  · exact .inl (.inr ⟨o, e _ _ h⟩)
  · exact .inr h
theorem Sub.sqT {a : Addr} {vs : List V} (e : Sub S S') (h : SqT K S a vs) : SqT K S' a vs := by
  rcases h with (h | ⟨o, h⟩) | h
  · exact .inl (.inl (e _ _ h))
  · exact .inl (.inr ⟨o, e _ _ h⟩)
  · exact .inr h
mutual
theorem DR.mono (e : Sub S S') (f : TSub t t') : ∀ {v : V} {d : D}, DR K S t v d → DR K S' t' v d
  | _, _, .non => .non
  | _, _, .bl b => .bl b
  | _, _, .int i => .int i
  | _, _, .str x => .str x
  | _, _, .lst h hs => .lst (e _ _ h) (DRs.mono e f hs)
  | _, _, .frz h hs => .frz (e.sqL h) (DRs.mono e f hs)
  | _, _, .tup h hs => .tup (e.sqT h) (DRs.mono e f hs)
  | _, _, .ref h => .ref (f _ _ h)
theorem DRs.mono (e : Sub S S') (f : TSub t t') : ∀ {vs : List V} {ds : List D}, DRs K S t vs ds → DRs K S' t' vs ds
  | _, _, .nil => .nil
  | _, _, .cons h hs => .cons (DR.mono e f h) (DRs.mono e f hs)
end
theorem DRs.length {vs : List V} : ∀ {ds : List D}, DRs K S t vs ds → vs.length = ds.length := by
  induction vs with
  | nil => intro ds h; cases h; rfl
  | cons v vs ih => intro ds h; cases h with | cons h hs => simp [ih hs]
theorem DRs.get {vs : List V} : ∀ {ds : List D} {i : Nat} {d : D}, DRs K S t vs ds → ds[i]? = some d → ∃ v, vs[i]? = some v ∧ DR K S t v d := by
  induction vs with
  | nil => intro ds i d h e; cases h; simp at e
  | cons v vs ih =>
    intro ds i d h e
    cases h with
    | cons h hs =>
      cases i with
      | zero => simp at e; subst e; exact ⟨v, by simp, h⟩
      | succ i => obtain ⟨w, e1, r⟩ := ih hs (i := i) (d := d) (by simpa using e); exact ⟨w, by simpa using e1, r⟩
theorem DRs.get' {vs : List V} : ∀ {ds : List D} {i : Nat} {v : V}, DRs K S t vs ds → vs[i]? = some v → ∃ d, ds[i]? = some d ∧ DR K S t v d := by
  induction vs with
  | nil => intro ds i d h e; cases h; simp at e
  | cons v vs ih =>
    intro ds i d h e
    cases h with
    | cons h hs =>
      cases i with
      | zero => simp at e; subst e; exact ⟨_, by simp, h⟩
      | succ i => obtain ⟨w, e1, r⟩ := ih hs (i := i) (by simpa using e); exact ⟨w, by simpa using e1, r⟩
theorem DRs.append {vs ws : List V} {ds es : List D} (h : DRs K S t vs ds) (g : DRs K S t ws es) : DRs K S t (vs ++ ws) (ds ++ es) := by
  induction vs generalizing ds with
  | nil => cases h; exact g
  | cons v vs ih => cases h with | cons h hs => exact .cons h (ih hs)
theorem DRs.take {vs : List V} {ds : List D} (n : Nat) (h : DRs K S t vs ds) : DRs K S t (vs.take n) (ds.take n) := by
  induction vs generalizing ds n with
  | nil => cases h; simp; exact .nil
  | cons v vs ih =>
    cases h with
    | cons h hs =>
      cases n with
      | zero => simp; exact .nil
      | succ n => simp only [List.take_succ_cons]; exact .cons h (ih n hs)
theorem DRs.drop {vs : List V} {ds : List D} (n : Nat) (h : DRs K S t vs ds) : DRs K S t (vs.drop n) (ds.drop n) := by
  induction vs generalizing ds n with
  | nil => cases h; simp; exact .nil
  | cons v vs ih =>
    cases h with
    | cons h hs =>
      cases n with
      | zero => simp; exact .cons h hs
      | succ n => simp only [List.drop_succ_cons]; exact ih n hs
theorem DRs.set {vs : List V} {ds : List D} {v : V} {d : D} (n : Nat) (h : DRs K S t vs ds) (g : DR K S t v d) : DRs K S t (vs.set n v) (ds.set n d) := by
  induction vs generalizing ds n with
  | nil => cases h; simp; exact .nil
  | cons v vs ih =>
    cases h with
    | cons h hs =>
      cases n with
      | zero => simp; exact .cons g hs
      | succ n => simp only [List.set_cons_succ]; exact .cons h (ih n hs)
theorem DRs.reverse {vs : List V} {ds : List D} (h : DRs K S t vs ds) : DRs K S t vs.reverse ds.reverse := by
  induction vs generalizing ds with
  | nil => cases h; exact .nil
  | cons v vs ih =>
    cases h with
    | cons h hs => simp only [List.reverse_cons]; exact (ih hs).append (.cons h .nil)
end

/-! ### the state: S what is settled (it never changes), H all that is tracked, t the store's addresses -/
structure HI (K : PySem.W.Frag) (S H : Hp) (t : Th) (m : Store) : Prop where
  sub : Sub S H
  sto : ∀ n xs, m[n]? = some (.lst xs) → ∃ a vs, t n = some a ∧ H a = some (.lst vs) ∧ DRs K S t vs xs
  off : ∀ n a, t n = some a → S a = none ∧ H a ≠ none
  inj : ∀ n k a, t n = some a → t k = some a → n = k
  out : ∀ n, m.length ≤ n → t n = none
/-- what an expression leaves -/
structure Stp (S H : Hp) (t : Th) (S' H' : Hp) (t' : Th) : Prop where
  keep : ∀ a o, H a = some o → (∀ n, t n ≠ some a) → H' a = some o
  dom : ∀ a, H a ≠ none → H' a ≠ none
  hs : ∀ a, H a ≠ none → S' a = S a
  th : TSub t t'
  thn : ∀ n a, t' n = some a → t n = none → H a = none
section
variable {K : PySem.W.Frag} {S S' S2 H H' H2 : Hp} {t t' t2 : Th} {m m' : Store}
theorem Stp.refl : Stp S H t S H t := ⟨fun _ _ h _ => h, fun _ h => h, fun _ _ => rfl, .refl t, fun _ _ h g => by rw [g] at h; cases h⟩
theorem Stp.trans (a : Stp S H t S' H' t') (b : Stp S' H' t' S2 H2 t2) : Stp S H t S2 H2 t2 := by
  have off : ∀ n x, H x ≠ none → (∀ k, t k ≠ some x) → t' n ≠ some x := fun n x hx hn e => by
    cases q : t n with
    | none => exact hx (a.thn n x e q)
    | some y =>
      have := a.th n y q
      rw [e] at this
      cases this
      exact hn n q
  refine ⟨fun x o h hn => b.keep x o (a.keep x o h hn) fun n => off n x (by rw [h]; simp) hn, fun x h => b.dom x (a.dom x h), fun x h => (b.hs x (a.dom x h)).trans (a.hs x h), a.th.trans b.th, fun n x h g => ?_⟩
  cases q : t' n with
  | none =>
    have z := b.thn n x h q
    cases e : H x with
    | none => rfl
    | some o => exact absurd z (a.dom x (by rw [e]; simp))
  | some y =>
    have := b.th n y q
    rw [h] at this
    cases this
    exact a.thn n x q g
theorem HI.ssub (i : HI K S H t m) (p : Stp S H t S' H' t') : Sub S S' := fun a o h => (p.hs a (by rw [i.sub a o h]; simp)).trans h
theorem DR.stp {v : V} {d : D} (i : HI K S H t m) (p : Stp S H t S' H' t') (h : DR K S t v d) : DR K S' t' v d := h.mono (i.ssub p) p.th
theorem DRs.stp {v : List V} {d : List D} (i : HI K S H t m) (p : Stp S H t S' H' t') (h : DRs K S t v d) : DRs K S' t' v d := h.mono (i.ssub p) p.th
/-- a thing of its own keeps off the store -/
theorem Stp.offs {a : Addr} (p : Stp S H t S' H' t') (h : H a ≠ none) (hn : ∀ n, t n ≠ some a) : ∀ n, t' n ≠ some a := fun n e => by
  cases q : t n with
  | none => exact h (p.thn n a e q)
  | some y =>
    have := p.th n y q
    rw [e] at this
    cases this
    exact hn n q
/-- something new is laid and settled -/
theorem new_hi {p : Addr} {o : HO} (i : HI K S H t m) (h : H p = none) : HI K (upd S p o) (upd H p o) t m ∧ Stp S H t (upd S p o) (upd H p o) t := by
  have hS : S p = none := by
    cases e : S p with
    | none => rfl
    | some o => rw [i.sub p o e] at h; cases h
  have ss : Sub S (upd S p o) := fun a u e => by rw [upd_ne (ne_of_none e hS)]; exact e
  refine ⟨⟨fun a u e => ?_, fun n xs e => ?_, fun n a e => ?_, i.inj, i.out⟩, ⟨fun a u e _ => ?_, fun a e => ?_, fun a e => ?_, .refl t, fun n a e g => by rw [g] at e; cases e⟩⟩
  · by_cases z : a = p
    · subst z; rw [upd_same] at e ⊢; exact e
    · rw [upd_ne z] at e ⊢; exact i.sub a u e
  · obtain ⟨a, vs, e1, e2, e3⟩ := i.sto n xs e
    exact ⟨a, vs, e1, by rw [upd_ne (ne_of_none e2 h)]; exact e2, e3.mono ss (.refl t)⟩
  · obtain ⟨e1, e2⟩ := i.off n a e
    have z : a ≠ p := fun z => e2 (by rw [z]; exact h)
    rw [upd_ne z, upd_ne z]
    exact ⟨e1, e2⟩
  · rw [upd_ne (ne_of_none e h)]; exact e
  · have z : a ≠ p := fun z => e (by rw [z]; exact h)
    rw [upd_ne z]; exact e
  · have z : a ≠ p := fun z => e (by rw [z]; exact h)
    rw [upd_ne z]
/-- something new is laid, not settled -/
theorem new_hi0 {p : Addr} {o : HO} (i : HI K S H t m) (h : H p = none) : HI K S (upd H p o) t m ∧ Stp S H t S (upd H p o) t := by
  refine ⟨⟨fun a u e => ?_, fun n xs e => ?_, fun n a e => ?_, i.inj, i.out⟩, ⟨fun a u e _ => ?_, fun a e => ?_, fun a e => rfl, .refl t, fun n a e g => by rw [g] at e; cases e⟩⟩
  · have e' := i.sub a u e
    rw [upd_ne (ne_of_none e' h)]; exact e'
  · obtain ⟨a, vs, e1, e2, e3⟩ := i.sto n xs e
    exact ⟨a, vs, e1, by rw [upd_ne (ne_of_none e2 h)]; exact e2, e3⟩
  · obtain ⟨e1, e2⟩ := i.off n a e
    have z : a ≠ p := fun z => e2 (by rw [z]; exact h)
    rw [upd_ne z]
    exact ⟨e1, e2⟩
  · rw [upd_ne (ne_of_none e h)]; exact e
  · have z : a ≠ p := fun z => e (by rw [z]; exact h)
    rw [upd_ne z]; exact e
/-- a list of one's own is changed -/
theorem own_hi {p : Addr} {o : HO} (i : HI K S H t m) (hS : S p = none) (hp : H p ≠ none) (ht : ∀ n, t n ≠ some p) : HI K S (upd H p o) t m := by
  refine ⟨fun a u e => ?_, fun n xs e => ?_, fun n a e => ?_, i.inj, i.out⟩
  · rw [upd_ne (ne_of_none e hS)]; exact i.sub a u e
  · obtain ⟨a, vs, e1, e2, e3⟩ := i.sto n xs e
    exact ⟨a, vs, e1, by rw [upd_ne (fun z => ht n (by rw [e1, z]))]; exact e2, e3⟩
  · obtain ⟨e1, e2⟩ := i.off n a e
    rw [upd_ne (fun z => ht n (by rw [e, z]))]
    exact ⟨e1, e2⟩
/-- it is settled -/
theorem settle_hi {p : Addr} {o : HO} (i : HI K S H t m) (hS : S p = none) (hp : H p = some o) (ht : ∀ n, t n ≠ some p) : HI K (upd S p o) H t m := by
  have ss : Sub S (upd S p o) := fun a u e => by rw [upd_ne (ne_of_none e hS)]; exact e
  refine ⟨fun a u e => ?_, fun n xs e => ?_, fun n a e => ?_, i.inj, i.out⟩
  · by_cases z : a = p
    · subst z; rw [upd_same] at e; cases e; exact hp
    · rw [upd_ne z] at e; exact i.sub a u e
  · obtain ⟨a, vs, e1, e2, e3⟩ := i.sto n xs e
    exact ⟨a, vs, e1, e2, e3.mono ss (.refl t)⟩
  · obtain ⟨e1, e2⟩ := i.off n a e
    rw [upd_ne (fun z => ht n (by rw [e, z]))]
    exact ⟨e1, e2⟩
/-- it goes into the store -/
theorem store_hi {p : Addr} {vs : List V} {xs : List D} (i : HI K S H t m) (hS : S p = none) (hp : H p = some (.lst vs)) (ht : ∀ n, t n ≠ some p) (hd : DRs K S t vs xs) :
    HI K S H (fun n => if n = m.length then some p else t n) (m ++ [.lst xs]) ∧ TSub t (fun n => if n = m.length then some p else t n) := by
  have ts : TSub t (fun n => if n = m.length then some p else t n) := fun n a e => by
    by_cases z : n = m.length
    · rw [i.out n (by omega)] at e; cases e
    · simp only [z, if_false]; exact e
  refine ⟨⟨i.sub, fun n xs' e => ?_, fun n a e => ?_, fun n k a e g => ?_, fun n e => ?_⟩, ts⟩
  · by_cases z : n < m.length
    · rw [List.getElem?_append_left z] at e
      obtain ⟨a, vs, e1, e2, e3⟩ := i.sto n xs' e
      exact ⟨a, vs, ts _ _ e1, e2, e3.mono (.refl S) ts⟩
    · by_cases z' : n = m.length
      · subst z'
        simp at e
        subst e
        exact ⟨p, vs, by simp, hp, hd.mono (.refl S) ts⟩
      · rw [List.getElem?_eq_none (by simp; omega)] at e; cases e
  · by_cases z : n = m.length
    · simp [z] at e; subst e; exact ⟨hS, by rw [hp]; simp⟩
    · simp [z] at e; exact i.off n a e
  · by_cases z : n = m.length <;> by_cases z' : k = m.length
    · omega
    · simp [z] at e; simp [z'] at g; subst e; exact absurd g (ht k)
    · simp [z] at e; simp [z'] at g; subst g; exact absurd e (ht n)
    · simp [z] at e; simp [z'] at g; exact i.inj n k a e g
  · have h1 : m.length + 1 ≤ n := by simpa using e
    have z : n ≠ m.length := by omega
    simp only [z, if_false]
    exact i.out n (by omega)
/-- a list of the store is changed -/
theorem sto_hi {n : Nat} {p : Addr} {vs : List V} {xs : List D} (i : HI K S H t m) (ht : t n = some p) (hd : DRs K S t vs xs) : HI K S (upd H p (.lst vs)) t (m.set n (.lst xs)) ∧ Stp S H t S (upd H p (.lst vs)) t := by
  obtain ⟨hS, hp⟩ := i.off n p ht
  refine ⟨⟨fun a u e => ?_, fun k xs' e => ?_, fun k a e => ?_, i.inj, fun k e => i.out k (by simpa using e)⟩, ⟨fun a u e hn => ?_, fun a e => ?_, fun a e => rfl, .refl t, fun n a e g => by rw [g] at e; cases e⟩⟩
  · rw [upd_ne (ne_of_none e hS)]; exact i.sub a u e
  · by_cases z : k = n
    · subst z
      by_cases hl : k < m.length
      · rw [List.getElem?_set_self hl] at e
        cases e
        exact ⟨p, vs, ht, upd_same, hd⟩
      · rw [List.getElem?_eq_none (by simpa using hl)] at e; cases e
    · rw [List.getElem?_set_ne (Ne.symm z)] at e
      obtain ⟨a, ws, e1, e2, e3⟩ := i.sto k xs' e
      exact ⟨a, ws, e1, by rw [upd_ne (fun q => z (i.inj k n p (by rw [e1, q]) ht))]; exact e2, e3⟩
  · obtain ⟨e1, e2⟩ := i.off k a e
    refine ⟨e1, ?_⟩
    by_cases z : a = p
    · subst z; rw [upd_same]; simp
    · rw [upd_ne z]; exact e2
  · rw [upd_ne (fun z => hn n (by rw [ht, z]))]; exact e
  · by_cases z : a = p
    · subst z; rw [upd_same]; simp
    · rw [upd_ne z]; exact e
end

/-! ### the slots -/
/-- a list of one's own, at a -/
structure OwnAt (K : PySem.W.Frag) (S H : Hp) (t : Th) (a : Addr) (d : D) : Prop where
  off : S a = none
  nt : ∀ n, t n ≠ some a
  at_ : ∃ xs vs, d = .lst xs ∧ H a = some (.lst vs) ∧ DRs K S t vs xs
/-- within an except suite: where the error stands, its own dict, its fields' names -/
abbrev Gh := Option (Addr × Addr × List Str)
structure XAt (K : PySem.W.Frag) (x : Gh) (S : Hp) (t : Th) (v : V) (fs : List D) : Prop where
  ex : ∃ a d ns vs, x = some (a, d, ns) ∧ v = .ref a ∧ S d = some (.xd (ns.zip vs)) ∧ DRs K S t vs fs ∧ vs.length = ns.length
structure SI (K : PySem.W.Frag) (x : Gh) (S H : Hp) (t : Th) (m : Store) (σ : St) (e : Env) : Prop where
  hi : HI K S H t m
  len : σ.length = e.length
  dat : ∀ (i : Nat) d, e[i]? = some (.dat d) → ∃ v, σ[i]? = some (some v) ∧ DR K S t v d
  own : ∀ (i : Nat) d, e[i]? = some (.own d) → ∃ a, σ[i]? = some (some (.ref a)) ∧ OwnAt K S H t a d
  apart : ∀ (i j : Nat) d c a, e[i]? = some (.own d) → e[j]? = some (.own c) → σ[i]? = some (some (.ref a)) → σ[j]? = some (some (.ref a)) → i = j
  exn : ∀ (i : Nat) c fs, e[i]? = some (.exn c fs) → ∃ v, σ[i]? = some (some v) ∧ XAt K x S t v fs
section
variable {K : PySem.W.Frag} {x : Gh} {S S' S2 H H' H2 : Hp} {t t' t2 : Th} {m m' : Store} {σ : St} {e : Env}
theorem OwnAt.there {a : Addr} {d : D} (h : OwnAt K S H t a d) : H a ≠ none := by
  obtain ⟨xs, vs, _, e, _⟩ := h.at_
  rw [e]; simp
theorem OwnAt.stp {a : Addr} {d : D} (i : HI K S H t m) (p : Stp S H t S' H' t') (h : OwnAt K S H t a d) : OwnAt K S' H' t' a d := by
  have th := h.there
  obtain ⟨xs, vs, rfl, e, r⟩ := h.at_
  exact ⟨(p.hs a th).trans h.off, p.offs th h.nt, xs, vs, rfl, p.keep a _ e h.nt, r.stp i p⟩
theorem XAt.mono {v : V} {fs : List D} (e : Sub S S') (f : TSub t t') (h : XAt K x S t v fs) : XAt K x S' t' v fs := by
  obtain ⟨a, d, ns, vs, h1, h2, h3, h4, h5⟩ := h.ex
  exact ⟨a, d, ns, vs, h1, h2, e _ _ h3, h4.mono e f, h5⟩
theorem XAt.stp {v : V} {fs : List D} (i : HI K S H t m) (p : Stp S H t S' H' t') (h : XAt K x S t v fs) : XAt K x S' t' v fs := h.mono (i.ssub p) p.th
theorem SI.stp (i : SI K x S H t m σ e) (p : Stp S H t S' H' t') (h : HI K S' H' t' m') : SI K x S' H' t' m' σ e :=
  ⟨h, i.len, fun k d q => let ⟨v, h1, h2⟩ := i.dat k d q; ⟨v, h1, h2.stp i.hi p⟩, fun k d q => let ⟨a, h1, h2⟩ := i.own k d q; ⟨a, h1, h2.stp i.hi p⟩, i.apart, fun k c fs q => let ⟨v, h1, h2⟩ := i.exn k c fs q; ⟨v, h1, h2.stp i.hi p⟩⟩
end
end Dn
/-! What an expression computes, by data. -/
namespace Dn
open PySem L2

/-- K what the top has written; C the defs, by number; X the own errors: where the class stands, its fields -/
structure Cfg where
  K : PySem.W.Frag
  C : Orc
  X : Nat → Option (Addr × List Str)
  x : Gh := none
/-- an error and its own dict -/
def EXR (G : Cfg) (S H : Hp) (t : Th) (c : Nat) (fs : List D) (cls : Value) (dx : Option Addr) : Prop :=
  ∃ C ns d vs, G.X c = some (C, ns) ∧ cls = .ref C ∧ dx = some d ∧ S d = some (.xd (ns.zip vs)) ∧ DRs G.K S t vs fs ∧ vs.length = ns.length
/-- good by W (errors) and P (values) -/
def Gd {α : Type} (G : Cfg) (W : WX) (σ : St) (S H : Hp) (t : Th) (r : R α) (P : Hp → Hp → Th → Store → α → Prop) : Prop := match r with
  | .ok a m' => ∀ S' H' t', Stp S H t S' H' t' → HI G.K S' H' t' m' → P S' H' t' m' a
  | .exc c fs m' => ∀ S' H' t' cls dx, Stp S H t S' H' t' → HI G.K S' H' t' m' → EXR G S' H' t' c fs cls dx → W cls dx σ H'
  | .stuck => False
section
variable {G : Cfg} {W : WX} {σ : St} {S S1 H H1 : Hp} {t t1 : Th} {m m1 : Store} {α β : Type}
theorem Gd.from {r : R α} {P : Hp → Hp → Th → Store → α → Prop} (p : Stp S H t S1 H1 t1) (h : Gd G W σ S H t r P) : Gd G W σ S1 H1 t1 r P := by
  cases r with
  | ok a m' => exact fun S' H' t' q i => h S' H' t' (p.trans q) i
  | exc c fs m' => exact fun S' H' t' cls dx q i x => h S' H' t' cls dx (p.trans q) i x
  | stuck => exact h
theorem Gd.split {r : R α} {f : α → Store → R β} {P : Hp → Hp → Th → Store → β → Prop} (h : Gd G W σ S H t (r.bind f) P) :
    Gd G W σ S H t r (fun S1 H1 t1 m1 a => Stp S H t S1 H1 t1 ∧ HI G.K S1 H1 t1 m1 ∧ Gd G W σ S1 H1 t1 (f a m1) P) := by
  cases r with
  | ok a m' => exact fun S' H' t' q i => ⟨q, i, Gd.from q h⟩
  | exc c fs m' => exact h
  | stuck => exact h
theorem Gd.imp {r : R α} {P P' : Hp → Hp → Th → Store → α → Prop} (h : Gd G W σ S H t r P) (w : ∀ S' H' t' m' a, Stp S H t S' H' t' → HI G.K S' H' t' m' → P S' H' t' m' a → P' S' H' t' m' a) : Gd G W σ S H t r P' := by
  cases r with
  | ok a m' => exact fun S' H' t' q i => w _ _ _ _ _ q i (h S' H' t' q i)
  | exc c fs m' => exact h
  | stuck => exact h
theorem Gd.now {a : α} {P : Hp → Hp → Th → Store → α → Prop} (h : Gd G W σ S H t (.ok a m) P) (i : HI G.K S H t m) : P S H t m a := h S H t .refl i
end

/-- what may be read: settled, or a list of one's own -/
def BR (K : PySem.W.Frag) (S H : Hp) (t : Th) (v : V) (d : D) : Prop := DR K S t v d ∨ ∃ a, v = .ref a ∧ OwnAt K S H t a d
inductive BRs (K : PySem.W.Frag) (S H : Hp) (t : Th) : List V → List D → Prop
  | nil : BRs K S H t [] []
  | cons {v : V} {vs : List V} {d : D} {ds : List D} : BR K S H t v d → BRs K S H t vs ds → BRs K S H t (v :: vs) (d :: ds)
section
variable {K : PySem.W.Frag} {S S' S2 H H' H2 : Hp} {t t' t2 : Th} {m m' : Store}
theorem BR.stp {v : V} {d : D} (i : HI K S H t m) (p : Stp S H t S' H' t') (h : BR K S H t v d) : BR K S' H' t' v d := by
  rcases h with h | ⟨a, e, h⟩
  · exact .inl (h.stp i p)
  · exact .inr ⟨a, e, h.stp i p⟩
theorem BRs.stp {v : List V} {d : List D} (i : HI K S H t m) (p : Stp S H t S' H' t') (h : BRs K S H t v d) : BRs K S' H' t' v d := by
  induction h with
  | nil => exact .nil
  | cons h _ ih => exact .cons (h.stp i p) ih
theorem BRs.of {vs : List V} : ∀ {ds : List D}, DRs K S t vs ds → BRs K S H t vs ds := by
  induction vs with
  | nil => intro ds h; cases h; exact .nil
  | cons v vs ih => intro ds h; cases h with | cons h hs => exact .cons (.inl h) (ih hs)
end

section
variable (G : Cfg) (W : WX)
def semE (f : EvE) : TE := fun σ H Q => ∃ S t m e, SI G.K G.x S H t m σ e ∧ Gd G W σ S H t (f G.C e m) fun S' H' t' _ d => ∀ v, DR G.K S' t' v d → Q v H'
def semB (f : EvE) : TE := fun σ H Q => ∃ S t m e, SI G.K G.x S H t m σ e ∧ Gd G W σ S H t (f G.C e m) fun S' H' t' _ d => ∀ v, BR G.K S' H' t' v d → Q v H'
/-- a new list -/
def semF (f : EvA) : TE := fun σ H Q => ∃ S t m e, SI G.K G.x S H t m σ e ∧ Gd G W σ S H t (f G.C e m) fun S' H' t' _ xs => ∀ p, OwnAt G.K S' H' t' p (.lst xs) → H p = none → Q (.ref p) H'
def semT (f : EvT) : TT := fun σ H Q => ∃ S t m e, SI G.K G.x S H t m σ e ∧ Gd G W σ S H t (f G.C e m) fun _ H' _ _ b => Q b H'
def semA (f : EvA) : TA := fun σ H Q => ∃ S t m e, SI G.K G.x S H t m σ e ∧ Gd G W σ S H t (f G.C e m) fun S' H' t' _ ds => ∀ vs, DRs G.K S' t' vs ds → Q vs H'
def semAB (f : EvA) : TA := fun σ H Q => ∃ S t m e, SI G.K G.x S H t m σ e ∧ Gd G W σ S H t (f G.C e m) fun S' H' t' _ ds => ∀ vs, BRs G.K S' H' t' vs ds → Q vs H'
end

theorem _root_.L2.PE.imp {X : Cx} {e : Expr} {t t' : TE} (h : PE X e t) (w : ∀ σ H Q, t' σ H Q → t σ H Q) : PE X e t' := ⟨fun pins s σ H Q I q => h.run pins s σ H Q I (w σ H Q q)⟩
theorem _root_.L2.PT.imp {X : Cx} {e : Expr} {t t' : TT} (h : PT X e t) (w : ∀ σ H Q, t' σ H Q → t σ H Q) : PT X e t' := ⟨fun pins s σ H Q I q => h.run pins s σ H Q I (w σ H Q q)⟩
theorem _root_.L2.PA.imp {X : Cx} {e : List Expr} {t t' : TA} (h : PA X e t) (w : ∀ σ H Q, t' σ H Q → t σ H Q) : PA X e t' := ⟨fun pos pins s σ H Q I q => h.run pos pins s σ H Q I (w σ H Q q)⟩

/-! ### combinators -/
@[simp] def varE (i : Nat) : EvE := fun _ e m => match e[i]? with
  | some (.dat d) => .ok d m
  | _ => .stuck
@[simp] def brwE (i : Nat) : EvE := fun _ e m => match e[i]? with
  | some (.dat d) => .ok d m
  | some (.own d) => .ok d m
  | _ => .stuck
@[simp] def conE (d : D) : EvE := fun _ _ m => .ok d m
@[simp] def bin (g : Store → D → D → Option D) (a b : EvE) : EvE := fun C e m => (a C e m).bind fun x m1 => (b C e m1).bind fun y m2 => .of (g m2 x y) m2
@[simp] def una (g : Store → D → Option D) (a : EvE) : EvE := fun C e m => (a C e m).bind fun x m1 => .of (g m1 x) m1
@[simp] def nilA : EvA := fun _ _ m => .ok [] m
@[simp] def consA (a : EvE) (r : EvA) : EvA := fun C e m => (a C e m).bind fun x m1 => (r C e m1).bind fun xs m2 => .ok (x :: xs) m2
@[simp] def tupE (a : EvA) : EvE := fun C e m => (a C e m).bind fun xs m1 => .ok (.tup xs) m1
@[simp] def frzE (a : EvA) : EvE := fun C e m => (a C e m).bind fun xs m1 => .ok (.lst xs) m1
@[simp] def fnE (f : Nat) (a : EvA) : EvE := fun C e m => (a C e m).bind fun xs m1 => C f xs m1
@[simp] def bltE (g : Store → List D → Option D) (a : EvA) : EvE := fun C e m => (a C e m).bind fun xs m1 => .of (g m1 xs) m1
@[simp] def bltF (g : Store → List D → Option (List D)) (a : EvA) : EvA := fun C e m => (a C e m).bind fun xs m1 => .of (g m1 xs) m1
@[simp] def binF (g : Store → D → D → Option (List D)) (a b : EvE) : EvA := fun C e m => (a C e m).bind fun x m1 => (b C e m1).bind fun y m2 => .of (g m2 x y) m2
@[simp] def ifE (c : EvT) (a b : EvE) : EvE := fun C e m => (c C e m).bind fun k m1 => if k = true then a C e m1 else b C e m1
@[simp] def andT (a b : EvT) : EvT := fun C e m => (a C e m).bind fun k m1 => if k = true then b C e m1 else .ok false m1
@[simp] def orT (a b : EvT) : EvT := fun C e m => (a C e m).bind fun k m1 => if k = true then .ok true m1 else b C e m1
@[simp] def notT (a : EvT) : EvT := fun C e m => (a C e m).bind fun k m1 => .ok (!k) m1
@[simp] def isB : D → Option Bool
  | .bl b => some b
  | _ => none
/-- a value that is True or False, as a test -/
@[simp] def blT (a : EvE) : EvT := fun C e m => (a C e m).bind fun x m1 => .of (isB x) m1
@[simp] def andE (a b : EvE) : EvE := fun C e m => (a C e m).bind fun x m1 => (R.of (isB x) m1).bind fun k m1 => if k = true then b C e m1 else .ok (.bl false) m1
@[simp] def orE (a b : EvE) : EvE := fun C e m => (a C e m).bind fun x m1 => (R.of (isB x) m1).bind fun k m1 => if k = true then .ok (.bl true) m1 else b C e m1
@[simp] def notE (a : EvE) : EvE := fun C e m => (a C e m).bind fun x m1 => (R.of (isB x) m1).bind fun k m1 => .ok (.bl (!k)) m1
/-- a op b op' c -/
@[simp] def chainE (g g' : Store → D → D → Option D) (a b c : EvE) : EvE := fun C e m => (a C e m).bind fun x m1 => (b C e m1).bind fun y m2 => (R.of (g m2 x y) m2).bind fun z m2 => (R.of (isB z) m2).bind fun k m2 =>
  if k = true then (c C e m2).bind fun w m3 => .of (g' m3 y w) m3 else .ok (.bl false) m2

section
variable {X : Cx} {G : Cfg} {W : WX} {a b c : Expr} {es : List Expr} {fa fb fc : EvE} {fs : EvA} {pos : Pos}
/-! ### names, constants -/
theorem de_sub {e : Expr} {f : EvE} (h : PE X e (semE G W f)) : PE X e (semB G W f) := h.imp fun σ H Q ⟨S, t, m, e, si, g⟩ => ⟨S, t, m, e, si, g.imp fun _ _ _ _ _ _ _ q v r => q v (.inl r)⟩
theorem de_brw {i : Nat} {x : Str} (hN : X.N[i]? = some x) (hv : Vis X.env.scope x) (hd : (x == ("__debug__" : Str)) = false := by decide) (hcd : (x == ("__classdict__" : Str)) = false := by decide) : PE X (.Name x pos) (semB G W (brwE i)) := by
  refine (pe_var (i := i) hN hv hd hcd).imp fun σ H Q ⟨S, t, m, e, si, g⟩ => ?_
  unfold brwE at g
  split at g
  · rename_i d h
    obtain ⟨v, h1, h2⟩ := si.dat i d h
    exact ⟨v, h1, g.now si.hi v (.inl h2)⟩
  · rename_i d h
    obtain ⟨v, h1, h2⟩ := si.own i d h
    exact ⟨_, h1, g.now si.hi _ (.inr ⟨v, rfl, h2⟩)⟩
  · exact g.elim
theorem de_var {i : Nat} {x : Str} (hN : X.N[i]? = some x) (hv : Vis X.env.scope x) (hd : (x == ("__debug__" : Str)) = false := by decide) (hcd : (x == ("__classdict__" : Str)) = false := by decide) : PE X (.Name x pos) (semE G W (varE i)) := by
  refine (pe_var (i := i) hN hv hd hcd).imp fun σ H Q ⟨S, t, m, e, si, g⟩ => ?_
  unfold varE at g
  split at g
  · rename_i d h
    obtain ⟨v, h1, h2⟩ := si.dat i d h
    exact ⟨v, h1, g.now si.hi v h2⟩
  · exact g.elim
theorem de_con {v : V} {d : D} {e : Expr} (h : PE X e (tC v)) (r : ∀ S t, DR G.K S t v d) : PE X e (semE G W (conE d)) :=
  h.imp fun σ H Q ⟨S, t, m, e, si, g⟩ => g.now si.hi v (r S t)
theorem de_int {i j pos} : PE X (.Constant (.int i) j pos) (semE G W (conE (.int i))) := de_con pe_int fun _ _ => .int i
theorem de_bl {b j pos} : PE X (.Constant (.bool b) j pos) (semE G W (conE (.bl b))) := de_con pe_bl fun _ _ => .bl b
theorem de_non {j pos} : PE X (.Constant .none j pos) (semE G W (conE .non)) := de_con pe_non fun _ _ => .non
theorem de_str {x j pos} : PE X (.Constant (.str x) j pos) (semE G W (conE (.str x))) := de_con pe_str fun _ _ => .str x

/-! ### operators -/
/-- an operator by data -/
def OpD (X : Cx) (f : Value → Value → Sem Value) (g : Store → D → D → Option D) : Prop :=
  ∃ r : R2, OpR X f r ∧ ∀ S H t m x y d e z (Q : VK), HI X.K S H t m → BR X.K S H t x d → BR X.K S H t y e → g m d e = some z → (∀ v S' H', Stp S H t S' H' t → HI X.K S' H' t m → DR X.K S' t v z → Q v H') → r x y H Q
def IxD (X : Cx) (g : Store → D → D → Option D) : Prop :=
  ∃ r : R2, IxR X r ∧ ∀ S H t m x y d e z (Q : VK), HI X.K S H t m → BR X.K S H t x d → BR X.K S H t y e → g m d e = some z → (∀ v S' H', Stp S H t S' H' t → HI X.K S' H' t m → DR X.K S' t v z → Q v H') → r x y H Q
def UnD (X : Cx) (f : Value → Sem Value) (g : Store → D → Option D) : Prop :=
  ∃ r : V → Hp → VK → Prop, UnR X f r ∧ ∀ S H t m x d z (Q : VK), HI X.K S H t m → BR X.K S H t x d → g m d = some z → (∀ v S' H', Stp S H t S' H' t → HI X.K S' H' t m → DR X.K S' t v z → Q v H') → r x H Q
/-- .. that makes a new list -/
def OpF (X : Cx) (f : Value → Value → Sem Value) (g : Store → D → D → Option (List D)) : Prop :=
  ∃ r : R2, OpR X f r ∧ ∀ S H t m x y d e zs (Q : VK), HI X.K S H t m → BR X.K S H t x d → BR X.K S H t y e → g m d e = some zs → (∀ p S' H', Stp S H t S' H' t → HI X.K S' H' t m → OwnAt X.K S' H' t p (.lst zs) → H p = none → Q (.ref p) H') → r x y H Q
/-- a call of a built-in by data -/
def CallD (X : Cx) (f : Value) (g : Store → List D → Option D) : Prop :=
  ∃ r : List V → Hp → VK → Prop, CallR X f r ∧ ∀ S H t m xs ds z (Q : VK), HI X.K S H t m → BRs X.K S H t xs ds → g m ds = some z → (∀ v S' H', Stp S H t S' H' t → HI X.K S' H' t m → DR X.K S' t v z → Q v H') → r xs H Q
def CallF (X : Cx) (f : Value) (g : Store → List D → Option (List D)) : Prop :=
  ∃ r : List V → Hp → VK → Prop, CallR X f r ∧ ∀ S H t m xs ds zs (Q : VK), HI X.K S H t m → BRs X.K S H t xs ds → g m ds = some zs → (∀ p S' H', Stp S H t S' H' t → HI X.K S' H' t m → OwnAt X.K S' H' t p (.lst zs) → H p = none → Q (.ref p) H') → r xs H Q
@[simp] def orO {α β γ δ : Type} (g g' : α → β → γ → Option δ) : α → β → γ → Option δ := fun a b c => match g a b c with
  | some z => some z
  | none => g' a b c
theorem OpD.or {f : Value → Value → Sem Value} {g g' : Store → D → D → Option D} (h : OpD X f g) (h' : OpD X f g') : OpD X f (orO g g') := by
  obtain ⟨r, r1, r2⟩ := h
  obtain ⟨r', r1', r2'⟩ := h'
  refine ⟨_, r1.or r1', fun S H t m x y d e z Q i bx b_y hz q => ?_⟩
  unfold orO at hz
  split at hz
  · rename_i w hw
    exact .inl (r2 S H t m x y d e z Q i bx b_y (hw.trans hz) q)
  · exact .inr (r2' S H t m x y d e z Q i bx b_y hz q)
theorem IxD.or {g g' : Store → D → D → Option D} (h : IxD X g) (h' : IxD X g') : IxD X (orO g g') := by
  obtain ⟨r, r1, r2⟩ := h
  obtain ⟨r', r1', r2'⟩ := h'
  refine ⟨_, r1.or r1', fun S H t m x y d e z Q i bx b_y hz q => ?_⟩
  unfold orO at hz
  split at hz
  · rename_i w hw
    exact .inl (r2 S H t m x y d e z Q i bx b_y (hw.trans hz) q)
  · exact .inr (r2' S H t m x y d e z Q i bx b_y hz q)

/-- two operands, then what the operator makes of them -/
theorem sem2 {g : Store → D → D → Option D} {r : R2} {σ : St} {H : Hp} {Q : VK} (hK : X.K = G.K)
    (hr : ∀ S H t m x y d e z (Q : VK), HI X.K S H t m → BR X.K S H t x d → BR X.K S H t y e → g m d e = some z → (∀ v S' H', Stp S H t S' H' t → HI X.K S' H' t m → DR X.K S' t v z → Q v H') → r x y H Q)
    (h : semE G W (bin g fa fb) σ H Q) : tOp r (semB G W fa) (semB G W fb) σ H Q := by
  obtain ⟨S, t, m, e, si, h⟩ := h
  refine ⟨S, t, m, e, si, (Gd.split h).imp fun S1 H1 t1 m1 x p1 i1 ⟨_, _, h1⟩ v rv => ?_⟩
  refine ⟨S1, t1, m1, e, si.stp p1 i1, (Gd.split h1).imp fun S2 H2 t2 m2 y p2 i2 ⟨_, _, h2⟩ w rw' => ?_⟩
  cases hz : g m2 x y with
  | none => rw [hz] at h2; exact h2.elim
  | some z =>
    rw [hz] at h2
    exact hr S2 H2 t2 m2 v w x y z Q (hK ▸ i2) (hK ▸ rv.stp i1 p2) (hK ▸ rw') hz fun u S' H' p i ru => h2 S' H' t2 p (hK ▸ i) u (hK ▸ ru)
theorem de_bin {op : Operator} {g : Store → D → D → Option D} (ho : OpD X (binaryOp op) g) (hK : X.K = G.K) (ha : PE X a (semB G W fa)) (hb : PE X b (semB G W fb)) : PE X (.BinOp a op b pos) (semE G W (bin g fa fb)) := by
  obtain ⟨r, h1, h2⟩ := ho
  exact (pe_op h1 ha hb).imp fun σ H Q h => sem2 hK h2 h
theorem de_cmp {op : CmpOp} {g : Store → D → D → Option D} (ho : OpD X (compareOp op) g) (hK : X.K = G.K) (ha : PE X a (semB G W fa)) (hb : PE X b (semB G W fb)) (hm : behindInMarks op b = false) : PE X (.Compare a [op] [b] pos) (semE G W (bin g fa fb)) := by
  obtain ⟨r, h1, h2⟩ := ho
  exact (pe_cmpR h1 ha hb hm).imp fun σ H Q h => sem2 hK h2 h
theorem de_ix {g : Store → D → D → Option D} (ho : IxD X g) (hK : X.K = G.K) (ha : PE X a (semB G W fa)) (hb : PE X b (semB G W fb)) (hs : PlainIx b) : PE X (.Subscript a b pos) (semE G W (bin g fa fb)) := by
  obtain ⟨r, h1, h2⟩ := ho
  exact (pe_ix h1 ha hb hs).imp fun σ H Q h => sem2 hK h2 h
theorem de_un {op : UnaryOp} {g : Store → D → Option D} (ho : UnD X (unaryOp op) g) (hK : X.K = G.K) (ha : PE X a (semB G W fa)) : PE X (.UnaryOp op a pos) (semE G W (una g fa)) := by
  obtain ⟨r, h1, h2⟩ := ho
  refine (pe_un h1 ha).imp fun σ H Q ⟨S, t, m, e, si, h⟩ => ?_
  refine ⟨S, t, m, e, si, (Gd.split h).imp fun S1 H1 t1 m1 x p1 i1 ⟨_, _, h2'⟩ v rv => ?_⟩
  cases hz : g m1 x with
  | none => rw [hz] at h2'; exact h2'.elim
  | some z =>
    rw [hz] at h2'
    exact h2 S1 H1 t1 m1 v x z Q (hK ▸ i1) (hK ▸ rv) hz fun u S' H' p i ru => h2' S' H' t1 p (hK ▸ i) u (hK ▸ ru)
theorem sem2F {g : Store → D → D → Option (List D)} {r : R2} {σ : St} {H : Hp} {Q : VK} (hK : X.K = G.K)
    (hr : ∀ S H t m x y d e zs (Q : VK), HI X.K S H t m → BR X.K S H t x d → BR X.K S H t y e → g m d e = some zs → (∀ p S' H', Stp S H t S' H' t → HI X.K S' H' t m → OwnAt X.K S' H' t p (.lst zs) → H p = none → Q (.ref p) H') → r x y H Q)
    (h : semF G W (binF g fa fb) σ H Q) : tOp r (semB G W fa) (semB G W fb) σ H Q := by
  obtain ⟨S, t, m, e, si, h⟩ := h
  refine ⟨S, t, m, e, si, (Gd.split h).imp fun S1 H1 t1 m1 x p1 i1 ⟨_, _, h1⟩ v rv => ?_⟩
  refine ⟨S1, t1, m1, e, si.stp p1 i1, (Gd.split h1).imp fun S2 H2 t2 m2 y p2 i2 ⟨_, _, h2⟩ w rw' => ?_⟩
  cases hz : g m2 x y with
  | none => rw [hz] at h2; exact h2.elim
  | some z =>
    rw [hz] at h2
    refine hr S2 H2 t2 m2 v w x y z Q (hK ▸ i2) (hK ▸ rv.stp i1 p2) (hK ▸ rw') hz fun u S' H' p i ru hn => h2 S' H' t2 p (hK ▸ i) u (hK ▸ ru) ?_
    cases q : H u with
    | none => rfl
    | some o => exact absurd hn (p2.dom u (p1.dom u (by rw [q]; simp)))
theorem df_bin {op : Operator} {g : Store → D → D → Option (List D)} (ho : OpF X (binaryOp op) g) (hK : X.K = G.K) (ha : PE X a (semB G W fa)) (hb : PE X b (semB G W fb)) : PE X (.BinOp a op b pos) (semF G W (binF g fa fb)) := by
  obtain ⟨r, h1, h2⟩ := ho
  exact (pe_op h1 ha hb).imp fun σ H Q h => sem2F hK h2 h

/-! ### tests -/
theorem dt_val {e : Expr} {f : EvE} (h : PE X e (semE G W f)) (he : ∀ whole, isTrue e X.env whole = (do let v ← whole; standAt e.pos; holding [v] (truthy v)) := by intro _; rfl) : PT X e (semT G W (blT f)) := by
  refine (pt_val h he).imp fun σ H Q ⟨S, t, m, e, si, g⟩ => ⟨S, t, m, e, si, (Gd.split g).imp fun S1 H1 t1 m1 x p1 i1 ⟨_, _, h2⟩ v rv => ?_⟩
  cases x with
  | bl b => cases rv; exact ⟨b, rfl, Gd.now h2 i1⟩
  | _ => exact h2.elim
theorem dt_cmp {op : CmpOp} {g : Store → D → D → Option D} (ho : OpD X (compareOp op) g) (hK : X.K = G.K) (ha : PE X a (semB G W fa)) (hb : PE X b (semB G W fb)) (hm : behindInMarks op b = false) : PT X (.Compare a [op] [b] pos) (semT G W (blT (bin g fa fb))) := by
  obtain ⟨r, h1, h2⟩ := ho
  refine (pt_cmpR h1 ha hb hm).imp fun σ H Q ⟨S, t, m, e, si, h⟩ => ?_
  refine sem2 (Q := fun x H' => ∃ k, x = .bl k ∧ Q k H') hK h2 ⟨S, t, m, e, si, (Gd.split h).imp fun S1 H1 t1 m1 x p1 i1 ⟨_, _, h2⟩ v rv => ?_⟩
  cases x with
  | bl b => cases rv; exact ⟨b, rfl, Gd.now h2 i1⟩
  | _ => exact h2.elim
variable {ta tb tc : EvT}
theorem dt_not (ha : PT X a (semT G W ta)) : PT X (.UnaryOp .Not a pos) (semT G W (notT ta)) :=
  (pt_not ha).imp fun σ H Q ⟨S, t, m, e, si, g⟩ => ⟨S, t, m, e, si, (Gd.split g).imp fun S1 H1 t1 m1 x p1 i1 ⟨_, _, h2⟩ => h2.now i1⟩
theorem _root_.L2.PW.imp {X : Cx} {e : Expr} {t t' : TT} (h : PW X e t) (w : ∀ σ H Q, t' σ H Q → t σ H Q) : PW X e t' := ⟨fun wh pins s σ H Q I q => h.run wh pins s σ H Q I (w σ H Q q)⟩
theorem dw_and {rest : List Expr} (ha : PT X a (semT G W ta)) (hb : PW X (.BoolOp .And (b :: rest) pos) (semT G W tb)) : PW X (.BoolOp .And (a :: b :: rest) pos) (semT G W (andT ta tb)) := by
  refine (pw_and ha hb).imp fun σ H Q ⟨S, t, m, e, si, g⟩ => ⟨S, t, m, e, si, (Gd.split g).imp fun S1 H1 t1 m1 x p1 i1 ⟨_, _, h2⟩ => ?_⟩
  cases x with
  | true => exact ⟨S1, t1, m1, e, si.stp p1 i1, h2⟩
  | false => exact h2.now i1
theorem dw_or {rest : List Expr} (ha : PT X a (semT G W ta)) (hb : PW X (.BoolOp .Or (b :: rest) pos) (semT G W tb)) : PW X (.BoolOp .Or (a :: b :: rest) pos) (semT G W (orT ta tb)) := by
  refine (pw_or ha hb).imp fun σ H Q ⟨S, t, m, e, si, g⟩ => ⟨S, t, m, e, si, (Gd.split g).imp fun S1 H1 t1 m1 x p1 i1 ⟨_, _, h2⟩ => ?_⟩
  cases x with
  | true => exact h2.now i1
  | false => exact ⟨S1, t1, m1, e, si.stp p1 i1, h2⟩
theorem de_not (ha : PE X a (semE G W fa)) : PE X (.UnaryOp .Not a pos) (semE G W (notE fa)) := by
  refine (pe_not ha).imp fun σ H Q ⟨S, t, m, e, si, g⟩ => ⟨S, t, m, e, si, (Gd.split g).imp fun S1 H1 t1 m1 x p1 i1 ⟨_, _, h2⟩ v rv => ?_⟩
  cases x with
  | bl b => cases rv; exact ⟨b, rfl, Gd.now h2 i1 _ (.bl _)⟩
  | _ => exact h2.elim
theorem de_and {rest : List Expr} (ha : PE X a (semE G W fa)) (hb : PE X (.BoolOp .And (b :: rest) pos) (semE G W fb)) : PE X (.BoolOp .And (a :: b :: rest) pos) (semE G W (andE fa fb)) := by
  refine (pe_and ha hb).imp fun σ H Q ⟨S, t, m, e, si, g⟩ => ⟨S, t, m, e, si, (Gd.split g).imp fun S1 H1 t1 m1 x p1 i1 ⟨_, _, h2⟩ v rv => ?_⟩
  cases x with
  | bl b =>
    cases rv
    refine ⟨b, rfl, ?_⟩
    cases b with
    | true => exact ⟨S1, t1, m1, e, si.stp p1 i1, h2⟩
    | false => exact Gd.now h2 i1 _ (.bl false)
  | _ => exact h2.elim
theorem de_or {rest : List Expr} (ha : PE X a (semE G W fa)) (hb : PE X (.BoolOp .Or (b :: rest) pos) (semE G W fb)) : PE X (.BoolOp .Or (a :: b :: rest) pos) (semE G W (orE fa fb)) := by
  refine (pe_or ha hb).imp fun σ H Q ⟨S, t, m, e, si, g⟩ => ⟨S, t, m, e, si, (Gd.split g).imp fun S1 H1 t1 m1 x p1 i1 ⟨_, _, h2⟩ v rv => ?_⟩
  cases x with
  | bl b =>
    cases rv
    refine ⟨b, rfl, ?_⟩
    cases b with
    | true => exact Gd.now h2 i1 _ (.bl true)
    | false => exact ⟨S1, t1, m1, e, si.stp p1 i1, h2⟩
  | _ => exact h2.elim
theorem de_if (hc : PT X c (semT G W tc)) (ha : PE X a (semE G W fa)) (hb : PE X b (semE G W fb)) : PE X (.IfExp c a b pos) (semE G W (ifE tc fa fb)) := by
  refine (pe_ifExp hc ha hb).imp fun σ H Q ⟨S, t, m, e, si, g⟩ => ⟨S, t, m, e, si, (Gd.split g).imp fun S1 H1 t1 m1 x p1 i1 ⟨_, _, h2⟩ => ?_⟩
  cases x with
  | true => exact ⟨S1, t1, m1, e, si.stp p1 i1, h2⟩
  | false => exact ⟨S1, t1, m1, e, si.stp p1 i1, h2⟩
theorem sem3 {g g' : Store → D → D → Option D} {r r' : R2} {σ : St} {H : Hp} {Q : VK} (hK : X.K = G.K)
    (hr : ∀ S H t m x y d e z (Q : VK), HI X.K S H t m → BR X.K S H t x d → BR X.K S H t y e → g m d e = some z → (∀ v S' H', Stp S H t S' H' t → HI X.K S' H' t m → DR X.K S' t v z → Q v H') → r x y H Q)
    (hr' : ∀ S H t m x y d e z (Q : VK), HI X.K S H t m → BR X.K S H t x d → BR X.K S H t y e → g' m d e = some z → (∀ v S' H', Stp S H t S' H' t → HI X.K S' H' t m → DR X.K S' t v z → Q v H') → r' x y H Q)
    (h : semE G W (chainE g g' fa fb fc) σ H Q) : tChain r r' (semB G W fa) (semB G W fb) (semB G W fc) σ H Q := by
  obtain ⟨S, t, m, e, si, h⟩ := h
  refine ⟨S, t, m, e, si, (Gd.split h).imp fun S1 H1 t1 m1 x p1 i1 ⟨_, _, h1⟩ v rv => ?_⟩
  have si1 := si.stp p1 i1
  refine ⟨S1, t1, m1, e, si1, (Gd.split h1).imp fun S2 H2 t2 m2 y p2 i2 ⟨_, _, h2⟩ w rw' => ?_⟩
  have si2 := si1.stp p2 i2
  cases hz : g m2 x y with
  | none => rw [hz] at h2; exact h2.elim
  | some z =>
    rw [hz] at h2
    refine hr S2 H2 t2 m2 v w x y z _ (hK ▸ i2) (hK ▸ rv.stp i1 p2) (hK ▸ rw') hz fun u S3 H3 p3 i3 ru => ?_
    have i3 : HI G.K S3 H3 t2 m2 := hK ▸ i3
    have si3 := si2.stp p3 i3
    cases z with
    | bl k =>
      cases ru
      refine ⟨k, rfl, ?_⟩
      have h3 := Gd.from p3 h2
      cases k with
      | false => exact Gd.now h3 i3 _ (.bl false)
      | true =>
        have h3 : Gd G W σ S3 H3 t2 ((fc G.C e m2).bind fun w m3 => R.of (g' m3 y w) m3) _ := h3
        refine ⟨S3, t2, m2, e, si3, (Gd.split h3).imp fun S4 H4 t4 m4 c p4 i4 ⟨_, _, h4⟩ c' rc => ?_⟩
        cases hz' : g' m4 y c with
        | none => rw [hz'] at h4; exact h4.elim
        | some z' =>
          rw [hz'] at h4
          exact hr' S4 H4 t4 m4 w c' y c z' Q (hK ▸ i4) (hK ▸ ((rw'.stp i2 p3).stp i3 p4)) (hK ▸ rc) hz' fun u' S' H' p i ru' => h4 S' H' t4 p (hK ▸ i) u' (hK ▸ ru')
    | _ => exact h2.elim
end
end Dn
/-! Arguments, displays, calls. -/
namespace Dn
open PySem L2

section
variable {X : Cx} {G : Cfg} {W : WX} {a b c : Expr} {es : List Expr} {fa fb fc : EvE} {fs : EvA} {pos : Pos}
/-! ### arguments -/
theorem da_nil : PA X [] (semA G W nilA) := (pa_nil (X := X)).imp fun σ H Q ⟨S, t, m, e, si, g⟩ => g.now si.hi [] .nil
theorem da_cons (ha : PE X a (semE G W fa)) (hr : PA X es (semA G W fs)) (hs : starEach (a :: es) X.env = (false, eval a X.env) :: starEach es X.env := by rfl) : PA X (a :: es) (semA G W (consA fa fs)) := by
  refine (pa_cons ha hr hs).imp fun σ H Q ⟨S, t, m, e, si, g⟩ => ⟨S, t, m, e, si, (Gd.split g).imp fun S1 H1 t1 m1 x p1 i1 ⟨_, _, h1⟩ v rv => ?_⟩
  refine ⟨S1, t1, m1, e, si.stp p1 i1, (Gd.split h1).imp fun S2 H2 t2 m2 xs p2 i2 ⟨_, _, h2⟩ vs rs => ?_⟩
  exact Gd.now h2 i2 (v :: vs) (.cons (rv.stp i1 p2) rs)
theorem db_nil : PA X [] (semAB G W nilA) := (pa_nil (X := X)).imp fun σ H Q ⟨S, t, m, e, si, g⟩ => g.now si.hi [] .nil
theorem db_cons (ha : PE X a (semB G W fa)) (hr : PA X es (semAB G W fs)) (hs : starEach (a :: es) X.env = (false, eval a X.env) :: starEach es X.env := by rfl) : PA X (a :: es) (semAB G W (consA fa fs)) := by
  refine (pa_cons ha hr hs).imp fun σ H Q ⟨S, t, m, e, si, g⟩ => ⟨S, t, m, e, si, (Gd.split g).imp fun S1 H1 t1 m1 x p1 i1 ⟨_, _, h1⟩ v rv => ?_⟩
  refine ⟨S1, t1, m1, e, si.stp p1 i1, (Gd.split h1).imp fun S2 H2 t2 m2 xs p2 i2 ⟨_, _, h2⟩ vs rs => ?_⟩
  exact Gd.now h2 i2 (v :: vs) (.cons (rv.stp i1 p2) rs)

/-! ### displays -/
/-- at most this many items are written in a display -/
def short {α : Type} (xs : List α) : Bool := decide (xs.length ≤ 100000)
theorem short_le {α : Type} {xs : List α} (h : short xs = true) : xs.length ≤ sizeLine := by
  have := of_decide_eq_true h
  exact Nat.le_trans this (by decide)
@[simp] def tupG : Store → List D → Option D := fun _ xs => if short xs = true then some (.tup xs) else none
@[simp] def lstG : Store → List D → Option (List D) := fun _ xs => if short xs = true then some xs else none
theorem de_tup {x1} (h : PA X es (semA G W fs)) : PE X (.Tuple es x1 pos) (semE G W (bltE tupG fs)) := by
  refine (pe_tup h).imp fun σ H Q ⟨S, t, m, e, si, g⟩ => ⟨S, t, m, e, si, (Gd.split g).imp fun S1 H1 t1 m1 xs p1 i1 ⟨_, _, h1⟩ vs rs => ?_⟩
  unfold tupG at h1
  by_cases c : short xs = true
  · rw [if_pos c] at h1
    refine ⟨by rw [rs.length]; exact short_le c, fun p hp => ?_⟩
    obtain ⟨i2, p2⟩ := new_hi (o := .tup vs) i1 hp
    exact h1 _ _ _ p2 i2 _ (.tup (SqT.of upd_same) (rs.stp i1 p2))
  · rw [if_neg c] at h1; exact h1.elim
theorem df_lst (h : PA X es (semA G W fs)) : PE X (.List es pos) (semF G W (bltF lstG fs)) := by
  refine (pe_lst h).imp fun σ H Q ⟨S, t, m, e, si, g⟩ => ⟨S, t, m, e, si, (Gd.split g).imp fun S1 H1 t1 m1 xs p1 i1 ⟨_, _, h1⟩ vs rs => ?_⟩
  unfold lstG at h1
  by_cases c : short xs = true
  · rw [if_pos c] at h1
    refine ⟨by rw [rs.length]; exact short_le c, fun p hp => ?_⟩
    obtain ⟨i2, p2⟩ := new_hi0 (o := .lst vs) i1 hp
    have hS : S1 p = none := by
      cases q : S1 p with
      | none => rfl
      | some o => rw [i1.sub p o q] at hp; cases hp
    refine h1 _ _ _ p2 i2 p ⟨hS, fun n q => (i1.off n p q).2 hp, xs, vs, rfl, upd_same, rs⟩ ?_
    cases q : H p with
    | none => rfl
    | some o => exact absurd hp (p1.dom p (by rw [q]; simp))
  · rw [if_neg c] at h1; exact h1.elim
/-- a new list, settled at once -/
theorem OwnAt.settle {K : PySem.W.Frag} {S S' H H' : Hp} {t t' : Th} {m : Store} {p : Addr} {xs : List D} (i : HI K S' H' t' m) (q : Stp S H t S' H' t') (ho : OwnAt K S' H' t' p (.lst xs)) (hn : H p = none) :
    ∃ S2, Stp S H t S2 H' t' ∧ HI K S2 H' t' m ∧ DR K S2 t' (.ref p) (.lst xs) := by
  obtain ⟨off, nt, xs', vs, e, hp, r⟩ := ho
  cases e
  refine ⟨upd S' p (.lst vs), ⟨q.keep, q.dom, fun a ha => ?_, q.th, q.thn⟩, settle_hi i off hp nt, .lst upd_same (r.mono (fun a o e => ?_) (.refl t'))⟩
  · rw [upd_ne (fun z => ha (by rw [z]; exact hn))]; exact q.hs a ha
  · rw [upd_ne (ne_of_none e off)]; exact e
theorem de_frz {e : Expr} (h : PE X e (semF G W fs)) : PE X e (semE G W (frzE fs)) := by
  refine h.imp fun σ H Q ⟨S, t, m, e, si, g⟩ => ⟨S, t, m, e, si, ?_⟩
  unfold frzE at g
  revert g
  cases fs G.C e m with
  | ok ys m2 =>
    intro g S' H' t' q i p ho hn
    obtain ⟨S2, q2, i2, r⟩ := ho.settle i q hn
    exact g S2 H' t' q2 i2 _ r
  | exc c fs m' => exact id
  | stuck => exact id

/-! ### built-ins -/
theorem de_blt {id x : Str} {pp : Pos} {f : Value} {g : Store → List D → Option D} (ho : CallD X f g) (hK : X.K = G.K)
    (hp : ∀ r : List V → Hp → VK → Prop, CallR X f r → ∀ t, PA X (a :: es) t → PE X (.Call (.Name x pp) (a :: es) [] pos) (tCB r t)) (ha : PA X (a :: es) (semAB G W fs)) : PE X (.Call (.Name x pp) (a :: es) [] pos) (semE G W (bltE g fs)) := by
  obtain ⟨r, h1, h2⟩ := ho
  refine (hp r h1 _ ha).imp fun σ H Q ⟨S, t, m, e, si, h⟩ => ⟨S, t, m, e, si, (Gd.split h).imp fun S1 H1 t1 m1 xs p1 i1 ⟨_, _, h3⟩ vs rs => ?_⟩
  cases hz : g m1 xs with
  | none => rw [hz] at h3; exact h3.elim
  | some z =>
    rw [hz] at h3
    exact h2 S1 H1 t1 m1 vs xs z Q (hK ▸ i1) (hK ▸ rs) hz fun u S' H' p i ru => h3 S' H' t1 p (hK ▸ i) u (hK ▸ ru)
theorem df_blt {id x : Str} {pp : Pos} {f : Value} {g : Store → List D → Option (List D)} (ho : CallF X f g) (hK : X.K = G.K)
    (hp : ∀ r : List V → Hp → VK → Prop, CallR X f r → ∀ t, PA X (a :: es) t → PE X (.Call (.Name x pp) (a :: es) [] pos) (tCB r t)) (ha : PA X (a :: es) (semAB G W fs)) : PE X (.Call (.Name x pp) (a :: es) [] pos) (semF G W (bltF g fs)) := by
  obtain ⟨r, h1, h2⟩ := ho
  refine (hp r h1 _ ha).imp fun σ H Q ⟨S, t, m, e, si, h⟩ => ⟨S, t, m, e, si, (Gd.split h).imp fun S1 H1 t1 m1 xs p1 i1 ⟨_, _, h3⟩ vs rs => ?_⟩
  cases hz : g m1 xs with
  | none => rw [hz] at h3; exact h3.elim
  | some z =>
    rw [hz] at h3
    refine h2 S1 H1 t1 m1 vs xs z Q (hK ▸ i1) (hK ▸ rs) hz fun u S' H' p i ru hn => h3 S' H' t1 p (hK ▸ i) u (hK ▸ ru) ?_
    cases q : H u with
    | none => rfl
    | some o => exact absurd hn (p1.dom u (by rw [q]; simp))

/-! ### the defs of the program -/
/-- a def's promise -/
def spD (G : Cfg) (f np : Nat) : Sp := fun vs H Q E => vs.length = np ∧ ∃ S t m ds, HI G.K S H t m ∧ DRs G.K S t vs ds ∧ Gd G (fun c d _ H' => E c d H') [] S H t (G.C f ds m) fun S' H' t' _ d => ∀ v, DR G.K S' t' v d → Q v H'
/-- what is known of a def -/
structure Fnc (P : Program) (w : World) (K : PySem.W.Frag) (mg : Str → Option Value) (base : Heap) (G : Cfg) (n f np : Nat) (x : Str) : Prop where
  ok : ∃ (a : Addr) (fd : FuncData) (ps : List Str), FnOk P w K mg base (L2N.CX P w) n a fd ps (spD G f np) ∧ mg x = some (.ref a) ∧ PySem.W.keepIn K (.ref a) = true ∧ Binds K fd ps []
/-- .. and within an except suite -/
structure FncH (P : Program) (w : World) (K : PySem.W.Frag) (mg : Str → Option Value) (base : Heap) (G : Cfg) (n f np : Nat) (x : Str) : Prop where
  ok : ∃ (a : Addr) (fd : FuncData) (ps : List Str), L2H.FnH P w K mg base (L2N.CX P w) n a fd ps (spD G f np) ∧ mg x = some (.ref a) ∧ PySem.W.keepIn K (.ref a) = true ∧ Binds K fd ps []
theorem fn_use {np f : Nat} {σ : St} {H : Hp} {Q : VK} (np_ok : ∀ e m xs m', fs G.C e m = .ok xs m' → xs.length = np) (h : semE G W (fnE f fs) σ H Q) : tCallS (spD G f np) (WE W) (semA G W fs) σ H Q := by
  obtain ⟨S, t, m, e, si, h⟩ := h
  refine ⟨S, t, m, e, si, ?_⟩
  have k := np_ok e m
  unfold fnE at h
  revert h k
  cases fs G.C e m with
  | ok ys m2 =>
    intro h k S1 H1 t1 q i vs rs
    refine ⟨rs.length.trans (k ys m2 rfl), S1, t1, m2, ys, i, rs, ?_⟩
    have h' := Gd.from q h
    revert h'
    show Gd G W σ S1 H1 t1 (G.C f ys m2) _ → _
    cases G.C f ys m2 with
    | ok d m3 => exact id
    | exc c gs m3 => exact id
    | stuck => exact id
  | exc c fs m' => exact fun h _ => h
  | stuck => exact fun h _ => h
/-- f(e, ..), n arguments -/
def lenA (f : EvA) (n : Nat) : Prop := ∀ C e m xs m', f C e m = .ok xs m' → xs.length = n
theorem lenA_nil : lenA nilA 0 := fun C e m xs m' h => by cases h; rfl
theorem lenA_cons {n : Nat} (h : lenA fs n) : lenA (consA fa fs) (n + 1) := fun C e m xs m' q => by
  unfold consA at q
  cases q1 : fa C e m with
  | ok x m1 =>
    rw [q1] at q
    simp only [R.bind_ok] at q
    cases q2 : fs C e m1 with
    | ok ys m2 =>
      rw [q2] at q
      simp only [R.bind_ok] at q
      cases q
      simp [h C e m1 ys _ q2]
    | exc c gs m2 => rw [q2] at q; cases q
    | stuck => rw [q2] at q; cases q
  | exc c gs m2 => rw [q1] at q; cases q
  | stuck => rw [q1] at q; cases q
theorem de_fn {n f np : Nat} {x : Str} {p : Pos} (F : Fnc X.prog X.w X.K X.mg X.base G n f np x) (hr : Room n X.A) (tk : L2N.Takes X W) (hg : Gl X x) (ha : PA X (a :: es) (semA G W fs)) (hn : lenA fs np)
    (hdb : (x == ("__debug__" : Str)) = false := by decide) (he : starEach (a :: es) X.env = (false, eval a X.env) :: starEach es X.env := by rfl) (hpl : (backTo pos (starEach es X.env)).any (·.1) = false := by rfl) :
    PE X (.Call (.Name x p) (a :: es) [] pos) (semE G W (fnE f fs)) := by
  obtain ⟨ad, fd, ps, F, hm, hk, hb⟩ := F.ok
  exact (pe_callS F hr hg hm hk hb (fun σ => L2N.passAt tk σ) ha hdb he hpl).imp fun σ H Q h => fn_use (fun e m xs m' q => hn G.C e m xs m' q) h
/-- f() -/
theorem de_fn0 {n f : Nat} {x : Str} {p : Pos} (F : Fnc X.prog X.w X.K X.mg X.base G n f 0 x) (hr : Room n X.A) (tk : L2N.Takes X W) (hg : Gl X x) (hdb : (x == ("__debug__" : Str)) = false := by decide) :
    PE X (.Call (.Name x p) [] [] pos) (semE G W (fnE f nilA)) := by
  obtain ⟨ad, fd, ps, F, hm, hk, hb⟩ := F.ok
  refine ⟨fun pins s σ H Q I h => ?_⟩
  obtain ⟨S, t, m, e, si, h⟩ := h
  refine wpAny_Call_Name_kw (ld_glob I hg hm ?_ hdb)
  refine PySem.W.callWith_K0 I.kIn hk (run_fnS (E := WE W) (us := []) (vs := []) F hr hb (L2N.passAt tk σ) I .nil ⟨rfl, S, t, m, [], si.hi, .nil, ?_⟩)
  have h' : Gd G W σ S H t (G.C f [] m) _ := h
  revert h'
  cases G.C f [] m with
  | ok d m3 => exact id
  | exc c gs m3 => exact id
  | stuck => exact id
theorem de_fnH {n f np : Nat} {x : Str} {p : Pos} (F : FncH X.prog X.w X.K X.mg X.base G n f np x) (hr : L2H.RoomH n X.A) (hc : L2H.HotC X) (tk : L2N.Takes X W) (hg : Gl X x) (ha : PA X (a :: es) (semA G W fs)) (hn : lenA fs np)
    (hdb : (x == ("__debug__" : Str)) = false := by decide) (he : starEach (a :: es) X.env = (false, eval a X.env) :: starEach es X.env := by rfl) (hpl : (backTo pos (starEach es X.env)).any (·.1) = false := by rfl) :
    PE X (.Call (.Name x p) (a :: es) [] pos) (semE G W (fnE f fs)) := by
  obtain ⟨ad, fd, ps, F, hm, hk, hb⟩ := F.ok
  exact (L2H.pe_callH F hr hc hg hm hk hb (fun σ => L2N.passAt tk σ) ha hdb he hpl).imp fun σ H Q h => fn_use (fun e m xs m' q => hn G.C e m xs m' q) h
end
end Dn
/-! What is walked; targets; comprehensions. -/
namespace PySem
set_option maxHeartbeats 4000000 in
theorem dn_enum_newB {v : Value} {o : Obj} {H : Heap → Prop} (B : Begins v o H) :
    Meets (Builtin.«enumerate.__new__» ⟨[.type "enumerate", v], []⟩) (fun _ R s => H s.heap ∧
      R (.ok (.ret (.ref (s.heap.push o).objs.size))) { s with heap := (s.heap.push o).push { cls := .type "enumerate", data := .fields #[.none, .bool false, .ref s.heap.objs.size, rawInt 0, .none, .none] } }) :=
  .of_wp fun prog w A R s h => by
    obtain ⟨hp, g, d, tk, os⟩ := s; obtain ⟨h1, h⟩ := h
    have hsub := sub_enumerate
    have q1 : ∀ {A' : Around} {E : Value → Shared → Prop} {Q : Value → Shared → Prop}, Q (.ref hp.objs.size) ⟨hp.push o, g, d, tk, os⟩ → wpAny (model prog w) A' (pyIter v) Q E ⟨hp, g, d, tk, os⟩ :=
      fun q => B.iter prog w _ _ ⟨hp, g, d, tk, os⟩ _ h1 q
    wp_walk using q1
    refine wpAny_stack_any fun st => wpAny_pure ?_
    split
    · rename_i c _ _ _ _ _
      cases (c == Value.type "enumerate")
      · wp_walk using q1
        exact ⟨_, rfl, h⟩
      · wp_walk using q1
        exact ⟨_, rfl, h⟩
    · wp_walk using q1
      exact ⟨_, rfl, h⟩
section
variable {prog : Program} {w : World} {A : Around} {E : Value → Shared → Prop} {s : Shared}
theorem dn_call_enum {v : Value} {o : Obj} {H : Heap → Prop} {Q : Value → Shared → Prop} (B : Begins v o H) (h1 : H s.heap)
    (h : ∀ h', IsEnum h' (s.heap.objs.size + 1) s.heap.objs.size 0 .none → h'.get? s.heap.objs.size = some o → h'.objs.size = s.heap.objs.size + 2 →
      (∀ b o, s.heap.get? b = some o → h'.get? b = some o) → Q (.ref (s.heap.objs.size + 1)) { s with heap := h' }) :
    wpAny (model prog w) A (call (.type "enumerate") [v]) Q E s := by
  refine callType_new F.called_enumerate (by decide) (F.typeCall_enumerate_1 _) (F.newCall_enumerate_1 _) (fun obj => F.args_object_init_2 obj _) F.entry_enumerate_new
    (dn_enum_newB B) ⟨h1, ?_⟩
  have hz : (s.heap.push o).objs.size = s.heap.objs.size + 1 := Heap.size_push ..
  show _ ∧ _
  rw [hz]
  have he : IsEnum ((s.heap.push o).push { cls := .type "enumerate", data := .fields #[.none, .bool false, .ref s.heap.objs.size, rawInt 0, .none, .none] }) (s.heap.objs.size + 1) s.heap.objs.size 0 .none := by
    have := Heap.get?_push_size (s.heap.push o) (o := { cls := .type "enumerate", data := .fields #[.none, .bool false, .ref s.heap.objs.size, rawInt 0, .none, .none] }) rfl
    rw [hz] at this; exact this
  refine ⟨⟨_, he, rfl⟩, h _ he (Heap.get?_push_of_some _ (Heap.get?_push_size _ B.free)) (by rw [Heap.size_push, hz]) fun b o x => Heap.get?_push_of_some _ (Heap.get?_push_of_some _ x)⟩
end
end PySem

namespace Dn
open PySem L2
/-- the tuple at a, its items in new pairs with their numbers -/
def IteT (K : PySem.W.Frag) (a : Addr) : It :=
  ⟨fun i H => ∃ xs x, SqT K H a xs ∧ xs[i]? = some x, fun i H v H' => ∃ T x, v = .ref T ∧ H T = none ∧ H' = upd H T (.tup [.int (i : Nat), x]) ∧ ∀ xs, SqT K H a xs → xs[i]? = some x, fun i H => ∃ xs, SqT K H a xs ∧ xs.length ≤ i⟩
theorem turn_enumT {P : Program} {w : World} {K : PySem.W.Frag} {elts : List Expr} {kk : Nat} {tpos : Pos} (a e it : Addr) :
    Turn P w K (.Tuple elts kk tpos) (IteT K a) [e, it] e (fun i h => (∃ old, IsEnum h e it ((i : Nat) : Int) old) ∧ h.IsTupleIter it a i ∧ e ≠ it ∧ e ≠ a ∧ a ≠ it) where
  mem := by simp
  obj := fun i h st b hb => by
    obtain ⟨⟨old, he⟩, ⟨o, ho, hc, hd⟩, _⟩ := st
    have e' : b = e ∨ b = it := by simpa using hb
    rcases e' with z | z
    · rw [z]; exact ⟨_, he, fun v q => nomatch q⟩
    · rw [z]; exact ⟨o, ho, fun v q => by rw [hd] at q; cases q⟩
  keep := fun i h h' st k => let ⟨⟨old, he⟩, hi, hne⟩ := st; ⟨⟨old, k e (by simp) _ he⟩, hi.at fun o q => k it (by simp) o q, hne⟩
  item := by
    intro X hP hw hK hc i pins s σ H E I hf st hg
    subst hP hw hK
    obtain ⟨⟨old, he⟩, hit, hne, hea, hai⟩ := st
    obtain ⟨xs, x, hq, hx⟩ := hg
    obtain ⟨its, rv, p, hz⟩ := I.tuple hq
    obtain ⟨u, hu, ru⟩ := rv.get hx
    have hel : e < s.heap.objs.size := Heap.lt_size he
    have hil : it < s.heap.objs.size := by obtain ⟨_, q, _⟩ := hit; exact Heap.lt_size q
    have pt : s.heap.IsTuple a its.toArray := p
    have hlt : i < its.toArray.size := by
      have := (List.getElem?_eq_some_iff.mp hu).1
      simpa using this
    refine wpAny_pyNext_enum_itemD (Draws.tuple (prog := X.prog) (w := X.w) (A := X.A.in1) (I.ok.hd hc) it a hai its.toArray) he ⟨hit, pt⟩ hlt hne (by simp [hne, hea]) fun x' h' tk hP ho hit' hT hsz hk => ?_
    have hxu : x' = u := by
      have h1 : its.toArray[i]? = some u := by simpa using hu
      have hP' : its.toArray[i]? = some x' := hP
      rw [h1] at hP'; exact (Option.some.inj hP').symm
    subst hxu
    refine ⟨_, rfl, wpAny_letOwnedTupleGo_enum (s := { s with heap := h', toks := tk + 1 }) ho fun h'' he' sb => ?_⟩
    have hT2 : h''.get? s.heap.objs.size = some { cls := .type "tuple", data := .seq #[.int i tk, x'] } := (sb.2 _ (Nat.ne_of_gt hel)).trans hT
    have new : ObjOk X.prog X.w (upd H s.heap.objs.size (.tup [.int (i : Nat), x])) h'' s.heap.objs.size (.tup [.int (i : Nat), x]) :=
      ⟨by show 2 ≤ sizeLine; decide, [.int i tk, x'], .cons ⟨_, rfl⟩ (.cons ru .nil), ⟨_, hT2, rfl, _, rfl⟩⟩
    have I1 : Inv X pins σ (upd H s.heap.objs.size (.tup [.int (i : Nat), x])) { s with heap := h'', toks := tk + 1 } :=
      I.turnedNew (ch := [e, it]) (fun b ob hb q => (sb.2 b (fun z => hb (by simp [z]))).trans (hk b ob (fun z => hb (by simp [z])) (fun z => hb (by simp [z])) q)) hf (Nat.le_refl _) new
    refine ⟨.ref s.heap.objs.size, _, I1, rfl, ⟨_, x, rfl, I.hok.fresh (Nat.le_refl _), rfl, fun ys hy => by rw [I.tuple_inj hy hq]; exact hx⟩, ⟨⟨x', ?_⟩, hit'.1.at fun o q => (sb.2 it (Ne.symm hne)).trans q, hne, hea, hai⟩, fun b hb => ?_⟩
    · have e1 : ((i + 1 : Nat) : Int) = (i : Int) + 1 := by omega
      rw [e1]; exact he'
    · have hb' : b < s.heap.objs.size := by
        have e' : b = e ∨ b = it := by simpa using hb
        rcases e' with z | z
        · rw [z]; exact hel
        · rw [z]; exact hil
      rw [upd_ne (Nat.ne_of_lt hb')]
      exact (hf b hb).1
  done := by
    intro X hP hw hK hc i pins s σ H E I hf st hg
    subst hP hw hK
    obtain ⟨⟨old, he⟩, hit, hne, hea, hai⟩ := st
    obtain ⟨xs, hq, hx⟩ := hg
    obtain ⟨its, rv, p, hz⟩ := I.tuple hq
    obtain ⟨f0, f1, f2, f3, f4, f5⟩ := hf it (by simp)
    have hl := rv.length
    have pt : s.heap.IsTuple a its.toArray := p
    unfold pyNext
    refine wpAny_bind (wpAny_attempt (wpAny_callSpecial?_slot (name := Str.ofString "__next__") ⟨_, he, rfl⟩ F.slot_enumerate_next
      (wpAny_call_entry F.slot_enumerate_next ⟨_, he, rfl⟩ F.entry_enumerate_next ?_ (F.args_enumerate_next_1 _))))
    show wpAny _ _ (field (.ref e) 2 >>= _) _ _ _
    refine wpAny_bind (wpAny_field he rfl (x := .ref it) rfl ?_)
    refine wpAny_bind (wpAny_nextOf_tuple_end (show X.A.in1.handled = none from I.ok.hd hc) hit pt (by simp; omega) fun h' x eb hx' => ?_)
    obtain ⟨o, ho, hc'⟩ := hx'
    refine wpAny_bind (wpAny_isInstance (T := "StopIteration") (b := true) ⟨o, ho, hc'⟩ isSubtype_stop ?_)
    exact wpAny_pure ⟨rfl, I.turned (t' := s.toks) (fun b o hb q => eb b o hb q) f0 f1 f3 f4 f5⟩
  self := fun A i s Q E st h => let ⟨⟨_, he⟩, _⟩ := st; wpAny_pyIter_enum he h
end Dn
/-! What is walked, by data; targets. -/
namespace Dn
open PySem L2

theorem Gd.sp {G : Cfg} {W : WX} {σ : St} {S H : Hp} {t : Th} {α β : Type} {r : R α} {f : α → Store → R β} {P : Hp → Hp → Th → Store → β → Prop} (h : Gd G W σ S H t (r.bind f) P) :
    Gd G W σ S H t r (fun S1 H1 t1 m1 a => Gd G W σ S1 H1 t1 (f a m1) P) := (Gd.split h).imp fun _ _ _ _ _ _ _ q => q.2.2
/-- what J yields are these, from now on -/
structure ItR (K : PySem.W.Frag) (S : Hp) (t : Th) (J : It) (ds : List D) : Prop where
  len : ds.length ≤ sizeLine
  go : ∀ (i : Nat) d S2 H2 t2 m2, ds[i]? = some d → Sub S S2 → TSub t t2 → HI K S2 H2 t2 m2 → J.go i H2 ∧ ∀ x H', J.yld i H2 x H' → ∃ S', Stp S2 H2 t2 S' H' t2 ∧ HI K S' H' t2 m2 ∧ DR K S' t2 x d
  stop : ∀ S2 H2 t2 m2, Sub S S2 → TSub t t2 → HI K S2 H2 t2 m2 → J.stop ds.length H2
def semI (G : Cfg) (W : WX) (f : EvA) : TI := fun σ H R => ∃ S t m e, SI G.K G.x S H t m σ e ∧ Gd G W σ S H t (f G.C e m) fun S' H' t' _ ds => ∀ J, ItR G.K S' t' J ds → R J H'
theorem _root_.L2.PI.imp {X : Cx} {tg e : Expr} {t t' : TI} (h : PI X tg e t) (w : ∀ σ H R, t' σ H R → t σ H R) : PI X tg e t' := ⟨fun pins s σ H R I q => h.run pins s σ H R I (w σ H R q)⟩

/-- a list, a tuple or a text -/
def iSeq (K : PySem.W.Frag) (tl : TE) : TI := fun σ H R => tl σ H fun x H1 =>
  (∃ a xs, x = .ref a ∧ SqL K H1 a xs ∧ (xs.length ≤ sizeLine → R (Itl K a) H1)) ∨ (∃ a xs, x = .ref a ∧ SqT K H1 a xs ∧ (xs.length ≤ sizeLine → R (Itt K a) H1)) ∨ ∃ z, x = .str z ∧ R (Its z) H1
theorem pi_seq {X : Cx} {tg l : Expr} {tl : TE} (hl : PE X l tl) : PI X tg l (iSeq X.K tl) := by
  refine ⟨fun pins s σ H R I h => ?_⟩
  refine thn (hl.run pins s σ H _ I h) fun v s1 ⟨x, H1, I1, r1, q1⟩ => ?_
  rcases q1 with ⟨a, xs, e, hq, q⟩ | ⟨a, xs, e, hq, q⟩ | ⟨z, e, q⟩
  · subst e
    cases r1
    obtain ⟨its, rv, p, hz⟩ := I1.list hq
    refine wpAny_pyIter_list p.isList ?_
    refine ⟨s1.heap.objs.size, [s1.heap.objs.size], _, _, H1, rfl, I1.kept (t' := s1.toks) fun b o e => Heap.get?_push_of_some _ e, turn_list a _, ⟨_, Heap.get?_push_size _ rfl, rfl, rfl⟩, fun b hb => ?_, q hz⟩
    have e : b = s1.heap.objs.size := by simpa using hb
    subst e
    exact I1.fpOk (Nat.le_refl _) (I1.hok.fresh (Nat.le_refl _))
  · subst e
    cases r1
    obtain ⟨its, rv, p, hz⟩ := I1.tuple hq
    refine wpAny_pyIter_tuple (show s1.heap.IsTuple a its.toArray from p) ?_
    refine ⟨s1.heap.objs.size, [s1.heap.objs.size], _, _, H1, rfl, I1.kept (t' := s1.toks) fun b o e => Heap.get?_push_of_some _ e, turn_tuple a _, ⟨_, Heap.get?_push_size _ rfl, rfl, rfl⟩, fun b hb => ?_, q hz⟩
    have e : b = s1.heap.objs.size := by simpa using hb
    subst e
    exact I1.fpOk (Nat.le_refl _) (I1.hok.fresh (Nat.le_refl _))
  · subst e
    obtain ⟨t, rfl⟩ := r1
    cases ha : z.cps.all (· < 128)
    · exact wpAny_pyIter_wide ha (pi_one (tk := s1.toks) I1 _ (turn_str _ z t "str_iterator" (.inr rfl)) ⟨_, Heap.get?_push_size _ rfl, rfl, rfl⟩ q)
    · exact wpAny_pyIter_ascii ha (pi_one (tk := s1.toks) I1 _ (turn_str _ z t "str_ascii_iterator" (.inl rfl)) ⟨_, Heap.get?_push_size _ rfl, rfl, rfl⟩ q)

section
variable {K : PySem.W.Frag} {S H : Hp} {t : Th} {m : Store}
theorem itr_list {a : Addr} {vs : List V} {ds : List D} (h : SqL K S a vs) (hd : DRs K S t vs ds) (hl : vs.length ≤ sizeLine) : ItR K S t (Itl K a) ds where
  len := by rw [← hd.length]; exact hl
  go := fun i d S2 H2 t2 m2 e ss ts i2 => by
    obtain ⟨v, h1, h2⟩ := hd.get e
    have q : SqL K H2 a vs := i2.sub.sqL (ss.sqL h)
    refine ⟨⟨vs, v, q, h1⟩, fun x H' ⟨e1, e2⟩ => ?_⟩
    subst e1
    have := e2 vs q
    rw [h1] at this
    cases this
    exact ⟨S2, .refl, i2, h2.mono ss ts⟩
  stop := fun S2 H2 t2 m2 ss ts i2 => ⟨vs, i2.sub.sqL (ss.sqL h), by rw [hd.length]; exact Nat.le_refl _⟩
theorem itr_tup {a : Addr} {vs : List V} {ds : List D} (h : SqT K S a vs) (hd : DRs K S t vs ds) (hl : vs.length ≤ sizeLine) : ItR K S t (Itt K a) ds where
  len := by rw [← hd.length]; exact hl
  go := fun i d S2 H2 t2 m2 e ss ts i2 => by
    obtain ⟨v, h1, h2⟩ := hd.get e
    have q : SqT K H2 a vs := i2.sub.sqT (ss.sqT h)
    refine ⟨⟨vs, v, q, h1⟩, fun x H' ⟨e1, e2⟩ => ?_⟩
    subst e1
    have := e2 vs q
    rw [h1] at this
    cases this
    exact ⟨S2, .refl, i2, h2.mono ss ts⟩
  stop := fun S2 H2 t2 m2 ss ts i2 => ⟨vs, i2.sub.sqT (ss.sqT h), by rw [hd.length]; exact Nat.le_refl _⟩
/-- the signs of a text -/
def signs (z : Str) : List D := z.cps.toList.map fun c => .str ⟨#[c]⟩
theorem itr_str {z : Str} (hl : z.length ≤ sizeLine) : ItR K S t (Its z) (signs z) where
  len := by unfold signs; simpa [Str.length] using hl
  go := fun i d S2 H2 t2 m2 e ss ts i2 => by
    unfold signs at e
    rw [List.getElem?_map] at e
    cases q : z.cps.toList[i]? with
    | none => rw [q] at e; cases e
    | some c =>
      rw [q] at e
      cases e
      have hi : i < z.cps.size := by simpa using (List.getElem?_eq_some_iff.mp q).1
      refine ⟨hi, fun x H' ⟨e1, c', e2, e3⟩ => ?_⟩
      subst e1 e3
      have : c' = c := by
        have q' : z.cps[i]? = some c := by simpa using q
        rw [q'] at e2; exact (Option.some.inj e2).symm
      subst this
      exact ⟨S2, .refl, i2, .str _⟩
  stop := fun S2 H2 t2 m2 ss ts i2 => by
    show z.cps.size ≤ (signs z).length
    unfold signs; simp
def rng (lo : Int) (n : Nat) : List D := (List.range n).map fun i : Nat => .int (lo + i)
theorem itr_range {lo : Int} {n : Nat} (hl : n ≤ sizeLine) : ItR K S t (Itr lo n) (rng lo n) where
  len := by unfold rng; simpa using hl
  go := fun i d S2 H2 t2 m2 e ss ts i2 => by
    unfold rng at e
    rw [List.getElem?_map] at e
    by_cases h : i < n
    · rw [List.getElem?_range h] at e
      cases e
      refine ⟨h, fun x H' ⟨e1, e2⟩ => ?_⟩
      subst e1 e2
      exact ⟨S2, .refl, i2, .int _⟩
    · rw [List.getElem?_eq_none (by simpa using h)] at e; cases e
  stop := fun S2 H2 t2 m2 ss ts i2 => by
    show n ≤ (rng lo n).length
    unfold rng; simp
def rngC (lo c : Int) (n : Nat) : List D := (List.range n).map fun i : Nat => .int (lo + i * c)
theorem itr_rangeC {lo c : Int} {n : Nat} (hl : n ≤ sizeLine) : ItR K S t (Itc lo c n) (rngC lo c n) where
  len := by unfold rngC; simpa using hl
  go := fun i d S2 H2 t2 m2 e ss ts i2 => by
    unfold rngC at e
    rw [List.getElem?_map] at e
    by_cases h : i < n
    · rw [List.getElem?_range h] at e
      cases e
      refine ⟨h, fun x H' ⟨e1, e2⟩ => ?_⟩
      subst e1 e2
      exact ⟨S2, .refl, i2, .int _⟩
    · rw [List.getElem?_eq_none (by simpa using h)] at e; cases e
  stop := fun S2 H2 t2 m2 ss ts i2 => by
    show n ≤ (rngC lo c n).length
    unfold rngC; simp
/-- with their numbers -/
@[simp] def nums : Nat → List D → List D
  | _, [] => []
  | k, d :: ds => .tup [.int (k : Nat), d] :: nums (k + 1) ds
theorem nums_len : ∀ (ds : List D) (k : Nat), (nums k ds).length = ds.length
  | [], _ => rfl
  | d :: ds, k => by simp [nums, nums_len ds (k + 1)]
theorem nums_get : ∀ (ds : List D) (k i : Nat), (nums k ds)[i]? = (ds[i]?).map fun d => .tup [.int ((k + i : Nat) : Int), d]
  | [], _, _ => by simp [nums]
  | d :: ds, k, 0 => by simp [nums]
  | d :: ds, k, i + 1 => by
    simp only [nums, List.getElem?_cons_succ]
    rw [nums_get ds (k + 1) i]
    have : k + 1 + i = k + (i + 1) := by omega
    rw [this]
/-- a new pair -/
theorem new_pair {T : Addr} {x y : V} {d c : D} (i : HI K S H t m) (h : H T = none) (hx : DR K S t x d) (hy : DR K S t y c) :
    Stp S H t (upd S T (.tup [x, y])) (upd H T (.tup [x, y])) t ∧ HI K (upd S T (.tup [x, y])) (upd H T (.tup [x, y])) t m ∧ DR K (upd S T (.tup [x, y])) t (.ref T) (.tup [d, c]) := by
  obtain ⟨i2, p2⟩ := new_hi (o := .tup [x, y]) i h
  exact ⟨p2, i2, .tup (SqT.of upd_same) (.cons (hx.stp i p2) (.cons (hy.stp i p2) .nil))⟩
theorem itr_enumL {a : Addr} {vs : List V} {ds : List D} (h : SqL K S a vs) (hd : DRs K S t vs ds) (hl : vs.length ≤ sizeLine) : ItR K S t (Ite K a) (nums 0 ds) where
  len := by rw [nums_len, ← hd.length]; exact hl
  go := fun i d S2 H2 t2 m2 e ss ts i2 => by
    rw [nums_get] at e
    cases q : ds[i]? with
    | none => rw [q] at e; cases e
    | some c =>
      rw [q] at e
      cases e
      obtain ⟨v, h1, h2⟩ := hd.get q
      have sq : SqL K H2 a vs := i2.sub.sqL (ss.sqL h)
      refine ⟨⟨vs, v, sq, h1⟩, fun x H' ⟨T, y, e1, e2, e3, e4⟩ => ?_⟩
      subst e1 e3
      have := e4 vs sq
      rw [h1] at this
      cases this
      have e0 : ((0 + i : Nat) : Int) = (i : Nat) := by omega
      rw [e0]
      exact ⟨_, new_pair i2 e2 (.int _) (h2.mono ss ts)⟩
  stop := fun S2 H2 t2 m2 ss ts i2 => ⟨vs, i2.sub.sqL (ss.sqL h), by rw [nums_len, hd.length]; exact Nat.le_refl _⟩
theorem itr_enumT {a : Addr} {vs : List V} {ds : List D} (h : SqT K S a vs) (hd : DRs K S t vs ds) (hl : vs.length ≤ sizeLine) : ItR K S t (IteT K a) (nums 0 ds) where
  len := by rw [nums_len, ← hd.length]; exact hl
  go := fun i d S2 H2 t2 m2 e ss ts i2 => by
    rw [nums_get] at e
    cases q : ds[i]? with
    | none => rw [q] at e; cases e
    | some c =>
      rw [q] at e
      cases e
      obtain ⟨v, h1, h2⟩ := hd.get q
      have sq : SqT K H2 a vs := i2.sub.sqT (ss.sqT h)
      refine ⟨⟨vs, v, sq, h1⟩, fun x H' ⟨T, y, e1, e2, e3, e4⟩ => ?_⟩
      subst e1 e3
      have := e4 vs sq
      rw [h1] at this
      cases this
      have e0 : ((0 + i : Nat) : Int) = (i : Nat) := by omega
      rw [e0]
      exact ⟨_, new_pair i2 e2 (.int _) (h2.mono ss ts)⟩
  stop := fun S2 H2 t2 m2 ss ts i2 => ⟨vs, i2.sub.sqT (ss.sqT h), by rw [nums_len, hd.length]; exact Nat.le_refl _⟩
/-- two by two -/
@[simp] def zips : List D → List D → List D
  | d :: ds, c :: cs => .tup [d, c] :: zips ds cs
  | _, _ => []
theorem zips_get : ∀ (ds cs : List D) (i : Nat) z, (zips ds cs)[i]? = some z → ∃ d c, ds[i]? = some d ∧ cs[i]? = some c ∧ z = .tup [d, c]
  | d :: ds, c :: cs, 0, z, h => by simp [zips] at h; exact ⟨d, c, by simp, by simp, h.symm⟩
  | d :: ds, c :: cs, i + 1, z, h => by
    simp only [zips, List.getElem?_cons_succ] at h
    obtain ⟨d', c', h1, h2, h3⟩ := zips_get ds cs i z h
    exact ⟨d', c', by simpa using h1, by simpa using h2, h3⟩
  | [], _, _, _, h => by simp [zips] at h
  | _ :: _, [], _, _, h => by simp [zips] at h
theorem zips_len : ∀ (ds cs : List D), (zips ds cs).length = min ds.length cs.length
  | d :: ds, c :: cs => by simp only [zips, List.length_cons, zips_len ds cs]; omega
  | [], _ => by simp [zips]
  | _ :: _, [] => by simp [zips]
theorem itr_zipL {a b : Addr} {vs ws : List V} {ds cs : List D} (h : SqL K S a vs) (hd : DRs K S t vs ds) (g : SqL K S b ws) (gd : DRs K S t ws cs) (hl : (zips ds cs).length ≤ sizeLine) : ItR K S t (Itz K a b) (zips ds cs) where
  len := hl
  go := fun i d S2 H2 t2 m2 e ss ts i2 => by
    obtain ⟨d1, c1, e1, e2, rfl⟩ := zips_get ds cs i d e
    obtain ⟨v, h1, h2⟩ := hd.get e1
    obtain ⟨w, g1, g2⟩ := gd.get e2
    have sq : SqL K H2 a vs := i2.sub.sqL (ss.sqL h)
    have sq' : SqL K H2 b ws := i2.sub.sqL (ss.sqL g)
    refine ⟨⟨vs, ws, v, w, sq, sq', h1, g1⟩, fun x H' ⟨T, y, y', e3, e4, e5, e6, e7⟩ => ?_⟩
    subst e3 e5
    have := e6 vs sq
    rw [h1] at this
    cases this
    have := e7 ws sq'
    rw [g1] at this
    cases this
    exact ⟨_, new_pair i2 e4 (h2.mono ss ts) (g2.mono ss ts)⟩
  stop := fun S2 H2 t2 m2 ss ts i2 => ⟨vs, ws, i2.sub.sqL (ss.sqL h), i2.sub.sqL (ss.sqL g), by rw [zips_len, hd.length, gd.length]; omega⟩
theorem itr_zipT {a b : Addr} {vs ws : List V} {ds cs : List D} (h : SqT K S a vs) (hd : DRs K S t vs ds) (g : SqT K S b ws) (gd : DRs K S t ws cs) (hl : (zips ds cs).length ≤ sizeLine) : ItR K S t (RZ.ItzT K a b) (zips ds cs) where
  len := hl
  go := fun i d S2 H2 t2 m2 e ss ts i2 => by
    obtain ⟨d1, c1, e1, e2, rfl⟩ := zips_get ds cs i d e
    obtain ⟨v, h1, h2⟩ := hd.get e1
    obtain ⟨w, g1, g2⟩ := gd.get e2
    have sq : SqT K H2 a vs := i2.sub.sqT (ss.sqT h)
    have sq' : SqT K H2 b ws := i2.sub.sqT (ss.sqT g)
    refine ⟨⟨vs, ws, v, w, sq, sq', h1, g1⟩, fun x H' ⟨T, y, y', e3, e4, e5, e6, e7⟩ => ?_⟩
    subst e3 e5
    have := e6 vs sq
    rw [h1] at this
    cases this
    have := e7 ws sq'
    rw [g1] at this
    cases this
    exact ⟨_, new_pair i2 e4 (h2.mono ss ts) (g2.mono ss ts)⟩
  stop := fun S2 H2 t2 m2 ss ts i2 => ⟨vs, ws, i2.sub.sqT (ss.sqT h), i2.sub.sqT (ss.sqT g), by rw [zips_len, hd.length, gd.length]; omega⟩
end

/-! ### the rules -/
@[simp] def itemsOf : D → Option (List D)
  | .lst xs => some xs
  | .tup xs => some xs
  | .frz xs => some xs
  | .str z => if short z.cps.toList = true then some (signs z) else none
  | _ => none
@[simp] def seqI (f : EvE) : EvA := fun C e m => (f C e m).bind fun d m1 => .of (itemsOf d) m1
def bdI (i : Int) : Bool := decide (-(2 ^ 62) ≤ i) && decide (i < 2 ^ 62)
@[simp] def rng1 : List D → Option (List D)
  | [.int n] => if (bdI n && decide (n.toNat ≤ 100000)) = true then some (rng 0 n.toNat) else none
  | _ => none
@[simp] def rng2 : List D → Option (List D)
  | [.int i, .int j] => if (bdI i && bdI j && decide ((j - i).toNat ≤ 100000)) = true then some (rng i (j - i).toNat) else none
  | _ => none
def rng3 : List D → Option (List D)
  | [.int i, .int j, .int c] => if (bdI i && bdI j && decide (c = -1) && decide ((i - j).toNat ≤ 100000)) = true then some (rngC i (-1) (i - j).toNat) else none
  | _ => none
@[simp] def enumG : List D → Option (List D)
  | [.lst xs] => some (nums 0 xs)
  | [.tup xs] => some (nums 0 xs)
  | _ => none
@[simp] def zipG : List D → Option (List D)
  | [.lst xs, .lst ys] => if short (zips xs ys) = true then some (zips xs ys) else none
  | [.tup xs, .tup ys] => if short (zips xs ys) = true then some (zips xs ys) else none
  | _ => none
@[simp] def argI (g : List D → Option (List D)) (f : EvA) : EvA := fun C e m => (f C e m).bind fun ds m1 => .of (g ds) m1
theorem size1e5 {n : Nat} (h : n ≤ 100000) : n ≤ sizeLine := Nat.le_trans h (by decide)
theorem bdI_lo {i : Int} (h : bdI i = true) : -(2 ^ 62) ≤ i ∧ i < 2 ^ 62 := by
  unfold bdI at h
  simp only [Bool.and_eq_true, decide_eq_true_eq] at h
  exact h
section
variable {X : Cx} {G : Cfg} {W : WX} {tg a b c : Expr} {es : List Expr} {fa : EvE} {fs : EvA} {pos p : Pos}
theorem di_seq (hK : X.K = G.K) (ha : PE X a (semE G W fa)) : PI X tg a (semI G W (seqI fa)) := by
  refine (pi_seq ha).imp fun σ H R ⟨S, t, m, e, si, g⟩ => ⟨S, t, m, e, si, (Gd.sp g).imp fun S1 H1 t1 m1 d p1 i1 h1 v rv => ?_⟩
  rw [hK]
  cases rv with
  | lst h hs => exact .inl ⟨_, _, rfl, .of (i1.sub _ _ h), fun hl => Gd.now h1 i1 _ (itr_list (.of h) hs hl)⟩
  | frz h hs => exact .inl ⟨_, _, rfl, i1.sub.sqL h, fun hl => Gd.now h1 i1 _ (itr_list h hs hl)⟩
  | tup h hs => exact .inr (.inl ⟨_, _, rfl, i1.sub.sqT h, fun hl => Gd.now h1 i1 _ (itr_tup h hs hl)⟩)
  | str z =>
    refine .inr (.inr ⟨z, rfl, ?_⟩)
    have h1 : Gd G W σ S1 H1 t1 (Dn.R.of (if short z.cps.toList = true then some (signs z) else none) m1) _ := h1
    by_cases c : short z.cps.toList = true
    · rw [if_pos c] at h1
      exact Gd.now h1 i1 _ (itr_str (by have := short_le c; simpa [Str.length] using this))
    · rw [if_neg c] at h1; exact h1.elim
  | non => exact h1.elim
  | bl b => exact h1.elim
  | int b => exact h1.elim
  | ref b => exact h1.elim
theorem di_rng1 (hg : Gl X "range") (hm : X.mg "range" = none) (ha : PA X [a] (semA G W fs)) (hs : starEach [a] X.env = [(false, eval a X.env)] := by rfl) : PI X tg (.Call (.Name "range" p) [a] [] pos) (semI G W (argI rng1 fs)) := by
  refine (pi_range1 hg hm ha hs).imp fun σ H R ⟨S, t, m, e, si, g⟩ => ⟨S, t, m, e, si, (Gd.sp g).imp fun S1 H1 t1 m1 ds p1 i1 h1 vs rs => ?_⟩
  unfold rng1 at h1
  split at h1
  · rename_i n
    cases rs with
    | cons r1 r2 =>
      cases r2
      cases r1
      split at h1
      · rename_i hc
        simp only [Bool.and_eq_true, decide_eq_true_eq] at hc
        obtain ⟨b1, b2⟩ := bdI_lo hc.1
        exact ⟨n, rfl, b1, b2, Gd.now h1 i1 _ (itr_range (size1e5 hc.2))⟩
      · exact h1.elim
  · exact h1.elim
theorem di_rng2 (hg : Gl X "range") (hm : X.mg "range" = none) (ha : PA X [a, b] (semA G W fs)) (hs : starEach [a, b] X.env = [(false, eval a X.env), (false, eval b X.env)] := by rfl) (hs2 : starEach [b] X.env = [(false, eval b X.env)] := by rfl) :
    PI X tg (.Call (.Name "range" p) [a, b] [] pos) (semI G W (argI rng2 fs)) := by
  refine (pi_range2 hg hm ha hs hs2).imp fun σ H R ⟨S, t, m, e, si, g⟩ => ⟨S, t, m, e, si, (Gd.sp g).imp fun S1 H1 t1 m1 ds p1 i1 h1 vs rs => ?_⟩
  unfold rng2 at h1
  split at h1
  · rename_i i j
    cases rs with
    | cons r1 r2 =>
      cases r2 with
      | cons r2 r3 =>
        cases r3
        cases r1
        cases r2
        split at h1
        · rename_i hc
          simp only [Bool.and_eq_true, decide_eq_true_eq] at hc
          obtain ⟨b1, b2⟩ := bdI_lo hc.1.1
          obtain ⟨b3, b4⟩ := bdI_lo hc.1.2
          exact ⟨i, j, rfl, ⟨b1, b2, b3, b4⟩, Gd.now h1 i1 _ (itr_range (size1e5 hc.2))⟩
        · exact h1.elim
  · exact h1.elim
theorem di_rng3 (hg : Gl X "range") (hm : X.mg "range" = none) (ha : PA X [a, b, c] (semA G W fs)) (hq : PI X tg (.Call (.Name "range" p) [a, b, c] [] pos) (iRng3 (semA G W fs))) : PI X tg (.Call (.Name "range" p) [a, b, c] [] pos) (semI G W (argI rng3 fs)) := by
  refine hq.imp fun σ H R ⟨S, t, m, e, si, g⟩ => ⟨S, t, m, e, si, (Gd.sp g).imp fun S1 H1 t1 m1 ds p1 i1 h1 vs rs => ?_⟩
  unfold rng3 at h1
  split at h1
  · rename_i i j c
    cases rs with
    | cons r1 r2 =>
      cases r2 with
      | cons r2 r3 =>
        cases r3 with
        | cons r3 r4 =>
        cases r4
        cases r1
        cases r2
        cases r3
        split at h1
        · rename_i hc
          simp only [Bool.and_eq_true, decide_eq_true_eq] at hc
          obtain ⟨b1, b2⟩ := bdI_lo hc.1.1.1
          obtain ⟨b3, b4⟩ := bdI_lo hc.1.1.2
          obtain rfl := hc.1.2
          exact ⟨i, j, -1, _, rfl, RgC.neg b1 b2 b3 b4, Gd.now h1 i1 _ (itr_rangeC (size1e5 hc.2))⟩
        · exact h1.elim
  · exact h1.elim
/-- enumerate of a list or a tuple -/
def iEnumA (K : PySem.W.Frag) (ta : TA) : TI := fun σ H R => ta σ H fun vs H1 => ∃ a xs, vs = [.ref a] ∧ ((SqL K H1 a xs ∧ (xs.length ≤ sizeLine → R (Ite K a) H1)) ∨ (SqT K H1 a xs ∧ (xs.length ≤ sizeLine → R (IteT K a) H1)))
theorem pi_enumA {X : Cx} {e : Expr} {ta : TA} {p pos tpos : Pos} {elts : List Expr} {kk : Nat} (hg : Gl X "enumerate") (hm : X.mg "enumerate" = none) (ha : PA X [e] ta) (hs : starEach [e] X.env = [(false, eval e X.env)] := by rfl) :
    PI X (.Tuple elts kk tpos) (.Call (.Name "enumerate" p) [e] [] pos) (iEnumA X.K ta) := by
  refine ⟨fun pins s σ H R I h => ?_⟩
  refine PyProof.Rows.Call_ (ld_blt I hg hm PyProof.Rows.boot_enumerate (PyProof.Rows.callWith_type1 (thn (ha.run pos pins s σ H _ I h) fun us s1 ⟨vs, H1, I1, r1, q1⟩ => ?_) hs rfl))
  obtain ⟨a, xs, ex, q1⟩ := q1
  subst ex
  cases r1 with
  | cons r rr =>
    cases rr
    cases r
    rcases q1 with ⟨hq, q⟩ | ⟨hq, q⟩
    · obtain ⟨its, rv, p', hz⟩ := I1.list hq
      refine call_enumerate_list p'.isList fun h' he hit hsz hk => wpAny_pyIter_enum he ?_
      have I2 : Inv X pins σ H1 { s1 with heap := h' } := I1.kept (t' := s1.toks) hk
      refine ⟨s1.heap.objs.size + 1, [s1.heap.objs.size + 1, s1.heap.objs.size], _, _, H1, rfl, I2, turn_enum a (s1.heap.objs.size + 1) s1.heap.objs.size, ⟨⟨.none, he⟩, hit, Nat.succ_ne_self _⟩, fun b hb => ?_, q hz⟩
      have e' : b = s1.heap.objs.size + 1 ∨ b = s1.heap.objs.size := by simpa using hb
      have hle : s1.heap.objs.size ≤ b := by
        rcases e' with z | z
        · rw [z]; exact Nat.le_add_right _ _
        · rw [z]; exact Nat.le_refl _
      exact I1.fpOk hle (I1.hok.fresh hle)
    · obtain ⟨its, rv, p', hz⟩ := I1.tuple hq
      have hal : a < s1.heap.objs.size := by obtain ⟨o, q', _⟩ := id p'; exact Heap.lt_size q'
      refine dn_call_enum (begins_tuple a its.toArray) p' fun h' he hit hsz hk => wpAny_pyIter_enum he ?_
      have I2 : Inv X pins σ H1 { s1 with heap := h' } := I1.kept (t' := s1.toks) hk
      refine ⟨s1.heap.objs.size + 1, [s1.heap.objs.size + 1, s1.heap.objs.size], _, _, H1, rfl, I2, turn_enumT a (s1.heap.objs.size + 1) s1.heap.objs.size, ⟨⟨.none, he⟩, ⟨_, hit, rfl, rfl⟩, Nat.succ_ne_self _, Nat.ne_of_gt (Nat.lt_succ_of_lt hal), Nat.ne_of_lt hal⟩, fun b hb => ?_, q hz⟩
      have e' : b = s1.heap.objs.size + 1 ∨ b = s1.heap.objs.size := by simpa using hb
      have hle : s1.heap.objs.size ≤ b := by
        rcases e' with z | z
        · rw [z]; exact Nat.le_add_right _ _
        · rw [z]; exact Nat.le_refl _
      exact I1.fpOk hle (I1.hok.fresh hle)
theorem di_enum {tpos : Pos} {elts : List Expr} {kk : Nat} (hK : X.K = G.K) (hg : Gl X "enumerate") (hm : X.mg "enumerate" = none) (ha : PA X [a] (semA G W fs)) (hs : starEach [a] X.env = [(false, eval a X.env)] := by rfl) :
    PI X (.Tuple elts kk tpos) (.Call (.Name "enumerate" p) [a] [] pos) (semI G W (argI enumG fs)) := by
  refine (pi_enumA hg hm ha hs).imp fun σ H R ⟨S, t, m, e, si, g⟩ => ⟨S, t, m, e, si, (Gd.sp g).imp fun S1 H1 t1 m1 ds p1 i1 h1 vs rs => ?_⟩
  rw [hK]
  unfold enumG at h1
  split at h1
  · cases rs with
    | cons r1 r2 =>
      cases r2
      cases r1 with
      | lst h hs => exact ⟨_, _, rfl, .inl ⟨.of (i1.sub _ _ h), fun hl => Gd.now h1 i1 _ (itr_enumL (.of h) hs hl)⟩⟩
  · cases rs with
    | cons r1 r2 =>
      cases r2
      cases r1 with
      | tup h hs => exact ⟨_, _, rfl, .inr ⟨i1.sub.sqT h, fun hl => Gd.now h1 i1 _ (itr_enumT h hs hl)⟩⟩
  · exact h1.elim
theorem di_zip {tpos : Pos} {elts : List Expr} {kk : Nat} (hK : X.K = G.K) (hg : Gl X "zip") (hm : X.mg "zip" = none) (ha : PA X [a, b] (semA G W fs)) (hs : starEach [a, b] X.env = (false, eval a X.env) :: starEach [b] X.env := by rfl) (hpl : (backTo pos (starEach [b] X.env)).any (·.1) = false := by rfl) :
    PI X (.Tuple elts kk tpos) (.Call (.Name "zip" p) [a, b] [] pos) (semI G W (argI zipG fs)) := by
  refine (RZ.pi_zipA hg hm ha hs hpl).imp fun σ H R ⟨S, t, m, e, si, g⟩ => ⟨S, t, m, e, si, (Gd.sp g).imp fun S1 H1 t1 m1 ds p1 i1 h1 vs rs => ?_⟩
  rw [hK]
  unfold zipG at h1
  split at h1
  · cases rs with
    | cons r1 r2 =>
      cases r2 with
      | cons r2 r3 =>
        cases r3
        split at h1
        · rename_i hc
          cases r1 with
          | lst h hs =>
            cases r2 with
            | lst g gs => exact ⟨_, _, _, _, rfl, .inl ⟨.of (i1.sub _ _ h), .of (i1.sub _ _ g), Gd.now h1 i1 _ (itr_zipL (.of h) hs (.of g) gs (short_le hc))⟩⟩
        · exact h1.elim
  · cases rs with
    | cons r1 r2 =>
      cases r2 with
      | cons r2 r3 =>
        cases r3
        split at h1
        · rename_i hc
          cases r1 with
          | tup h hs =>
            cases r2 with
            | tup g gs => exact ⟨_, _, _, _, rfl, .inr ⟨i1.sub.sqT h, i1.sub.sqT g, Gd.now h1 i1 _ (itr_zipT h hs g gs (short_le hc))⟩⟩
        · exact h1.elim
  · exact h1.elim
end
end Dn
/-! Targets, comprehensions. -/
namespace Dn
open PySem L2

inductive Tg where
  | nm (i : Nat) | tp (ts : List Tg)
mutual
@[simp] def asg : Tg → D → Env → Option Env
  | .nm i, d, e => if i < e.length then some (e.set i (.dat d)) else none
  | .tp ts, .tup ds, e => asgs ts ds e
  | .tp _, _, _ => none
@[simp] def asgs : List Tg → List D → Env → Option Env
  | [], [], e => some e
  | t :: ts, d :: ds, e => (asg t d e).bind fun e1 => asgs ts ds e1
  | _, _, _ => none
end
mutual
theorem asg_len : ∀ (g : Tg) (d : D) (e e' : Env), asg g d e = some e' → e'.length = e.length
  | .nm i, d, e, e', h => by
    unfold asg at h
    split at h
    · cases h; simp
    · cases h
  | .tp ts, .tup ds, e, e', h => by unfold asg at h; exact asgs_len ts ds e e' h
  | .tp _, .non, _, _, h => by unfold asg at h; cases h
  | .tp _, .bl _, _, _, h => by unfold asg at h; cases h
  | .tp _, .int _, _, _, h => by unfold asg at h; cases h
  | .tp _, .str _, _, _, h => by unfold asg at h; cases h
  | .tp _, .lst _, _, _, h => by unfold asg at h; cases h
  | .tp _, .frz _, _, _, h => by unfold asg at h; cases h
  | .tp _, .dct _, _, _, h => by unfold asg at h; cases h
  | .tp _, .ins _ _, _, _, h => by unfold asg at h; cases h
  | .tp _, .ref _, _, _, h => by unfold asg at h; cases h
theorem asgs_len : ∀ (gs : List Tg) (ds : List D) (e e' : Env), asgs gs ds e = some e' → e'.length = e.length
  | [], [], e, e', h => by unfold asgs at h; cases h; rfl
  | t :: ts, d :: ds, e, e', h => by
    unfold asgs at h
    cases h' : asg t d e with
    | none => rw [h'] at h; cases h
    | some e1 => rw [h'] at h; exact (asgs_len ts ds e1 e' h).trans (asg_len t d e e1 h')
  | [], _ :: _, _, _, h => by unfold asgs at h; cases h
  | _ :: _, [], _, _, h => by unfold asgs at h; cases h
end
mutual
def tslots : Tg → List Nat
  | .nm i => [i]
  | .tp ts => tslotss ts
def tslotss : List Tg → List Nat
  | [] => []
  | t :: ts => tslots t ++ tslotss ts
end
/-- but at js the slots are as they were -/
def OutSame (js : List Nat) (σ σ' : St) : Prop := ∀ j, j ∉ js → σ'[j]? = σ[j]?
/-- own lists are those that were -/
def OwnSub (σ : St) (e : Env) (σ' : St) (e' : Env) : Prop := ∀ (i : Nat) d, e'[i]? = some (.own d) → e[i]? = some (.own d) ∧ σ'[i]? = σ[i]?
theorem OwnSub.refl {σ : St} {e : Env} : OwnSub σ e σ e := fun _ _ h => ⟨h, rfl⟩
theorem OwnSub.trans {σ σ1 σ2 : St} {e e1 e2 : Env} (a : OwnSub σ e σ1 e1) (b : OwnSub σ1 e1 σ2 e2) : OwnSub σ e σ2 e2 := fun i d h =>
  let ⟨h1, q1⟩ := b i d h
  let ⟨h2, q2⟩ := a i d h1
  ⟨h2, q1.trans q2⟩
section
variable {K : PySem.W.Frag} {x : Gh} {S H : Hp} {t : Th} {m : Store} {σ : St} {e : Env}
/-- a slot gets a value -/
theorem SI.set (i : SI K x S H t m σ e) {j : Nat} {v : V} {d : D} (hj : j < e.length) (r : DR K S t v d) : SI K x S H t m (σ.set j (some v)) (e.set j (.dat d)) ∧ OwnSub σ e (σ.set j (some v)) (e.set j (.dat d)) := by
  have ow : OwnSub σ e (σ.set j (some v)) (e.set j (.dat d)) := fun k c h => by
    by_cases z : k = j
    · subst z; rw [List.getElem?_set_self hj] at h; cases h
    · rw [List.getElem?_set_ne (Ne.symm z)] at h ⊢; exact ⟨h, rfl⟩
  refine ⟨⟨i.hi, by simp [i.len], fun k c h => ?_, fun k c h => ?_, fun k l c c' a h1 h2 h3 h4 => ?_, fun k c fs h => ?_⟩, ow⟩
  · by_cases z : k = j
    · subst z
      rw [List.getElem?_set_self hj] at h
      cases h
      exact ⟨v, List.getElem?_set_self (by rw [i.len]; exact hj), r⟩
    · rw [List.getElem?_set_ne (Ne.symm z)] at h ⊢; exact i.dat k c h
  · obtain ⟨h1, h2⟩ := ow k c h
    rw [h2]; exact i.own k c h1
  · obtain ⟨a1, a2⟩ := ow k c h1
    obtain ⟨b1, b2⟩ := ow l c' h2
    rw [a2] at h3; rw [b2] at h4
    exact i.apart k l c c' a a1 b1 h3 h4
  · by_cases z : k = j
    · subst z; rw [List.getElem?_set_self hj] at h; cases h
    · rw [List.getElem?_set_ne (Ne.symm z)] at h ⊢; exact i.exn k c fs h
end
/-- a target's promise -/
def semG (K : PySem.W.Frag) (x : Gh) (g : Tg) : TG := fun v σ H Q => ∃ S t m e d e', SI K x S H t m σ e ∧ DR K S t v d ∧ asg g d e = some e' ∧ ∀ σ', SI K x S H t m σ' e' → OwnSub σ e σ' e' → OutSame (tslots g) σ σ' → Q σ' H
def semGs (K : PySem.W.Frag) (x : Gh) (gs : List Tg) : TGs := fun vs σ H Q => ∃ S t m e ds e', SI K x S H t m σ e ∧ DRs K S t vs ds ∧ asgs gs ds e = some e' ∧ ∀ σ', SI K x S H t m σ' e' → OwnSub σ e σ' e' → OutSame (tslotss gs) σ σ' → Q σ' H
section
variable {X : Cx} {K : PySem.W.Frag} {x : Gh} {pos : Pos}
theorem _root_.L2.PG.imp {X : Cx} {e : Expr} {t t' : TG} (h : PG X e t) (w : ∀ v σ H Q, t' v σ H Q → t v σ H Q) : PG X e t' := ⟨fun pins s σ H v u Q I r q => h.run pins s σ H v u Q I r (w v σ H Q q)⟩
theorem _root_.L2.PGs.imp {X : Cx} {e : List Expr} {t t' : TGs} (h : PGs X e t) (w : ∀ v σ H Q, t' v σ H Q → t v σ H Q) : PGs X e t' := ⟨fun pins s σ H v u Q I r q => h.run pins s σ H v u Q I r (w v σ H Q q)⟩
theorem dg_name {i : Nat} {y : Str} (hN : X.N.Nodup) (hi : X.N[i]? = some y) (hx : Loc X.env.scope y) (hf : X.fn y = true ∨ X.env.scope.names.lookup y = some .local) : PG X (.Name y pos) (semG K x (.nm i)) := by
  refine (pg_name hN hi hx hf).imp fun v σ H Q ⟨S, t, m, e, d, e', si, r, h, q⟩ => ?_
  unfold asg at h
  split at h
  · rename_i hj
    cases h
    obtain ⟨a, b⟩ := si.set hj r
    exact q _ a b fun j hj => List.getElem?_set_ne fun z => hj (by unfold tslots; simp [z])
  · cases h
theorem dgs_nil : PGs X [] (semGs K x []) := by
  refine pgs_nil.imp fun vs σ H Q ⟨S, t, m, e, ds, e', si, r, h, q⟩ => ?_
  cases r with
  | nil =>
    unfold asgs at h
    cases h
    exact ⟨rfl, q σ si .refl fun _ _ => rfl⟩
  | cons r rs => unfold asgs at h; cases h
theorem dgs_cons {a : Expr} {es : List Expr} {g : Tg} {gs : List Tg} (h1 : PG X a (semG K x g)) (h2 : PGs X es (semGs K x gs)) (hs : (assignEach (a :: es) X.env).map (·.2) = assign a X.env :: (assignEach es X.env).map (·.2) := by rfl) : PGs X (a :: es) (semGs K x (g :: gs)) := by
  refine (pgs_cons h1 h2 hs).imp fun vs σ H Q ⟨S, t, m, e, ds, e', si, r, h, q⟩ => ?_
  cases r with
  | nil => unfold asgs at h; cases h
  | @cons v vs d ds r rs =>
    unfold asgs at h
    cases h' : asg g d e with
    | none => rw [h'] at h; cases h
    | some e1 =>
      rw [h'] at h
      refine ⟨v, vs, rfl, S, t, m, e, d, e1, si, r, h', fun σ1 si1 o1 c1 => ⟨S, t, m, e1, ds, e', si1, rs, h, fun σ' si' o' c' => q σ' si' (o1.trans o') fun j hj => ?_⟩⟩
      unfold tslotss at hj
      rw [List.mem_append, not_or] at hj
      exact (c' j hj.2).trans (c1 j hj.1)
theorem dg_tup {es : List Expr} {k : Nat} {gs : List Tg} (hK : X.K = K) (hc : X.calm = true) (h : PGs X es (semGs K x gs)) (hn : (assignEach es X.env).length = gs.length := by rfl) (hst : (assignEach es X.env).findIdx? (·.1) = none := by rfl) :
    PG X (.Tuple es k pos) (semG K x (.tp gs)) := by
  refine (pg_tup (n := gs.length) hc h hn hst).imp fun v σ H Q ⟨S, t, m, e, d, e', si, r, h, q⟩ => ?_
  rw [hK]
  cases r with
  | @tup a vs ds hs rs =>
    unfold asg at h
    refine ⟨a, vs, rfl, si.hi.sub.sqT hs, ?_, S, t, m, e, ds, e', si, rs, h, fun σ' a b c => q σ' a b (by unfold tslots; exact c)⟩
    rw [rs.length]
    revert h
    have lem : ∀ (gs : List Tg) (ds : List D) (e e' : Env), asgs gs ds e = some e' → ds.length = gs.length := by
      intro gs
      induction gs with
      | nil => intro ds e e' h; cases ds with
        | nil => rfl
        | cons d ds => unfold asgs at h; cases h
      | cons g gs ih => intro ds e e' h; cases ds with
        | nil => unfold asgs at h; cases h
        | cons d ds =>
          unfold asgs at h
          cases h' : asg g d e with
          | none => rw [h'] at h; cases h
          | some e1 =>
            rw [h'] at h
            have := ih ds e1 e' h
            simp [this]
    exact lem gs ds e e'
  | _ => unfold asg at h; cases h
end

/-! ### comprehensions -/
def noX {α : Type} : R α → R α
  | .ok a m => .ok a m
  | _ => .stuck
@[simp] theorem noX_ok {α : Type} (a : α) (m : Store) : noX (R.ok a m) = .ok a m := rfl
/-- the comprehension's own names forgotten -/
@[simp] def wipeE (e : Env) : List Nat → Env
  | [] => e
  | v :: vs => (wipeE e vs).set v .em
def lcL (C : Orc) (g : Tg) (tt : EvT) (te : EvE) (e : Env) : List D → Store → R (List D)
  | [], m => .ok [] m
  | d :: ds, m => match asg g d e with
    | none => .stuck
    | some e1 => (noX (tt C e1 m)).bind fun b m1 => if b = true then (noX (te C e1 m1)).bind fun x m2 => (lcL C g tt te e ds m2).bind fun xs m3 => .ok (x :: xs) m3 else lcL C g tt te e ds m1
@[simp] def lcF (it : EvA) (g : Tg) (tt : EvT) (te : EvE) (vs : List Nat) : EvA := fun C e m => (it C e m).bind fun ds m1 => lcL C g tt te (wipeE e vs) ds m1
@[simp] def yesT : EvT := fun _ _ m => .ok true m
/-- no error is wished for -/
abbrev W0 : WX := fun _ _ _ _ => False
section
variable {K : PySem.W.Frag} {x : Gh} {S H : Hp} {t : Th} {m : Store} {σ : St} {e : Env}
theorem SI.drop (i : SI K x S H t m σ e) (j : Nat) : SI K x S H t m (σ.set j none) (e.set j .em) := by
  have el : ∀ (k : Nat) c, (e.set j .em)[k]? = some c → c ≠ .em → e[k]? = some c ∧ (σ.set j none)[k]? = σ[k]? := fun k c h hc => by
    by_cases z : k = j
    · subst z
      by_cases hk : k < e.length
      · rw [List.getElem?_set_self hk] at h; cases h; exact absurd rfl hc
      · rw [List.getElem?_eq_none (by simpa using hk)] at h; cases h
    · rw [List.getElem?_set_ne (Ne.symm z)] at h ⊢; exact ⟨h, rfl⟩
  refine ⟨i.hi, by simp [i.len], fun k c h => ?_, fun k c h => ?_, fun k l c c' a h1 h2 h3 h4 => ?_, fun k c fs h => ?_⟩
  · obtain ⟨h1, h2⟩ := el k _ h (by simp)
    rw [h2]; exact i.dat k c h1
  · obtain ⟨h1, h2⟩ := el k _ h (by simp)
    rw [h2]; exact i.own k c h1
  · obtain ⟨a1, a2⟩ := el k _ h1 (by simp)
    obtain ⟨b1, b2⟩ := el l _ h2 (by simp)
    rw [a2] at h3; rw [b2] at h4
    exact i.apart k l c c' a a1 b1 h3 h4
  · obtain ⟨h1, h2⟩ := el k _ h (by simp)
    rw [h2]; exact i.exn k c fs h1
theorem SI.wipe (i : SI K x S H t m σ e) : ∀ vs : List Nat, SI K x S H t m (wipe σ vs) (wipeE e vs)
  | [] => i
  | v :: vs => (SI.wipe i vs).drop v
theorem Gd.nox {G : Cfg} {W : WX} {α : Type} {r : R α} {P : Hp → Hp → Th → Store → α → Prop} (h : Gd G W σ S H t (noX r) P) : Gd G W0 σ S H t r P := by
  cases r with
  | ok a m' => exact h
  | exc c fs m' => exact h.elim
  | stuck => exact h.elim
end
section
variable {X : Cx} {G : Cfg} {W : WX}
theorem wipe_in {σ : St} {j : Nat} : ∀ {vs : List Nat}, j ∈ vs → j < σ.length → (wipe σ vs)[j]? = some none
  | v :: vs, h, hl => by
    unfold L2.wipe
    by_cases z : v = j
    · subst z
      rw [List.getElem?_set_self (by rw [wipe_length]; exact hl)]
    · rw [List.getElem?_set_ne z]
      exact wipe_in ((List.mem_cons.mp h).resolve_left (Ne.symm z)) hl
theorem wipe_un {σ : St} {j : Nat} : ∀ {vs : List Nat}, j ∉ vs → (wipe σ vs)[j]? = σ[j]?
  | [], _ => rfl
  | v :: vs, h => by
    unfold L2.wipe
    rw [List.getElem?_set_ne (fun z => h (by simp [z])), wipe_un (fun z => h (List.mem_cons_of_mem _ z))]
theorem wipe_same {σ σ2 : St} {vs : List Nat} (hl : σ2.length = σ.length) (h : OutSame vs (wipe σ vs) σ2) : wipe σ2 vs = wipe σ vs := by
  apply List.ext_getElem?
  intro j
  by_cases z : j ∈ vs
  · by_cases hj : j < σ.length
    · rw [wipe_in z hj, wipe_in z (by rw [hl]; exact hj)]
    · rw [List.getElem?_eq_none (by rw [wipe_length]; omega), List.getElem?_eq_none (by rw [wipe_length]; omega)]
  · rw [wipe_un z]
    exact h j z
theorem lc_ws {g : Tg} {vs : List Nat} (hv : (tslots g).all (fun j => vs.contains j) = true) (v : V) (σ : St) (H : Hp) (Q : St → Hp → Prop) (h : semG G.K G.x g v (wipe σ vs) H Q) : semG G.K G.x g v (wipe σ vs) H fun σ2 H2 => wipe σ2 vs = wipe σ vs ∧ Q σ2 H2 := by
  obtain ⟨S, t, m, e, d, e', si, r, ha, q⟩ := h
  have hlen : ∀ (g : Tg) (d : D) (e e' : Env), asg g d e = some e' → e'.length = e.length := asg_len
  refine ⟨S, t, m, e, d, e', si, r, ha, fun σ' si' o' c' => ⟨wipe_same ?_ fun j hj => c' j fun z => hj ?_, q σ' si' o' c'⟩⟩
  · rw [si'.len, hlen _ _ _ _ ha, ← si.len, wipe_length]
  · have := List.all_eq_true.mp hv j z
    simpa using this
theorem sem_lc {fi : EvA} {g : Tg} {tt : EvT} {te : EvE} {vs : List Nat} {σ : St} {H : Hp} {Q : VK}
    (hws : ∀ v σ H Q, semG G.K G.x g v (wipe σ vs) H Q → semG G.K G.x g v (wipe σ vs) H fun σ2 H2 => wipe σ2 vs = wipe σ vs ∧ Q σ2 H2)
    (h : semF G W (lcF fi g tt te vs) σ H Q) : tLc (semI G W fi) (semG G.K G.x g) (semT G W0 tt) (semE G W0 te) vs σ H Q := by
  obtain ⟨S, t, m, e, si, h⟩ := h
  unfold lcF at h
  refine ⟨S, t, m, e, si, ?_⟩
  cases hi : fi G.C e m with
  | exc c fs m' => rw [hi] at h; exact h
  | stuck => rw [hi] at h; exact h
  | ok ds m1 =>
  rw [hi] at h
  intro S1 H1 t1 p1 i1 J it D hD
  have h : Gd G W σ S H t (lcL G.C g tt te (wipeE e vs) ds m1) _ := h
  have nH : H D = none := by
    cases q : H D with
    | none => rfl
    | some o => exact absurd hD (p1.dom D (by rw [q]; simp))
  -- the loop
  refine ⟨fun i k H2 => k = ds.length - i ∧ i ≤ ds.length ∧ ∃ S2 t2 m2 acc xs, HI G.K S2 H2 t2 m2 ∧ Stp S H t S2 H2 t2 ∧ Sub S1 S2 ∧ TSub t1 t2 ∧ S2 D = none ∧ (∀ n, t2 n ≠ some D) ∧ H2 D = some (.lst acc) ∧ DRs G.K S2 t2 acc xs ∧ acc.length ≤ i ∧
    Gd G W σ S H t ((lcL G.C g tt te (wipeE e vs) (ds.drop i) m2).bind fun ys m3 => .ok (xs ++ ys) m3) (fun S' H' t' _ zs => ∀ p, OwnAt G.K S' H' t' p (.lst zs) → H p = none → Q (.ref p) H'), ⟨ds.length, by simp, Nat.zero_le _, ?_⟩, ?_⟩
  · obtain ⟨i2, p2⟩ := new_hi0 (o := .lst []) i1 hD
    have hS : S1 D = none := by
      cases q : S1 D with
      | none => rfl
      | some o => rw [i1.sub D o q] at hD; cases hD
    refine ⟨S1, t1, m1, [], [], i2, p1.trans p2, .refl _, .refl _, hS, fun n q => (i1.off n D q).2 hD, upd_same, .nil, Nat.le_refl _, ?_⟩
    rw [List.drop_zero]
    revert h
    cases lcL G.C g tt te (wipeE e vs) ds m1 with
    | ok ys m3 => exact id
    | exc c fs m3 => exact id
    | stuck => exact id
  · rintro i k H2 ⟨rfl, hi, S2, t2, m2, acc, xs, i2, p2, ss, ts, hS, ht, hH, hd, hl, h2⟩
    by_cases hlt : i < ds.length
    · right
      have hx : ds[i]? = some ds[i] := List.getElem?_eq_getElem hlt
      obtain ⟨hgo, hy⟩ := it.go i _ S2 H2 t2 m2 hx ss ts i2
      refine ⟨hgo, _, fun H' q => ⟨ds.length - (i + 1), by omega, q⟩, fun x H3 y => ?_⟩
      obtain ⟨S3, p3, i3, r3⟩ := hy x H3 y
      rw [List.drop_eq_getElem_cons hlt] at h2
      unfold lcL at h2
      cases ha : asg g ds[i] (wipeE e vs) with
      | none => rw [ha] at h2; exact h2.elim
      | some e1 =>
        rw [ha] at h2
        dsimp only at h2
        have nD3 : H3 D = some (.lst acc) := p3.keep D _ hH ht
        have siw : SI G.K G.x S3 H3 t2 m2 (wipe σ vs) (wipeE e vs) := SI.wipe ((si.stp p2 i2).stp p3 i3) vs
        refine hws x σ H3 _ ⟨S3, t2, m2, _, _, e1, siw, r3, ha, fun σ2 si2 o2 _ => ?_⟩
        refine ⟨S3, t2, m2, e1, si2, ?_⟩
        cases hb : tt G.C e1 m2 with
        | exc c fs m' => rw [hb] at h2; exact h2.elim
        | stuck => rw [hb] at h2; exact h2.elim
        | ok b m4 =>
        rw [hb] at h2
        simp only [noX_ok, R.bind_ok] at h2
        intro S4 H4 t4 p4 i4
        have keep4 : H4 D = some (.lst acc) := p4.keep D _ nD3 ht
        have ht4 := p4.offs (by rw [nD3]; simp) ht
        have hS3 : S3 D = none := (p3.hs D (by rw [hH]; simp)).trans hS
        have hS4 : S4 D = none := (p4.hs D (by rw [nD3]; simp)).trans hS3
        have hd4 : DRs G.K S4 t4 acc xs := (hd.stp i2 p3).stp i3 p4
        have ss4 : Sub S1 S4 := (ss.trans (i2.ssub p3)).trans (i3.ssub p4)
        have ts4 : TSub t1 t4 := ts.trans p4.th
        cases b with
        | false =>
          exact ⟨rfl, hlt, S4, t4, m4, acc, xs, i4, (p2.trans p3).trans p4, ss4, ts4, hS4, ht4, keep4, hd4, by omega, h2⟩
        | true =>
          refine ⟨S4, t4, m4, e1, si2.stp p4 i4, ?_⟩
          rw [if_pos rfl] at h2
          cases hz : te G.C e1 m4 with
          | exc c fs m' => rw [hz] at h2; exact h2.elim
          | stuck => rw [hz] at h2; exact h2.elim
          | ok x5 m5 =>
          rw [hz] at h2
          simp only [noX_ok, R.bind_ok] at h2
          intro S5 H5 t5 p5 i5 v5 r5
          have keep5 : H5 D = some (.lst acc) := p5.keep D _ keep4 ht4
          have ht5 := p5.offs (by rw [keep4]; simp) ht4
          have hS5 : S5 D = none := (p5.hs D (by rw [keep4]; simp)).trans hS4
          have hd5 : DRs G.K S5 t5 acc xs := hd4.stp i4 p5
          have hl5 : acc.length < sizeLine := Nat.lt_of_le_of_lt hl (Nat.lt_of_lt_of_le hlt it.len)
          have i6 := own_hi (o := .lst (acc ++ [v5])) i5 hS5 (by rw [keep5]; simp) ht5
          have p6 : Stp S H t S5 (upd H5 D (.lst (acc ++ [v5]))) t5 := by
            have q := ((p2.trans p3).trans p4).trans p5
            refine ⟨fun a o ha hn => ?_, fun a ha => ?_, q.hs, q.th, q.thn⟩
            · rw [upd_ne (ne_of_none ha nH)]; exact q.keep a o ha hn
            · rw [upd_ne (fun z => ha (by rw [z]; exact nH))]; exact q.dom a ha
          refine ⟨acc, keep5, hl5, rfl, hlt, S5, t5, m5, acc ++ [v5], xs ++ [x5], i6, p6, ss4.trans (i4.ssub p5), ts4.trans p5.th, hS5, ht5, upd_same, hd5.append (.cons r5 .nil), by rw [List.length_append, List.length_singleton]; omega, ?_⟩
          revert h2
          cases lcL G.C g tt te (wipeE e vs) (ds.drop (i + 1)) m5 with
          | ok a m' =>
            show Gd G W σ S H t (R.ok (xs ++ x5 :: a) m') _ → Gd G W σ S H t (R.ok ((xs ++ [x5]) ++ a) m') _
            rw [List.append_assoc]
            exact id
          | exc c fs m' => exact id
          | stuck => exact id
    · left
      have e0 : i = ds.length := by omega
      subst e0
      refine ⟨it.stop S2 H2 t2 m2 ss ts i2, ?_⟩
      rw [List.drop_length] at h2
      have h3 : Gd G W σ S H t (.ok (xs ++ []) m2) (fun S' H' t' _ zs => ∀ p, OwnAt G.K S' H' t' p (.lst zs) → H p = none → Q (.ref p) H') := h2
      rw [List.append_nil] at h3
      exact h3 S2 H2 t2 p2 i2 D ⟨hS, ht, xs, acc, rfl, hH, hd⟩ nH
/-- [elt for tg in iter if ..] -/
theorem df_lc {elt tg iter : Expr} {ifs : List Expr} {scope : Scope} {own : List (Str × Nat)} {pos : Pos} {fi : EvA} {g : Tg} {tt : EvT} {te : EvE} (hc : X.calm = true) (hN : X.N.Nodup) (hi : PI X tg iter (semI G W fi)) (ok : BlkOk X.N X.env.scope scope own)
    (hv : (tslots g).all (fun j => (own.map (·.2)).contains j) = true)
    (hg : ∀ (s : Shared) (H : Hp) (C : Addr) (cl : List (Str × Addr)) (fp : List Addr), PG (X.blk s H scope (compEnvC scope cl C X.env) fp) tg (semG G.K G.x g)) (ht : ∀ (s : Shared) (H : Hp) (C : Addr) (cl : List (Str × Addr)) (fp : List Addr), PTs (X.blk s H scope (compEnvC scope cl C X.env) fp) ifs (semT G W0 tt))
    (he : ∀ (s : Shared) (H : Hp) (C : Addr) (cl : List (Str × Addr)) (fp : List Addr), PE (X.blk s H scope (compEnvC scope cl C X.env) fp) elt (semE G W0 te)) (hs : ∀ x, foldedSetIterable iter X.env x = pure x := by intro _; rfl) :
    PE X (.ListComp elt [⟨tg, iter, ifs, 0⟩] scope pos) (semF G W (lcF fi g tt te (own.map (·.2)))) :=
  (pe_lc hc hN hi ok hg ht he hs).imp fun σ H Q h => sem_lc (lc_ws hv) h
theorem dts_nil : PTs X [] (semT G W yesT) := ⟨fun pins s σ H Q I ⟨S, t, m, e, si, g⟩ => pts_nil.run pins s σ H Q I (g.now si.hi)⟩
theorem dts_one {c : Expr} {t : EvT} (h : PT X c (semT G W t)) : PTs X [c] (semT G W t) := pts_one h
end
end Dn
/-! What a statement does, by data. -/
namespace Dn
open PySem L2

/-- the state at a def's entry -/
structure Snap where
  S : Hp
  H : Hp
  t : Th
def Own0 (H0 : Hp) (σ : St) (e : Env) : Prop := ∀ (i : Nat) d a, e[i]? = some (.own d) → σ[i]? = some (some (.ref a)) → H0 a = none
theorem Own0.sub {H0 : Hp} {σ σ' : St} {e e' : Env} (h : Own0 H0 σ e) (o : OwnSub σ e σ' e') : Own0 H0 σ' e' := fun i d a h1 h2 => by
  obtain ⟨q1, q2⟩ := o i d h1
  exact h i d a q1 (q2.symm.trans h2)
/-- the state between two statements -/
structure SF (G : Cfg) (E : Snap) (S H : Hp) (t : Th) (m : Store) (σ : St) (e : Env) : Prop where
  si : SI G.K G.x S H t m σ e
  fr : Stp E.S E.H E.t S H t
  ow : Own0 E.H σ e
def GS (G : Cfg) (W : WX) (E : Snap) (D : Ends) (r : SR) : Prop := match r with
  | .nx e m => ∀ S H t σ, SF G E S H t m σ e → D.nx σ H
  | .ret d m => ∀ S H t v, HI G.K S H t m → Stp E.S E.H E.t S H t → DR G.K S t v d → D.rt v H
  | .brk e m => ∀ S H t σ, SF G E S H t m σ e → D.bk σ H
  | .ct e m => ∀ S H t σ, SF G E S H t m σ e → D.ct σ H
  | .exc c fs e m => ∀ S H t σ cls dx, SF G E S H t m σ e → EXR G S H t c fs cls dx → W cls dx σ H
  | .stuck => False
def semS (G : Cfg) (W : WX) (E : Snap) (f : EvS) : TS := fun D σ H => ∃ S t m e, SF G E S H t m σ e ∧ GS G W E D (f G.C e m)
def liftS {α : Type} (r : R α) (e : Env) (k : α → Store → SR) : SR := match r with
  | .ok a m => k a m
  | .exc c fs m => .exc c fs e m
  | .stuck => .stuck
@[simp] theorem liftS_ok {α : Type} (a : α) (m : Store) (e : Env) (k : α → Store → SR) : liftS (R.ok a m) e k = k a m := rfl
@[simp] theorem liftS_exc {α : Type} (c : Nat) (fs : List D) (m : Store) (e : Env) (k : α → Store → SR) : liftS (R.exc c fs m) e k = .exc c fs e m := rfl
@[simp] theorem liftS_stuck {α : Type} (e : Env) (k : α → Store → SR) : liftS (R.stuck : R α) e k = .stuck := rfl
def SR.bind (r : SR) (f : Env → Store → SR) : SR := match r with
  | .nx e m => f e m
  | .ret d m => .ret d m
  | .brk e m => .brk e m
  | .ct e m => .ct e m
  | .exc c fs e m => .exc c fs e m
  | .stuck => .stuck
@[simp] theorem SR.bind_nx (e : Env) (m : Store) (f : Env → Store → SR) : (SR.nx e m).bind f = f e m := rfl
@[simp] theorem SR.bind_ret (d : D) (m : Store) (f : Env → Store → SR) : (SR.ret d m).bind f = .ret d m := rfl
@[simp] theorem SR.bind_brk (e : Env) (m : Store) (f : Env → Store → SR) : (SR.brk e m).bind f = .brk e m := rfl
@[simp] theorem SR.bind_ct (e : Env) (m : Store) (f : Env → Store → SR) : (SR.ct e m).bind f = .ct e m := rfl
@[simp] theorem SR.bind_exc (c : Nat) (fs : List D) (e : Env) (m : Store) (f : Env → Store → SR) : (SR.exc c fs e m).bind f = .exc c fs e m := rfl
@[simp] theorem SR.bind_stuck (f : Env → Store → SR) : SR.stuck.bind f = .stuck := rfl
section
variable {G : Cfg} {W : WX} {E : Snap} {S S' H H' : Hp} {t t' : Th} {m m' : Store} {σ : St} {e : Env} {D : Ends}
theorem SF.stp (h : SF G E S H t m σ e) (p : Stp S H t S' H' t') (i : HI G.K S' H' t' m') : SF G E S' H' t' m' σ e := ⟨h.si.stp p i, h.fr.trans p, h.ow⟩
/-- an expression within a statement -/
theorem GS.lift {α : Type} {r : R α} {k : α → Store → SR} (sf : SF G E S H t m σ e) (h : GS G W E D (liftS r e k)) : Gd G W σ S H t r (fun S' H' t' m' a => GS G W E D (k a m')) := by
  cases r with
  | ok a m' => exact fun _ _ _ _ _ => h
  | exc c fs m' => exact fun S' H' t' cls dx p i x => h S' H' t' σ cls dx (sf.stp p i) x
  | stuck => exact h
/-- what is asked behind may be asked of more -/
theorem GS.bind {r : SR} {f : Env → Store → SR} (h : GS G W E D (r.bind f)) : GS G W E { D with nx := fun σ H => ∃ S t m e, SF G E S H t m σ e ∧ GS G W E D (f e m) } r := by
  cases r with
  | nx e m => exact fun S H t σ sf => ⟨S, t, m, e, sf, h⟩
  | ret d m => exact h
  | brk e m => exact h
  | ct e m => exact h
  | exc c fs e m => exact h
  | stuck => exact h
end

theorem _root_.L2.PS.imp {X : Cx} {st : Stmt} {t t' : TS} (h : PS X st t) (w : ∀ D σ H, t' D σ H → t D σ H) : PS X st t' := ⟨fun pins s σ H D I q => h.run pins s σ H D I (w D σ H q)⟩
theorem _root_.L2.PSs.imp {X : Cx} {st : List Stmt} {t t' : TS} (h : PSs X st t) (w : ∀ D σ H, t' D σ H → t D σ H) : PSs X st t' := ⟨fun pins s σ H D I q => h.run pins s σ H D I (w D σ H q)⟩

/-! ### combinators -/
@[simp] def nxS : EvS := fun _ e m => .nx e m
@[simp] def seqS (f g : EvS) : EvS := fun C e m => (f C e m).bind fun e1 m1 => g C e1 m1
@[simp] def retS (f : EvE) : EvS := fun C e m => liftS (f C e m) e fun d m1 => .ret d m1
@[simp] def dropS (f : EvE) : EvS := fun C e m => liftS (f C e m) e fun _ m1 => .nx e m1
@[simp] def brkS : EvS := fun _ e m => .brk e m
@[simp] def ctS : EvS := fun _ e m => .ct e m
@[simp] def ifS (c : EvT) (a b : EvS) : EvS := fun C e m => liftS (c C e m) e fun k m1 => if k = true then a C e m1 else b C e m1
def SR.of (o : Option Env) (m : Store) : SR := match o with
  | some e => .nx e m
  | none => .stuck
@[simp] theorem SR.of_some (e : Env) (m : Store) : SR.of (some e) m = .nx e m := rfl
@[simp] theorem SR.of_none (m : Store) : SR.of none m = .stuck := rfl
@[simp] def asgS (g : Tg) (f : EvE) : EvS := fun C e m => liftS (f C e m) e fun d m1 => .of (asg g d e) m1
/-- slot i a list of its own -/
@[simp] def ownO (i : Nat) (xs : List D) (e : Env) : Option Env := if i < e.length then some (e.set i (.own (.lst xs))) else none
@[simp] def ownS (i : Nat) (f : EvA) : EvS := fun C e m => liftS (f C e m) e fun xs m1 => .of (ownO i xs e) m1
/-- slot i's own list is settled -/
@[simp] def frzO (i : Nat) (e : Env) : Option Env := match e[i]? with
  | some (.own d) => some (e.set i (.dat d))
  | some (.dat _) => some e
  | _ => none
@[simp] def frzS (i : Nat) : EvS := fun _ e m => .of (frzO i e) m
/-- slot i's own list goes into the store -/
@[simp] def stoS (i : Nat) : EvS := fun _ e m => match e[i]? with
  | some (.own (.lst xs)) => .nx (e.set i (.dat (.ref m.length))) (m ++ [.lst xs])
  | _ => .stuck

section
variable {X : Cx} {G : Cfg} {W : WX} {E : Snap} {a b c : Expr} {st : Stmt} {rest : List Stmt} {fa fb : EvE} {fs : EvA} {tc : EvT} {f g : EvS} {pos : Pos}
theorem dss_nil : PSs X [] (semS G W E nxS) := pss_nil.imp fun D σ H ⟨S, t, m, e, sf, h⟩ => h S H t σ sf
theorem dss_cons (h1 : PS X st (semS G W E f)) (h2 : PSs X rest (semS G W E g)) : PSs X (st :: rest) (semS G W E (seqS f g)) :=
  (pss_cons h1 h2).imp fun D σ H ⟨S, t, m, e, sf, h⟩ => ⟨S, t, m, e, sf, GS.bind h⟩
theorem dss_one (h1 : PS X st (semS G W E f)) : PSs X [st] (semS G W E f) := pss_one h1
theorem ds_pass : PS X (.Pass pos) (semS G W E nxS) := ps_pass.imp fun D σ H ⟨S, t, m, e, sf, h⟩ => h S H t σ sf
theorem ds_doc {x j pos pos'} : PS X (.Expr (.Constant (.str x) j pos) pos') (semS G W E nxS) := ps_doc.imp fun D σ H ⟨S, t, m, e, sf, h⟩ => h S H t σ sf
theorem ds_break : PS X (.Break pos) (semS G W E brkS) := ps_break.imp fun D σ H ⟨S, t, m, e, sf, h⟩ => h S H t σ sf
theorem ds_continue : PS X (.Continue pos) (semS G W E ctS) := ps_continue.imp fun D σ H ⟨S, t, m, e, sf, h⟩ => h S H t σ sf
theorem ds_ret (ha : PE X a (semE G W fa)) : PS X (.Return (some a) pos) (semS G W E (retS fa)) :=
  (ps_ret ha).imp fun D σ H ⟨S, t, m, e, sf, h⟩ => ⟨S, t, m, e, sf.si, (GS.lift sf h).imp fun S1 H1 t1 m1 d p1 i1 h1 v rv => h1 S1 H1 t1 v i1 (sf.fr.trans p1) rv⟩
theorem ds_retN : PS X (.Return none pos) (semS G W E (retS (conE .non))) :=
  ps_retN.imp fun D σ H ⟨S, t, m, e, sf, h⟩ => h S H t .non sf.si.hi sf.fr .non
theorem ds_expr (ha : PE X a (semE G W fa)) (hs : swapsWith a none pos.line X.env = pure false := by rfl) : PS X (.Expr a pos) (semS G W E (dropS fa)) :=
  (ps_expr ha hs).imp fun D σ H ⟨S, t, m, e, sf, h⟩ => ⟨S, t, m, e, sf.si, (GS.lift sf h).imp fun S1 H1 t1 m1 d p1 i1 h1 v rv => h1 S1 H1 t1 σ (sf.stp p1 i1)⟩
theorem ds_if {ss rs : List Stmt} (hc : PT X c (semT G W tc)) (ha : PSs X ss (semS G W E f)) (hb : PSs X rs (semS G W E g)) : PS X (.If c ss rs pos) (semS G W E (ifS tc f g)) := by
  refine (ps_if hc ha hb).imp fun D σ H ⟨S, t, m, e, sf, h⟩ => ⟨S, t, m, e, sf.si, (GS.lift sf h).imp fun S1 H1 t1 m1 k p1 i1 h1 => ?_⟩
  cases k with
  | true => exact ⟨S1, t1, m1, e, sf.stp p1 i1, h1⟩
  | false => exact ⟨S1, t1, m1, e, sf.stp p1 i1, h1⟩
theorem sem_asg {g : Tg} {D : Ends} {σ : St} {H : Hp} (h : semS G W E (asgS g fa) D σ H) : tAsg (semE G W fa) (semG G.K G.x g) D σ H := by
  obtain ⟨S, t, m, e, sf, h⟩ := h
  refine ⟨S, t, m, e, sf.si, (GS.lift sf h).imp fun S1 H1 t1 m1 d p1 i1 h1 v rv => ?_⟩
  cases ha : asg g d e with
  | none => rw [ha] at h1; exact h1.elim
  | some e' =>
    rw [ha] at h1
    have sf1 := sf.stp p1 i1
    exact ⟨S1, t1, m1, e, d, e', sf1.si, rv, ha, fun σ' si' o' _ => h1 S1 H1 t1 σ' ⟨si', sf1.fr, sf1.ow.sub o'⟩⟩
theorem ds_asg {tg : Expr} {g : Tg} (ha : PE X a (semE G W fa)) (hg : PG X tg (semG G.K G.x g)) (hs : swapsWithSole [tg] a pos.line X.env = pure false := by rfl) (hw : swappedStores [tg] a X.env = pure none := by rfl)
    (h1 : (assignEach [tg] X.env).map (·.2) = [assign tg X.env] := by rfl) : PS X (.Assign [tg] a pos) (semS G W E (asgS g fa)) := (ps_asg ha hg hs hw h1).imp fun D σ H h => sem_asg h
theorem sem_set {i : Nat} {D : Ends} {σ : St} {H : Hp} (h : semS G W E (asgS (.nm i) fa) D σ H) : tAsg (semE G W fa) (gName i) D σ H := by
  obtain ⟨S, t, m, e, sf, h⟩ := h
  refine ⟨S, t, m, e, sf.si, (GS.lift sf h).imp fun S1 H1 t1 m1 d p1 i1 h1 v rv => ?_⟩
  unfold asg at h1
  split at h1
  · rename_i hj
    have sf1 := sf.stp p1 i1
    obtain ⟨a, b⟩ := sf1.si.set hj rv
    exact h1 S1 H1 t1 _ ⟨a, sf1.fr, sf1.ow.sub b⟩
  · exact h1.elim
theorem ds_set {i : Nat} {x : Str} {pos' : Pos} (hN : X.N.Nodup) (hi : X.N[i]? = some x) (hx : Loc X.env.scope x) (ha : PE X a (semE G W fa)) (hf : X.fn x = true ∨ X.env.scope.names.lookup x = some .local) (hs : swapsWith a (some (.Name x pos')) pos.line X.env = pure false := by rfl) :
    PS X (.Assign [.Name x pos'] a pos) (semS G W E (asgS (.nm i) fa)) := (ps_set hN hi hx ha hs hf).imp fun D σ H h => sem_set h
end

/-! ### lists of one's own -/
section
variable {K : PySem.W.Frag} {x : Gh} {G : Cfg} {W : WX} {E : Snap} {S H : Hp} {t : Th} {m : Store} {σ : St} {e : Env}
/-- slot j gets a list of its own, at p -/
theorem SI.setOwn (i : SI K x S H t m σ e) {j : Nat} {p : Addr} {d : D} (hj : j < e.length) (r : OwnAt K S H t p d) (hp : ∀ (k : Nat) c, k ≠ j → e[k]? = some (.own c) → σ[k]? ≠ some (some (.ref p))) : SI K x S H t m (σ.set j (some (.ref p))) (e.set j (.own d)) := by
  have hs : j < σ.length := by rw [i.len]; exact hj
  refine ⟨i.hi, by simp [i.len], fun k c h => ?_, fun k c h => ?_, fun k l c c' a h1 h2 h3 h4 => ?_, fun k c fs h => ?_⟩
  · by_cases z : k = j
    · subst z; rw [List.getElem?_set_self hj] at h; cases h
    · rw [List.getElem?_set_ne (Ne.symm z)] at h ⊢; exact i.dat k c h
  · by_cases z : k = j
    · subst z
      rw [List.getElem?_set_self hj] at h
      cases h
      exact ⟨p, List.getElem?_set_self hs, r⟩
    · rw [List.getElem?_set_ne (Ne.symm z)] at h ⊢; exact i.own k c h
  · by_cases z : k = j <;> by_cases z' : l = j
    · omega
    · subst z
      rw [List.getElem?_set_self hs] at h3
      cases h3
      rw [List.getElem?_set_ne (Ne.symm z')] at h2 h4
      exact absurd h4 (hp l c' z' h2)
    · subst z'
      rw [List.getElem?_set_self hs] at h4
      cases h4
      rw [List.getElem?_set_ne (Ne.symm z)] at h1 h3
      exact absurd h3 (hp k c z h1)
    · rw [List.getElem?_set_ne (Ne.symm z)] at h1 h3
      rw [List.getElem?_set_ne (Ne.symm z')] at h2 h4
      exact i.apart k l c c' a h1 h2 h3 h4
  · by_cases z : k = j
    · subst z; rw [List.getElem?_set_self hj] at h; cases h
    · rw [List.getElem?_set_ne (Ne.symm z)] at h ⊢; exact i.exn k c fs h
theorem SF.setOwn (h : SF G E S H t m σ e) {j : Nat} {p : Addr} {d : D} (hj : j < e.length) (r : OwnAt G.K S H t p d) (hp : ∀ (k : Nat) c, k ≠ j → e[k]? = some (.own c) → σ[k]? ≠ some (some (.ref p))) (h0 : E.H p = none) : SF G E S H t m (σ.set j (some (.ref p))) (e.set j (.own d)) := by
  refine ⟨h.si.setOwn hj r hp, h.fr, fun k c a h1 h2 => ?_⟩
  by_cases z : k = j
  · subst z
    rw [List.getElem?_set_self (by rw [h.si.len]; exact hj)] at h2
    cases h2
    exact h0
  · rw [List.getElem?_set_ne (Ne.symm z)] at h1 h2
    exact h.ow k c a h1 h2
/-- a new address is nobody's -/
theorem SF.newOwn (h : SF G E S H t m σ e) {p : Addr} (hn : H p = none) : (∀ (k : Nat) c, e[k]? = some (.own c) → σ[k]? ≠ some (some (.ref p))) ∧ E.H p = none := by
  refine ⟨fun k c h1 h2 => ?_, ?_⟩
  · obtain ⟨a, h3, h4⟩ := h.si.own k c h1
    rw [h2] at h3
    cases h3
    exact h4.there hn
  · cases q : E.H p with
    | none => rfl
    | some o => exact absurd hn (h.fr.dom p (by rw [q]; simp))
/-- a list of one's own is written -/
theorem SF.write (h : SF G E S H t m σ e) {j : Nat} {p : Addr} {vs : List V} {xs ys : List D} (hj : e[j]? = some (.own (.lst xs))) (hp : σ[j]? = some (some (.ref p))) (hd : DRs G.K S t vs ys) : SF G E S (upd H p (.lst vs)) t m σ (e.set j (.own (.lst ys))) := by
  obtain ⟨a, h1, ho⟩ := h.si.own j _ hj
  rw [hp] at h1
  cases h1
  have hl : j < e.length := (List.getElem?_eq_some_iff.mp hj).1
  have i2 := own_hi (o := .lst vs) h.si.hi ho.off ho.there ho.nt
  have h0 := h.ow j _ p hj hp
  refine ⟨⟨i2, by simp [h.si.len], fun k c q => ?_, fun k c q => ?_, fun k l c c' a h1 h2 h3 h4 => ?_, fun k c fs q => ?_⟩, ⟨fun a o ha hn => ?_, fun a ha => ?_, h.fr.hs, h.fr.th, h.fr.thn⟩, fun k c a h1 h2 => ?_⟩
  · by_cases z : k = j
    · subst z; rw [List.getElem?_set_self hl] at q; cases q
    · rw [List.getElem?_set_ne (Ne.symm z)] at q; exact h.si.dat k c q
  · by_cases z : k = j
    · subst z
      rw [List.getElem?_set_self hl] at q
      cases q
      exact ⟨p, hp, ho.off, ho.nt, ys, vs, rfl, upd_same, hd⟩
    · rw [List.getElem?_set_ne (Ne.symm z)] at q
      obtain ⟨b, h1, h2⟩ := h.si.own k c q
      refine ⟨b, h1, h2.off, h2.nt, ?_⟩
      obtain ⟨xs', vs', e1, e2, e3⟩ := h2.at_
      refine ⟨xs', vs', e1, ?_, e3⟩
      rw [upd_ne fun w => z (h.si.apart k j c _ p q hj (by rw [h1, w]) hp)]
      exact e2
  · have el : ∀ (k : Nat) c, (e.set j (.own (.lst ys)))[k]? = some (.own c) → ∃ c', e[k]? = some (.own c') := fun k c q => by
      by_cases z : k = j
      · subst z; exact ⟨_, hj⟩
      · rw [List.getElem?_set_ne (Ne.symm z)] at q; exact ⟨c, q⟩
    obtain ⟨c1, q1⟩ := el k c h1
    obtain ⟨c2, q2⟩ := el l c' h2
    exact h.si.apart k l c1 c2 a q1 q2 h3 h4
  · by_cases z : k = j
    · subst z; rw [List.getElem?_set_self hl] at q; cases q
    · rw [List.getElem?_set_ne (Ne.symm z)] at q; exact h.si.exn k c fs q
  · rw [upd_ne (ne_of_none ha h0)]; exact h.fr.keep a o ha hn
  · rw [upd_ne (fun z => ha (by rw [z]; exact h0))]; exact h.fr.dom a ha
  · by_cases z : k = j
    · subst z; rw [hp] at h2; cases h2; exact h0
    · rw [List.getElem?_set_ne (Ne.symm z)] at h1
      exact h.ow k c a h1 h2
/-- .. settled -/
theorem SF.settle (h : SF G E S H t m σ e) {j : Nat} {d : D} (hj : e[j]? = some (.own d)) : ∃ S', SF G E S' H t m σ (e.set j (.dat d)) := by
  obtain ⟨p, hp, ho⟩ := h.si.own j _ hj
  obtain ⟨xs, vs, rfl, hH, hd⟩ := ho.at_
  have hl : j < e.length := (List.getElem?_eq_some_iff.mp hj).1
  have i2 := settle_hi h.si.hi ho.off hH ho.nt
  have h0 := h.ow j _ p hj hp
  have ss : Sub S (upd S p (.lst vs)) := fun a u q => by rw [upd_ne (ne_of_none q ho.off)]; exact q
  have el : ∀ (k : Nat) c, (e.set j (.dat (.lst xs)))[k]? = some (.own c) → k ≠ j ∧ e[k]? = some (.own c) := fun k c q => by
    by_cases z : k = j
    · subst z; rw [List.getElem?_set_self hl] at q; cases q
    · rw [List.getElem?_set_ne (Ne.symm z)] at q; exact ⟨z, q⟩
  refine ⟨upd S p (.lst vs), ⟨i2, by simp [h.si.len], fun k c q => ?_, fun k c q => ?_, fun k l c c' a h1 h2 h3 h4 => ?_, fun k c fs q => ?_⟩, ⟨h.fr.keep, h.fr.dom, fun a ha => ?_, h.fr.th, h.fr.thn⟩, fun k c a h1 h2 => ?_⟩
  · by_cases z : k = j
    · subst z
      rw [List.getElem?_set_self hl] at q
      cases q
      exact ⟨_, hp, .lst upd_same (hd.mono ss (.refl t))⟩
    · rw [List.getElem?_set_ne (Ne.symm z)] at q
      obtain ⟨v, h1, h2⟩ := h.si.dat k c q
      exact ⟨v, h1, h2.mono ss (.refl t)⟩
  · obtain ⟨z, q⟩ := el k c q
    obtain ⟨b, h1, h2⟩ := h.si.own k c q
    have nb : b ≠ p := fun w => z (h.si.apart k j c _ p q hj (by rw [h1, w]) hp)
    obtain ⟨xs', vs', e1, e2, e3⟩ := h2.at_
    exact ⟨b, h1, by rw [upd_ne nb]; exact h2.off, h2.nt, xs', vs', e1, e2, e3.mono ss (.refl t)⟩
  · exact h.si.apart k l c c' a (el k c h1).2 (el l c' h2).2 h3 h4
  · by_cases z : k = j
    · subst z; rw [List.getElem?_set_self hl] at q; cases q
    · rw [List.getElem?_set_ne (Ne.symm z)] at q
      obtain ⟨v, h1, h2⟩ := h.si.exn k c fs q
      exact ⟨v, h1, h2.mono ss (.refl t)⟩
  · rw [upd_ne (fun z => ha (by rw [z]; exact h0))]; exact h.fr.hs a ha
  · exact h.ow k c a (el k c h1).2 h2
/-- .. put into the store -/
theorem SF.store (h : SF G E S H t m σ e) {j : Nat} {xs : List D} (hj : e[j]? = some (.own (.lst xs))) : ∃ t', SF G E S H t' (m ++ [.lst xs]) σ (e.set j (.dat (.ref m.length))) := by
  obtain ⟨p, hp, ho⟩ := h.si.own j _ hj
  obtain ⟨xs', vs, e0, hH, hd⟩ := ho.at_
  cases e0
  have hl : j < e.length := (List.getElem?_eq_some_iff.mp hj).1
  obtain ⟨i2, ts⟩ := store_hi h.si.hi ho.off hH ho.nt hd
  have h0 := h.ow j _ p hj hp
  have el : ∀ (k : Nat) c, (e.set j (.dat (.ref m.length)))[k]? = some (.own c) → k ≠ j ∧ e[k]? = some (.own c) := fun k c q => by
    by_cases z : k = j
    · subst z; rw [List.getElem?_set_self hl] at q; cases q
    · rw [List.getElem?_set_ne (Ne.symm z)] at q; exact ⟨z, q⟩
  refine ⟨_, ⟨i2, by simp [h.si.len], fun k c q => ?_, fun k c q => ?_, fun k l c c' a h1 h2 h3 h4 => ?_, fun k c fs q => ?_⟩, ⟨h.fr.keep, h.fr.dom, h.fr.hs, h.fr.th.trans ts, fun n a q g => ?_⟩, fun k c a h1 h2 => ?_⟩
  · by_cases z : k = j
    · subst z
      rw [List.getElem?_set_self hl] at q
      cases q
      exact ⟨_, hp, .ref (by simp)⟩
    · rw [List.getElem?_set_ne (Ne.symm z)] at q
      obtain ⟨v, h1, h2⟩ := h.si.dat k c q
      exact ⟨v, h1, h2.mono (.refl S) ts⟩
  · obtain ⟨z, q⟩ := el k c q
    obtain ⟨b, h1, h2⟩ := h.si.own k c q
    have nb : b ≠ p := fun w => z (h.si.apart k j c _ p q hj (by rw [h1, w]) hp)
    obtain ⟨xs', vs', e1, e2, e3⟩ := h2.at_
    refine ⟨b, h1, h2.off, fun n w => ?_, xs', vs', e1, e2, e3.mono (.refl S) ts⟩
    by_cases z : n = m.length
    · simp [z] at w; exact nb w.symm
    · simp [z] at w; exact h2.nt n w
  · exact h.si.apart k l c c' a (el k c h1).2 (el l c' h2).2 h3 h4
  · by_cases z : k = j
    · subst z; rw [List.getElem?_set_self hl] at q; cases q
    · rw [List.getElem?_set_ne (Ne.symm z)] at q
      obtain ⟨v, h1, h2⟩ := h.si.exn k c fs q
      exact ⟨v, h1, h2.mono (.refl S) ts⟩
  · by_cases z : n = m.length
    · simp [z] at q; subst q; exact h0
    · simp [z] at q; exact h.fr.thn n a q g
  · exact h.ow k c a (el k c h1).2 h2
end
section
variable {X : Cx} {G : Cfg} {W : WX} {E : Snap} {a b c : Expr} {st : Stmt} {rest : List Stmt} {fa fb : EvE} {fs : EvA} {tc : EvT} {f g : EvS} {pos : Pos}
theorem sem_own {i : Nat} {D : Ends} {σ : St} {H : Hp} (h : semS G W E (ownS i fs) D σ H) : tAsg (semF G W fs) (gName i) D σ H := by
  obtain ⟨S, t, m, e, sf, h⟩ := h
  refine ⟨S, t, m, e, sf.si, (GS.lift sf h).imp fun S1 H1 t1 m1 xs p1 i1 h1 p ho hn => ?_⟩
  unfold ownO at h1
  split at h1
  · rename_i hj
    have sf1 := sf.stp p1 i1
    obtain ⟨q1, q2⟩ := sf.newOwn hn
    exact h1 S1 H1 t1 _ (sf1.setOwn hj ho (fun k c _ => q1 k c) q2)
  · exact h1.elim
theorem ds_own {i : Nat} {x : Str} {pos' : Pos} (hN : X.N.Nodup) (hi : X.N[i]? = some x) (hx : Loc X.env.scope x) (ha : PE X a (semF G W fs)) (hf : X.fn x = true ∨ X.env.scope.names.lookup x = some .local) (hs : swapsWith a (some (.Name x pos')) pos.line X.env = pure false := by rfl) :
    PS X (.Assign [.Name x pos'] a pos) (semS G W E (ownS i fs)) := (ps_set hN hi hx ha hs hf).imp fun D σ H h => sem_own h
theorem dss_frz {i : Nat} (h : PSs X rest (semS G W E f)) : PSs X rest (semS G W E (seqS (frzS i) f)) := by
  refine h.imp fun D σ H ⟨S, t, m, e, sf, h⟩ => ?_
  unfold seqS frzS frzO at h
  split at h
  · rename_i d hj
    obtain ⟨S', sf'⟩ := sf.settle hj
    exact ⟨S', t, m, _, sf', h⟩
  · exact ⟨S, t, m, e, sf, h⟩
  · exact h.elim
theorem dss_sto {i : Nat} (h : PSs X rest (semS G W E f)) : PSs X rest (semS G W E (seqS (stoS i) f)) := by
  refine h.imp fun D σ H ⟨S, t, m, e, sf, h⟩ => ?_
  unfold seqS stoS at h
  split at h
  · rename_i d hj
    obtain ⟨t', sf'⟩ := sf.store hj
    exact ⟨S, t', _, _, sf', h⟩
  · exact h.elim
end
end Dn
/-! More statements: lists that change, loops. -/
namespace Dn
open PySem L2

/-- lists stay below this -/
def LIM : Nat := 1000000
theorem lim_lt {n : Nat} (h : n < LIM) : n < sizeLine := Nat.lt_of_lt_of_le h (by decide)
theorem lim_le {n : Nat} (h : n ≤ LIM) : n ≤ sizeLine := Nat.le_trans h (by decide)
@[simp] def appS (i : Nat) (f : EvE) : EvS := fun C e m => match e[i]? with
  | some (.own (.lst xs)) => liftS (f C e m) e fun d m1 => if xs.length < LIM then .nx (e.set i (.own (.lst (xs ++ [d])))) m1 else .stuck
  | _ => .stuck
@[simp] def extS (i : Nat) (f : EvE) : EvS := fun C e m => match e[i]? with
  | some (.own (.lst xs)) => liftS (f C e m) e fun d m1 => match d with
    | .lst ys => if xs.length + ys.length ≤ LIM then .nx (e.set i (.own (.lst (xs ++ ys)))) m1 else .stuck
    | _ => .stuck
  | _ => .stuck
@[simp] def augS (g : Store → D → D → Option D) (i : Nat) (f : EvE) : EvS := fun C e m => match e[i]? with
  | some (.dat x) => liftS (f C e m) e fun d m1 => match g m1 x d with
    | some z => .nx (e.set i (.dat z)) m1
    | none => .stuck
  | _ => .stuck
@[simp] def setS (i : Nat) (fk f : EvE) : EvS := fun C e m => match e[i]? with
  | some (.own (.lst xs)) => liftS (f C e m) e fun d m1 => liftS (fk C e m1) e fun k m2 => match k with
    | .int k => match ixN xs.length k with
      | some j => .nx (e.set i (.own (.lst (xs.set j d)))) m2
      | none => .stuck
    | _ => .stuck
  | _ => .stuck
/-- a list of the store, an item of it op= e -/
def stoGet (m : Store) (o k : D) : Option (Nat × List D × Nat × D) := match o, k with
  | .ref n, .int k => match m[n]? with
    | some (.lst xs) => if 0 ≤ k ∧ k < (xs.length : Int) ∧ xs.length ≤ LIM then (xs[k.toNat]?).map fun x => (n, xs, k.toNat, x) else none
    | _ => none
  | _, _ => none
@[simp] def stoAug (g : Store → D → D → Option D) (fo fk f : EvE) : EvS := fun C e m => liftS (fo C e m) e fun o m1 => liftS (fk C e m1) e fun k m2 => match stoGet m2 o k with
  | some (_, _, _, x) => liftS (f C e m2) e fun d m3 => match stoGet m3 o k with
    | some (n, xs, j, _) => match g m3 x d with
      | some z => .nx e (m3.set n (.lst (xs.set j z)))
      | none => .stuck
    | none => .stuck
  | none => .stuck

section
variable {X : Cx} {G : Cfg} {W : WX} {E : Snap} {a b c : Expr} {es : List Expr} {st : Stmt} {rest : List Stmt} {fa fb fk fo : EvE} {fs : EvA} {tc : EvT} {f g : EvS} {pos : Pos}
/-- x.append(e) -/
theorem ds_app {i : Nat} {x : Str} {px apos cpos : Pos} (hK : X.K = G.K) (hN : X.N[i]? = some x) (hv : Vis X.env.scope x) (ha : PE X a (semE G W fa)) (hd : (x == ("__debug__" : Str)) = false := by decide) (hcd : (x == ("__classdict__" : Str)) = false := by decide)
    (hbase : attributeBase (.Name x px) "append" X.env (eval (.Name x px) X.env) = eval (.Name x px) X.env := by rfl)
    (hfew : ((backTo cpos (starEach [a] X.env)).all (fun x => !x.1) && (backToKw cpos (keywordEach [] X.env)).all (fun x => x.1.isSome)
      && decide ([a].length + ([] : List Keyword).length + (if ([] : List Keyword).isEmpty then 0 else 1) < 30)) = true := by rfl)
    (hline : (apos.endLine == cpos.line) = true := by rfl) (he : starEach [a] X.env = (false, eval a X.env) :: starEach [] X.env := by rfl) (hplain : (backTo cpos (starEach [] X.env)).any (·.1) = false := by rfl)
    (hs : swapsWith (.Call (.Attribute (.Name x px) "append" apos) [a] [] cpos) none pos.line X.env = pure false := by rfl) :
    PS X (.Expr (.Call (.Attribute (.Name x px) "append" apos) [a] [] cpos) pos) (semS G W E (appS i fa)) := by
  refine (ps_expr (pe_bm PySem.F.plainAttrs_list PySem.F.slot_list_append PySem.F.type_list_append mt_append (pe_var (i := i) hN hv hd hcd) (pa_cons ha pa_nil he) hbase hfew hline he hplain) hs).imp fun D σ H ⟨S, t, m, e, sf, h⟩ => ?_
  unfold appS at h
  split at h
  · rename_i xs hi
    obtain ⟨p, hp, ho⟩ := sf.si.own i _ hi
    obtain ⟨xs', vs, e0, hH, hd'⟩ := ho.at_
    cases e0
    refine ⟨_, hp, .inl ⟨rfl, _, .inl (.inl hH)⟩, S, t, m, e, sf.si, (GS.lift sf h).imp fun S1 H1 t1 m1 d p1 i1 h1 v rv => ?_⟩
    split at h1
    · rename_i hl
      have k1 := p1.keep p _ hH ho.nt
      have sf1 := sf.stp p1 i1
      exact ⟨p, vs, v, rfl, rfl, k1, by rw [hd'.length]; exact lim_lt hl, h1 _ _ _ σ (sf1.write hi hp ((hd'.stp sf.si.hi p1).append (.cons rv .nil)))⟩
    · exact h1.elim
  · exact h.elim
/-- x += [..] -/
theorem ds_ext {i : Nat} {x : Str} {pos' : Pos} (hN : X.N.Nodup) (hi : X.N[i]? = some x) (hx : Loc X.env.scope x) (ha : PE X a (semE G W fa)) (hf : X.fn x = true ∨ X.env.scope.names.lookup x = some .local) :
    PS X (.AugAssign (.Name x pos') .Add a pos) (semS G W E (extS i fa)) := by
  refine (ps_aug (ti := rExt2) hN hi hx ha iop_ext hf).imp fun D σ H ⟨S, t, m, e, sf, h⟩ => ?_
  unfold extS at h
  split at h
  · rename_i xs hi
    obtain ⟨p, hp, ho⟩ := sf.si.own i _ hi
    obtain ⟨xs', vs, e0, hH, hd'⟩ := ho.at_
    cases e0
    refine ⟨_, hp, S, t, m, e, sf.si, (GS.lift sf h).imp fun S1 H1 t1 m1 d p1 i1 h1 v rv => ?_⟩
    cases rv with
    | @lst b ws ys hb hy =>
      dsimp only at h1
      split at h1
      · rename_i hl
        have k1 := p1.keep p _ hH ho.nt
        have sf1 := sf.stp p1 i1
        refine ⟨p, b, vs, ws, rfl, rfl, k1, i1.sub _ _ hb, by rw [hd'.length, hy.length]; exact lim_le hl, ?_⟩
        have q := h1 _ _ _ σ (sf1.write hi hp ((hd'.stp sf.si.hi p1).append hy))
        have e1 : σ.set i (some (.ref p)) = σ := by
          obtain ⟨hl', e2⟩ := List.getElem?_eq_some_iff.mp hp
          rw [← e2]; exact List.set_getElem_self hl'
        show D.nx (σ.set i (some (.ref p))) _
        rw [e1]
        exact q
      · exact h1.elim
    | _ => exact h1.elim
  · exact h.elim
/-- x op= e -/
theorem ds_aug {op : Operator} {gg : Store → D → D → Option D} {i : Nat} {x : Str} {pos' : Pos} (ho : OpD X (inplaceOp op) gg) (hK : X.K = G.K) (hN : X.N.Nodup) (hi : X.N[i]? = some x) (hx : Loc X.env.scope x) (ha : PE X a (semE G W fa)) (hf : X.fn x = true ∨ X.env.scope.names.lookup x = some .local) :
    PS X (.AugAssign (.Name x pos') op a pos) (semS G W E (augS gg i fa)) := by
  obtain ⟨r, r1, r2⟩ := ho
  refine (ps_aug (ti := r) hN hi hx ha r1 hf).imp fun D σ H ⟨S, t, m, e, sf, h⟩ => ?_
  unfold augS at h
  split at h
  · rename_i x hi
    obtain ⟨v, hv, rv⟩ := sf.si.dat i x hi
    refine ⟨_, hv, S, t, m, e, sf.si, (GS.lift sf h).imp fun S1 H1 t1 m1 d p1 i1 h1 w rw' => ?_⟩
    split at h1
    · rename_i z hz
      refine r2 S1 H1 t1 m1 v w x d z _ (hK ▸ i1) (hK ▸ .inl (rv.stp sf.si.hi p1)) (hK ▸ .inl rw') hz fun u S' H' p' i' ru => ?_
      have i' : HI G.K S' H' t1 m1 := hK ▸ i'
      have sf1 := (sf.stp p1 i1).stp p' i'
      obtain ⟨q1, q2⟩ := sf1.si.set (List.getElem?_eq_some_iff.mp hi).1 (hK ▸ ru)
      exact h1 S' H' t1 _ ⟨q1, sf1.fr, sf1.ow.sub q2⟩
    · exact h1.elim
  · exact h.elim
/-- x[k] = e -/
theorem ds_setI {i : Nat} {x : Str} {px spos : Pos} (hN : X.N[i]? = some x) (hv : Vis X.env.scope x) (hk : PE X b (semE G W fk)) (ha : PE X a (semE G W fa)) (hd : (x == ("__debug__" : Str)) = false := by decide) (hcd : (x == ("__classdict__" : Str)) = false := by decide)
    (hasg : ∀ v, assign (.Subscript (.Name x px) b spos) X.env v = (do
      let ov ← holding [v] (eval (.Name x px) X.env)
      let iv ← holding [v, ov] (eval b X.env)
      standAt spos
      holding [v, ov, iv] (setItem ov iv v)
      release [v, ov, iv] []) := by intro _; rfl)
    (hs : swapsWithSole [.Subscript (.Name x px) b spos] a pos.line X.env = pure false := by rfl) (hw : swappedStores [.Subscript (.Name x px) b spos] a X.env = pure none := by rfl)
    (h1 : (assignEach [.Subscript (.Name x px) b spos] X.env).map (·.2) = [assign (.Subscript (.Name x px) b spos) X.env] := by rfl) :
    PS X (.Assign [.Subscript (.Name x px) b spos] a pos) (semS G W E (setS i fk fa)) := by
  refine (ps_asg ha (pg_sub (pe_var (i := i) hN hv hd hcd) hk set_list hasg) hs hw h1).imp fun D σ H ⟨S, t, m, e, sf, h⟩ => ?_
  unfold setS at h
  split at h
  · rename_i xs hi
    obtain ⟨p, hp, ho⟩ := sf.si.own i _ hi
    obtain ⟨xs', vs, e0, hH, hd'⟩ := ho.at_
    cases e0
    refine ⟨S, t, m, e, sf.si, (GS.lift sf h).imp fun S1 H1 t1 m1 d p1 i1 h1 v rv => ?_⟩
    have sf1 := sf.stp p1 i1
    refine ⟨_, hp, S1, t1, m1, e, sf1.si, (GS.lift sf1 h1).imp fun S2 H2 t2 m2 k p2 i2 h2 w rw' => ?_⟩
    have sf2 := sf1.stp p2 i2
    cases rw' with
    | int k =>
      dsimp only at h2
      split at h2
      · rename_i j hj
        have k2 := (p1.trans p2).keep p _ hH ho.nt
        refine ⟨p, vs, k, j, rfl, rfl, k2, by rw [hd'.length]; exact hj, ?_⟩
        exact h2 _ _ _ σ (sf2.write hi hp (((hd'.stp sf.si.hi p1).stp i1 p2).set j (rv.stp i1 p2)))
      · exact h2.elim
    | _ => exact h2.elim
  · exact h.elim
end

/-! ### while -/
def turnW (C : Orc) (c : EvT) (b : EvS) (e : Env) (m : Store) : (Env × Store) ⊕ SR := match c C e m with
  | .ok true m1 => match b C e m1 with
    | .nx e2 m2 => .inl (e2, m2)
    | .ct e2 m2 => .inl (e2, m2)
    | .brk e2 m2 => .inr (.nx e2 m2)
    | r => .inr r
  | .ok false m1 => .inr (.nx e m1)
  | .exc k fs m1 => .inr (.exc k fs e m1)
  | .stuck => .inr .stuck
def runW (C : Orc) (c : EvT) (b : EvS) : Nat → Env → Store → Option SR
  | 0, _, _ => none
  | n + 1, e, m => match turnW C c b e m with
    | .inl (e2, m2) => runW C c b n e2 m2
    | .inr r => some r
theorem runW_more {C : Orc} {c : EvT} {b : EvS} : ∀ (n : Nat) (e : Env) (m : Store) (r : SR), runW C c b n e m = some r → runW C c b (n + 1) e m = some r
  | 0, _, _, _, h => by cases h
  | n + 1, e, m, r, h => by
    unfold runW at h ⊢
    cases q : turnW C c b e m with
    | inl z =>
      obtain ⟨e2, m2⟩ := z
      rw [q] at h
      exact runW_more n e2 m2 r h
    | inr z => rw [q] at h; exact h
theorem runW_le {C : Orc} {c : EvT} {b : EvS} {n k : Nat} {e : Env} {m : Store} {r : SR} (h : runW C c b n e m = some r) (hk : n ≤ k) : runW C c b k e m = some r := by
  induction hk with
  | refl => exact h
  | step _ ih => exact runW_more _ _ _ _ ih
theorem runW_one {C : Orc} {c : EvT} {b : EvS} {n k : Nat} {e : Env} {m : Store} {r r' : SR} (h : runW C c b n e m = some r) (h' : runW C c b k e m = some r') : r = r' := by
  have a := runW_le h (Nat.le_max_left n k)
  have b := runW_le h' (Nat.le_max_right n k)
  rw [a] at b; exact Option.some.inj b
open Classical in
noncomputable def whileS (c : EvT) (b : EvS) : EvS := fun C e m => if h : ∃ n r, runW C c b n e m = some r then h.choose_spec.choose else .stuck
theorem whileS_run {C : Orc} {c : EvT} {b : EvS} {n : Nat} {e : Env} {m : Store} {r : SR} (h : runW C c b n e m = some r) : whileS c b C e m = r := by
  have hx : ∃ n r, runW C c b n e m = some r := ⟨n, r, h⟩
  unfold whileS
  rw [dif_pos hx]
  exact runW_one hx.choose_spec.choose_spec h
theorem whileS_eq (C : Orc) (c : EvT) (b : EvS) (e : Env) (m : Store) : whileS c b C e m = match turnW C c b e m with
    | .inl (e2, m2) => whileS c b C e2 m2
    | .inr r => r := by
  cases q : turnW C c b e m with
  | inr r => exact whileS_run (n := 1) (by unfold runW; rw [q])
  | inl z =>
    obtain ⟨e2, m2⟩ := z
    show whileS c b C e m = whileS c b C e2 m2
    by_cases h : ∃ n r, runW C c b n e2 m2 = some r
    · obtain ⟨n, r, h⟩ := h
      rw [whileS_run h]
      exact whileS_run (n := n + 1) (by unfold runW; rw [q]; exact h)
    · have h' : ¬ ∃ n r, runW C c b n e m = some r := fun ⟨n, r, g⟩ => h (by
        cases n with
        | zero => cases g
        | succ n => unfold runW at g; rw [q] at g; exact ⟨n, r, g⟩)
      unfold whileS
      rw [dif_neg h, dif_neg h']

/-! ### for -/
def forL (C : Orc) (g : Tg) (b : EvS) : List D → Env → Store → SR
  | [], e, m => .nx e m
  | d :: ds, e, m => match asg g d e with
    | none => .stuck
    | some e1 => match b C e1 m with
      | .nx e2 m2 => forL C g b ds e2 m2
      | .ct e2 m2 => forL C g b ds e2 m2
      | .brk e2 m2 => .nx e2 m2
      | r => r
@[simp] def forS (it : EvA) (g : Tg) (b : EvS) : EvS := fun C e m => liftS (it C e m) e fun ds m1 => forL C g b ds e m1

/-! ### a loop's own ground: all that stands there but its own lists -/
open Classical in
noncomputable def ground (H : Hp) (σ : St) (e : Env) : Hp := fun a => if ∃ (i : Nat) (d : D), e[i]? = some (.own d) ∧ σ[i]? = some (some (.ref a)) then none else H a
section
variable {G : Cfg} {W : WX} {E : Snap} {S S' H H' : Hp} {t t' : Th} {m m' : Store} {σ σ' : St} {e e' : Env}
theorem ground_own {a : Addr} {i : Nat} {d : D} (h1 : e[i]? = some (.own d)) (h2 : σ[i]? = some (some (.ref a))) : ground H σ e a = none := by
  unfold ground; rw [if_pos ⟨i, d, h1, h2⟩]
theorem ground_not {a : Addr} (h : ¬ ∃ (i : Nat) (d : D), e[i]? = some (.own d) ∧ σ[i]? = some (some (.ref a))) : ground H σ e a = H a := by
  unfold ground; rw [if_neg h]
theorem ground_le {a : Addr} {o : HO} (h : ground H σ e a = some o) : H a = some o := by
  by_cases z : ∃ (i : Nat) (d : D), e[i]? = some (.own d) ∧ σ[i]? = some (some (.ref a))
  · unfold ground at h; rw [if_pos z] at h; cases h
  · rw [ground_not z] at h; exact h
noncomputable abbrev Snap.at (S H : Hp) (t : Th) (σ : St) (e : Env) : Snap := ⟨S, ground H σ e, t⟩
theorem SF.on (h : SF G E S H t m σ e) : SF G (Snap.at S H t σ e) S H t m σ e := by
  refine ⟨h.si, ⟨fun a o q _ => ground_le q, fun a q => ?_, fun _ _ => rfl, .refl t, fun n a q g => by rw [show t n = none from g] at q; cases q⟩, fun i d a h1 h2 => ground_own h1 h2⟩
  cases q' : ground H σ e a with
  | none => exact absurd q' q
  | some o => rw [ground_le q']; simp
theorem SF.below (h : SF G E S H t m σ e) : Stp E.S E.H E.t S (ground H σ e) t := by
  have no : ∀ a, E.H a ≠ none → ground H σ e a = H a := fun a ha => ground_not fun ⟨i, d, h1, h2⟩ => ha (h.ow i d a h1 h2)
  exact ⟨fun a o q hn => by rw [no a (by rw [q]; simp)]; exact h.fr.keep a o q hn, fun a q => by rw [no a q]; exact h.fr.dom a q, h.fr.hs, h.fr.th, h.fr.thn⟩
theorem SF.off (h : SF G E S H t m σ e) (h' : SF G (Snap.at S H t σ e) S' H' t' m' σ' e') : SF G E S' H' t' m' σ' e' :=
  ⟨h'.si, h.below.trans h'.fr, fun i d a h1 h2 => by
    have q := h'.ow i d a h1 h2
    cases q' : E.H a with
    | none => rfl
    | some o => exact absurd q (h.below.dom a (by rw [q']; simp))⟩
theorem SF.onSub (h : SF G E S H t m σ e) (h' : Stp S (ground H σ e) t S' H' t') : Sub S S' := fun a o q => by
  have z : ground H σ e a = H a := ground_not fun ⟨i, d, h1, h2⟩ => by
    obtain ⟨b, h3, h4⟩ := h.si.own i d h1
    rw [h2] at h3
    cases h3
    rw [h4.off] at q; cases q
  exact (h'.hs a (by rw [z, h.si.hi.sub a o q]; simp)).trans q
end
section
variable {X : Cx} {G : Cfg} {W : WX} {E : Snap} {a b c : Expr} {fs : EvA} {tc : EvT} {f g : EvS} {pos : Pos}
theorem ds_while {body : List Stmt} (hp : PassesOwn (model X.prog X.w) X.A X.env X.xe) (hc : PT X c (semT G W tc)) (hb : PSs X body (semS G W E f)) : PS X (.While c body [] pos) (semS G W E (whileS tc f)) := by
  refine (ps_while hp hc hb).imp fun D σ H ⟨S, t, m, e, sf, h⟩ => ?_
  by_cases hx : ∃ n r, runW G.C tc f n e m = some r
  · obtain ⟨n, r, hr⟩ := hx
    rw [whileS_run hr] at h
    refine ⟨fun k σ H => ∃ S t m e r, SF G E S H t m σ e ∧ runW G.C tc f k e m = some r ∧ GS G W E D r, ⟨n, S, t, m, e, r, sf, hr, h⟩, ?_⟩
    rintro k σ H ⟨S, t, m, e, r, sf, hr, h⟩
    cases k with
    | zero => cases hr
    | succ k =>
    unfold runW turnW at hr
    refine ⟨S, t, m, e, sf.si, ?_⟩
    cases hc' : tc G.C e m with
    | stuck =>
      rw [hc'] at hr
      cases hr
      exact h
    | exc k' fs' m1 =>
      rw [hc'] at hr
      cases hr
      exact fun S' H' t' cls dx p i x => h S' H' t' σ cls dx (sf.stp p i) x
    | ok kb m1 =>
      rw [hc'] at hr
      intro S1 H1 t1 p1 i1
      have sf1 := sf.stp p1 i1
      cases kb with
      | false =>
        dsimp only at hr
        cases hr
        exact h S1 H1 t1 σ sf1
      | true =>
        dsimp only at hr
        refine ⟨fun σ' H' => ∃ S t m e r, SF G E S H' t m σ' e ∧ runW G.C tc f k e m = some r ∧ GS G W E D r, fun σ' H' q => ⟨k, Nat.lt_succ_self k, q⟩, S1, t1, m1, e, sf1, ?_⟩
        cases hb' : f G.C e m1 with
        | nx e2 m2 => rw [hb'] at hr; exact fun S' H' t' σ' sf' => ⟨S', t', m2, e2, r, sf', hr, h⟩
        | ct e2 m2 => rw [hb'] at hr; exact fun S' H' t' σ' sf' => ⟨S', t', m2, e2, r, sf', hr, h⟩
        | brk e2 m2 => rw [hb'] at hr; cases hr; exact h
        | ret d m2 => rw [hb'] at hr; cases hr; exact h
        | exc k' fs' e2 m2 => rw [hb'] at hr; cases hr; exact h
        | stuck => rw [hb'] at hr; cases hr; exact h
  · unfold whileS at h
    rw [dif_neg hx] at h
    exact h.elim
theorem ds_for {tg iter : Expr} {body : List Stmt} {gg : Tg} (hp : PassesOwn (model X.prog X.w) X.A X.env X.xe) (hc : X.calm = true) (hi : PI X tg iter (semI G W fs)) (hg : PG X tg (semG G.K G.x gg)) (hb : ∀ E, PSs X body (semS G W E f))
    (hs : ∀ x, foldedSetIterable iter X.env x = pure x := by intro _; rfl) : PS X (.For tg iter body [] pos) (semS G W E (forS fs gg f)) := by
  have hb' : PSs X body (fun D σ H => ∃ E, semS G W E f D σ H) := ⟨fun pins s σ H D I ⟨E, h⟩ => (hb E).run pins s σ H D I h⟩
  refine (ps_for hp hc hi hg hb' hs).imp fun D σ H ⟨S, t, m, e, sf, h⟩ => ⟨S, t, m, e, sf.si, (GS.lift sf h).imp fun S1 H1 t1 m1 ds p1 i1 h1 J it => ?_⟩
  have sf1 := sf.stp p1 i1
  refine ⟨fun i k σ H => k = ds.length - i ∧ i ≤ ds.length ∧ ∃ S2 t2 m2 e2, SF G E S2 H t2 m2 σ e2 ∧ Sub S1 S2 ∧ TSub t1 t2 ∧ GS G W E D (forL G.C gg f (ds.drop i) e2 m2), ⟨ds.length, by simp, Nat.zero_le _, S1, t1, m1, e, sf1, .refl _, .refl _, h1⟩, ?_⟩
  rintro i k σ2 H2 ⟨rfl, hi', S2, t2, m2, e2, sf2, ss, ts, h2⟩
  by_cases hlt : i < ds.length
  · right
    have hx : ds[i]? = some ds[i] := List.getElem?_eq_getElem hlt
    obtain ⟨hgo, hy⟩ := it.go i _ S2 H2 t2 m2 hx ss ts sf2.si.hi
    refine ⟨hgo, fun σ' H' => i + 1 ≤ ds.length ∧ ∃ S2 t2 m2 e2, SF G E S2 H' t2 m2 σ' e2 ∧ Sub S1 S2 ∧ TSub t1 t2 ∧ GS G W E D (forL G.C gg f (ds.drop (i + 1)) e2 m2), fun σ' H' q => ⟨ds.length - (i + 1), by omega, rfl, q⟩, fun x H3 y => ?_⟩
    obtain ⟨S3, p3, i3, r3⟩ := hy x H3 y
    have sf3 := sf2.stp p3 i3
    rw [List.drop_eq_getElem_cons hlt] at h2
    unfold forL at h2
    cases ha : asg gg ds[i] e2 with
    | none => rw [ha] at h2; exact h2.elim
    | some e3 =>
      rw [ha] at h2
      dsimp only at h2
      refine ⟨S3, t2, m2, e2, _, e3, sf3.si, r3, ha, fun σ' si' o' _ => ?_⟩
      have sf4 : SF G E S3 H3 t2 m2 σ' e3 := ⟨si', sf3.fr, sf3.ow.sub o'⟩
      have ss3 : Sub S1 S3 := ss.trans (sf2.si.hi.ssub p3)
      refine ⟨Snap.at S3 H3 t2 σ' e3, S3, t2, m2, e3, sf4.on, ?_⟩
      cases hr : f G.C e3 m2 with
      | nx e4 m4 =>
        rw [hr] at h2
        exact fun S' H' t' σ4 sf' => ⟨hlt, S', t', m4, e4, sf4.off sf', ss3.trans (sf4.onSub sf'.fr), ts.trans sf'.fr.th, h2⟩
      | ct e4 m4 =>
        rw [hr] at h2
        exact fun S' H' t' σ4 sf' => ⟨hlt, S', t', m4, e4, sf4.off sf', ss3.trans (sf4.onSub sf'.fr), ts.trans sf'.fr.th, h2⟩
      | brk e4 m4 => rw [hr] at h2; exact fun S' H' t' σ4 sf' => h2 S' H' t' σ4 (sf4.off sf')
      | ret d m4 => rw [hr] at h2; exact fun S' H' t' v i p r => h2 S' H' t' v i (sf4.below.trans p) r
      | exc k' fs' e4 m4 => rw [hr] at h2; exact fun S' H' t' σ4 cls dx sf' x => h2 S' H' t' σ4 cls dx (sf4.off sf') x
      | stuck => rw [hr] at h2; exact h2.elim
  · left
    have e0 : i = ds.length := by omega
    subst e0
    rw [List.drop_length] at h2
    exact ⟨it.stop S2 H2 t2 m2 ss ts sf2.si.hi, h2 S2 H2 t2 σ2 sf2⟩
end
end Dn
/-! Several names at once, comprehensions given to a name, the store's items, errors. -/
namespace Dn
open PySem L2

/-! ### a, b = x, y -/
abbrev EvM := Orc → Env → Store → R (List (Bool × D))
inductive MRs (K : PySem.W.Frag) (S H : Hp) (t : Th) : List V → List (Bool × D) → List Addr → Prop
  | nil : MRs K S H t [] [] []
  | dat {v : V} {d : D} {vs : List V} {ds : List (Bool × D)} {as : List Addr} : DR K S t v d → MRs K S H t vs ds as → MRs K S H t (v :: vs) ((false, d) :: ds) as
  | own {p : Addr} {d : D} {vs : List V} {ds : List (Bool × D)} {as : List Addr} : OwnAt K S H t p d → p ∉ as → MRs K S H t vs ds as → MRs K S H t (.ref p :: vs) ((true, d) :: ds) (p :: as)
@[simp] def nilM : EvM := fun _ _ m => .ok [] m
@[simp] def consM (a : EvE) (r : EvM) : EvM := fun C e m => (a C e m).bind fun x m1 => (r C e m1).bind fun xs m2 => .ok ((false, x) :: xs) m2
@[simp] def newM (a : EvA) (r : EvM) : EvM := fun C e m => (a C e m).bind fun x m1 => (r C e m1).bind fun xs m2 => .ok ((true, .lst x) :: xs) m2
def semM (G : Cfg) (W : WX) (f : EvM) : TA := fun σ H Q => ∃ S t m e, SI G.K G.x S H t m σ e ∧ Gd G W σ S H t (f G.C e m) fun S' H' t' _ ds => ∀ vs as, MRs G.K S' H' t' vs ds as → (∀ q, q ∈ as → H q = none) → Q vs H'
@[simp] def parO : List Nat → List (Bool × D) → Env → Option Env
  | [], [], e => some e
  | i :: is, (b, d) :: ds, e => if i < e.length then parO is ds (e.set i (if b = true then .own d else .dat d)) else none
  | _, _, _ => none
@[simp] def parS (is : List Nat) (f : EvM) : EvS := fun C e m => liftS (f C e m) e fun ds m1 => .of (parO is ds e) m1
theorem parO_len : ∀ (is : List Nat) (ds : List (Bool × D)) (e e' : Env), parO is ds e = some e' → ds.length = is.length
  | [], [], _, _, _ => rfl
  | [], _ :: _, _, _, h => by unfold parO at h; cases h
  | _ :: _, [], _, _, h => by unfold parO at h; cases h
  | i :: is, (b, d) :: ds, e, e', h => by
    unfold parO at h
    split at h
    · have := parO_len is ds _ e' h
      simp [this]
    · cases h
def setAll : St → List Nat → List V → St
  | σ, i :: is, v :: vs => setAll (σ.set i (some v)) is vs
  | σ, _, _ => σ
section
variable {K : PySem.W.Frag} {G : Cfg} {W : WX} {E : Snap} {S H S' H' : Hp} {t t' : Th} {m : Store}
theorem MRs.stp {vs : List V} {ds : List (Bool × D)} {as : List Addr} (i : HI K S H t m) (p : Stp S H t S' H' t') (h : MRs K S H t vs ds as) : MRs K S' H' t' vs ds as := by
  induction h with
  | nil => exact .nil
  | dat r _ ih => exact .dat (r.stp i p) ih
  | own o n _ ih => exact .own (o.stp i p) n ih
theorem SF.all {is : List Nat} : ∀ {σ : St} {e e' : Env} {vs : List V} {ds : List (Bool × D)} {as : List Addr}, SF G E S H t m σ e → MRs G.K S H t vs ds as → (∀ q, q ∈ as → E.H q = none ∧ ∀ (k : Nat) c, e[k]? = some (.own c) → σ[k]? ≠ some (some (.ref q))) → parO is ds e = some e' → SF G E S H t m (setAll σ is vs) e' := by
  induction is with
  | nil =>
    intro σ e e' vs ds as sf r n h
    cases r with
    | nil => unfold parO at h; cases h; exact sf
    | dat => unfold parO at h; cases h
    | own => unfold parO at h; cases h
  | cons i is ih =>
    intro σ e e' vs ds as sf r n h
    cases r with
    | nil => unfold parO at h; cases h
    | dat r rs =>
      unfold parO at h
      split at h
      · rename_i hi
        obtain ⟨q1, q2⟩ := sf.si.set hi r
        refine ih ⟨q1, sf.fr, sf.ow.sub q2⟩ rs (fun q hq => ⟨(n q hq).1, fun k c h1 h2 => ?_⟩) h
        obtain ⟨q3, q4⟩ := q2 k c h1
        rw [q4] at h2
        exact (n q hq).2 k c q3 h2
      · cases h
    | @own p d vs ds as o no rs =>
      unfold parO at h
      split at h
      · rename_i hi
        obtain ⟨n1, n2⟩ := n p List.mem_cons_self
        refine ih (sf.setOwn hi o (fun k c _ => n2 k c) n1) rs (fun q hq => ⟨(n q (List.mem_cons_of_mem _ hq)).1, fun k c h1 h2 => ?_⟩) h
        by_cases z : k = i
        · subst z
          rw [List.getElem?_set_self (by rw [sf.si.len]; exact hi)] at h2
          cases h2
          exact no hq
        · have h1' : (e.set i (.own d))[k]? = some (.own c) := h1
          rw [List.getElem?_set_ne (Ne.symm z)] at h1' h2
          exact (n q (List.mem_cons_of_mem _ hq)).2 k c h1' h2
      · cases h
end
section
variable {X : Cx} {G : Cfg} {W : WX} {E : Snap} {a b c : Expr} {es : List Expr} {fa fb fk fo : EvE} {fs : EvA} {fm : EvM} {tc : EvT} {f g : EvS} {pos : Pos}
theorem dm_nil : PA X [] (semM G W nilM) := (pa_nil (X := X)).imp fun σ H Q ⟨S, t, m, e, si, g⟩ => g.now si.hi [] [] .nil fun _ h => nomatch h
theorem dm_cons (ha : PE X a (semE G W fa)) (hr : PA X es (semM G W fm)) (hs : starEach (a :: es) X.env = (false, eval a X.env) :: starEach es X.env := by rfl) : PA X (a :: es) (semM G W (consM fa fm)) := by
  refine (pa_cons ha hr hs).imp fun σ H Q ⟨S, t, m, e, si, g⟩ => ⟨S, t, m, e, si, (Gd.sp g).imp fun S1 H1 t1 m1 x p1 i1 h1 v rv => ?_⟩
  refine ⟨S1, t1, m1, e, si.stp p1 i1, (Gd.sp h1).imp fun S2 H2 t2 m2 xs p2 i2 h2 vs as rs n => ?_⟩
  refine Gd.now h2 i2 (v :: vs) as (.dat (rv.stp i1 p2) rs) fun q hq => ?_
  cases z : H q with
  | none => rfl
  | some o => exact absurd (n q hq) (p1.dom q (by rw [z]; simp))
theorem dm_new (ha : PE X a (semF G W fs)) (hr : PA X es (semM G W fm)) (hs : starEach (a :: es) X.env = (false, eval a X.env) :: starEach es X.env := by rfl) : PA X (a :: es) (semM G W (newM fs fm)) := by
  refine (pa_cons ha hr hs).imp fun σ H Q ⟨S, t, m, e, si, g⟩ => ⟨S, t, m, e, si, (Gd.sp g).imp fun S1 H1 t1 m1 x p1 i1 h1 p ho hn => ?_⟩
  refine ⟨S1, t1, m1, e, si.stp p1 i1, (Gd.sp h1).imp fun S2 H2 t2 m2 xs p2 i2 h2 vs as rs n => ?_⟩
  refine Gd.now h2 i2 (.ref p :: vs) (p :: as) (.own (ho.stp i1 p2) (fun z => ho.there (n p z)) rs) fun q hq => ?_
  rcases List.mem_cons.mp hq with e | hq
  · rw [e]; exact hn
  · cases z : H q with
    | none => rfl
    | some o => exact absurd (n q hq) (p1.dom q (by rw [z]; simp))
theorem sem_par {is : List Nat} {D : Ends} {σ : St} {H : Hp} (h : semS G W E (parS is fm) D σ H) : semM G W fm σ H fun vs H1 => vs.length = is.length ∧ D.nx (setAll σ is vs) H1 := by
  obtain ⟨S, t, m, e, sf, h⟩ := h
  refine ⟨S, t, m, e, sf.si, (GS.lift sf h).imp fun S1 H1 t1 m1 ds p1 i1 h1 vs as rs n => ?_⟩
  cases ho : parO is ds e with
  | none => rw [ho] at h1; exact h1.elim
  | some e' =>
    rw [ho] at h1
    have sf1 := sf.stp p1 i1
    refine ⟨?_, h1 S1 H1 t1 _ (sf1.all rs (fun q hq => ?_) ho)⟩
    · have lem := parO_len is ds e e' ho
      have l2 : vs.length = ds.length := by
        clear h1 ho n lem
        induction rs with
        | nil => rfl
        | dat _ _ ih => simp [ih]
        | own _ _ _ ih => simp [ih]
      rw [l2]; exact lem
    · have hq' := n q hq
      obtain ⟨q1, q2⟩ := sf.newOwn hq'
      exact ⟨q2, q1⟩
theorem ds_par2 {i j : Nat} {x y : Str} {px py pt : Pos} {kt k2 pt2} (hc : X.calm = true) (hN : X.N.Nodup) (hi : X.N[i]? = some x) (hj : X.N[j]? = some y) (hij : i ≠ j)
    (hx : X.env.scope.names.lookup x = some .local) (hy : X.env.scope.names.lookup y = some .local) (ha : PA X [a, b] (semM G W fm))
    (hw : swappedStores [.Tuple [.Name x px, .Name y py] kt pt] (.Tuple [a, b] k2 pt2) X.env = pure (some [x, y]))
    (hs : swapsWithSole [.Tuple [.Name x px, .Name y py] kt pt] (.Tuple [a, b] k2 pt2) pos.line X.env = pure false := by rfl) :
    PS X (.Assign [.Tuple [.Name x px, .Name y py] kt pt] (.Tuple [a, b] k2 pt2) pos) (semS G W E (parS [i, j] fm)) := by
  refine (ps_par hc hN hi hj hij hx hy ha hw hs).imp fun D σ H h => ?_
  obtain ⟨S, t, m, e, si, g⟩ := sem_par h
  refine ⟨S, t, m, e, si, g.imp fun S' H' t' m' ds p i q vs as rs n => ?_⟩
  obtain ⟨l, q⟩ := q vs as rs n
  match vs, l with
  | [v, w], _ => exact ⟨v, w, rfl, q⟩
theorem ds_par3 {i j l : Nat} {x y z : Str} {px py pz pt : Pos} {kt k2 pt2} (hc : X.calm = true) (hN : X.N.Nodup) (hi : X.N[i]? = some x) (hj : X.N[j]? = some y) (hl : X.N[l]? = some z) (hij : i ≠ j) (hil : i ≠ l) (hjl : j ≠ l)
    (hx : X.env.scope.names.lookup x = some .local) (hy : X.env.scope.names.lookup y = some .local) (hz : X.env.scope.names.lookup z = some .local) (ha : PA X [a, b, c] (semM G W fm))
    (hw : swappedStores [.Tuple [.Name x px, .Name y py, .Name z pz] kt pt] (.Tuple [a, b, c] k2 pt2) X.env = pure (some [x, y, z]))
    (hs : swapsWithSole [.Tuple [.Name x px, .Name y py, .Name z pz] kt pt] (.Tuple [a, b, c] k2 pt2) pos.line X.env = pure false := by rfl) :
    PS X (.Assign [.Tuple [.Name x px, .Name y py, .Name z pz] kt pt] (.Tuple [a, b, c] k2 pt2) pos) (semS G W E (parS [i, j, l] fm)) := by
  refine (ps_par3 hc hN hi hj hl hij hil hjl hx hy hz ha hw hs).imp fun D σ H h => ?_
  obtain ⟨S, t, m, e, si, g⟩ := sem_par h
  refine ⟨S, t, m, e, si, g.imp fun S' H' t' m' ds p i q vs as rs n => ?_⟩
  obtain ⟨l, q⟩ := q vs as rs n
  match vs, l with
  | [v, w, u], _ => exact ⟨v, w, u, rfl, q⟩

/-! ### name = [..] -/
theorem ds_ownLc {i : Nat} {y : Str} {py : Pos} {elt tg iter : Expr} {ifs : List Expr} {scope : Scope} {own : List (Str × Nat)} {lpos spos : Pos} {fi : EvA} {g : Tg} {tt : EvT} {te : EvE} (hc : X.calm = true) (hN : X.N.Nodup) (hy : X.N[i]? = some y) (hyl : X.env.scope.names.lookup y = some .local)
    (hsw : swapsWith (.ListComp elt [⟨tg, iter, ifs, 0⟩] scope lpos) (some (.Name y py)) spos.line X.env = pure true) (hi : PI X tg iter (semI G W fi)) (ok : BlkOk X.N X.env.scope scope own) (hv : (tslots g).all (fun j => (own.map (·.2)).contains j) = true)
    (hg : ∀ (s : Shared) (H : Hp) (C : Addr) (cl : List (Str × Addr)) (fp : List Addr), PG (X.blk s H scope (compEnvC scope cl C X.env) fp) tg (semG G.K G.x g)) (ht : ∀ (s : Shared) (H : Hp) (C : Addr) (cl : List (Str × Addr)) (fp : List Addr), PTs (X.blk s H scope (compEnvC scope cl C X.env) fp) ifs (semT G W0 tt))
    (he : ∀ (s : Shared) (H : Hp) (C : Addr) (cl : List (Str × Addr)) (fp : List Addr), PE (X.blk s H scope (compEnvC scope cl C X.env) fp) elt (semE G W0 te)) (hs : ∀ x, foldedSetIterable iter X.env x = pure x := by intro _; rfl) :
    PS X (.Assign [.Name y py] (.ListComp elt [⟨tg, iter, ifs, 0⟩] scope lpos) spos) (semS G W E (ownS i (lcF fi g tt te (own.map (·.2))))) :=
  (ps_setLc hc hN hy hyl hsw hi ok hg ht he hs).imp fun D σ H h => sem_lc (lc_ws hv) (sem_own h)
theorem ds_setLc {i : Nat} {y : Str} {py : Pos} {elt tg iter : Expr} {ifs : List Expr} {scope : Scope} {own : List (Str × Nat)} {lpos spos : Pos} {fi : EvA} {g : Tg} {tt : EvT} {te : EvE} (hc : X.calm = true) (hN : X.N.Nodup) (hy : X.N[i]? = some y) (hyl : X.env.scope.names.lookup y = some .local)
    (hsw : swapsWith (.ListComp elt [⟨tg, iter, ifs, 0⟩] scope lpos) (some (.Name y py)) spos.line X.env = pure true) (hi : PI X tg iter (semI G W fi)) (ok : BlkOk X.N X.env.scope scope own) (hv : (tslots g).all (fun j => (own.map (·.2)).contains j) = true)
    (hg : ∀ (s : Shared) (H : Hp) (C : Addr) (cl : List (Str × Addr)) (fp : List Addr), PG (X.blk s H scope (compEnvC scope cl C X.env) fp) tg (semG G.K G.x g)) (ht : ∀ (s : Shared) (H : Hp) (C : Addr) (cl : List (Str × Addr)) (fp : List Addr), PTs (X.blk s H scope (compEnvC scope cl C X.env) fp) ifs (semT G W0 tt))
    (he : ∀ (s : Shared) (H : Hp) (C : Addr) (cl : List (Str × Addr)) (fp : List Addr), PE (X.blk s H scope (compEnvC scope cl C X.env) fp) elt (semE G W0 te)) (hs : ∀ x, foldedSetIterable iter X.env x = pure x := by intro _; rfl) :
    PS X (.Assign [.Name y py] (.ListComp elt [⟨tg, iter, ifs, 0⟩] scope lpos) spos) (semS G W E (asgS (.nm i) (frzE (lcF fi g tt te (own.map (·.2)))))) := by
  refine (ps_setLc hc hN hy hyl hsw hi ok hg ht he hs).imp fun D σ H h => sem_lc (lc_ws hv) ?_
  have h1 := sem_set h
  obtain ⟨S, t, m, e, si, g⟩ := h1
  refine ⟨S, t, m, e, si, ?_⟩
  unfold frzE at g
  revert g
  cases lcF fi g tt te (own.map (·.2)) G.C e m with
  | ok ys m2 =>
    intro g S' H' t' q i p ho hn
    obtain ⟨S2, q2, i2, r⟩ := ho.settle i q hn
    exact g S2 H' t' q2 i2 _ r
  | exc c fs m' => exact id
  | stuck => exact id

/-! ### an item of a list of the store op= e -/
def rGetS : V → V → Hp → VK → Prop := fun x y H Q => ∃ p xs k v, x = .ref p ∧ y = .int k ∧ H p = some (.lst xs) ∧ 0 ≤ k ∧ k < (xs.length : Int) ∧ xs[k.toNat]? = some v ∧ Q v H
theorem pg_get {X : Cx} : PGet X rGetS := by
  intro pins s σ H o i ov iv Q I ro ri h
  obtain ⟨p, xs, k, v, rfl, rfl, hH, h0, h1, hx, q⟩ := h
  cases ro
  obtain ⟨t, rfl⟩ := ri
  obtain ⟨its, r, pl, hz⟩ := I.list (.of hH)
  obtain ⟨u, hu, ru⟩ := r.get hx
  have hl := r.length
  have hn := line63
  refine wpAny_getItem_list pl.isList h0 (by omega) (x := u) (by simpa using hu) ⟨v, H, I, ru, q⟩
theorem ds_stoAug {op : Operator} {gg : Store → D → D → Option D} {tpos : Pos} (hp : OpD X (inplaceOp op) gg) (hK : X.K = G.K) (ho : PE X b (semE G W fo)) (hk : PE X c (semE G W fk)) (ha : PE X a (semE G W fa))
    (hst : ∀ ov iv new, augStore c ov iv new = (do holding [new, ov, iv] (setItem ov iv new); release [new, ov, iv] []; pure .next) := by intros; rfl) : PS X (.AugAssign (.Subscript b c tpos) op a pos) (semS G W E (stoAug gg fo fk fa)) := by
  obtain ⟨r, r1, r2⟩ := hp
  refine (ps_augS (tip := r) ho hk pg_get ha r1 set_list hst).imp fun D σ H ⟨S, t, m, e, sf, h⟩ => ⟨S, t, m, e, sf.si, (GS.lift sf h).imp fun S1 H1 t1 m1 o p1 i1 h1 v rv => ?_⟩
  have sf1 := sf.stp p1 i1
  refine ⟨S1, t1, m1, e, sf1.si, (GS.lift sf1 h1).imp fun S2 H2 t2 m2 k p2 i2 h2 w rw' => ?_⟩
  have sf2 := sf1.stp p2 i2
  have get : ∀ {S H t m}, HI G.K S H t m → DR G.K S t v o → DR G.K S t w k → ∀ {n xs j x}, stoGet m o k = some (n, xs, j, x) → ∃ p vs kk u, v = .ref p ∧ w = .int kk ∧ t n = some p ∧ H p = some (.lst vs) ∧ DRs G.K S t vs xs ∧ 0 ≤ kk ∧ kk < (vs.length : Int) ∧ kk.toNat = j ∧ vs[kk.toNat]? = some u ∧ DR G.K S t u x ∧ m[n]? = some (.lst xs) := by
    intro S H t m hi hv hw n xs j x hg
    cases hv with
    | @ref n' a' hn =>
      cases hw with
      | int kk =>
        unfold stoGet at hg
        dsimp only at hg
        cases hm : m[n']? with
        | none => rw [hm] at hg; cases hg
        | some ob =>
          rw [hm] at hg
          cases ob with
          | gone => cases hg
          | lst ys =>
            dsimp only at hg
            split at hg
            · rename_i hc
              obtain ⟨c1, c2, c3⟩ := hc
              cases hx : ys[kk.toNat]? with
              | none => rw [hx] at hg; cases hg
              | some x' =>
                rw [hx] at hg
                cases hg
                obtain ⟨p, vs, e1, e2, e3⟩ := hi.sto _ _ hm
                rw [hn] at e1
                cases e1
                obtain ⟨u, u1, u2⟩ := e3.get hx
                exact ⟨a', vs, kk, u, rfl, rfl, hn, e2, e3, c1, by rw [e3.length]; exact c2, rfl, u1, u2, hm⟩
            · cases hg
      | _ => cases hg
    | _ => cases hg
  split at h2
  · rename_i n xs j x hg
    obtain ⟨p, vs, kk, u, rfl, rfl, ht, hH, hd, c1, c2, c3, u1, u2, hm⟩ := get i2 (rv.stp i1 p2) rw' hg
    refine ⟨p, vs, kk, u, rfl, rfl, hH, c1, c2, u1, S2, t2, m2, e, sf2.si, (GS.lift sf2 h2).imp fun S3 H3 t3 m3 d p3 i3 h3 z rz => ?_⟩
    have sf3 := sf2.stp p3 i3
    split at h3
    · rename_i n' xs' j' x' hg'
      obtain ⟨p', vs', kk', u', e1, e2, ht', hH', hd', c1', c2', c3', u1', u2', hm'⟩ := get i3 ((rv.stp i1 p2).stp i2 p3) (rw'.stp i2 p3) hg'
      cases e1
      cases e2
      split at h3
      · rename_i zz hz
        refine r2 S3 H3 t3 m3 u z x d zz _ (hK ▸ i3) (hK ▸ .inl (u2.stp i2 p3)) (hK ▸ .inl rz) hz fun y S4 H4 p4 i4 ry => ?_
        have i4 : HI G.K S4 H4 t3 m3 := hK ▸ i4
        have sf4 := sf3.stp p4 i4
        obtain ⟨p'', vs'', kk'', u'', e1, e2, ht'', hH'', hd'', c1'', c2'', c3'', u1'', u2'', hm''⟩ := get i4 (((rv.stp i1 p2).stp i2 p3).stp i3 p4) ((rw'.stp i2 p3).stp i3 p4) hg'
        cases e1
        cases e2
        have hix : ixN vs''.length kk = some kk.toNat := by
          unfold ixN
          rw [if_pos c1, if_pos c2'']
        refine ⟨p, vs'', kk, kk.toNat, rfl, rfl, hH'', hix, ?_⟩
        obtain ⟨i5, p5⟩ := sto_hi i4 ht'' (hd''.set kk.toNat (hK ▸ ry))
        have sf5 := sf4.stp p5 i5
        subst c3''
        exact h3 _ _ _ _ sf5
      · exact h3.elim
    · exact h3.elim
  · exact h2.elim
end
end Dn
/-! Errors: raise, try. -/
namespace Dn
open PySem L2

/-- an expression that makes an error of the class c with these fields -/
def semX (G : Cfg) (W : WX) (c : Nat) (f : EvA) : L2.St → Hp → XK → Prop := fun σ H Q => ∃ S t m e, SI G.K G.x S H t m σ e ∧ Gd G W σ S H t (f G.C e m) fun S' H' t' m' ds => ∀ S2 H2 cls dx, Stp S' H' t' S2 H2 t' → HI G.K S2 H2 t' m' → EXR G S2 H2 t' c ds cls dx → Q cls dx H2
@[simp] def raiseS (c : Nat) (f : EvA) : EvS := fun C e m => liftS (f C e m) e fun ds m1 => .exc c ds e m1
@[simp] def plainC : Cell → Bool
  | .exn _ _ => false
  | _ => true
/-- behind an except suite -/
@[simp] def behind (i : Nat) (r : SR) : SR := match r with
  | .nx e m => if (e.set i .em).all plainC = true then .nx (e.set i .em) m else .stuck
  | .ct e m => if (e.set i .em).all plainC = true then .ct (e.set i .em) m else .stuck
  | .brk e m => if (e.set i .em).all plainC = true then .brk (e.set i .em) m else .stuck
  | .ret d m => .ret d m
  | _ => .stuck
@[simp] def tryS (c i : Nat) (b s : EvS) : EvS := fun C e m => match b C e m with
  | .exc c' fs e1 m1 => if c' = c then (if i < e1.length then behind i (s C (e1.set i (.exn c fs)) m1) else .stuck) else .exc c' fs e1 m1
  | r => r
/-- n.f, n the error that is handled -/
@[simp] def xfE (i j : Nat) : EvE := fun _ e m => match e[i]? with
  | some (.exn _ fs) => match fs[j]? with
    | some d => .ok d m
    | none => .stuck
  | _ => .stuck

section
variable {X : Cx} {G : Cfg} {W : WX} {E : Snap} {a b c : Expr} {es : List Expr} {fa fb : EvE} {fs : EvA} {f g : EvS} {pos : Pos}
theorem ds_raise {c : Nat} {e : Expr} (hc : X.calm = true) (tk : L2N.Takes X W) (he : L2N.PMk X e (semX G W c fs)) : PS X (.Raise (some e) none pos) (semS G W E (raiseS c fs)) := by
  refine (L2N.ps_raise hc tk he).imp fun D σ H ⟨S, t, m, e, sf, h⟩ => ⟨S, t, m, e, sf.si, (GS.lift sf h).imp fun S1 H1 t1 m1 ds p1 i1 h1 S2 H2 cls dx p2 i2 x => ?_⟩
  exact h1 S2 H2 t1 σ cls dx ((sf.stp p1 i1).stp p2 i2) x
theorem SI.noExn {K : PySem.W.Frag} {S H : Hp} {t : Th} {m : Store} {σ : L2.St} {e : Env} (h : SI K none S H t m σ e) (i : Nat) (c : Nat) (fs : List D) : e[i]? ≠ some (.exn c fs) := fun q => by
  obtain ⟨v, _, x⟩ := h.exn i c fs q
  obtain ⟨_, _, _, _, z, _⟩ := x.ex
  cases z
/-- the slot of the error's name -/
theorem SF.bindX {E : Snap} {S H : Hp} {t : Th} {m : Store} {σ : L2.St} {e : Env} {i a d c : Nat} {ns : List Str} {vs : List V} {fs : List D} (hx : G.x = none) (h : SF G E S H t m σ e) (hi : i < e.length) (hd : S d = some (.xd (ns.zip vs))) (hf : DRs G.K S t vs fs) (hl : vs.length = ns.length) :
    SF { G with x := some (a, d, ns) } E S H t m (σ.set i (some (.ref a))) (e.set i (.exn c fs)) := by
  have hs : i < σ.length := by rw [h.si.len]; exact hi
  have si := h.si
  rw [hx] at si
  have el : ∀ (k : Nat) q, (e.set i (.exn c fs))[k]? = some q → (∀ c fs, q ≠ .exn c fs) → e[k]? = some q ∧ (σ.set i (some (.ref a)))[k]? = σ[k]? := fun k q h1 h2 => by
    by_cases z : k = i
    · subst z; rw [List.getElem?_set_self hi] at h1; cases h1; exact absurd rfl (h2 _ _)
    · rw [List.getElem?_set_ne (Ne.symm z)] at h1 ⊢; exact ⟨h1, rfl⟩
  refine ⟨⟨si.hi, by simp [si.len], fun k q h1 => ?_, fun k q h1 => ?_, fun k l q q' b h1 h2 h3 h4 => ?_, fun k q gs h1 => ?_⟩, h.fr, fun k q b h1 h2 => ?_⟩
  · obtain ⟨q1, q2⟩ := el k _ h1 (by intros; simp)
    rw [q2]; exact si.dat k q q1
  · obtain ⟨q1, q2⟩ := el k _ h1 (by intros; simp)
    rw [q2]; exact si.own k q q1
  · obtain ⟨q1, q2⟩ := el k _ h1 (by intros; simp)
    obtain ⟨q3, q4⟩ := el l _ h2 (by intros; simp)
    rw [q2] at h3; rw [q4] at h4
    exact si.apart k l q q' b q1 q3 h3 h4
  · by_cases z : k = i
    · subst z
      rw [List.getElem?_set_self hi] at h1
      cases h1
      exact ⟨_, List.getElem?_set_self hs, a, d, ns, vs, rfl, rfl, hd, hf, hl⟩
    · rw [List.getElem?_set_ne (Ne.symm z)] at h1
      exact absurd h1 (si.noExn k q gs)
  · obtain ⟨q1, q2⟩ := el k _ h1 (by intros; simp)
    rw [q2] at h2
    exact h.ow k q b q1 h2
theorem SF.unbindX {E : Snap} {S H : Hp} {t : Th} {m : Store} {σ : L2.St} {e : Env} {i : Nat} {x : Gh} (hx : G.x = none) (h : SF { G with x := x } E S H t m σ e) (hp : (e.set i .em).all plainC = true) : SF G E S H t m (σ.set i none) (e.set i .em) := by
  have q := h.si.drop i
  refine ⟨⟨q.hi, q.len, q.dat, q.own, q.apart, fun k c fs z => ?_⟩, h.fr, fun k c b h1 h2 => ?_⟩
  · have := List.all_eq_true.mp hp _ (List.mem_of_getElem? z)
    cases this
  · by_cases z : k = i
    · subst z
      by_cases hk : k < e.length
      · rw [List.getElem?_set_self hk] at h1; cases h1
      · rw [List.getElem?_eq_none (by simpa using hk)] at h1; cases h1
    · rw [List.getElem?_set_ne (Ne.symm z)] at h1 h2
      exact h.ow k c b h1 h2
theorem ds_try {x n : Str} {C : Addr} {ns : List Str} {c i : Nat} {body suite : List Stmt} {b₀ : Stmt} {np pos pos' : Pos} {fb fsu : EvS} (hs : X.stack = X.env :: X.outer) (hf : X.env.frame = some X.env.locals) (hN : X.N.Nodup) (hi : X.N[i]? = some n) (hln : X.env.kindOf n = some .local)
    (hc : Names X x (.ref C)) (tk : L2N.Takes X W) (hK : X.K = G.K) (hx : G.x = none) (hX : G.X c = some (C, ns)) (hm : ∀ c' C' ns', G.X c' = some (C', ns') → PySem.W.exmOne X.K (.ref C') (.ref C) = some (decide (c' = c)))
    (hb : ∀ (W : WX) (E : Snap) (pn : List (Addr × Obj)) (xe : Value → Shared → Prop), L2N.Takes (X.tr pn xe) W → PassesOwn (model X.prog X.w) X.A X.env xe → PSs (X.tr pn xe) body (semS G W E fb))
    (hsu : ∀ (E : Snap) (a d : Addr) (oe : Obj) (pn : List (Addr × Obj)), L2N.Zn (.ref C) (some d) oe → (∃ vs, oe.data = .fields vs) → PSs (X.suite a ((a, oe) :: pn)) (b₀ :: suite) (semS { G with x := some (a, d, ns) } W0 E fsu)) :
    PS X (.Try body [.ExceptHandler (some (.Name x np)) (some n) (b₀ :: suite) pos'] [] [] pos) (semS G W E (tryS c i fb fsu)) := by
  refine (L2N.ps_try_as (c := .ref C) (i := i) (Wout := W) (tb := fun W' D σ H => semS G W' E fb D σ H)
    (ts := fun a cls dx D σ H => ∃ d, cls = .ref C ∧ dx = some d ∧ semS { G with x := some (a, d, ns) } W0 E fsu D σ H) hs hf hN hi hln hc tk (fun W' pn xe tk' po => hb W' E pn xe tk' po)
    (fun a oe cls dx pn hz ho => ⟨fun pins s σ H D I ⟨d, e1, e2, h⟩ => by subst e1 e2; exact (hsu E a d oe pn hz ho).run pins s σ H D I h⟩)).imp fun D σ H ⟨S, t, m, e, sf, h⟩ => ⟨S, t, m, e, sf, ?_⟩
  unfold tryS at h
  cases hr : fb G.C e m with
  | nx e' m' => rw [hr] at h; exact h
  | ct e' m' => rw [hr] at h; exact h
  | brk e' m' => rw [hr] at h; exact h
  | ret d m' => rw [hr] at h; exact h
  | stuck => rw [hr] at h; exact h
  | exc c' fs e1 m1 =>
    rw [hr] at h
    dsimp only at h
    intro S1 H1 t1 σ1 cls dx sf1 xr
    obtain ⟨C', ns', d, vs, hX', rfl, rfl, hd, hds, hl⟩ := id xr
    refine ⟨_, hm c' C' ns' hX', fun hb a ha => ?_, fun hb => ?_⟩
    · have hcc : c' = c := of_decide_eq_true hb
      subst hcc
      rw [hX] at hX'
      cases hX'
      rw [if_pos rfl] at h
      split at h
      · rename_i hlt
        refine ⟨d, rfl, rfl, S1, t1, m1, e1.set i (.exn c' fs), sf1.bindX hx hlt hd hds hl, ?_⟩
        show GS { G with x := some (a, d, ns) } W0 E _ (fsu G.C (e1.set i (.exn c' fs)) m1)
        unfold behind at h
        cases hs' : fsu G.C (e1.set i (.exn c' fs)) m1 with
        | nx e2 m2 =>
          rw [hs'] at h
          dsimp only at h
          split at h
          · rename_i hp
            exact fun S2 H2 t2 σ2 sf2 => h S2 H2 t2 _ (sf2.unbindX hx hp)
          · exact h.elim
        | ct e2 m2 =>
          rw [hs'] at h
          dsimp only at h
          split at h
          · rename_i hp
            exact fun S2 H2 t2 σ2 sf2 => h S2 H2 t2 _ (sf2.unbindX hx hp)
          · exact h.elim
        | brk e2 m2 =>
          rw [hs'] at h
          dsimp only at h
          split at h
          · rename_i hp
            exact fun S2 H2 t2 σ2 sf2 => h S2 H2 t2 _ (sf2.unbindX hx hp)
          · exact h.elim
        | ret d' m2 => rw [hs'] at h; exact h
        | exc c2 f2 e2 m2 => rw [hs'] at h; exact h.elim
        | stuck => rw [hs'] at h; exact h.elim
      · exact h.elim
    · have hcc : c' ≠ c := of_decide_eq_false hb
      rw [if_neg hcc] at h
      exact h S1 H1 t1 σ1 _ _ sf1 xr
/-- n.f -/
theorem de_xf {i j a d : Nat} {C : Addr} {oe : Obj} {pn : List (Addr × Obj)} {x f : Str} {p1 pos : Pos} {ns : List Str} (T : XfC X.K C) (hno : PySem.W.findIn X.K (.ref C) f = some none) (hz : L2N.Zn (.ref C) (some d) oe) (ho : ∃ vs, oe.data = .fields vs)
    (hN : X.N[i]? = some x) (hv : Vis X.env.scope x) (hj : ∀ vs : List V, vs.length = ns.length → (ns.zip vs).lookup f = vs[j]?) (hx : G.x = some (a, d, ns)) (hdb : (x == ("__debug__" : Str)) = false := by decide) (hcd : (x == ("__classdict__" : Str)) = false := by decide)
    (hb : attributeBase (.Name x p1) f X.env (eval (.Name x p1) X.env) = eval (.Name x p1) X.env := by rfl) : PE (X.suite a ((a, oe) :: pn)) (.Attribute (.Name x p1) f pos) (semE G W (xfE i j)) := by
  refine (pe_xf (n := f) T hno hz.zc ho (pe_var (X := X.suite a ((a, oe) :: pn)) (i := i) hN hv hdb hcd) hb).imp fun σ H Q ⟨S, t, m, e, si, g⟩ => ?_
  unfold xfE at g
  split at g
  · rename_i c fs hi
    split at g
    · rename_i dd hj'
      obtain ⟨v, h1, h2⟩ := si.exn i c fs hi
      obtain ⟨a', d', ns', vs, e1, e2, e3, e4, e5⟩ := h2.ex
      rw [hx] at e1
      cases e1
      subst e2
      obtain ⟨w, w1, w2⟩ := e4.get hj'
      refine ⟨_, h1, rfl, rfl, d, _, w, rfl, si.hi.sub _ _ e3, ?_, g.now si.hi w w2⟩
      rw [hj vs e5]; exact w1
    · exact g.elim
  · exact g.elim
end
end Dn
/-! Operators by data. -/
namespace Dn
open PySem L2

section
variable {K : PySem.W.Frag} {S H : Hp} {t : Th} {m : Store} {v : V}
theorem BR.dat {d : D} (h : BR K S H t v d) (n : ∀ xs, d ≠ .lst xs) : DR K S t v d := by
  rcases h with h | ⟨a, e, o⟩
  · exact h
  · obtain ⟨xs, vs, e, _⟩ := o.at_
    exact absurd e (n xs)
theorem BR.int {i : Int} (h : BR K S H t v (.int i)) : v = .int i := by
  have := h.dat (by intro xs z; cases z)
  cases this; rfl
theorem BR.str {i : Str} (h : BR K S H t v (.str i)) : v = .str i := by
  have := h.dat (by intro xs z; cases z)
  cases this; rfl
theorem BR.bl {i : Bool} (h : BR K S H t v (.bl i)) : v = .bl i := by
  have := h.dat (by intro xs z; cases z)
  cases this; rfl
theorem BR.non (h : BR K S H t v .non) : v = .non := by
  have := h.dat (by intro xs z; cases z)
  cases this; rfl
theorem BR.tup {xs : List D} (hi : HI K S H t m) (h : BR K S H t v (.tup xs)) : ∃ a vs, v = .ref a ∧ SqT K S a vs ∧ SqT K H a vs ∧ DRs K S t vs xs := by
  have := h.dat (by intro xs z; cases z)
  cases this with
  | tup h1 h2 => exact ⟨_, _, rfl, h1, hi.sub.sqT h1, h2⟩
theorem BR.frz {xs : List D} (hi : HI K S H t m) (h : BR K S H t v (.frz xs)) : ∃ a vs, v = .ref a ∧ SqL K H a vs ∧ DRs K S t vs xs := by
  have := h.dat (by intro xs z; cases z)
  cases this with
  | frz h1 h2 => exact ⟨_, _, rfl, hi.sub.sqL h1, h2⟩
theorem BR.lst {xs : List D} (hi : HI K S H t m) (h : BR K S H t v (.lst xs)) : ∃ a vs, v = .ref a ∧ H a = some (.lst vs) ∧ DRs K S t vs xs := by
  rcases h with h | ⟨a, e, o⟩
  · cases h with
    | lst h1 h2 => exact ⟨_, _, rfl, hi.sub _ _ h1, h2⟩
  · obtain ⟨xs', vs, e', h1, h2⟩ := o.at_
    cases e'
    exact ⟨a, vs, e, h1, h2⟩
/-- a list of the store -/
theorem BR.ref {n : Nat} {xs : List D} (hi : HI K S H t m) (h : BR K S H t v (.ref n)) (hm : m[n]? = some (.lst xs)) : ∃ a vs, v = .ref a ∧ H a = some (.lst vs) ∧ DRs K S t vs xs := by
  have := h.dat (by intro xs z; cases z)
  cases this with
  | ref h1 =>
    obtain ⟨a, vs, e1, e2, e3⟩ := hi.sto _ _ hm
    rw [h1] at e1
    cases e1
    exact ⟨_, vs, rfl, e2, e3⟩
end

/-! ### adding -/
@[simp] def addG : Store → D → D → Option D := fun _ x y => match x, y with
  | .int i, .int j => some (.int (i + j))
  | .str a, .str b => if a.length + b.length ≤ LIM then some (.str (a ++ b)) else none
  | .tup xs, .tup ys => if xs.length + ys.length ≤ LIM then some (.tup (xs ++ ys)) else none
  | _, _ => none
@[simp] def catF : Store → D → D → Option (List D) := fun _ x y => match x, y with
  | .lst xs, .lst ys => if xs.length + ys.length ≤ LIM then some (xs ++ ys) else none
  | _, _ => none
@[simp] def subG : Store → D → D → Option D := fun _ x y => match x, y with
  | .int i, .int j => some (.int (i - j))
  | _, _ => none
def mulB (i j : Int) : Bool := (decide (-(2 ^ 64) < i) && decide (i < 2 ^ 64)) || (decide (-(2 ^ 64) < j) && decide (j < 2 ^ 64))
@[simp] def mulG : Store → D → D → Option D := fun _ x y => match x, y with
  | .int i, .int j => if mulB i j = true then some (.int (i * j)) else none
  | _, _ => none
@[simp] def fdivG : Store → D → D → Option D := fun _ x y => match x, y with
  | .int i, .int j => if 0 < j ∧ j < 1073741824 then some (.int (i / j)) else none
  | _, _ => none
@[simp] def modG : Store → D → D → Option D := fun _ x y => match x, y with
  | .int i, .int j => if 0 < j then some (.int (i % j)) else none
  | _, _ => none
@[simp] def powG : Store → D → D → Option D := fun _ x y => match x, y with
  | .int i, .int j => if 0 ≤ j ∧ j ≤ 1000000 ∧ i.natAbs < 2 ^ 64 then some (.int (i ^ j.toNat)) else none
  | _, _ => none
@[simp] def negG : Store → D → Option D := fun _ x => match x with
  | .int i => some (.int (-i))
  | _ => none
section
variable {X : Cx}
theorem new_tup {K : PySem.W.Frag} {S H : Hp} {t : Th} {m : Store} {p : Addr} {vs : List V} {ds : List D} (i : HI K S H t m) (h : H p = none) (hd : DRs K S t vs ds) :
    Stp S H t (upd S p (.tup vs)) (upd H p (.tup vs)) t ∧ HI K (upd S p (.tup vs)) (upd H p (.tup vs)) t m ∧ DR K (upd S p (.tup vs)) t (.ref p) (.tup ds) := by
  obtain ⟨i2, p2⟩ := new_hi (o := .tup vs) i h
  exact ⟨p2, i2, .tup (SqT.of upd_same) (hd.stp i p2)⟩
theorem new_own {K : PySem.W.Frag} {S H : Hp} {t : Th} {m : Store} {p : Addr} {vs : List V} {ds : List D} (i : HI K S H t m) (h : H p = none) (hd : DRs K S t vs ds) :
    Stp S H t S (upd H p (.lst vs)) t ∧ HI K S (upd H p (.lst vs)) t m ∧ OwnAt K S (upd H p (.lst vs)) t p (.lst ds) := by
  obtain ⟨i2, p2⟩ := new_hi0 (o := .lst vs) i h
  have hS : S p = none := by
    cases q : S p with
    | none => rfl
    | some o => rw [i.sub p o q] at h; cases h
  exact ⟨p2, i2, hS, fun n q => (i.off n p q).2 h, ds, vs, rfl, upd_same, hd⟩
theorem nil_iff' {K : PySem.W.Frag} {S : Hp} {t : Th} {vs : List V} {ds : List D} (h : DRs K S t vs ds) : vs = [] ↔ ds = [] := by
  cases h with
  | nil => simp
  | cons _ _ => simp
theorem od_add : OpD X (binaryOp .Add) addG := by
  refine ⟨_, op_add.or (op_add_str.or op_catA), fun S H t m x y d e z Q i bx b_y hz q => ?_⟩
  unfold addG at hz
  split at hz
  · cases hz; exact .inl ⟨_, _, bx.int, b_y.int, q _ _ _ .refl i (.int _)⟩
  · split at hz
    · rename_i hl
      cases hz
      exact .inr (.inl ⟨_, _, bx.str, b_y.str, lim_le hl, q _ _ _ .refl i (.str _)⟩)
    · cases hz
  · split at hz
    · rename_i hl
      cases hz
      obtain ⟨a, vs, rfl, a1, a2, a3⟩ := bx.tup i
      obtain ⟨b, ws, rfl, b1, b2, b3⟩ := b_y.tup i
      refine .inr (.inr ⟨a, b, vs, ws, rfl, rfl, a2, b2, by rw [a3.length, b3.length]; exact lim_le hl, fun e => ?_, fun _ e => ?_, fun _ _ p hp => ?_⟩)
      · have e' := (nil_iff' a3).mp e
        subst e'
        exact q _ _ _ .refl i (.tup b1 b3)
      · have e' := (nil_iff' b3).mp e
        subst e'
        rw [List.append_nil] at q
        exact q _ _ _ .refl i (.tup a1 a3)
      · obtain ⟨p2, i2, r⟩ := new_tup i hp (a3.append b3)
        exact q _ _ _ p2 i2 r
    · cases hz
  · cases hz
theorem of_cat : OpF X (binaryOp .Add) catF := by
  refine ⟨_, op_cat, fun S H t m x y d e z Q i bx b_y hz q => ?_⟩
  unfold catF at hz
  split at hz
  · split at hz
    · rename_i hl
      cases hz
      obtain ⟨a, vs, rfl, a2, a3⟩ := bx.lst i
      obtain ⟨b, ws, rfl, b2, b3⟩ := b_y.lst i
      refine ⟨a, b, vs, ws, rfl, rfl, a2, b2, by rw [a3.length, b3.length]; exact lim_le hl, fun p hp => ?_⟩
      obtain ⟨p2, i2, r⟩ := new_own i hp (a3.append b3)
      exact q _ _ _ p2 i2 r hp
    · cases hz
  · cases hz
theorem od_sub : OpD X (binaryOp .Sub) subG := by
  refine ⟨_, op_sub, fun S H t m x y d e z Q i bx b_y hz q => ?_⟩
  unfold subG at hz
  split at hz
  · cases hz; exact ⟨_, _, bx.int, b_y.int, q _ _ _ .refl i (.int _)⟩
  · cases hz
theorem mulB_ok {i j : Int} (h : mulB i j = true) : CMul i j := by
  unfold mulB at h
  simp only [Bool.or_eq_true, Bool.and_eq_true, decide_eq_true_eq] at h
  exact h
theorem od_mul : OpD X (binaryOp .Mult) mulG := by
  refine ⟨_, op_mul, fun S H t m x y d e z Q i bx b_y hz q => ?_⟩
  unfold mulG at hz
  split at hz
  · split at hz
    · rename_i hc
      cases hz; exact ⟨_, _, bx.int, b_y.int, mulB_ok hc, q _ _ _ .refl i (.int _)⟩
    · cases hz
  · cases hz
theorem od_fdiv : OpD X (binaryOp .FloorDiv) fdivG := by
  refine ⟨_, op_fdiv, fun S H t m x y d e z Q i bx b_y hz q => ?_⟩
  unfold fdivG at hz
  split at hz
  · split at hz
    · rename_i hc
      cases hz; exact ⟨_, _, bx.int, b_y.int, hc, q _ _ _ .refl i (.int _)⟩
    · cases hz
  · cases hz
theorem od_mod : OpD X (binaryOp .Mod) modG := by
  refine ⟨_, op_mod, fun S H t m x y d e z Q i bx b_y hz q => ?_⟩
  unfold modG at hz
  split at hz
  · split at hz
    · rename_i hc
      cases hz; exact ⟨_, _, bx.int, b_y.int, hc, q _ _ _ .refl i (.int _)⟩
    · cases hz
  · cases hz
theorem od_pow : OpD X (binaryOp .Pow) powG := by
  refine ⟨_, op_pow, fun S H t m x y d e z Q i bx b_y hz q => ?_⟩
  unfold powG at hz
  split at hz
  · split at hz
    · rename_i hc
      cases hz; exact ⟨_, _, bx.int, b_y.int, hc, q _ _ _ .refl i (.int _)⟩
    · cases hz
  · cases hz
theorem ud_neg : UnD X (unaryOp .USub) negG := by
  refine ⟨_, un_neg, fun S H t m x d z Q i bx hz q => ?_⟩
  unfold negG at hz
  split at hz
  · cases hz; exact ⟨_, bx.int, q _ _ _ .refl i (.int _)⟩
  · cases hz
/-! in place -/
@[simp] def addI : Store → D → D → Option D := fun _ x y => match x, y with
  | .int i, .int j => some (.int (i + j))
  | _, _ => none
theorem oi_add : OpD X (inplaceOp .Add) addI := by
  refine ⟨_, iop_add, fun S H t m x y d e z Q i bx b_y hz q => ?_⟩
  unfold addI at hz
  split at hz
  · cases hz; exact ⟨_, _, bx.int, b_y.int, q _ _ _ .refl i (.int _)⟩
  · cases hz
theorem oi_sub : OpD X (inplaceOp .Sub) subG := by
  refine ⟨_, iop_sub, fun S H t m x y d e z Q i bx b_y hz q => ?_⟩
  unfold subG at hz
  split at hz
  · cases hz; exact ⟨_, _, bx.int, b_y.int, q _ _ _ .refl i (.int _)⟩
  · cases hz

/-! ### order -/
@[simp] def ltG : Store → D → D → Option D := fun _ x y => match x, y with
  | .int i, .int j => some (.bl (decide (i < j)))
  | .str a, .str b => some (.bl (decide (a.cps.toList < b.cps.toList)))
  | _, _ => none
@[simp] def leG : Store → D → D → Option D := fun _ x y => match x, y with
  | .int i, .int j => some (.bl (decide (i ≤ j)))
  | .str a, .str b => some (.bl (!decide (b.cps.toList < a.cps.toList)))
  | _, _ => none
@[simp] def gtG : Store → D → D → Option D := fun _ x y => match x, y with
  | .int i, .int j => some (.bl (decide (i > j)))
  | .str a, .str b => some (.bl (decide (b.cps.toList < a.cps.toList)))
  | _, _ => none
@[simp] def geG : Store → D → D → Option D := fun _ x y => match x, y with
  | .int i, .int j => some (.bl (decide (i ≥ j)))
  | .str a, .str b => some (.bl (!decide (a.cps.toList < b.cps.toList)))
  | _, _ => none
theorem od_lt : OpD X (compareOp .Lt) ltG := by
  refine ⟨_, op_lt.or op_lt_str, fun S H t m x y d e z Q i bx b_y hz q => ?_⟩
  unfold ltG at hz
  split at hz
  · cases hz; exact .inl ⟨_, _, bx.int, b_y.int, q _ _ _ .refl i (.bl _)⟩
  · cases hz; exact .inr ⟨_, _, bx.str, b_y.str, q _ _ _ .refl i (.bl _)⟩
  · cases hz
theorem od_le : OpD X (compareOp .LtE) leG := by
  refine ⟨_, op_le.or op_le_str, fun S H t m x y d e z Q i bx b_y hz q => ?_⟩
  unfold leG at hz
  split at hz
  · cases hz; exact .inl ⟨_, _, bx.int, b_y.int, q _ _ _ .refl i (.bl _)⟩
  · cases hz; exact .inr ⟨_, _, bx.str, b_y.str, q _ _ _ .refl i (.bl _)⟩
  · cases hz
theorem od_gt : OpD X (compareOp .Gt) gtG := by
  refine ⟨_, op_gt.or op_gt_str, fun S H t m x y d e z Q i bx b_y hz q => ?_⟩
  unfold gtG at hz
  split at hz
  · cases hz; exact .inl ⟨_, _, bx.int, b_y.int, q _ _ _ .refl i (.bl _)⟩
  · cases hz; exact .inr ⟨_, _, bx.str, b_y.str, q _ _ _ .refl i (.bl _)⟩
  · cases hz
theorem od_ge : OpD X (compareOp .GtE) geG := by
  refine ⟨_, op_ge.or op_ge_str, fun S H t m x y d e z Q i bx b_y hz q => ?_⟩
  unfold geG at hz
  split at hz
  · cases hz; exact .inl ⟨_, _, bx.int, b_y.int, q _ _ _ .refl i (.bl _)⟩
  · cases hz; exact .inr ⟨_, _, bx.str, b_y.str, q _ _ _ .refl i (.bl _)⟩
  · cases hz
end

/-! ### data as the model knows them -/
mutual
def toP : D → Option PyData
  | .non => some .none
  | .bl b => some (.bool b)
  | .int i => some (.int i)
  | .str x => some (.str x)
  | .tup xs => (toPs xs).map .tuple
  | .lst xs => (toPs xs).map .list
  | .frz xs => (toPs xs).map .list
  | .dct _ => none
  | .ins _ _ => none
  | .ref _ => none
def toPs : List D → Option (List PyData)
  | [] => some []
  | d :: ds => (toP d).bind fun p => (toPs ds).map fun ps => p :: ps
end
section
variable {K : PySem.W.Frag} {S H : Hp} {t : Th} {m : Store}
mutual
theorem toP_dp (ss : Sub S H) : ∀ (d : D) (v : V) (p : PyData), DR K S t v d → toP d = some p → Dp K H v p
  | .non, _, _, .non, h => by unfold toP at h; cases h; exact .non
  | .bl b, _, _, .bl _, h => by unfold toP at h; cases h; exact .bl b
  | .int b, _, _, .int _, h => by unfold toP at h; cases h; exact .int b
  | .str b, _, _, .str _, h => by unfold toP at h; cases h; exact .str b
  | .tup xs, _, _, .tup h1 h2, h => by
    unfold toP at h
    cases q : toPs xs with
    | none => rw [q] at h; cases h
    | some ps =>
      rw [q] at h
      cases h
      exact .tup (ss.sqT h1) (toPs_dp ss xs _ ps h2 q)
  | .lst xs, _, _, .lst h1 h2, h => by
    unfold toP at h
    cases q : toPs xs with
    | none => rw [q] at h; cases h
    | some ps =>
      rw [q] at h
      cases h
      exact .lst (.of (ss _ _ h1)) (toPs_dp ss xs _ ps h2 q)
  | .frz xs, _, _, .frz h1 h2, h => by
    unfold toP at h
    cases q : toPs xs with
    | none => rw [q] at h; cases h
    | some ps =>
      rw [q] at h
      cases h
      exact .lst (ss.sqL h1) (toPs_dp ss xs _ ps h2 q)
  | .dct _, _, _, _, h => by unfold toP at h; cases h
  | .ins _ _, _, _, _, h => by unfold toP at h; cases h
  | .ref _, _, _, _, h => by unfold toP at h; cases h
theorem toPs_dp (ss : Sub S H) : ∀ (ds : List D) (vs : List V) (ps : List PyData), DRs K S t vs ds → toPs ds = some ps → DpAll K H vs ps
  | [], _, _, .nil, h => by unfold toPs at h; cases h; exact .nil
  | d :: ds, _, _, .cons h1 h2, h => by
    unfold toPs at h
    cases q : toP d with
    | none => rw [q] at h; cases h
    | some p =>
      rw [q] at h
      cases q' : toPs ds with
      | none => simp [q'] at h
      | some ps =>
        simp [q'] at h
        subst h
        exact .cons (toP_dp ss d _ p h1 q) (toPs_dp ss ds _ ps h2 q')
end
theorem BR.dp {v : V} {d : D} {p : PyData} (i : HI K S H t m) (h : BR K S H t v d) (e : toP d = some p) : Dp K H v p := by
  rcases h with h | ⟨a, rfl, o⟩
  · exact toP_dp i.sub d v p h e
  · obtain ⟨xs, vs, rfl, h1, h2⟩ := o.at_
    unfold toP at e
    cases q : toPs xs with
    | none => rw [q] at e; cases e
    | some ps =>
      rw [q] at e
      cases e
      exact .lst (.of h1) (toPs_dp i.sub xs vs ps h2 q)
end
/-- two data, both plain -/
def twoP (d e : D) : Option (PyData × PyData) := match toP d, toP e with
  | some p, some q => if (SeqAt.shaped p && SeqAt.shaped q) = true then some (p, q) else none
  | _, _ => none
theorem twoP_ok {d e : D} {p q : PyData} (h : twoP d e = some (p, q)) : toP d = some p ∧ toP e = some q ∧ SeqAt.shaped p = true ∧ SeqAt.shaped q = true := by
  unfold twoP at h
  split at h
  · rename_i p' q' h1 h2
    split at h
    · rename_i hc
      cases h
      rw [Bool.and_eq_true] at hc
      exact ⟨h1, h2, hc.1, hc.2⟩
    · cases h
  · cases h
def eqG : Store → D → D → Option D := fun _ x y => (twoP x y).map fun z => .bl (PyData.eqv z.1 z.2)
def neG : Store → D → D → Option D := fun _ x y => (twoP x y).map fun z => .bl (!PyData.eqv z.1 z.2)
def inL (p q : PyData) : Option Bool := match q with
  | .list ds => some (ds.any fun z => PyData.eqv z p)
  | .tuple ds => some (ds.any fun z => PyData.eqv z p)
  | _ => none
def oneSign (a : Str) : Option Nat := match a.cps.toList with
  | [c] => some c
  | _ => none
theorem oneSign_ok {a : Str} {c : Nat} (h : oneSign a = some c) : a = ⟨#[c]⟩ := by
  unfold oneSign at h
  split at h
  · rename_i c' e
    cases h
    obtain ⟨⟨l⟩⟩ := a
    simp at e
    subst e
    rfl
  · cases h
def inG : Store → D → D → Option D := fun _ x y => match x, y with
  | .str a, .str b => (oneSign a).map fun c => .bl (decide (c ∈ b.cps.toList))
  | x, y => (twoP x y).bind fun z => (inL z.1 z.2).map .bl
def notInG : Store → D → D → Option D := fun _ x y => match x, y with
  | .str a, .str b => (oneSign a).map fun c => .bl (!decide (c ∈ b.cps.toList))
  | x, y => (twoP x y).bind fun z => (inL z.1 z.2).map fun b => .bl (!b)
section
variable {X : Cx}
def rInT (K : PySem.W.Frag) : R2 := fun x y H Q => ∃ d ds, Dp K H x d ∧ Dp K H y (.tuple ds) ∧ SeqAt.shaped d = true ∧ SeqAt.shaped (.tuple ds) = true ∧ Q (.bl (ds.any fun z => PyData.eqv z d)) H
def rNotInT (K : PySem.W.Frag) : R2 := fun x y H Q => ∃ d ds, Dp K H x d ∧ Dp K H y (.tuple ds) ∧ SeqAt.shaped d = true ∧ SeqAt.shaped (.tuple ds) = true ∧ Q (.bl (!ds.any fun z => PyData.eqv z d)) H
theorem op_inT (hu : X.A.units + 65 < cLine) : OpR X (compareOp .In) (rInT X.K) := by
  intro pins s σ H x y v u Q I rx ry h
  obtain ⟨d, ds, hd, he, sd, se, q⟩ := h
  obtain ⟨as, r1⟩ := Dp.reads I d x v hd rx
  obtain ⟨bs, r2⟩ := Dp.reads I (.tuple ds) y u he ry
  exact SeqAt.in_tuple_reads r2 r1 (SeqAt.canLay_of_shaped se) (SeqAt.canLay_of_shaped sd) (PyProof.Rows.room_in_shaped sd hu) ⟨.bl _, H, I, rfl, q⟩
theorem op_notInT (hu : X.A.units + 65 < cLine) : OpR X (compareOp .NotIn) (rNotInT X.K) := by
  intro pins s σ H x y v u Q I rx ry h
  obtain ⟨d, ds, hd, he, sd, se, q⟩ := h
  obtain ⟨as, r1⟩ := Dp.reads I d x v hd rx
  obtain ⟨bs, r2⟩ := Dp.reads I (.tuple ds) y u he ry
  exact SeqAt.notIn_tuple_reads r2 r1 (SeqAt.canLay_of_shaped se) (SeqAt.canLay_of_shaped sd) (PyProof.Rows.room_in_shaped sd hu) ⟨.bl _, H, I, rfl, q⟩
theorem od_eq (hu : X.A.units + 65 < cLine) : OpD X (compareOp .Eq) eqG := by
  refine ⟨_, op_eqD (by omega), fun S H t m x y d e z Q i bx b_y hz q => ?_⟩
  unfold eqG at hz
  cases h : twoP d e with
  | none => rw [h] at hz; cases hz
  | some w =>
    obtain ⟨p1, p2⟩ := w
    rw [h] at hz
    cases hz
    obtain ⟨h1, h2, h3, h4⟩ := twoP_ok h
    exact ⟨p1, p2, bx.dp i h1, b_y.dp i h2, h3, h4, q _ _ _ .refl i (.bl _)⟩
theorem od_ne (hu : X.A.units + 65 < cLine) : OpD X (compareOp .NotEq) neG := by
  refine ⟨_, op_neD (by omega), fun S H t m x y d e z Q i bx b_y hz q => ?_⟩
  unfold neG at hz
  cases h : twoP d e with
  | none => rw [h] at hz; cases hz
  | some w =>
    obtain ⟨p1, p2⟩ := w
    rw [h] at hz
    cases hz
    obtain ⟨h1, h2, h3, h4⟩ := twoP_ok h
    exact ⟨p1, p2, bx.dp i h1, b_y.dp i h2, h3, h4, q _ _ _ .refl i (.bl _)⟩
theorem od_in (hu : X.A.units + 65 < cLine) : OpD X (compareOp .In) inG := by
  refine ⟨_, op_in_sign.or ((op_inD hu).or (op_inT hu)), fun S H t m x y d e z Q i bx b_y hz q => ?_⟩
  unfold inG at hz
  split at hz
  · rename_i a b
    cases h : oneSign a with
    | none => rw [h] at hz; cases hz
    | some c =>
      rw [h] at hz
      cases hz
      have := oneSign_ok h
      subst this
      exact .inl ⟨c, b, bx.str, b_y.str, q _ _ _ .refl i (.bl _)⟩
  · cases h : twoP d e with
    | none => rw [h] at hz; cases hz
    | some w =>
      obtain ⟨p1, p2⟩ := w
      rw [h] at hz
      obtain ⟨h1, h2, h3, h4⟩ := twoP_ok h
      cases p2 with
      | list ds => cases hz; exact .inr (.inl ⟨p1, ds, bx.dp i h1, b_y.dp i h2, h3, h4, q _ _ _ .refl i (.bl _)⟩)
      | tuple ds => cases hz; exact .inr (.inr ⟨p1, ds, bx.dp i h1, b_y.dp i h2, h3, h4, q _ _ _ .refl i (.bl _)⟩)
      | _ => cases hz
theorem od_notIn (hu : X.A.units + 65 < cLine) : OpD X (compareOp .NotIn) notInG := by
  refine ⟨_, op_notIn_sign.or ((op_notInD hu).or (op_notInT hu)), fun S H t m x y d e z Q i bx b_y hz q => ?_⟩
  unfold notInG at hz
  split at hz
  · rename_i a b
    cases h : oneSign a with
    | none => rw [h] at hz; cases hz
    | some c =>
      rw [h] at hz
      cases hz
      have := oneSign_ok h
      subst this
      exact .inl ⟨c, b, bx.str, b_y.str, q _ _ _ .refl i (.bl _)⟩
  · cases h : twoP d e with
    | none => rw [h] at hz; cases hz
    | some w =>
      obtain ⟨p1, p2⟩ := w
      rw [h] at hz
      obtain ⟨h1, h2, h3, h4⟩ := twoP_ok h
      cases p2 with
      | list ds => cases hz; exact .inr (.inl ⟨p1, ds, bx.dp i h1, b_y.dp i h2, h3, h4, q _ _ _ .refl i (.bl _)⟩)
      | tuple ds => cases hz; exact .inr (.inr ⟨p1, ds, bx.dp i h1, b_y.dp i h2, h3, h4, q _ _ _ .refl i (.bl _)⟩)
      | _ => cases hz
/-! ### is None -/
def isNon : D → Bool
  | .non => true
  | _ => false
@[simp] def isG : Store → D → D → Option D := fun _ x y => match x, y with
  | x, .non => some (.bl (isNon x))
  | .bl a, .bl b => some (.bl (decide (a = b)))
  | _, _ => none
@[simp] def isNotG : Store → D → D → Option D := fun _ x y => match x, y with
  | x, .non => some (.bl (!isNon x))
  | .bl a, .bl b => some (.bl (!decide (a = b)))
  | _, _ => none
theorem isNon_v {K : PySem.W.Frag} {S H : Hp} {t : Th} {v : V} {d : D} (h : BR K S H t v d) : decide (v = V.non) = isNon d := by
  rcases h with h | ⟨a, rfl, o⟩
  · cases h <;> simp [isNon]
  · obtain ⟨xs, vs, rfl, _⟩ := o.at_
    simp [isNon]
theorem od_is : OpD X (compareOp .Is) isG := by
  refine ⟨_, op_isN.or op_is_bl, fun S H t m x y d e z Q i bx b_y hz q => ?_⟩
  unfold isG at hz
  split at hz
  · cases hz; exact .inl ⟨b_y.non, by rw [isNon_v bx]; exact q _ _ _ .refl i (.bl _)⟩
  · cases hz; exact .inr ⟨_, _, bx.bl, b_y.bl, q _ _ _ .refl i (.bl _)⟩
  · cases hz
theorem od_isNot : OpD X (compareOp .IsNot) isNotG := by
  refine ⟨_, op_notN.or op_isnot_bl, fun S H t m x y d e z Q i bx b_y hz q => ?_⟩
  unfold isNotG at hz
  split at hz
  · cases hz; exact .inl ⟨b_y.non, by rw [isNon_v bx]; exact q _ _ _ .refl i (.bl _)⟩
  · cases hz; exact .inr ⟨_, _, bx.bl, b_y.bl, q _ _ _ .refl i (.bl _)⟩
  · cases hz
/-! ### a[i] -/
@[simp] def ixG : Store → D → D → Option D := fun m x y => match x, y with
  | .lst xs, .int i => atI xs i
  | .frz xs, .int i => atI xs i
  | .tup xs, .int i => atI xs i
  | .str z, .int i => if short z.cps.toList = true then (atI z.cps.toList i).map fun c => .str ⟨#[c]⟩ else none
  | .ref n, .int i => match m[n]? with
    | some (.lst xs) => atI xs i
    | _ => none
  | _, _ => none
theorem atI_dr {K : PySem.W.Frag} {S : Hp} {t : Th} {vs : List V} {ds : List D} {i : Int} {z : D} (h : DRs K S t vs ds) (e : atI ds i = some z) : ∃ v, atI vs i = some v ∧ DR K S t v z := by
  unfold atI at e ⊢
  rw [h.length]
  cases q : ixN ds.length i with
  | none => rw [q] at e; cases e
  | some j =>
    rw [q] at e
    exact h.get e
theorem id_ix : IxD X ixG := by
  refine ⟨_, ix_seq, fun S H t m x y d e z Q i bx b_y hz q => ?_⟩
  unfold ixG at hz
  split at hz
  · obtain ⟨a, vs, rfl, a2, a3⟩ := bx.lst i
    obtain ⟨v, v1, v2⟩ := atI_dr a3 hz
    exact .inl ⟨a, vs, _, v, rfl, b_y.int, .of a2, v1, q _ _ _ .refl i v2⟩
  · obtain ⟨a, vs, rfl, a2, a3⟩ := bx.frz i
    obtain ⟨v, v1, v2⟩ := atI_dr a3 hz
    exact .inl ⟨a, vs, _, v, rfl, b_y.int, a2, v1, q _ _ _ .refl i v2⟩
  · obtain ⟨a, vs, rfl, _, a2, a3⟩ := bx.tup i
    obtain ⟨v, v1, v2⟩ := atI_dr a3 hz
    exact .inr (.inl ⟨a, vs, _, v, rfl, b_y.int, a2, v1, q _ _ _ .refl i v2⟩)
  · rename_i z' i'
    split at hz
    · rename_i hs
      cases h : atI z'.cps.toList i' with
      | none => rw [h] at hz; cases hz
      | some c =>
        rw [h] at hz
        cases hz
        exact .inr (.inr ⟨z', i', c, bx.str, b_y.int, by have := short_le hs; simpa [Str.length] using this, h, q _ _ _ .refl i (.str _)⟩)
    · cases hz
  · split at hz
    · rename_i xs hm
      obtain ⟨a, vs, rfl, a2, a3⟩ := bx.ref i hm
      obtain ⟨v, v1, v2⟩ := atI_dr a3 hz
      exact .inl ⟨a, vs, _, v, rfl, b_y.int, .of a2, v1, q _ _ _ .refl i v2⟩
    · cases hz
  · cases hz
end
end Dn
/-! Sorting, by data. -/
namespace PySem.W
open PySem PySem.Calls PyProof.Rows
section
variable {prog : Program} {w : World} {A : Around} {E : Value → Shared → Prop} {s : Shared} {β : Type} {vs : List Value} {bs : List β} {enc : β → PyData} {R : Value → β → Prop}
/-- sorted of a list or a tuple -/
theorem dn_sorted {x : Addr} {T : String} {o : Obj} {n : Nat} {Q : Value → Shared → Prop} (hT : T = "list" ∨ T = "tuple") (ho : s.heap.get? x = some o) (hc : o.cls = .type T) (hd : o.data = .seq vs.toArray n)
    (e : EachIs R vs bs) (er : EachIs (fun v b => ∃ as, Reads s.heap v (enc b) as) vs bs) (hal : AllAlike (bs.map enc)) (hk : Sortable (bs.map enc)) (hL : bs.length ≤ sizeLine) (hu : ∀ b, b ∈ bs → A.units + 2 + (enc b).depth < cLine)
    (h : ∀ (h1 h2 : Heap) out c, (∀ b o, s.heap.get? b = some o → h1.get? b = some o) → (∀ b o, h1.get? b = some o → h2.get? b = some o) → h2.get? h1.objs.size = some (seqObj "list" (List.toArray out) c) → out.length = bs.length → EachIs R out (bs.mergeSort (dataLe false enc)) → Q (.ref h1.objs.size) { s with heap := h2 }) :
    wpAny (model prog w) A (call (.builtin "sorted") [.ref x]) Q E s := by
  have hvs : vs.length ≤ sizeLine := by rw [e.length]; exact hL
  refine call_function_entry_kw kind_sorted plain_sorted entry_sorted (args_sorted1 _) ?_
  unfold Builtin.«sorted»
  refine wpAny_bind (m := checkCount "sorted" 1 1 _) (wpAny_pure ?_)
  refine wpAny_bind (wpAny_collect_seq x hT ho hc hd (fun h1 hk1 => ?_) (by simpa using hvs))
  refine wpAny_bind (wpAny_newList ?_ (by simpa using hvs))
  have e0 : vs.toArray.toList = vs := by simp
  rw [e0]
  have at1 : (h1.push (seqObj "list" vs.toArray 0)).get? h1.objs.size = some (seqObj "list" vs.toArray 0) := Heap.get?_push_size _ rfl
  have old1 : ∀ b o, h1.get? b = some o → b ≠ h1.objs.size ∧ (h1.push (seqObj "list" vs.toArray 0)).get? b = some o := fun b o q => ⟨Nat.ne_of_lt (Heap.lt_size q), Heap.get?_push_of_some _ q⟩
  show wpAny _ _ _ _ _ { s with heap := h1.push (seqObj "list" vs.toArray 0) }
  have er1 : EachIs (fun v b => ∃ as, Reads (sortingHeap (h1.push (seqObj "list" vs.toArray 0)) h1.objs.size vs) v (enc b) as) vs bs := er.mono fun _ _ ⟨as, r⟩ => ⟨as, PyProof.Rows.Reads.keeps (fun b o q => by
    obtain ⟨q1, q2⟩ := old1 b o (hk1 b o q)
    exact sortingHeap_old q1 q2) r⟩
  refine wpAny_bind (wpAny_holding (wpAny_call_entry_kw slot_list_sort ⟨_, at1, rfl⟩ entry_list_sort ?body (args_list_sort _)))
  case body =>
    show wpAny (model prog w) A.in1.in1 (Builtin.«list.sort» ⟨[.ref h1.objs.size], []⟩) _ _ _
    refine wpAny_mono (Q := fun f s' => f = .done (.ret .none) ∧ s' = { s with heap := sortedHeap (h1.push (seqObj "list" vs.toArray 0)) h1.objs.size vs (sortVals (dataKind (sortingHeap (h1.push (seqObj "list" vs.toArray 0)) h1.objs.size vs) (bs.map enc)) false vs vs).toArray })
      (list_sort_vals (s := { s with heap := h1.push (seqObj "list" vs.toArray 0) }) at1 (SortsAt.data (s := { s with heap := sortingHeap (h1.push (seqObj "list" vs.toArray 0)) h1.objs.size vs }) (each_map (R := fun v d => ∃ as, Reads (sortingHeap (h1.push (seqObj "list" vs.toArray 0)) h1.objs.size vs) v d as) enc er1) hal hk (bound_map hu)) hvs ⟨rfl, rfl⟩) (fun f s' hf => ?_) fun _ _ e => e
    obtain ⟨rfl, rfl⟩ := hf
    refine ⟨_, rfl, wpAny_pure ⟨_, rfl, ?_⟩⟩
    obtain ⟨c, hc2⟩ := sortedHeap_at (vs := vs) (out := (sortVals (dataKind (sortingHeap (h1.push (seqObj "list" vs.toArray 0)) h1.objs.size vs) (bs.map enc)) false vs vs).toArray) at1
    refine h h1 _ _ c hk1 (fun b o q => ?_) hc2 (by rw [sortVals_length false rfl]; exact e.length) (sortVals_data false e er1 hal)
    obtain ⟨q1, q2⟩ := old1 b o q
    rw [sortedHeap_old q1 (Heap.lt_size q2)]
    exact q2
end
end PySem.W

namespace Dn
open PySem L2
def encD (d : D) : PyData := (toP d).getD .none
def leD : D → D → Bool := PySem.W.dataLe false encD
def sortedD (ds : List D) : List D := ds.mergeSort leD
def isTup1 : PyData → Bool
  | .tuple (_ :: _) => true
  | _ => false
def noTup : PyData → Bool
  | .tuple _ => false
  | .none => false
  | _ => true
def sortOk (ds : List D) : Bool :=
  decide (ds.length ≤ LIM) && ds.all (fun d => (toP d).isSome && decide ((encD d).depth ≤ 60)) && ds.all (fun a => ds.all fun b => PySem.W.alike (encD a) (encD b)) && (ds.all (fun d => isTup1 (encD d)) || ds.all (fun d => noTup (encD d)))
@[simp] def sortF : Store → List D → Option (List D) := fun _ xs => match xs with
  | [.lst ds] => if sortOk ds = true then some (sortedD ds) else none
  | [.tup ds] => if sortOk ds = true then some (sortedD ds) else none
  | _ => none
section
variable {X : Cx}
theorem each_of {K : PySem.W.Frag} {S : Hp} {t : Th} {vs : List V} {ds : List D} {us : List Value} (h : DRs K S t vs ds) (r : Vals vs us) : PySem.W.EachIs (fun u d => ∃ v, RelV v u ∧ DR K S t v d) us ds := by
  induction r generalizing ds with
  | nil => cases h; exact .nil
  | cons r _ ih => cases h with | cons h hs => exact .cons ⟨_, r, h⟩ (ih hs)
theorem each_back {K : PySem.W.Frag} {S : Hp} {t : Th} {ds : List D} {us : List Value} (h : PySem.W.EachIs (fun u d => ∃ v, RelV v u ∧ DR K S t v d) us ds) : ∃ vs, Vals vs us ∧ DRs K S t vs ds := by
  induction h with
  | nil => exact ⟨[], .nil, .nil⟩
  | cons h _ ih =>
    obtain ⟨v, r, d⟩ := h
    obtain ⟨vs, rs, ds⟩ := ih
    exact ⟨v :: vs, .cons r rs, .cons d ds⟩
theorem sortOk_ok {ds : List D} (h : sortOk ds = true) : ds.length ≤ LIM ∧ (∀ d ∈ ds, toP d = some (encD d) ∧ (encD d).depth ≤ 60) ∧ PySem.W.AllAlike (ds.map encD) ∧ PySem.W.Sortable (ds.map encD) := by
  unfold sortOk at h
  simp only [Bool.and_eq_true, Bool.or_eq_true, List.all_eq_true, decide_eq_true_eq] at h
  obtain ⟨⟨⟨h1, h2⟩, h3⟩, h4⟩ := h
  refine ⟨h1, fun d hd => ?_, fun d hd d' hd' => ?_, ?_⟩
  · obtain ⟨q1, q2⟩ := h2 d hd
    refine ⟨?_, q2⟩
    obtain ⟨p, hp⟩ := Option.isSome_iff_exists.mp q1
    unfold encD
    rw [hp]; rfl
  · obtain ⟨a, ha, rfl⟩ := List.mem_map.mp hd
    obtain ⟨b, hb, rfl⟩ := List.mem_map.mp hd'
    exact h3 a ha b hb
  · rcases h4 with h4 | h4
    · refine .inl fun d hd => ?_
      obtain ⟨a, ha, rfl⟩ := List.mem_map.mp hd
      have := h4 a ha
      revert this
      cases encD a with
      | tuple xs =>
        cases xs with
        | nil => intro z; exact absurd z (by decide)
        | cons x r => intro _; exact ⟨x, r, rfl⟩
      | _ => intro z; cases z
    · refine .inr fun d hd => ?_
      obtain ⟨a, ha, rfl⟩ := List.mem_map.mp hd
      have := h4 a ha
      revert this
      cases encD a with
      | tuple xs => intro z; cases z
      | none => intro z; cases z
      | _ => intro _; exact ⟨(fun z => nomatch z), (fun xs z => nomatch z)⟩
theorem each_reads {pins : List (Addr × Obj)} {σ : St} {H S : Hp} {t : Th} {s : Shared} (I : Inv X pins σ H s) (ss : Sub S H) {ds : List D} {us : List Value} (h : PySem.W.EachIs (fun u d => ∃ v, RelV v u ∧ DR X.K S t v d) us ds) (hp : ∀ d ∈ ds, toP d = some (encD d)) :
    PySem.W.EachIs (fun u d => ∃ as, Reads s.heap u (encD d) as) us ds := by
  induction h with
  | nil => exact .nil
  | cons h _ ih =>
    obtain ⟨v, r, hd⟩ := h
    exact .cons (Dp.reads I _ _ _ (toP_dp ss _ _ _ hd (hp _ List.mem_cons_self)) r) (ih fun d hd => hp d (List.mem_cons_of_mem _ hd))
theorem mergeSort_len (ds : List D) : (sortedD ds).length = ds.length := List.length_mergeSort ds
def rSortD (K : PySem.W.Frag) : List V → Hp → VK → Prop := fun xs H Q => ∃ S t m a ds vs, HI K S H t m ∧ xs = [V.ref a] ∧ (SqL K H a vs ∨ SqT K H a vs) ∧ DRs K S t vs ds ∧ sortOk ds = true ∧ ∀ p ws, H p = none → DRs K S t ws (sortedD ds) → Q (.ref p) (upd H p (.lst ws))
theorem cr_sortD (hu : X.A.units + 65 < cLine) : CallR X (.builtin "sorted") (rSortD X.K) := by
  intro pins s σ H xs us Q I r h
  obtain ⟨S, t, m, a, ds, vs, hi, rfl, hs, hd, ok, q⟩ := h
  obtain ⟨u, rfl, ru⟩ := vals1 r
  obtain rfl : u = Value.ref a := ru
  obtain ⟨hl, hp, hal, hk⟩ := sortOk_ok ok
  have main : ∀ (T : String) (o : Obj) (its : List Value) (n : Nat), (T = "list" ∨ T = "tuple") → s.heap.get? a = some o → o.cls = .type T → o.data = .seq its.toArray n → Vals vs its → wpAny (model X.prog X.w) X.A (call (.builtin "sorted") [.ref a]) (EP X pins σ Q) X.xe s := by
    intro T o its n hT ho hc hdt rv
    have e1 := each_of hd rv
    refine PySem.W.dn_sorted hT ho hc hdt e1 (each_reads I hi.sub e1 fun d hd => (hp d hd).1) hal hk (lim_le hl) (fun b hb => ?_) fun h1 h2 out c k1 k2 at2 ol eo => ?_
    · have := (hp b hb).2
      omega
    · obtain ⟨ws, rw', dw⟩ := each_back eo
      have I1 : Inv X pins σ H { s with heap := h1 } := I.kept (t' := s.toks) k1
      refine ⟨.ref h1.objs.size, upd H h1.objs.size (.lst ws), I1.laid (t' := s.toks) k2 (Nat.le_refl _) ⟨?_, out, c, rw', at2⟩, rfl, q _ ws (I1.hok.fresh (Nat.le_refl _)) dw⟩
      have : ws.length = (sortedD ds).length := dw.length
      rw [this, mergeSort_len]
      exact lim_le hl
  rcases hs with hs | hs
  · obtain ⟨its, rv, pl, hz⟩ := I.list hs
    obtain ⟨o, ho, hc, n, hdt⟩ := pl.isList
    exact main "list" o its n (.inl rfl) ho hc hdt rv
  · obtain ⟨its, rv, ⟨o, ho, hc, n, hdt⟩, hz⟩ := I.tuple hs
    exact main "tuple" o its n (.inr rfl) ho hc hdt rv
theorem cf_sort (hu : X.A.units + 65 < cLine) : CallF X (.builtin "sorted") sortF := by
  refine ⟨_, cr_sortD hu, fun S H t m xs ds zs Q i bs hz q => ?_⟩
  have fin : ∀ a vs es, (SqL X.K H a vs ∨ SqT X.K H a vs) → xs = [V.ref a] → DRs X.K S t vs es → (if sortOk es = true then some (sortedD es) else none) = some zs → rSortD X.K xs H Q := by
    intro a vs es hs hx hd hz
    split at hz
    · rename_i ok
      cases hz
      refine ⟨S, t, m, a, es, vs, i, hx, hs, hd, ok, fun p ws hp dw => ?_⟩
      obtain ⟨p2, i2, r⟩ := new_own i hp dw
      exact q _ _ _ p2 i2 r hp
    · cases hz
  unfold sortF at hz
  split at hz
  · cases bs with
    | cons b1 b2 =>
      cases b2
      obtain ⟨a, vs, rfl, a2, a3⟩ := b1.lst i
      exact fin a vs _ (.inl (.of a2)) rfl a3 hz
  · cases bs with
    | cons b1 b2 =>
      cases b2
      obtain ⟨a, vs, rfl, _, a2, a3⟩ := b1.tup i
      exact fin a vs _ (.inr a2) rfl a3 hz
  · cases hz
end
end Dn
/-! Chains, starred items, slices, built-ins. -/
namespace Dn
open PySem L2

section
variable {X : Cx} {G : Cfg} {W : WX} {a b c : Expr} {es : List Expr} {fa fb fc : EvE} {fs : EvA} {pos p : Pos}
/-! ### a op b op' c -/
theorem de_chain {op op' : CmpOp} {g g' : Store → D → D → Option D} (ho : OpD X (compareOp op) g) (ho' : OpD X (compareOp op') g') (hK : X.K = G.K) (ha : PE X a (semB G W fa)) (hb : PE X b (semB G W fb)) (hc : PE X c (semB G W fc))
    (hm : lastMarks [op, op'] [b, c] = false := by with_unfolding_all rfl) : PE X (.Compare a [op, op'] [b, c] pos) (semE G W (chainE g g' fa fb fc)) := by
  obtain ⟨r, r1, r2⟩ := ho
  obtain ⟨r', r1', r2'⟩ := ho'
  exact (pe_chain r1 r1' ha hb hc hm).imp fun σ H Q h => sem3 hK r2 r2' h
theorem dt_chain {op op' : CmpOp} {g g' : Store → D → D → Option D} (ho : OpD X (compareOp op) g) (ho' : OpD X (compareOp op') g') (hK : X.K = G.K) (ha : PE X a (semB G W fa)) (hb : PE X b (semB G W fb)) (hc : PE X c (semB G W fc))
    (hm : lastMarks [op, op'] [b, c] = false := by with_unfolding_all rfl) : PT X (.Compare a [op, op'] [b, c] pos) (semT G W (blT (chainE g g' fa fb fc))) := by
  obtain ⟨r, r1, r2⟩ := ho
  obtain ⟨r', r1', r2'⟩ := ho'
  refine (pt_chain r1 r1' ha hb hc hm).imp fun σ H Q ⟨S, t, m, e, si, h⟩ => ?_
  refine sem3 (Q := fun x H' => ∃ k, x = .bl k ∧ Q k H') hK r2 r2' ⟨S, t, m, e, si, (Gd.sp h).imp fun S1 H1 t1 m1 x p1 i1 h2 v rv => ?_⟩
  cases x with
  | bl b => cases rv; exact ⟨b, rfl, Gd.now h2 i1⟩
  | _ => exact h2.elim
/-! ### *e among items -/
@[simp] def starA (f : EvE) (r : EvA) : EvA := fun C e m => (f C e m).bind fun d m1 => (R.of (itemsOf d) m1).bind fun xs m1 => (r C e m1).bind fun ys m2 => .ok (xs ++ ys) m2
@[simp] def noStr : D → Bool
  | .str _ => false
  | _ => true
@[simp] def seqOnly (f : EvE) : EvE := fun C e m => (f C e m).bind fun d m1 => if noStr d = true then .ok d m1 else .stuck
theorem da_star {sp : Pos} (hK : X.K = G.K) (ha : PE X a (semE G W fa)) (hr : PA X es (semA G W fs)) (hs : starEach (.Starred a sp :: es) X.env = (true, eval a X.env) :: starEach es X.env := by rfl) : PA X (.Starred a sp :: es) (semA G W (starA (seqOnly fa) fs)) := by
  refine (StX.pa_star ha hr hs).imp fun σ H Q ⟨S, t, m, e, si, g⟩ => ⟨S, t, m, e, si, ?_⟩
  unfold starA seqOnly at g
  refine (Gd.sp (Gd.sp g)).imp fun S1 H1 t1 m1 d p1 i1 h1 v rv => ?_
  rw [hK]
  by_cases hn : noStr d = true
  · rw [if_pos hn] at h1
    have h1 := Gd.now h1 i1
    cases rv with
    | lst h hs =>
      have h1 : Gd G W σ S1 H1 t1 ((fs G.C e m1).bind fun ys m2 => .ok (_ ++ ys) m2) _ := h1
      refine ⟨_, _, rfl, .inr (.of (i1.sub _ _ h)), S1, t1, m1, e, si.stp p1 i1, (Gd.sp h1).imp fun S2 H2 t2 m2 ys p2 i2 h2 ws rs => ?_⟩
      exact Gd.now h2 i2 _ ((hs.stp i1 p2).append rs)
    | frz h hs =>
      have h1 : Gd G W σ S1 H1 t1 ((fs G.C e m1).bind fun ys m2 => .ok (_ ++ ys) m2) _ := h1
      refine ⟨_, _, rfl, .inr (i1.sub.sqL h), S1, t1, m1, e, si.stp p1 i1, (Gd.sp h1).imp fun S2 H2 t2 m2 ys p2 i2 h2 ws rs => ?_⟩
      exact Gd.now h2 i2 _ ((hs.stp i1 p2).append rs)
    | tup h hs =>
      have h1 : Gd G W σ S1 H1 t1 ((fs G.C e m1).bind fun ys m2 => .ok (_ ++ ys) m2) _ := h1
      refine ⟨_, _, rfl, .inl (i1.sub.sqT h), S1, t1, m1, e, si.stp p1 i1, (Gd.sp h1).imp fun S2 H2 t2 m2 ys p2 i2 h2 ws rs => ?_⟩
      exact Gd.now h2 i2 _ ((hs.stp i1 p2).append rs)
    | str z => cases hn
    | non => exact h1.elim
    | bl b => exact h1.elim
    | int b => exact h1.elim
    | ref b => exact h1.elim
  · rw [if_neg hn] at h1; exact h1.elim
end

/-! ### slices -/
abbrev EvO := Orc → Env → Store → R (Option Int)
@[simp] def noO : EvO := fun _ _ m => .ok none m
@[simp] def isI : D → Option (Option Int)
  | .int i => some (some i)
  | _ => none
@[simp] def intO (f : EvE) : EvO := fun C e m => (f C e m).bind fun d m1 => .of (isI d) m1
def semO (G : Cfg) (W : WX) (f : EvO) : TO := fun σ H Q => ∃ S t m e, SI G.K G.x S H t m σ e ∧ Gd G W σ S H t (f G.C e m) fun _ H' _ _ o => Q o H'
def cutD (xs : List D) (lo hi : Option Int) : List D := (xs.drop (HT.sIx xs.length 0 lo)).take (HT.sIx xs.length xs.length hi - HT.sIx xs.length 0 lo)
def cutG : D → Option Int → Option Int → Option D
  | .tup xs, lo, hi => some (.tup (cutD xs lo hi))
  | .str z, lo, hi => if short z.cps.toList = true then some (.str (cutS z lo hi)) else none
  | _, _, _ => none
def cutF : D → Option Int → Option Int → Option (List D)
  | .lst xs, lo, hi => some (cutD xs lo hi)
  | .frz xs, lo, hi => some (cutD xs lo hi)
  | _, _, _ => none
@[simp] def slE (f : EvE) (l h : EvO) : EvE := fun C e m => (f C e m).bind fun d m1 => (l C e m1).bind fun lo m2 => (h C e m2).bind fun hi m3 => .of (cutG d lo hi) m3
@[simp] def slF (f : EvE) (l h : EvO) : EvA := fun C e m => (f C e m).bind fun d m1 => (l C e m1).bind fun lo m2 => (h C e m2).bind fun hi m3 => .of (cutF d lo hi) m3
@[simp] def revG : D → Option (List D)
  | .lst xs => some xs.reverse
  | .frz xs => some xs.reverse
  | _ => none
@[simp] def revF (f : EvE) : EvA := fun C e m => (f C e m).bind fun d m1 => .of (revG d) m1
theorem _root_.L2.PO.imp {X : Cx} {e : Option Expr} {t t' : TO} (h : PO X e t) (w : ∀ σ H Q, t' σ H Q → t σ H Q) : PO X e t' := ⟨fun pins s σ H Q I q => h.run pins s σ H Q I (w σ H Q q)⟩
section
variable {X : Cx} {G : Cfg} {W : WX} {a b c : Expr} {lo hi : Option Expr} {es : List Expr} {fa fb fc : EvE} {fl fh : EvO} {fs : EvA} {pos p p2 : Pos}
theorem do_none : PO X none (semO G W noO) := po_none.imp fun σ H Q ⟨S, t, m, e, si, g⟩ => g.now si.hi
theorem do_some (h : PE X a (semE G W fa)) : PO X (some a) (semO G W (intO fa)) := by
  refine (po_some h).imp fun σ H Q ⟨S, t, m, e, si, g⟩ => ⟨S, t, m, e, si, (Gd.sp g).imp fun S1 H1 t1 m1 d p1 i1 h1 v rv => ?_⟩
  cases d with
  | int i => cases rv; exact ⟨i, rfl, Gd.now h1 i1⟩
  | _ => exact h1.elim
theorem drs_cut {K : PySem.W.Frag} {S : Hp} {t : Th} {vs : List V} {ds : List D} (h : DRs K S t vs ds) (lo hi : Option Int) : DRs K S t (cutV vs lo hi) (cutD ds lo hi) := by
  unfold cutV cutD
  rw [h.length]
  exact (h.drop _).take _
theorem de_sl (hK : X.K = G.K) (ha : PE X a (semB G W fa)) (hl : PO X lo (semO G W fl)) (hh : PO X hi (semO G W fh)) : PE X (.Subscript a (.Slice lo hi none p2) pos) (semE G W (slE fa fl fh)) := by
  refine (pe_slice (sl_tupA.or sl_str) ha hl hh).imp fun σ H Q ⟨S, t, m, e, si, g⟩ => ⟨S, t, m, e, si, (Gd.sp g).imp fun S1 H1 t1 m1 d p1 i1 h1 v rv => ?_⟩
  refine ⟨S1, t1, m1, e, si.stp p1 i1, (Gd.sp h1).imp fun S2 H2 t2 m2 l p2 i2 h2 => ⟨S2, t2, m2, e, (si.stp p1 i1).stp p2 i2, (Gd.sp h2).imp fun S3 H3 t3 m3 h p3 i3 h3 => ?_⟩⟩
  have rv3 := (rv.stp i1 p2).stp i2 p3
  rw [hK]
  cases d with
  | tup xs =>
    obtain ⟨q, vs, rfl, a1, a2, a3⟩ := rv3.tup i3
    refine .inl ⟨q, vs, rfl, a2, fun hw => ?_, fun hw q' hq => ?_⟩
    · have e1 : cutD xs l h = xs := by
        unfold cutD
        rw [a3.length] at hw
        rw [hw.1, hw.2]
        simp
      have h3 : Gd G W σ S3 H3 t3 (R.ok (D.tup (cutD xs l h)) m3) _ := h3
      rw [e1] at h3
      exact Gd.now h3 i3 _ (DR.tup a1 a3)
    · obtain ⟨p4, i4, r⟩ := new_tup i3 hq (drs_cut a3 l h)
      exact h3 _ _ _ p4 i4 _ r
  | str z =>
    have := rv3.str
    subst this
    have h3 : Gd G W σ S3 H3 t3 (R.of (if short z.cps.toList = true then some (D.str (cutS z l h)) else none) m3) _ := h3
    by_cases hs : short z.cps.toList = true
    · rw [if_pos hs] at h3
      exact .inr ⟨z, rfl, by have := short_le hs; simpa [Str.length] using this, Gd.now h3 i3 _ (DR.str _)⟩
    · rw [if_neg hs] at h3; exact h3.elim
  | _ => exact h3.elim
theorem df_sl (hK : X.K = G.K) (ha : PE X a (semB G W fa)) (hl : PO X lo (semO G W fl)) (hh : PO X hi (semO G W fh)) : PE X (.Subscript a (.Slice lo hi none p2) pos) (semF G W (slF fa fl fh)) := by
  refine (pe_slice sl_list ha hl hh).imp fun σ H Q ⟨S, t, m, e, si, g⟩ => ⟨S, t, m, e, si, (Gd.sp g).imp fun S1 H1 t1 m1 d p1 i1 h1 v rv => ?_⟩
  refine ⟨S1, t1, m1, e, si.stp p1 i1, (Gd.sp h1).imp fun S2 H2 t2 m2 l p2 i2 h2 => ⟨S2, t2, m2, e, (si.stp p1 i1).stp p2 i2, (Gd.sp h2).imp fun S3 H3 t3 m3 h p3 i3 h3 => ?_⟩⟩
  have rv3 := (rv.stp i1 p2).stp i2 p3
  rw [hK]
  have up : ∀ q, H3 q = none → H q = none := fun q hq => by
    cases z : H q with
    | none => rfl
    | some o => exact absurd hq (p3.dom q (p2.dom q (p1.dom q (by rw [z]; simp))))
  cases d with
  | lst xs =>
    obtain ⟨q, vs, rfl, a2, a3⟩ := rv3.lst i3
    refine ⟨q, vs, rfl, .of a2, fun q' hq => ?_⟩
    obtain ⟨p4, i4, r⟩ := new_own i3 hq (drs_cut a3 l h)
    exact h3 _ _ _ p4 i4 _ r (up _ hq)
  | frz xs =>
    obtain ⟨q, vs, rfl, a2, a3⟩ := rv3.frz i3
    refine ⟨q, vs, rfl, a2, fun q' hq => ?_⟩
    obtain ⟨p4, i4, r⟩ := new_own i3 hq (drs_cut a3 l h)
    exact h3 _ _ _ p4 i4 _ r (up _ hq)
  | _ => exact h3.elim
theorem df_rev {k : Nat} {p1 p2 p3 : Pos} (hK : X.K = G.K) (ha : PE X a (semB G W fa)) : PE X (.Subscript a (.Slice none none (some (.UnaryOp .USub (.Constant (.int 1) k p1) p2)) p3) pos) (semF G W (revF fa)) := by
  refine (pe_revL ha).imp fun σ H Q ⟨S, t, m, e, si, g⟩ => ⟨S, t, m, e, si, (Gd.sp g).imp fun S3 H3 t3 m3 d p3 i3 h3 v rv3 => ?_⟩
  rw [hK]
  have up : ∀ q, H3 q = none → H q = none := fun q hq => by
    cases z : H q with
    | none => rfl
    | some o => exact absurd hq (p3.dom q (by rw [z]; simp))
  cases d with
  | lst xs =>
    obtain ⟨q, vs, rfl, a2, a3⟩ := rv3.lst i3
    refine ⟨q, vs, rfl, .of a2, fun q' hq => ?_⟩
    obtain ⟨p4, i4, r⟩ := new_own i3 hq a3.reverse
    exact h3 _ _ _ p4 i4 _ r (up _ hq)
  | frz xs =>
    obtain ⟨q, vs, rfl, a2, a3⟩ := rv3.frz i3
    refine ⟨q, vs, rfl, a2, fun q' hq => ?_⟩
    obtain ⟨p4, i4, r⟩ := new_own i3 hq a3.reverse
    exact h3 _ _ _ p4 i4 _ r (up _ hq)
  | _ => exact h3.elim
end

/-! ### built-ins -/
@[simp] def lenG : Store → List D → Option D := fun m xs => match xs with
  | [.lst ds] => some (.int ds.length)
  | [.frz ds] => some (.int ds.length)
  | [.tup ds] => some (.int ds.length)
  | [.str z] => if short z.cps.toList = true then some (.int z.length) else none
  | [.ref n] => match m[n]? with
    | some (.lst ds) => some (.int ds.length)
    | _ => none
  | _ => none
@[simp] def absG : Store → List D → Option D := fun _ xs => match xs with
  | [.int i] => some (.int (if i < 0 then -i else i))
  | _ => none
@[simp] def maxG : Store → List D → Option D := fun _ xs => match xs with
  | [.int i, .int j] => some (.int (if j > i then j else i))
  | _ => none
@[simp] def minG : Store → List D → Option D := fun _ xs => match xs with
  | [.int i, .int j] => some (.int (if j < i then j else i))
  | _ => none
@[simp] def intG : Store → List D → Option D := fun _ xs => match xs with
  | [.int i] => some (.int i)
  | [.bl k] => some (.int (if k then 1 else 0))
  | _ => none
@[simp] def toInts : List D → Option (List Int)
  | [] => some []
  | .int i :: ds => (toInts ds).map fun is => i :: is
  | _ :: _ => none
@[simp] def toBls : List D → Option (List Bool)
  | [] => some []
  | .bl i :: ds => (toBls ds).map fun is => i :: is
  | _ :: _ => none
@[simp] def sumG : Store → List D → Option D := fun _ xs => match xs with
  | [.lst ds] => (toInts ds).map fun is => .int is.sum
  | _ => none
@[simp] def allG : Store → List D → Option D := fun _ xs => match xs with
  | [.lst ds] => (toBls ds).map fun is => .bl (is.all id)
  | _ => none
@[simp] def anyG : Store → List D → Option D := fun _ xs => match xs with
  | [.lst ds] => (toBls ds).map fun is => .bl (is.any id)
  | _ => none
@[simp] def tupleG : Store → List D → Option D := fun m xs => match xs with
  | [.lst ds] => some (.tup ds)
  | [.frz ds] => some (.tup ds)
  | [.tup ds] => some (.tup ds)
  | [.ref n] => match m[n]? with
    | some (.lst ds) => some (.tup ds)
    | _ => none
  | _ => none
@[simp] def listF : Store → List D → Option (List D) := fun m xs => match xs with
  | [.lst ds] => some ds
  | [.frz ds] => some ds
  | [.tup ds] => some ds
  | [.ref n] => match m[n]? with
    | some (.lst ds) => some ds
    | _ => none
  | _ => none
@[simp] def boolG : Store → List D → Option D := fun m xs => match xs with
  | [.int i] => some (.bl (i != 0))
  | [.bl k] => some (.bl k)
  | [.lst ds] => some (.bl (!ds.isEmpty))
  | _ => none
section
variable {X : Cx}
theorem BRs.one {K : PySem.W.Frag} {S H : Hp} {t : Th} {xs : List V} {d : D} (h : BRs K S H t xs [d]) : ∃ v, xs = [v] ∧ BR K S H t v d := by
  cases h with
  | cons h1 h2 => cases h2; exact ⟨_, rfl, h1⟩
theorem BRs.two {K : PySem.W.Frag} {S H : Hp} {t : Th} {xs : List V} {d c : D} (h : BRs K S H t xs [d, c]) : ∃ v w, xs = [v, w] ∧ BR K S H t v d ∧ BR K S H t w c := by
  cases h with
  | cons h1 h2 =>
    obtain ⟨w, rfl, h3⟩ := h2.one
    exact ⟨_, w, rfl, h1, h3⟩
theorem cb_len : CallD X (.builtin "len") lenG := by
  refine ⟨fun xs H Q => (∃ p ys, xs = [.ref p] ∧ (SqL X.K H p ys ∨ SqT X.K H p ys) ∧ Q (.int ys.length) H) ∨ ∃ z, xs = [.str z] ∧ z.length ≤ sizeLine ∧ Q (.int z.length) H, fun pins s σ H xs us Q I r h => ?_, fun S H t m xs ds z Q i bs hz q => ?_⟩
  · rcases h with h | h
    · exact call_len_seq pins s σ H xs us Q I r h
    · exact call_len_str pins s σ H xs us Q I r h
  · unfold lenG at hz
    split at hz
    · obtain ⟨v, rfl, b⟩ := bs.one
      cases hz
      obtain ⟨a, vs, rfl, a2, a3⟩ := b.lst i
      exact .inl ⟨a, vs, rfl, .inl (.of a2), by rw [a3.length]; exact q _ _ _ .refl i (.int _)⟩
    · obtain ⟨v, rfl, b⟩ := bs.one
      cases hz
      obtain ⟨a, vs, rfl, a2, a3⟩ := b.frz i
      exact .inl ⟨a, vs, rfl, .inl a2, by rw [a3.length]; exact q _ _ _ .refl i (.int _)⟩
    · obtain ⟨v, rfl, b⟩ := bs.one
      cases hz
      obtain ⟨a, vs, rfl, _, a2, a3⟩ := b.tup i
      exact .inl ⟨a, vs, rfl, .inr a2, by rw [a3.length]; exact q _ _ _ .refl i (.int _)⟩
    · obtain ⟨v, rfl, b⟩ := bs.one
      split at hz
      · rename_i hs
        cases hz
        have := b.str
        subst this
        exact .inr ⟨_, rfl, by have := short_le hs; simpa [Str.length] using this, q _ _ _ .refl i (.int _)⟩
      · cases hz
    · obtain ⟨v, rfl, b⟩ := bs.one
      split at hz
      · rename_i hm
        cases hz
        obtain ⟨a, vs, rfl, a2, a3⟩ := b.ref i hm
        exact .inl ⟨a, vs, rfl, .inl (.of a2), by rw [a3.length]; exact q _ _ _ .refl i (.int _)⟩
      · cases hz
    · cases hz
theorem cb_abs : CallD X (.builtin "abs") absG := by
  refine ⟨_, call_abs, fun S H t m xs ds z Q i bs hz q => ?_⟩
  unfold absG at hz
  split at hz
  · obtain ⟨v, rfl, b⟩ := bs.one
    cases hz
    exact ⟨_, by rw [b.int], q _ _ _ .refl i (.int _)⟩
  · cases hz
theorem cb_max (hc : X.calm = true) : CallD X (.builtin "max") maxG := by
  refine ⟨_, call_max2 hc, fun S H t m xs ds z Q i bs hz q => ?_⟩
  unfold maxG at hz
  split at hz
  · obtain ⟨v, w, rfl, b, b'⟩ := bs.two
    cases hz
    exact ⟨_, _, by rw [b.int, b'.int], q _ _ _ .refl i (.int _)⟩
  · cases hz
theorem cb_min (hc : X.calm = true) : CallD X (.builtin "min") minG := by
  refine ⟨_, call_min2 hc, fun S H t m xs ds z Q i bs hz q => ?_⟩
  unfold minG at hz
  split at hz
  · obtain ⟨v, w, rfl, b, b'⟩ := bs.two
    cases hz
    exact ⟨_, _, by rw [b.int, b'.int], q _ _ _ .refl i (.int _)⟩
  · cases hz
theorem cb_int : CallD X (.type "int") intG := by
  refine ⟨_, call_int1, fun S H t m xs ds z Q i bs hz q => ?_⟩
  unfold intG at hz
  split at hz
  · obtain ⟨v, rfl, b⟩ := bs.one
    cases hz
    exact .inl ⟨_, by rw [b.int], q _ _ _ .refl i (.int _)⟩
  · obtain ⟨v, rfl, b⟩ := bs.one
    cases hz
    exact .inr ⟨_, by rw [b.bl], q _ _ _ .refl i (.int _)⟩
  · cases hz
theorem toInts_v {K : PySem.W.Frag} {S : Hp} {t : Th} : ∀ {ds : List D} {vs : List V} {is : List Int}, DRs K S t vs ds → toInts ds = some is → vs = is.map V.int
  | [], _, _, h, e => by cases h; unfold toInts at e; cases e; rfl
  | .int i :: ds, _, _, .cons (.int _) h2, e => by
    unfold toInts at e
    cases q : toInts ds with
    | none => rw [q] at e; cases e
    | some js =>
      rw [q] at e
      cases e
      rw [List.map_cons, toInts_v h2 q]
  | .non :: _, _, _, _, e => by unfold toInts at e; cases e
  | .bl _ :: _, _, _, _, e => by unfold toInts at e; cases e
  | .str _ :: _, _, _, _, e => by unfold toInts at e; cases e
  | .tup _ :: _, _, _, _, e => by unfold toInts at e; cases e
  | .lst _ :: _, _, _, _, e => by unfold toInts at e; cases e
  | .frz _ :: _, _, _, _, e => by unfold toInts at e; cases e
  | .dct _ :: _, _, _, _, e => by unfold toInts at e; cases e
  | .ins _ _ :: _, _, _, _, e => by unfold toInts at e; cases e
  | .ref _ :: _, _, _, _, e => by unfold toInts at e; cases e
theorem toBls_v {K : PySem.W.Frag} {S : Hp} {t : Th} : ∀ {ds : List D} {vs : List V} {is : List Bool}, DRs K S t vs ds → toBls ds = some is → vs = is.map V.bl
  | [], _, _, h, e => by cases h; unfold toBls at e; cases e; rfl
  | .bl i :: ds, _, _, .cons (.bl _) h2, e => by
    unfold toBls at e
    cases q : toBls ds with
    | none => rw [q] at e; cases e
    | some js =>
      rw [q] at e
      cases e
      rw [List.map_cons, toBls_v h2 q]
  | .non :: _, _, _, _, e => by unfold toBls at e; cases e
  | .int _ :: _, _, _, _, e => by unfold toBls at e; cases e
  | .str _ :: _, _, _, _, e => by unfold toBls at e; cases e
  | .tup _ :: _, _, _, _, e => by unfold toBls at e; cases e
  | .lst _ :: _, _, _, _, e => by unfold toBls at e; cases e
  | .frz _ :: _, _, _, _, e => by unfold toBls at e; cases e
  | .dct _ :: _, _, _, _, e => by unfold toBls at e; cases e
  | .ins _ _ :: _, _, _, _, e => by unfold toBls at e; cases e
  | .ref _ :: _, _, _, _, e => by unfold toBls at e; cases e
theorem cb_sum (hc : X.calm = true) : CallD X (.builtin "sum") sumG := by
  refine ⟨_, cr_sum hc, fun S H t m xs ds z Q i bs hz q => ?_⟩
  unfold sumG at hz
  split at hz
  · rename_i es
    obtain ⟨v, rfl, b⟩ := bs.one
    obtain ⟨a, vs, rfl, a2, a3⟩ := b.lst i
    cases h : toInts es with
    | none => rw [h] at hz; cases hz
    | some is =>
      rw [h] at hz
      cases hz
      have := toInts_v a3 h
      subst this
      exact ⟨a, is, rfl, .of a2, q _ _ _ .refl i (.int _)⟩
  · cases hz
theorem cb_all (hc : X.calm = true) : CallD X (.builtin "all") allG := by
  refine ⟨_, cr_all hc, fun S H t m xs ds z Q i bs hz q => ?_⟩
  unfold allG at hz
  split at hz
  · rename_i es
    obtain ⟨v, rfl, b⟩ := bs.one
    obtain ⟨a, vs, rfl, a2, a3⟩ := b.lst i
    cases h : toBls es with
    | none => rw [h] at hz; cases hz
    | some is =>
      rw [h] at hz
      cases hz
      have := toBls_v a3 h
      subst this
      exact ⟨a, is, rfl, .of a2, q _ _ _ .refl i (.bl _)⟩
  · cases hz
theorem cb_any (hc : X.calm = true) : CallD X (.builtin "any") anyG := by
  refine ⟨_, cr_any hc, fun S H t m xs ds z Q i bs hz q => ?_⟩
  unfold anyG at hz
  split at hz
  · rename_i es
    obtain ⟨v, rfl, b⟩ := bs.one
    obtain ⟨a, vs, rfl, a2, a3⟩ := b.lst i
    cases h : toBls es with
    | none => rw [h] at hz; cases hz
    | some is =>
      rw [h] at hz
      cases hz
      have := toBls_v a3 h
      subst this
      exact ⟨a, is, rfl, .of a2, q _ _ _ .refl i (.bl _)⟩
  · cases hz
theorem cb_tuple : CallD X (.type "tuple") tupleG := by
  refine ⟨_, call_tuple_of, fun S H t m xs ds z Q i bs hz q => ?_⟩
  have fin : ∀ a vs es, SqL X.K H a vs → DRs X.K S t vs es → z = .tup es → xs = [V.ref a] → ∃ p ys, xs = [.ref p] ∧ ((SqL X.K H p ys ∧ ∀ l, H l = none → Q (.ref l) (upd H l (.tup ys))) ∨ (SqT X.K H p ys ∧ Q (.ref p) H)) := by
    intro a vs es ha hd ez ex
    subst ez
    refine ⟨a, vs, ex, .inl ⟨ha, fun l hl => ?_⟩⟩
    obtain ⟨p2, i2, r⟩ := new_tup i hl hd
    exact q _ _ _ p2 i2 r
  unfold tupleG at hz
  split at hz
  · obtain ⟨v, rfl, b⟩ := bs.one
    cases hz
    obtain ⟨a, vs, rfl, a2, a3⟩ := b.lst i
    exact fin a vs _ (.of a2) a3 rfl rfl
  · obtain ⟨v, rfl, b⟩ := bs.one
    cases hz
    obtain ⟨a, vs, rfl, a2, a3⟩ := b.frz i
    exact fin a vs _ a2 a3 rfl rfl
  · obtain ⟨v, rfl, b⟩ := bs.one
    cases hz
    obtain ⟨a, vs, rfl, a1, a2, a3⟩ := b.tup i
    exact ⟨a, vs, rfl, .inr ⟨a2, q _ _ _ .refl i (.tup a1 a3)⟩⟩
  · obtain ⟨v, rfl, b⟩ := bs.one
    split at hz
    · rename_i hm
      cases hz
      obtain ⟨a, vs, rfl, a2, a3⟩ := b.ref i hm
      exact fin a vs _ (.of a2) a3 rfl rfl
    · cases hz
  · cases hz
theorem cf_list : CallF X (.type "list") listF := by
  refine ⟨_, call_list_of, fun S H t m xs ds zs Q i bs hz q => ?_⟩
  have fin : ∀ a vs, (SqL X.K H a vs ∨ SqT X.K H a vs) → DRs X.K S t vs zs → xs = [V.ref a] → ∃ p ys, xs = [.ref p] ∧ (SqL X.K H p ys ∨ SqT X.K H p ys) ∧ ∀ l, H l = none → Q (.ref l) (upd H l (.lst ys)) := by
    intro a vs ha hd ex
    refine ⟨a, vs, ex, ha, fun l hl => ?_⟩
    obtain ⟨p2, i2, r⟩ := new_own i hl hd
    exact q _ _ _ p2 i2 r hl
  unfold listF at hz
  split at hz
  · obtain ⟨v, rfl, b⟩ := bs.one
    cases hz
    obtain ⟨a, vs, rfl, a2, a3⟩ := b.lst i
    exact fin a vs (.inl (.of a2)) a3 rfl
  · obtain ⟨v, rfl, b⟩ := bs.one
    cases hz
    obtain ⟨a, vs, rfl, a2, a3⟩ := b.frz i
    exact fin a vs (.inl a2) a3 rfl
  · obtain ⟨v, rfl, b⟩ := bs.one
    cases hz
    obtain ⟨a, vs, rfl, _, a2, a3⟩ := b.tup i
    exact fin a vs (.inr a2) a3 rfl
  · obtain ⟨v, rfl, b⟩ := bs.one
    split at hz
    · rename_i hm
      cases hz
      obtain ⟨a, vs, rfl, a2, a3⟩ := b.ref i hm
      exact fin a vs (.inl (.of a2)) a3 rfl
    · cases hz
  · cases hz
theorem cb_bool : CallD X (.type "bool") boolG := by
  refine ⟨fun xs H Q => ((∃ i, xs = [.int i] ∧ Q (.bl (i != 0)) H) ∨ ∃ k, xs = [.bl k] ∧ Q (.bl k) H) ∨ ∃ (a : Addr) (zs : List V), xs = [.ref a] ∧ SqL X.K H a zs ∧ Q (.bl (!zs.isEmpty)) H, fun pins s σ H xs us Q I r h => ?_, fun S H t m xs ds z Q i bs hz q => ?_⟩
  · rcases h with h | h
    · exact call_bool1 pins s σ H xs us Q I r h
    · exact call_boolL pins s σ H xs us Q I r h
  · unfold boolG at hz
    split at hz
    · obtain ⟨v, rfl, b⟩ := bs.one
      cases hz
      exact .inl (.inl ⟨_, by rw [b.int], q _ _ _ .refl i (.bl _)⟩)
    · obtain ⟨v, rfl, b⟩ := bs.one
      cases hz
      exact .inl (.inr ⟨_, by rw [b.bl], q _ _ _ .refl i (.bl _)⟩)
    · obtain ⟨v, rfl, b⟩ := bs.one
      cases hz
      obtain ⟨a, vs, rfl, a2, a3⟩ := b.lst i
      refine .inr ⟨a, vs, rfl, .of a2, ?_⟩
      cases a3 with
      | nil => exact q _ _ _ .refl i (.bl _)
      | cons _ _ => exact q _ _ _ .refl i (.bl _)
    · cases hz
end
end Dn
/-! isinstance; the table of defs. -/
namespace Dn
open PySem L2

/-! ### isinstance -/
@[simp] def tyD (m : Store) : D → Option String
  | .non => some "NoneType"
  | .bl _ => some "bool"
  | .int _ => some "int"
  | .str _ => some "str"
  | .tup _ => some "tuple"
  | .lst _ => some "list"
  | .frz _ => some "list"
  | .ref n => match m[n]? with
    | some (.lst _) => some "list"
    | _ => none
  | _ => none
@[simp] def isTy (T : String) (m : Store) (d : D) : Option Bool := (tyD m d).bind fun s => kitB s T
@[simp] def isE (T : String) (f : EvE) : EvE := fun C e m => (f C e m).bind fun d m1 => (R.of (isTy T m1 d) m1).bind fun b m1 => .ok (.bl b) m1
section
variable {X : Cx} {G : Cfg} {W : WX} {a b c : Expr} {es : List Expr} {fa fb fc : EvE} {fs : EvA} {pos p p2 : Pos}
theorem tyX_of {K : PySem.W.Frag} {S H : Hp} {t : Th} {m : Store} {v : V} {d : D} {s : String} (i : HI K S H t m) (h : BR K S H t v d) (e : tyD m d = some s) : TyX K H v (.type s) := by
  cases d with
  | non => cases e; rw [h.non]; exact .base .non
  | bl x => cases e; rw [h.bl]; exact .base (.bl _)
  | int x => cases e; rw [h.int]; exact .base (.int _)
  | str x => cases e; rw [h.str]; exact .base (.str _)
  | tup xs =>
    cases e
    obtain ⟨a, vs, rfl, _, q, _⟩ := h.tup i
    rcases q with (q | ⟨o, q⟩) | ⟨o, its, n, q1, q2, _⟩
    · exact .base (.tup q)
    · exact .fTuple q
    · exact .kTuple q1 q2
  | lst xs =>
    cases e
    obtain ⟨a, vs, rfl, q, _⟩ := h.lst i
    exact .base (.lst q)
  | frz xs =>
    cases e
    obtain ⟨a, vs, rfl, q, _⟩ := h.frz i
    rcases q with (q | ⟨o, q⟩) | ⟨o, its, n, q1, q2, _⟩
    · exact .base (.lst q)
    · exact .base (.frz q)
    · exact .kList q1 q2
  | ref n =>
    have e : (match m[n]? with | some (Ob.lst _) => some "list" | _ => none) = some s := e
    cases hm : m[n]? with
    | none => rw [hm] at e; cases e
    | some ob =>
      rw [hm] at e
      cases ob with
      | lst xs =>
        cases e
        obtain ⟨a, vs, rfl, q, _⟩ := h.ref i hm
        exact .base (.lst q)
      | gone => cases e
  | dct _ => cases e
  | ins _ _ => cases e
theorem de_isi {T : String} {y : Str} {py : Pos} (hK : X.K = G.K) (hg : Gl X "isinstance") (hm : X.mg "isinstance" = none) (hgy : Gl X y) (hmy : X.mg y = none) (hvy : bootBuiltins y = some (.type T)) (ha : PE X a (semB G W fa))
    (hny : y ≠ "__name__" := by decide) (hdy : (y == ("__debug__" : Str)) = false := by decide) (h1 : starEach [a, .Name y py] X.env = (false, eval a X.env) :: starEach [.Name y py] X.env := by rfl) (h2 : starEach [.Name y py] X.env = (false, eval (.Name y py) X.env) :: starEach [] X.env := by rfl)
    (hpl : (backTo pos (starEach [.Name y py] X.env)).any (·.1) = false := by rfl) :
    PE X (.Call (.Name "isinstance" p) [a, .Name y py] [] pos) (semE G W (isE T fa)) := by
  refine (pe_callB call_isi hg hm PyProof.Rows.boot_isinstance (pa_cons ha (pa_cons (pe_bltn (v := .ty T) hgy hmy hvy rfl hny hdy) pa_nil h2) h1) (by decide) (by decide) h1 hpl).imp fun σ H Q ⟨S, t, m, e, si, g⟩ => ⟨S, t, m, e, si, (Gd.sp g).imp fun S1 H1 t1 m1 d p1 i1 h1 v rv => ?_⟩
  rw [hK]
  unfold isTy at h1
  cases hs : tyD m1 d with
  | none => rw [hs] at h1; exact h1.elim
  | some s =>
    rw [hs] at h1
    cases hb : kitB s T with
    | none => simp [hb] at h1; exact h1.elim
    | some r =>
      simp [hb] at h1
      exact ⟨v, .ty T, .type s, .type T, r, rfl, .ty T, tyX_of i1 rv hs, kit_ty hb, Gd.now h1 i1 _ (DR.bl _)⟩
end

/-! ### the table -/
/-- a def: how many parameters, how many names, its body -/
structure Df where
  np : Nat
  nn : Nat
  body : EvS
abbrev Tab := Nat → Option Df
@[simp] def endS : SR → R D
  | .nx _ m => .ok .non m
  | .ret d m => .ok d m
  | .exc c fs _ m => .exc c fs m
  | _ => .stuck
@[simp] theorem endS_nx (e : Env) (m : Store) : endS (.nx e m) = .ok .non m := rfl
@[simp] theorem endS_ret (d : D) (m : Store) : endS (.ret d m) = .ok d m := rfl
@[simp] theorem endS_exc (c : Nat) (fs : List D) (e : Env) (m : Store) : endS (.exc c fs e m) = .exc c fs m := rfl
@[simp] def env0 (nn : Nat) (ds : List D) : Env := ds.map .dat ++ List.replicate (nn - ds.length) .em
def run (T : Tab) : Nat → Orc
  | 0, _, _, _ => .stuck
  | n + 1, f, ds, m => match T f with
    | some d => if ds.length = d.np ∧ d.np ≤ d.nn then endS (d.body (run T n) (env0 d.nn ds) m) else .stuck
    | none => .stuck
theorem si_start {K : PySem.W.Frag} {x : Gh} {S H : Hp} {t : Th} {m : Store} {N : List Str} {vs : List V} {ds : List D} (hi : HI K S H t m) (hd : DRs K S t vs ds) : SI K x S H t m (L2.start N vs) (env0 N.length ds) := by
  have hl := hd.length
  have shape : ∀ (i : Nat) c, (env0 N.length ds)[i]? = some c → (∃ d, c = .dat d ∧ ds[i]? = some d) ∨ c = .em := fun i c h => by
    unfold env0 at h
    by_cases hlt : i < ds.length
    · rw [List.getElem?_append_left (by simpa using hlt), List.getElem?_map] at h
      cases q : ds[i]? with
      | none => rw [q] at h; cases h
      | some d => rw [q] at h; cases h; exact .inl ⟨d, rfl, rfl⟩
    · rw [List.getElem?_append_right (by simp; omega), List.getElem?_replicate] at h
      split at h
      · cases h; exact .inr rfl
      · cases h
  refine ⟨hi, ?_, fun i d h => ?_, fun i d h => ?_, fun i j d c a h _ _ _ => ?_, fun i c fs h => ?_⟩
  · unfold L2.start env0; simp [hl]
  · rcases shape i _ h with ⟨d', e, q⟩ | e
    · cases e
      obtain ⟨v, q1, q2⟩ := hd.get q
      refine ⟨v, ?_, q2⟩
      have hlt := (List.getElem?_eq_some_iff.mp q1).1
      unfold L2.start
      rw [List.getElem?_append_left (by simpa using hlt), List.getElem?_map, q1]; rfl
    · cases e
  · rcases shape i _ h with ⟨d', e, q⟩ | e
    · cases e
    · cases e
  · rcases shape i _ h with ⟨d', e, q⟩ | e
    · cases e
    · cases e
  · rcases shape i _ h with ⟨d', e, q⟩ | e
    · cases e
    · cases e
/-- the context of a def's body -/
abbrev cxG (P : Program) (w : World) (K : PySem.W.Frag) (mg : Str → Option Value) (base : Heap) (N : List Str) (qual : Str) (scope : Scope) (f : Addr) (cd : Value) (A : Around) (outer : List PySem.Env) (s : Shared) (H : Hp) (E : XK) (cb : Bool) (pn : List (Addr × Obj)) : Cx :=
  { cxOf (L2N.CX P w) P w K mg base N qual scope f cd A outer s H E with calm := cb, pn := pn }
section
variable {P : Program} {w : World} {K : PySem.W.Frag} {mg : Str → Option Value} {base : Heap}
theorem spD_len {G : Cfg} {f np : Nat} : ∀ vs H Q E, spD G f np vs H Q E → vs.length = np := fun _ _ _ _ h => h.1
/-- nothing is promised of depth 0 -/
theorem fn_zero {T : Tab} {Xs : Nat → Option (Addr × List Str)} {a : Addr} {fd : FuncData} {ps : List Str} {f np : Nat} (hl : ps.length = np) : FnOk P w K mg base (L2N.CX P w) 0 a fd ps (spD ⟨K, run T 0, Xs, none⟩ f np) :=
  ⟨fun vs H Q E h => h.1.trans hl.symm, fun A outer s H args us vs Q E hr e0 hb r hsp => by
    obtain ⟨_, S, t, m, ds, _, _, g⟩ := hsp
    exact g.elim⟩
theorem fn_step {T : Tab} {Xs : Nat → Option (Addr × List Str)} {n f : Nat} {d : Df} {x qual : Str} {st : Stmt} {a : Addr} {fd : FuncData} {N ps : List Str} (F : Fun K x qual st a fd) (Sc : FnScope N ps (defScope st)) (hT : T f = some d) (hp : ps.length = d.np) (hn : N.length = d.nn)
    (hbody : ∀ (cdv : Value) (A : Around) (outer : List PySem.Env) (s : Shared) (H : Hp) (E : XK), Room n (A.deeper (PyProof.Rows.envOfC qual (defScope st) s.heap.objs.size a cdv)) → ∀ Sn,
      PSs (cxG P w K mg base N qual (defScope st) a cdv A outer s H E true []) (defBody st) (semS ⟨K, run T n, Xs, none⟩ (fun c d _ H' => E c d H') Sn d.body)) :
    FnOk P w K mg base (L2N.CX P w) (n + 1) a fd ps (spD ⟨K, run T (n + 1), Xs, none⟩ f d.np) := by
  obtain ⟨oc, od, kV, doc, pm, an, cdv, ct, osl, rfl, lk, hcd⟩ := F.ex
  refine fn_of lk hcd Sc (fun vs H Q E h => h.1.trans hp.symm) fun A outer s H vs Q E hr ⟨hlen, S, t, m, ds, hi, hd, g⟩ => ?_
  refine ⟨_, hbody cdv A outer s H E hr ⟨S, H, t⟩, S, t, m, env0 N.length ds, ⟨si_start hi hd, .refl, fun i c b h1 h2 => ?_⟩, ?_⟩
  · exfalso
    have e := h1
    unfold env0 at e
    by_cases hlt : i < ds.length
    · rw [List.getElem?_append_left (by simpa using hlt), List.getElem?_map] at e
      cases q : ds[i]? with
      | none => rw [q] at e; cases e
      | some d => rw [q] at e; cases e
    · rw [List.getElem?_append_right (by simp; omega), List.getElem?_replicate] at e
      split at e
      · cases e
      · cases e
  · have g : Gd _ _ _ S H t (match T f with
      | some d => if ds.length = d.np ∧ d.np ≤ d.nn then endS (d.body (run T n) (env0 d.nn ds) m) else .stuck
      | none => .stuck) _ := g
    rw [hT] at g
    dsimp only at g
    have hpn : d.np ≤ d.nn := by
      have := congrArg List.length Sc.pre
      rw [List.length_take] at this
      omega
    rw [if_pos ⟨hd.length.symm.trans hlen, hpn⟩] at g
    rw [hn]
    revert g
    cases d.body (run T n) (env0 d.nn ds) m with
    | nx e m1 => exact fun g S' H' t' σ sf => g S' H' t' sf.fr sf.si.hi _ .non
    | ret d m1 => exact fun g S' H' t' v i p r => g S' H' t' p i v r
    | brk e m1 => exact fun g => g.elim
    | ct e m1 => exact fun g => g.elim
    | exc c fs e m1 => exact fun g S' H' t' σ cls dx sf x => g S' H' t' cls dx sf.fr sf.si.hi x
    | stuck => exact fun g => g.elim
theorem fn_zeroH {T : Tab} {Xs : Nat → Option (Addr × List Str)} {a : Addr} {fd : FuncData} {ps : List Str} {f np : Nat} (hl : ps.length = np) : L2H.FnH P w K mg base (L2N.CX P w) 0 a fd ps (spD ⟨K, run T 0, Xs, none⟩ f np) :=
  ⟨fun vs H Q E h => h.1.trans hl.symm, fun A outer s H args us vs Q E p hr hot hpin e0 hb r hsp => by
    obtain ⟨_, S, t, m, ds, _, _, g⟩ := hsp
    exact g.elim⟩
theorem fn_stepH {T : Tab} {Xs : Nat → Option (Addr × List Str)} {n f : Nat} {d : Df} {x qual : Str} {st : Stmt} {a : Addr} {fd : FuncData} {N ps : List Str} (F : Fun K x qual st a fd) (Sc : FnScope N ps (defScope st)) (hT : T f = some d) (hp : ps.length = d.np) (hn : N.length = d.nn)
    (hbody : ∀ (cdv : Value) (A : Around) (outer : List PySem.Env) (s : Shared) (H : Hp) (E : XK) (p : Addr × Obj), L2H.Hot1 A p → L2H.RoomH n (A.deeper (PyProof.Rows.envOfC qual (defScope st) s.heap.objs.size a cdv)) → ∀ Sn,
      PSs (cxG P w K mg base N qual (defScope st) a cdv A outer s H E false [p]) (defBody st) (semS ⟨K, run T n, Xs, none⟩ (fun c d _ H' => E c d H') Sn d.body)) :
    L2H.FnH P w K mg base (L2N.CX P w) (n + 1) a fd ps (spD ⟨K, run T (n + 1), Xs, none⟩ f d.np) := by
  obtain ⟨oc, od, kV, doc, pm, an, cdv, ct, osl, rfl, lk, hcd⟩ := F.ex
  refine L2H.fn_ofH lk hcd Sc (fun vs H Q E h => h.1.trans hp.symm) fun A outer s H vs Q E p hot hr ⟨hlen, S, t, m, ds, hi, hd, g⟩ => ?_
  refine ⟨_, hbody cdv A outer s H E p hot hr ⟨S, H, t⟩, S, t, m, env0 N.length ds, ⟨si_start hi hd, .refl, fun i c b h1 h2 => ?_⟩, ?_⟩
  · exfalso
    have e := h1
    unfold env0 at e
    by_cases hlt : i < ds.length
    · rw [List.getElem?_append_left (by simpa using hlt), List.getElem?_map] at e
      cases q : ds[i]? with
      | none => rw [q] at e; cases e
      | some d => rw [q] at e; cases e
    · rw [List.getElem?_append_right (by simp; omega), List.getElem?_replicate] at e
      split at e
      · cases e
      · cases e
  · have g : Gd _ _ _ S H t (match T f with
      | some d => if ds.length = d.np ∧ d.np ≤ d.nn then endS (d.body (run T n) (env0 d.nn ds) m) else .stuck
      | none => .stuck) _ := g
    rw [hT] at g
    dsimp only at g
    have hpn : d.np ≤ d.nn := by
      have := congrArg List.length Sc.pre
      rw [List.length_take] at this
      omega
    rw [if_pos ⟨hd.length.symm.trans hlen, hpn⟩] at g
    rw [hn]
    revert g
    cases d.body (run T n) (env0 d.nn ds) m with
    | nx e m1 => exact fun g S' H' t' σ sf => g S' H' t' sf.fr sf.si.hi _ .non
    | ret d m1 => exact fun g S' H' t' v i p r => g S' H' t' p i v r
    | brk e m1 => exact fun g => g.elim
    | ct e m1 => exact fun g => g.elim
    | exc c fs e m1 => exact fun g S' H' t' σ cls dx sf x => g S' H' t' cls dx sf.fr sf.si.hi x
    | stuck => exact fun g => g.elim
/-- errors leave the frame -/
theorem takesG {N : List Str} {qual : Str} {scope : Scope} {f : Addr} {cd : Value} {A : Around} {outer : List PySem.Env} {s : Shared} {H : Hp} {E : XK} {cb : Bool} {pn : List (Addr × Obj)} :
    L2N.Takes (cxG P w K mg base N qual scope f cd A outer s H E cb pn) (fun c d _ H' => E c d H') := L2N.takes_of rfl rfl rfl rfl
theorem passesG {N : List Str} {qual : Str} {scope : Scope} {f : Addr} {cd : Value} {A : Around} {outer : List PySem.Env} {s : Shared} {H : Hp} {E : XK} {cb : Bool} {pn : List (Addr × Obj)} :
    PassesOwn (model P w) (cxG P w K mg base N qual scope f cd A outer s H E cb pn).A (cxG P w K mg base N qual scope f cd A outer s H E cb pn).env (cxG P w K mg base N qual scope f cd A outer s H E cb pn).xe :=
  passes_of (X := cxG P w K mg base N qual scope f cd A outer s H E cb pn) rfl
theorem takes0 {X : Cx} : L2N.Takes X W0 := fun _ _ x => by
  obtain ⟨_, _, _, _, _, _, _, _, _, _, _, _, _, _, _, _, z⟩ := x
  exact z.elim
end
end Dn
/-! New lists at once settled; what is never reached; what the top holds. -/
namespace Dn
open PySem L2
section
variable {X : Cx}
theorem OpF.settle {f : Value → Value → Sem Value} {g : Store → D → D → Option (List D)} (h : OpF X f g) : OpD X f (fun m x y => (g m x y).map .lst) := by
  obtain ⟨r, r1, r2⟩ := h
  refine ⟨r, r1, fun S H t m x y d e z Q i bx b_y hz q => ?_⟩
  dsimp only at hz
  cases hg : g m d e with
  | none => rw [hg] at hz; cases hz
  | some zs =>
    rw [hg] at hz
    cases hz
    refine r2 S H t m x y d e zs Q i bx b_y hg fun p S' H' p' i' o hn => ?_
    obtain ⟨S2, q2, i2, rr⟩ := o.settle i' p' hn
    exact q _ _ _ q2 i2 rr
theorem CallF.settle {f : Value} {g : Store → List D → Option (List D)} (h : CallF X f g) : CallD X f (fun m xs => (g m xs).map .lst) := by
  obtain ⟨r, r1, r2⟩ := h
  refine ⟨r, r1, fun S H t m xs ds z Q i bs hz q => ?_⟩
  dsimp only at hz
  cases hg : g m ds with
  | none => rw [hg] at hz; cases hz
  | some zs =>
    rw [hg] at hz
    cases hz
    refine r2 S H t m xs ds zs Q i bs hg fun p S' H' p' i' o hn => ?_
    obtain ⟨S2, q2, i2, rr⟩ := o.settle i' p' hn
    exact q _ _ _ q2 i2 rr
@[simp] def addA : Store → D → D → Option D := orO addG (fun m x y => (catF m x y).map .lst)
theorem od_addA : OpD X (binaryOp .Add) addA := od_add.or of_cat.settle
end
/-! ### what is never reached -/
def stuckE : EvE := fun _ _ _ => .stuck
def stuckS : EvS := fun _ _ _ => .stuck
section
variable {X : Cx} {G : Cfg} {W : WX} {E : Snap} {a b c : Expr} {es : List Expr} {fa fb fc : EvE} {fs : EvA} {pos p p2 : Pos}
theorem de_any {e : Expr} : PE X e (semE G W stuckE) := ⟨fun _ _ _ _ _ _ ⟨_, _, _, _, _, g⟩ => g.elim⟩
theorem ds_any {st : Stmt} : PS X st (semS G W E stuckS) := ⟨fun _ _ _ _ _ _ ⟨_, _, _, _, _, g⟩ => (show False from g).elim⟩
theorem dss_any {st : List Stmt} : PSs X st (semS G W E stuckS) := ⟨fun _ _ _ _ _ _ ⟨_, _, _, _, _, g⟩ => (show False from g).elim⟩
theorem de_glob {x : Str} {v : V} {u : Value} {d : D} (hg : Gl X x) (hm : X.mg x = some u) (r : RelV v u) (hd : ∀ S t, DR G.K S t v d) (hdb : (x == ("__debug__" : Str)) = false := by decide) : PE X (.Name x pos) (semE G W (conE d)) := de_con (pe_glob hg hm r hdb) hd
theorem de_one {op} (h : PE X a (semE G W fa)) : PE X (.BoolOp op [a] pos) (semE G W fa) := pe_one h
theorem dt_and1 {t : EvT} (h : PT X a (semT G W t)) : PW X (.BoolOp .And [a] pos) (semT G W t) := pw_and1 h
theorem dt_or1 {t : EvT} (h : PT X a (semT G W t)) : PW X (.BoolOp .Or [a] pos) (semT G W t) := pw_or1 h
/-- slices, a list's at once settled -/
def cutA : D → Option Int → Option Int → Option D := fun d lo hi => match cutG d lo hi with
  | some z => some z
  | none => (cutF d lo hi).map .lst
@[simp] def slA (f : EvE) (l h : EvO) : EvE := fun C e m => (f C e m).bind fun d m1 => (l C e m1).bind fun lo m2 => (h C e m2).bind fun hi m3 => .of (cutA d lo hi) m3
theorem new_lst {K : PySem.W.Frag} {S H : Hp} {t : Th} {m : Store} {p : Addr} {vs : List V} {ds : List D} (i : HI K S H t m) (h : H p = none) (hd : DRs K S t vs ds) :
    Stp S H t (upd S p (.lst vs)) (upd H p (.lst vs)) t ∧ HI K (upd S p (.lst vs)) (upd H p (.lst vs)) t m ∧ DR K (upd S p (.lst vs)) t (.ref p) (.lst ds) := by
  obtain ⟨i2, p2⟩ := new_hi (o := .lst vs) i h
  exact ⟨p2, i2, .lst upd_same (hd.stp i p2)⟩
theorem de_slA {lo hi : Option Expr} {fl fh : EvO} (hK : X.K = G.K) (ha : PE X a (semB G W fa)) (hl : PO X lo (semO G W fl)) (hh : PO X hi (semO G W fh)) : PE X (.Subscript a (.Slice lo hi none p2) pos) (semE G W (slA fa fl fh)) := by
  refine (pe_slice (sl_list.or (sl_tupA.or sl_str)) ha hl hh).imp fun σ H Q ⟨S, t, m, e, si, g⟩ => ⟨S, t, m, e, si, (Gd.sp g).imp fun S1 H1 t1 m1 d p1 i1 h1 v rv => ?_⟩
  refine ⟨S1, t1, m1, e, si.stp p1 i1, (Gd.sp h1).imp fun S2 H2 t2 m2 l p2 i2 h2 => ⟨S2, t2, m2, e, (si.stp p1 i1).stp p2 i2, (Gd.sp h2).imp fun S3 H3 t3 m3 h p3 i3 h3 => ?_⟩⟩
  have rv3 := (rv.stp i1 p2).stp i2 p3
  rw [hK]
  cases d with
  | lst xs =>
    obtain ⟨q, vs, rfl, a2, a3⟩ := rv3.lst i3
    refine .inl ⟨q, vs, rfl, .of a2, fun q' hq => ?_⟩
    obtain ⟨p4, i4, r⟩ := new_lst i3 hq (drs_cut a3 l h)
    exact h3 _ _ _ p4 i4 _ r
  | frz xs =>
    obtain ⟨q, vs, rfl, a2, a3⟩ := rv3.frz i3
    refine .inl ⟨q, vs, rfl, a2, fun q' hq => ?_⟩
    obtain ⟨p4, i4, r⟩ := new_lst i3 hq (drs_cut a3 l h)
    exact h3 _ _ _ p4 i4 _ r
  | tup xs =>
    obtain ⟨q, vs, rfl, a1, a2, a3⟩ := rv3.tup i3
    refine .inr (.inl ⟨q, vs, rfl, a2, fun hw => ?_, fun hw q' hq => ?_⟩)
    · have e1 : cutD xs l h = xs := by
        unfold cutD
        rw [a3.length] at hw
        rw [hw.1, hw.2]
        simp
      have h3 : Gd G W σ S3 H3 t3 (R.ok (D.tup (cutD xs l h)) m3) _ := h3
      rw [e1] at h3
      exact Gd.now h3 i3 _ (DR.tup a1 a3)
    · obtain ⟨p4, i4, r⟩ := new_tup i3 hq (drs_cut a3 l h)
      exact h3 _ _ _ p4 i4 _ r
  | str z =>
    have := rv3.str
    subst this
    have h3 : Gd G W σ S3 H3 t3 (R.of (cutA (.str z) l h) m3) _ := h3
    unfold cutA cutG at h3
    dsimp only at h3
    by_cases hs : short z.cps.toList = true
    · rw [if_pos hs] at h3
      exact .inr (.inr ⟨z, rfl, by have := short_le hs; simpa [Str.length] using this, Gd.now h3 i3 _ (DR.str _)⟩)
    · rw [if_neg hs] at h3; exact h3.elim
  | _ => exact h3.elim
/-- a list's truth, a text's, a number's -/
def truD : Store → D → Option Bool := fun m d => match d with
  | .non => some false
  | .bl b => some b
  | .int i => some (i != 0)
  | .lst xs => some (!xs.isEmpty)
  | .frz xs => some (!xs.isEmpty)
  | .tup xs => some (!xs.isEmpty)
  | .str y => if short y.cps.toList = true then some ((y.length : Int) != 0) else none
  | _ => none
end
end Dn
/-! Rules in the form that the printer uses. -/
namespace Dn
open PySem L2
theorem hu65 {n : Nat} {A : Around} (r : Room n A) : A.units + 65 < cLine := by have := r.un; omega
theorem hu65H {n : Nat} {A : Around} (r : L2H.RoomH n A) : A.units + 65 < cLine := by have := r.un; omega
theorem roomS {n : Nat} {A : Around} (r : Room n A) {h : Option Value} : L2H.RoomH n (A.mark h) := ⟨r.dp, r.un⟩
theorem hotS {X : Cx} {a : Addr} {oe : Obj} {pn : List (Addr × Obj)} {cls : Value} {d : Option Addr} (hz : L2N.Zn cls d oe) (ho : ∃ vs, oe.data = .fields vs) : L2H.HotC (X.suite a ((a, oe) :: pn)) := by
  obtain ⟨vs, hd⟩ := ho
  exact ⟨(a, oe), ⟨rfl, vs, hd, hz.2.2 vs hd⟩, List.mem_cons_self⟩
section
variable {X : Cx} {G : Cfg} {W : WX} {E : Snap} {a b c : Expr} {es : List Expr} {fa fb fc : EvE} {fs : EvA} {pos p p2 : Pos}
theorem de_bb {id : String} {x : Str} {g : Store → List D → Option D} (ho : CallD X (.builtin id) g) (hK : X.K = G.K) (hg : Gl X x) (hm : X.mg x = none) (hv : bootBuiltins x = some (.builtin id)) (ha : PA X (a :: es) (semAB G W fs)) (hn : x ≠ "__name__" := by decide) (hdb : (x == ("__debug__" : Str)) = false := by decide)
    (he : starEach (a :: es) X.env = (false, eval a X.env) :: starEach es X.env := by rfl) (hpl : (backTo pos (starEach es X.env)).any (·.1) = false := by rfl) : PE X (.Call (.Name x p) (a :: es) [] pos) (semE G W (bltE g fs)) :=
  de_blt (id := x) ho hK (fun r h t ht => pe_callB h hg hm hv ht hn hdb he hpl) ha
theorem de_bt {id : String} {x : Str} {g : Store → List D → Option D} (ho : CallD X (.type id) g) (hK : X.K = G.K) (hg : Gl X x) (hm : X.mg x = none) (hv : bootBuiltins x = some (.type id)) (ha : PA X (a :: es) (semAB G W fs)) (hn : x ≠ "__name__" := by decide) (hdb : (x == ("__debug__" : Str)) = false := by decide)
    (he : starEach (a :: es) X.env = (false, eval a X.env) :: starEach es X.env := by rfl) (hpl : (backTo pos (starEach es X.env)).any (·.1) = false := by rfl) : PE X (.Call (.Name x p) (a :: es) [] pos) (semE G W (bltE g fs)) :=
  de_blt (id := x) ho hK (fun r h t ht => pe_callTy h hg hm hv ht hn hdb he hpl) ha
theorem df_bb {id : String} {x : Str} {g : Store → List D → Option (List D)} (ho : CallF X (.builtin id) g) (hK : X.K = G.K) (hg : Gl X x) (hm : X.mg x = none) (hv : bootBuiltins x = some (.builtin id)) (ha : PA X (a :: es) (semAB G W fs)) (hn : x ≠ "__name__" := by decide) (hdb : (x == ("__debug__" : Str)) = false := by decide)
    (he : starEach (a :: es) X.env = (false, eval a X.env) :: starEach es X.env := by rfl) (hpl : (backTo pos (starEach es X.env)).any (·.1) = false := by rfl) : PE X (.Call (.Name x p) (a :: es) [] pos) (semF G W (bltF g fs)) :=
  df_blt (id := x) ho hK (fun r h t ht => pe_callB h hg hm hv ht hn hdb he hpl) ha
theorem df_bt {id : String} {x : Str} {g : Store → List D → Option (List D)} (ho : CallF X (.type id) g) (hK : X.K = G.K) (hg : Gl X x) (hm : X.mg x = none) (hv : bootBuiltins x = some (.type id)) (ha : PA X (a :: es) (semAB G W fs)) (hn : x ≠ "__name__" := by decide) (hdb : (x == ("__debug__" : Str)) = false := by decide)
    (he : starEach (a :: es) X.env = (false, eval a X.env) :: starEach es X.env := by rfl) (hpl : (backTo pos (starEach es X.env)).any (·.1) = false := by rfl) : PE X (.Call (.Name x p) (a :: es) [] pos) (semF G W (bltF g fs)) :=
  df_blt (id := x) ho hK (fun r h t ht => pe_callTy h hg hm hv ht hn hdb he hpl) ha
theorem de_globX {x : Str} {v : V} {d : D} (hg : Gl X x) (hm : ∃ u, X.mg x = some u ∧ RelV v u) (hd : ∀ S t, DR G.K S t v d) (hdb : (x == ("__debug__" : Str)) = false := by decide) : PE X (.Name x pos) (semE G W (conE d)) := by
  obtain ⟨u, h1, h2⟩ := hm
  exact de_glob hg h1 h2 hd hdb
/-! list(range(..)) -/
@[simp] def rg1 : D → Option (List D)
  | .int n => if (bdI n && decide (n.toNat ≤ 100000)) = true then some (rng 0 n.toNat) else none
  | _ => none
@[simp] def rg2 : D → D → Option (List D)
  | .int i, .int j => if (bdI i && bdI j && decide ((j - i).toNat ≤ 100000)) = true then some (rng i (j - i).toNat) else none
  | _, _ => none
@[simp] def listRg1 (f : EvE) : EvE := fun C e m => (f C e m).bind fun d m1 => .of ((rg1 d).map .lst) m1
@[simp] def listRg2 (f g : EvE) : EvE := fun C e m => (f C e m).bind fun d m1 => (g C e m1).bind fun d2 m2 => .of ((rg2 d d2).map .lst) m2
theorem rng_v {K : PySem.W.Frag} {S : Hp} {t : Th} (a b : Int) : DRs K S t (rgV a b) (rng a (b - a).toNat) := by
  unfold rgV rng
  generalize List.range (b - a).toNat = l
  induction l with
  | nil => exact .nil
  | cons x l ih => exact .cons (.int _) ih
theorem rg_ok {i j : Int} (h1 : bdI i = true) (h2 : bdI j = true) (h3 : (j - i).toNat ≤ 100000) : RgOk i j := by
  obtain ⟨a1, a2⟩ := bdI_lo h1
  obtain ⟨b1, b2⟩ := bdI_lo h2
  exact ⟨a1, a2, b1, b2, Nat.le_trans h3 (by decide)⟩
theorem de_listRg1 {q : Pos} {p3 : Pos} (hc : X.calm = true) (hg : Gl X "list") (hm : X.mg "list" = none) (hg2 : Gl X "range") (hm2 : X.mg "range" = none) (ha : PE X a (semE G W fa))
    (na : starEach [a] X.env = (false, eval a X.env) :: starEach [] X.env := by rfl) (nb : starEach [.Call (.Name "range" p3) [a] [] q] X.env = (false, eval (.Call (.Name "range" p3) [a] [] q) X.env) :: starEach [] X.env := by rfl) :
    PE X (.Call (.Name "list" p) [.Call (.Name "range" p3) [a] [] q] [] pos) (semE G W (listRg1 fa)) := by
  refine (pe_listRg hc hg hm (prg_1 hg2 hm2 ha na) nb).imp fun σ H Q ⟨S, t, m, e, si, g⟩ => ⟨S, t, m, e, si, (Gd.sp g).imp fun S1 H1 t1 m1 d p1 i1 h1 v rv => ?_⟩
  cases d with
  | int n =>
    cases rv
    have h1 : Gd G W σ S1 H1 t1 (R.of ((if (bdI n && decide (n.toNat ≤ 100000)) = true then some (rng 0 n.toNat) else none).map D.lst) m1) _ := h1
    by_cases hb : (bdI n && decide (n.toNat ≤ 100000)) = true
    · rw [if_pos hb] at h1
      simp only [Bool.and_eq_true, decide_eq_true_eq] at hb
      refine ⟨n, rfl, rg_ok (by decide) hb.1 (by simpa using hb.2), fun q' hq => ?_⟩
      have hd := rng_v (K := G.K) (S := S1) (t := t1) 0 n
      have e0 : (n - 0 : Int) = n := by omega
      rw [e0] at hd
      obtain ⟨p4, i4, r⟩ := new_lst i1 hq hd
      exact h1 _ _ _ p4 i4 _ r
    · rw [if_neg hb] at h1; exact h1.elim
  | _ => exact h1.elim
theorem de_listRg2 {q : Pos} {p3 : Pos} (hc : X.calm = true) (hg : Gl X "list") (hm : X.mg "list" = none) (hg2 : Gl X "range") (hm2 : X.mg "range" = none) (ha : PE X a (semE G W fa)) (hb : PE X b (semE G W fb))
    (na : starEach [a, b] X.env = (false, eval a X.env) :: starEach [b] X.env := by rfl) (nb : starEach [b] X.env = (false, eval b X.env) :: starEach [] X.env := by rfl) (hp : (backTo q (starEach [b] X.env)).any (·.1) = false := by rfl)
    (nc : starEach [.Call (.Name "range" p3) [a, b] [] q] X.env = (false, eval (.Call (.Name "range" p3) [a, b] [] q) X.env) :: starEach [] X.env := by rfl) :
    PE X (.Call (.Name "list" p) [.Call (.Name "range" p3) [a, b] [] q] [] pos) (semE G W (listRg2 fa fb)) := by
  refine (pe_listRg hc hg hm (prg_2 hg2 hm2 ha hb na nb hp) nc).imp fun σ H Q ⟨S, t, m, e, si, g⟩ => ⟨S, t, m, e, si, (Gd.sp g).imp fun S1 H1 t1 m1 d p1 i1 h1 v rv => ?_⟩
  refine ⟨S1, t1, m1, e, si.stp p1 i1, (Gd.sp h1).imp fun S2 H2 t2 m2 d2 p2 i2 h2 w rw' => ?_⟩
  cases d with
  | int i =>
    cases rv
    cases d2 with
    | int j =>
      cases rw'
      have h2 : Gd G W σ S2 H2 t2 (R.of ((if (bdI i && bdI j && decide ((j - i).toNat ≤ 100000)) = true then some (rng i (j - i).toNat) else none).map D.lst) m2) _ := h2
      by_cases hb : (bdI i && bdI j && decide ((j - i).toNat ≤ 100000)) = true
      · rw [if_pos hb] at h2
        simp only [Bool.and_eq_true, decide_eq_true_eq] at hb
        refine ⟨i, j, rfl, rfl, rg_ok hb.1.1 hb.1.2 hb.2, fun q' hq => ?_⟩
        obtain ⟨p4, i4, r⟩ := new_lst i2 hq (rng_v (K := G.K) (S := S2) (t := t2) i j)
        exact h2 _ _ _ p4 i4 _ r
      · rw [if_neg hb] at h2; exact h2.elim
    | _ => exact h2.elim
  | _ =>
    exfalso
    cases d2 <;> exact h2
end
/-! the law's own call -/
theorem only_hi {K : PySem.W.Frag} {H : Hp} : HI K H H (fun _ => none) [] := ⟨.refl H, (fun n xs h => by simp at h), (fun n a h => by cases h), (fun n k a h => by cases h), fun _ _ => rfl⟩
theorem frz_v {K : PySem.W.Frag} {S : Hp} {t : Th} {a : Addr} {ns : List Int} (h : SqL K S a (ns.map V.int)) : DR K S t (.ref a) (.frz (ns.map D.int)) := by
  refine .frz h ?_
  induction ns with
  | nil => exact .nil
  | cons n ns ih => exact .cons (.int n) (by
      clear ih h
      induction ns with
      | nil => exact .nil
      | cons n ns ih => exact .cons (.int n) ih)
theorem law_sp {T : Tab} {K : PySem.W.Frag} {Xs : Nat → Option (Addr × List Str)} {n f : Nat} {H : Hp} {a : Addr} {ns : List Int} {m' : Store} (hs : SqL K H a (ns.map V.int)) (h : run T n f [.frz (ns.map D.int)] [] = .ok (.bl true) m') :
    spD ⟨K, run T n, Xs, none⟩ f 1 [.ref a] H (fun v _ => v = .bl true) fun _ _ _ => False := by
  refine ⟨rfl, H, fun _ => none, [], [.frz (ns.map D.int)], only_hi, .cons (frz_v hs) .nil, ?_⟩
  show Gd _ _ _ H H _ (run T n f [.frz (ns.map D.int)] []) _
  rw [h]
  intro S' H' t' p i v r
  cases r
  rfl
end Dn
namespace Dn
open PySem L2
@[simp] def listG : Store → List D → Option D := fun m xs => (listF m xs).map .lst
@[simp] def sortG : Store → List D → Option D := fun m xs => (sortF m xs).map .lst
theorem cb_list {X : Cx} : CallD X (.type "list") listG := cf_list.settle
theorem cb_sort {X : Cx} (hu : X.A.units + 65 < cLine) : CallD X (.builtin "sorted") sortG := (cf_sort hu).settle
theorem FncH.suite {P : Program} {w : World} {K : PySem.W.Frag} {mg : Str → Option Value} {base : Heap} {G : Cfg} {n f np : Nat} {x : Str} {y : Gh} (h : FncH P w K mg base G n f np x) : FncH P w K mg base { G with x := y } n f np x := ⟨h.ok⟩
end Dn

namespace Dn
open PySem L2
section
variable {X : Cx} {G : Cfg} {W : WX} {E : Snap}
theorem df_lcV {elt tg iter : Expr} {ifs : List Expr} {scope : Scope} {own : List (Str × Nat)} {ws : List Nat} {pos : Pos} {fi : EvA} {g : Tg} {tt : EvT} {te : EvE} (hc : X.calm = true) (hN : X.N.Nodup) (ok : BlkOk X.N X.env.scope scope own) (hws : own.map (·.2) = ws) (hi : PI X tg iter (semI G W fi))
    (hv : (tslots g).all (fun j => ws.contains j) = true)
    (hg : ∀ (s : Shared) (H : Hp) (C : Addr) (cl : List (Str × Addr)) (fp : List Addr), PG (X.blk s H scope (compEnvC scope cl C X.env) fp) tg (semG G.K G.x g)) (ht : ∀ (s : Shared) (H : Hp) (C : Addr) (cl : List (Str × Addr)) (fp : List Addr), PTs (X.blk s H scope (compEnvC scope cl C X.env) fp) ifs (semT G W0 tt))
    (he : ∀ (s : Shared) (H : Hp) (C : Addr) (cl : List (Str × Addr)) (fp : List Addr), PE (X.blk s H scope (compEnvC scope cl C X.env) fp) elt (semE G W0 te)) (hs : ∀ x, foldedSetIterable iter X.env x = pure x := by intro _; rfl) :
    PE X (.ListComp elt [⟨tg, iter, ifs, 0⟩] scope pos) (semF G W (lcF fi g tt te ws)) := by
  subst hws
  exact df_lc hc hN hi ok hv hg ht he hs
theorem ds_ownLcV {i : Nat} {y : Str} {py : Pos} {elt tg iter : Expr} {ifs : List Expr} {scope : Scope} {own : List (Str × Nat)} {ws : List Nat} {lpos spos : Pos} {fi : EvA} {g : Tg} {tt : EvT} {te : EvE} (hc : X.calm = true) (hN : X.N.Nodup) (hy : X.N[i]? = some y) (hyl : X.env.scope.names.lookup y = some .local)
    (hsw : swapsWith (.ListComp elt [⟨tg, iter, ifs, 0⟩] scope lpos) (some (.Name y py)) spos.line X.env = pure true) (ok : BlkOk X.N X.env.scope scope own) (hws : own.map (·.2) = ws) (hi : PI X tg iter (semI G W fi)) (hv : (tslots g).all (fun j => ws.contains j) = true)
    (hg : ∀ (s : Shared) (H : Hp) (C : Addr) (cl : List (Str × Addr)) (fp : List Addr), PG (X.blk s H scope (compEnvC scope cl C X.env) fp) tg (semG G.K G.x g)) (ht : ∀ (s : Shared) (H : Hp) (C : Addr) (cl : List (Str × Addr)) (fp : List Addr), PTs (X.blk s H scope (compEnvC scope cl C X.env) fp) ifs (semT G W0 tt))
    (he : ∀ (s : Shared) (H : Hp) (C : Addr) (cl : List (Str × Addr)) (fp : List Addr), PE (X.blk s H scope (compEnvC scope cl C X.env) fp) elt (semE G W0 te)) (hs : ∀ x, foldedSetIterable iter X.env x = pure x := by intro _; rfl) :
    PS X (.Assign [.Name y py] (.ListComp elt [⟨tg, iter, ifs, 0⟩] scope lpos) spos) (semS G W E (ownS i (lcF fi g tt te ws))) := by
  subst hws
  exact ds_ownLc hc hN hy hyl hsw hi ok hv hg ht he hs
theorem ds_setLcV {i : Nat} {y : Str} {py : Pos} {elt tg iter : Expr} {ifs : List Expr} {scope : Scope} {own : List (Str × Nat)} {ws : List Nat} {lpos spos : Pos} {fi : EvA} {g : Tg} {tt : EvT} {te : EvE} (hc : X.calm = true) (hN : X.N.Nodup) (hy : X.N[i]? = some y) (hyl : X.env.scope.names.lookup y = some .local)
    (hsw : swapsWith (.ListComp elt [⟨tg, iter, ifs, 0⟩] scope lpos) (some (.Name y py)) spos.line X.env = pure true) (ok : BlkOk X.N X.env.scope scope own) (hws : own.map (·.2) = ws) (hi : PI X tg iter (semI G W fi)) (hv : (tslots g).all (fun j => ws.contains j) = true)
    (hg : ∀ (s : Shared) (H : Hp) (C : Addr) (cl : List (Str × Addr)) (fp : List Addr), PG (X.blk s H scope (compEnvC scope cl C X.env) fp) tg (semG G.K G.x g)) (ht : ∀ (s : Shared) (H : Hp) (C : Addr) (cl : List (Str × Addr)) (fp : List Addr), PTs (X.blk s H scope (compEnvC scope cl C X.env) fp) ifs (semT G W0 tt))
    (he : ∀ (s : Shared) (H : Hp) (C : Addr) (cl : List (Str × Addr)) (fp : List Addr), PE (X.blk s H scope (compEnvC scope cl C X.env) fp) elt (semE G W0 te)) (hs : ∀ x, foldedSetIterable iter X.env x = pure x := by intro _; rfl) :
    PS X (.Assign [.Name y py] (.ListComp elt [⟨tg, iter, ifs, 0⟩] scope lpos) spos) (semS G W E (asgS (.nm i) (frzE (lcF fi g tt te ws)))) := by
  subst hws
  exact ds_setLc hc hN hy hyl hsw hi ok hv hg ht he hs
end
end Dn
/-! An own error of the second level: its __init__ says super().__init__("..") and keeps one field. -/
namespace PySem
namespace DnX
open PySem.W PySem.Calls PyProof.Rows PySem.HandSPX PySem.ESX
abbrev exT2 (O : Addr) : List Value := .ref O :: exTail
def iA (f : Str) (p1 p2 : Pos) : Arguments := { posonlyargs := [], args := [{ arg := "self", annotation := none, pos := p1 }, { arg := f, annotation := none, pos := p2 }], vararg := none, kwonlyargs := [], kw_defaults := [], kwarg := none, defaults := [] }
def iB (f msg : Str) (j : Nat) (q1 q2 q3 q4 q5 q6 q7 q8 q9 q10 : Pos) : List Stmt :=
  [.Expr (.Call (.Attribute (.Call (.Name "super" q1) [] [] q2) "__init__" q3) [.Constant (.str msg) j q4] [] q5) q6, .Assign [.Attribute (.Name "self" q7) f q8] (.Name f q9) q10]
def iS (f : Str) : Scope := { kind := .function, names := [(PySem.Str.ofString "self", .local), (f, .local), (PySem.Str.ofString "__class__", .free), (PySem.Str.ofString "super", .globalImplicit)], isGenerator := false, isCoroutine := false, more := [] }
theorem mro_has2 {K : W.Frag} {C O : Addr} {cd : ClassData} (hcd : W.clsIn K C = some cd) (hm : cd.mro = .ref C :: exT2 O) {b : Value} (hb : (Value.ref C :: exT2 O).contains b = true) : W.mroIn K C b = some true := by
  unfold W.mroIn
  rw [hcd, Option.bind_some, hm, if_neg (show ¬ (List.isEmpty (Value.ref C :: exT2 O) = true) from Bool.false_ne_true), hb]
theorem tail2 {C O : Addr} (X : String) (hX : exTail.contains (.type X) = true) : (Value.ref C :: exT2 O).contains (.type X) = true := by
  rw [List.contains_cons, List.contains_cons, hX, Bool.or_true, Bool.or_true]
theorem cont2 {O : Addr} (X : String) : (exT2 O).contains (.type X) = exTail.contains (.type X) := by
  rw [List.contains_cons]
  have : (Value.type X == Value.ref O) = false := by simp
  rw [this, Bool.false_or]
section
open Builtin Builtin.ObjectAttr
variable {prog : Program} {w : World} {A : Around} {E : Value → Shared → Prop} {R : Result → Shared → Prop} {hp : Heap} {g : Array GenState} {d : Drawn} {t : Nat} {os : OsState}
theorem osa2 {K : W.Frag} {name : Str} {tk : Tok} {v : Value} {x C O : Addr} {ox : Obj} {od : Option Obj} {cd : ClassData}
    (X : K.In hp) (I : W.InstAt hp x ox C od) (hcd : W.clsIn K C = some cd) (hm : cd.mro = .ref C :: exT2 O) (ha : W.findIn K (.ref C) name = some none)
    (hq : wpAny (model prog w) A.in1 (storeInOwnDict (.ref x) (.ref C) (.str name tk) name v false)
      (fun fin s' => match fin with | .done f => R (.ok f) s' | .again c' => c'.quiet = true ∧ codeAny (model prog w) A c' R s') (fun e s' => R (.error e) s') ⟨hp, g, d, t, os⟩) :
    codeAny (model prog w) A (.call (.builtin "object.__setattr__") ⟨[.ref x, .str name tk, v], []⟩) R ⟨hp, g, d, t, os⟩ := by
  have SF := F.store_object
  have sub : W.Looks (model prog w) hp (isInstance (.ref x) (.type "object")) true := I.type.andThen (W.looks_mroIn X (mro_has2 hcd hm (tail2 "object" (by decide +kernel))))
  refine codeAny_call_builtin SF.slot.plain SF.entry (@W.check_slot (model prog w) _ _ ⟨hp, g, d, t, os⟩ "object.__setattr__" "object" "__setattr__" (.ref x) [.str name tk, v] [] _ SF.kind SF.split sub (SF.args (.ref x) (.str name tk) v) ?_)
  have hmr : W.Looks (model prog w) hp (mroOf (.ref C)) cd.mro := (W.looks_clsIn X hcd).andThen .now
  have L3 : W.Looks (model prog w) hp (storeTaker? none) none := .now
  have hpass : refuseLoop (.ref x) "__setattr__" cd.mro = pure () := by
    rw [hm, refuseLoop_ref, refuseLoop_ref]
    exact F.store_Exception.passes _
  rw [W.osa_eq, refuse_eq]
  refine wpAny_bind (wpAny_bind (I.type.at (wpAny_bind (hmr.at ?_))))
  rw [hpass]
  refine wpAny_pure (wpAny_bind (I.type.at (wpAny_bind ((W.looks_findIn X ha).at (wpAny_bind (L3.at ?_))))))
  exact hq
theorem osa2_new {K : W.Frag} {name : Str} {tk : Tok} {v : Value} {x C O : Addr} {fv : Array Value} {cd : ClassData}
    (X : K.In hp) (hx : hp.get? x = some { cls := .ref C, data := .fields fv }) (hcd : W.clsIn K C = some cd) (hm : cd.mro = .ref C :: exT2 O) (hh : cd.hasDict = true) (ha : W.findIn K (.ref C) name = some none)
    (hq : ∀ h' tk' dx, (∀ b o, b ≠ x → hp.get? b = some o → h'.get? b = some o) → hp.objs.size ≤ dx → dx ≠ x → h'.get? x = some { cls := .ref C, dict := some dx, data := .fields fv } →
      h'.Ns1 dx (fun y => if y = name then some v else none) → R (.ok (.ret .none)) ⟨h', g, d, tk', os⟩) :
    codeAny (model prog w) A (.call (.builtin "object.__setattr__") ⟨[.ref x, .str name tk, v], []⟩) R ⟨hp, g, d, t, os⟩ := by
  have I : W.InstAt hp x { cls := .ref C, data := .fields fv } C none := ⟨hx, rfl, rfl, trivial⟩
  have hxs : x ≠ hp.objs.size := Nat.ne_of_lt (Heap.lt_size hx)
  refine osa2 X I hcd hm ha ?_
  have hcls : W.Looks (model prog w) hp (classData C) cd := W.looks_clsIn X hcd
  obtain ⟨nm, bs, mro, ns, qn, hd, sn, sb, ab, col, del⟩ := cd
  dsimp only at hh
  subst hh
  unfold storeInOwnDict ownDictForStores
  repeat (first | with_reducible refine HandSPX.store_in_new ?_ ?_ | with_reducible refine wpAny_loadPart_at hx ?_ | with_reducible refine hcls.at ?_ | wp_step)
  · exact ⟨_, #[], _, (Heap.get?_update_ne _ _ _ _ hxs.symm).trans (Heap.get?_push_at rfl rfl), rfl, fun e he => absurd he (by simp), fun _ => rfl⟩
  · intro h' tk' hn' hs
    have hx₁ : (hp.push { cls := .type "dict", data := .dict #[] }).get? x = some { cls := .ref C, data := .fields fv } := Heap.get?_push_of_some _ hx
    refine hq h' tk' hp.objs.size (fun b o hb ho => ?_) (Nat.le_refl _) hxs.symm ?_ hn'
    · exact (hs.2 b (Nat.ne_of_lt (Heap.lt_size ho))).trans ((Heap.get?_update_ne _ _ _ _ hb).trans (Heap.get?_push_of_some _ ho))
    · exact (hs.2 x hxs).trans (Heap.get?_update_self _ hx₁ rfl)
end
/-- what the written part says of such a class, at C, of its __init__, at fI -/
structure ErrTxt (prog : Program) (K : Frag) (mg : Str → Option Value) (x f : Str) (C : Addr) : Prop where
  gC : mg x = some (.ref C)
  cls : ∃ O nm q N bs sn sub ab col dd k0 k1 k2 k3 k5, K.lookup C = some (excClassObj nm q C N bs (exT2 O) true sn sub ab col dd k0 k1 k2 k3 k5 "Exception.__new__")
  sa : findIn K (.ref C) "__setattr__" = some (some (.builtin "object.__setattr__"))
  noN : findIn K (.ref C) f = some none
  sup : ks_superIn K C C "__init__" = some (some (.builtin "Exception.__init__"))
  opq : nsIn K cStatics "thirdparty.any" = some none
  kC : keepIn K (.ref C) = true
  exC : subIn K (.ref C) (.type "BaseException") = some true
  tyC : typeIn K (.ref C) = some (.type "type")
  fn : ∃ (fI cc cda : Addr) (qual msg : Str) (j : Nat) (oc doc pm ct cl ccl : Value) (od an cld cdd : Option Addr) (osl csl ccs : Array (Option Value)) (vs : Array Value) (file : Str) (tf : Tok) (p1 p2 q1 q2 q3 q4 q5 q6 q7 q8 q9 q10 : Pos),
    findIn K (.ref C) "__init__" = some (some (.ref fI)) ∧ typeIn K (.ref fI) = some (.type "function") ∧
    K.lookup fI = some ⟨oc, od, .func (ksFn "__init__" qual (iA f p1 p2) (iB f msg j q1 q2 q3 q4 q5 q6 q7 q8 q9 q10) (iS f) .none .none doc pm an (.ref cda) ct cc), osl⟩ ∧ codeIn K (.ref cda) qual = true ∧
    K.lookup cda = some ⟨ccl, cdd, .fields vs, ccs⟩ ∧ vs[2]? = some (.str file tf) ∧ ((prog.main.file : Str) == file) = true ∧ K.lookup cc = some ⟨cl, cld, .cell (some (.ref C)), csl⟩ ∧ (q3.endLine == q5.line) = true
  nm : mg "super" = none
  top : (prog.main.scope.names.lookup ("super" : Str)).isSome = false
  fs : f ≠ "self" ∧ f ≠ "__class__" ∧ f ≠ "super" ∧ (f == ("__debug__" : Str)) = false
  bnd : ∀ (body : List Stmt) (qual : Str) (doc pm cdv ct : Value) (an : Option Addr) (cc : Addr) (p1 p2 : Pos) (e v : Value), bindArgs (ksFn "__init__" qual (iA f p1 p2) body (iS f) .none .none doc pm an cdv ct cc) ⟨[e, v], []⟩ = pure [((PySem.Str.ofString "self" : Str), e), (f, v)]
  sw : ∀ (env : Env) (q7 q8 q9 : Pos) (n : Nat), swapsWith (.Name f q9) (some (.Attribute (.Name "self" q7) f q8)) n env = pure false
/-- what __init__ leaves of a fresh exception at x -/
structure InitEnd (h h' : Heap) (x C dx : Addr) (f : Str) (v : Value) : Prop where
  keep : ∀ b o, b ≠ x → h.get? b = some o → h'.get? b = some o
  obj : ∃ t1, h'.get? x = some { cls := .ref C, dict := some dx, data := .fields #[.ref t1, .none, .none, .none, .bool false, .none] }
  dbig : h.objs.size ≤ dx
  dne : dx ≠ x
  ns : h'.Ns1 dx (fun y => if y = f then some v else none)
section
variable {prog : Program} {w : World} {A : Around} {E : Value → Shared → Prop} {R : Result → Shared → Prop} {s : Shared} {K : Frag} {mg : Str → Option Value} {C : Addr} {x f : Str}
theorem cls_of {O : Addr} {nm q : Str} {N : Addr} {bs : List Value} {sn : List Str} {sub : List Value} {ab : Bool} {col : Option Bool} {dd : Option Addr} {k0 k1 k2 k3 k5 : Option Value} (hC : K.lookup C = some (excClassObj nm q C N bs (exT2 O) true sn sub ab col dd k0 k1 k2 k3 k5 "Exception.__new__")) :
    ∃ cd, clsIn K C = some cd ∧ cd.mro = .ref C :: exT2 O ∧ cd.hasDict = true := by
  refine ⟨{ name := nm, bases := bs, mro := .ref C :: exT2 O, ns := N, qualname := q, hasDict := true, slotNames := sn, subclasses := sub, abstract := ab, collection := col, hasDel := false }, ?_, rfl, rfl⟩
  unfold clsIn; rw [hC] <;> rfl
theorem ev_super {o : Expr} {m : Str} {apos pos : Pos} {a : Expr} {env : Env} (hl : (apos.endLine == pos.line) = true) (hf : methodCallForm ([a].length + ([] : List Keyword).length) (backTo pos (starEach [a] env)) (backToKw pos (keywordEach [] env)) = true) :
    eval (.Call (.Attribute o m apos) [a] [] pos) env = (do
      let ov ← attributeBase o m env (eval o env)
      standAt apos.atName
      let (f, first) ← holding [ov] (getMethod ov m (L2.plainOf o env))
      callWith pos f first (backTo pos (starEach [a] env)) []) := by
  rw [arm_eval_Call]
  exact congrArg (bind _) (funext fun ov => congrArg (bind _) (funext fun _ => L2.mcall_line hf hl))
theorem err_init (T : ErrTxt prog K mg x f C) {fI e t0 : Addr} {v : Value} {mb : Str → Option Value} (hfI : findIn K (.ref C) "__init__" = some (some (.ref fI))) (X : K.In s.heap) (hlim : s.heap.NoLimit) (hG : s.heap.Ns mainGlobals mg) (hB : s.heap.Ns builtinsNs mb) (hb : mb "super" = bootBuiltins "super")
    (hx : s.heap.get? e = some (excO C t0)) (hnx : K.lookup e = none) (hroom : A.depth < recursionLimit)
    (hq : ∀ h' tk dx, InitEnd s.heap h' e C dx f v → R (.ok (.ret .none)) { s with heap := h', toks := tk }) :
    codeAny (model prog w) A (.call (.ref fI) ⟨[.ref e, v], []⟩) R s := by
  obtain ⟨fI', cc, cda, qual, msg, j, oc, doc, pm, ct, cl, ccl, od, an, cld, cdd, osl, csl, ccs, vs, file, tf, p1, p2, q1, q2, q3, q4, q5, q6, q7, q8, q9, q10, hi, hti, ho, hcd, hcda, hvs, hfile, hcc, hline⟩ := T.fn
  rw [hfI] at hi
  cases hi
  obtain ⟨O, nm, q, N, bs, sn, sub, ab, col, dd, k0, k1, k2, k3, k5, hC⟩ := T.cls
  obtain ⟨cd, hcl, hm, hh⟩ := cls_of hC
  obtain ⟨f1, f2, f3, f4⟩ := T.fs
  have ff1 : (f == PySem.Str.ofString "self") = false := beq_false_of_ne f1
  have e1 : (iS f).names.lookup f = some .local := by
    unfold iS
    simp [List.lookup, ff1]
  have ff2 : (PySem.Str.ofString "__class__" == f) = false := beq_false_of_ne (Ne.symm f2)
  have ff3 : (PySem.Str.ofString "super" == f) = false := beq_false_of_ne (Ne.symm f3)
  have e2 : (iS f).names.lookup (PySem.Str.ofString "__class__") = some .free := by
    unfold iS
    have z : (PySem.Str.ofString "__class__" == PySem.Str.ofString "self") = false := by decide
    simp [List.lookup, ff2, z]
  have e3 : (iS f).names.lookup (PySem.Str.ofString "super") = some .globalImplicit := by
    unfold iS
    have z : (PySem.Str.ofString "super" == PySem.Str.ofString "self") = false := by decide
    have z2 : (PySem.Str.ofString "super" == PySem.Str.ofString "__class__") = false := by decide
    simp [List.lookup, ff3, z, z2]
  refine ks_codeAny_call_defAt (fd := ksFn "__init__" qual (iA f p1 p2) (iB f msg j q1 q2 q3 q4 q5 q6 q7 q8 q9 q10) (iS f) .none .none doc pm an (.ref cda) ct cc) (body := iB f msg j q1 q2 q3 q4 q5 q6 q7 q8 q9 q10) (binds := [("self", .ref e), (f, v)]) hroom (X _ _ ho) rfl hlim (codeRec_of X hcd) rfl ?hbind ?hcell ?hloc (fun h₁ hns k => ?_)
  case hbind => exact BindsTo.of_eq (T.bnd _ _ _ _ _ _ _ _ _ _ _ _)
  case hcell =>
    intro y hy
    have hy' : y ∈ [(PySem.Str.ofString "self", NameKind.local), (f, .local), (PySem.Str.ofString "__class__", .free), (PySem.Str.ofString "super", .globalImplicit)] := hy
    simp only [List.mem_cons, List.not_mem_nil, or_false] at hy'
    rcases hy' with rfl | rfl | rfl | rfl <;> exact fun z => nomatch z
  case hloc =>
    intro y hy
    simp only [List.mem_cons, List.not_mem_nil, or_false] at hy
    rcases hy with rfl | rfl
    · rfl
    · exact e1
  have X₁ : K.In h₁ := X.keeps k
  have hx₁ := k _ _ hx
  have hG₁ := hG.keeps k
  have hB₁ := hB.keeps k
  have ns_self : ([((PySem.Str.ofString "self" : Str), Value.ref e), (f, v)] : List (Str × Value)).reverse.lookup (PySem.Str.ofString "self") = some (Value.ref e) := by
    have : ((PySem.Str.ofString "self" : Str) == f) = false := beq_false_of_ne (Ne.symm f1)
    simp [List.lookup, this]
  have ns_f : ([((PySem.Str.ofString "self" : Str), Value.ref e), (f, v)] : List (Str × Value)).reverse.lookup f = some v := by
    simp [List.lookup]
  have hcat : ∀ {h : Heap} {ox : Obj} {odx : Option Obj}, K.In h → InstAt h e ox C odx → e ≠ C := fun Y I => ks_ne Y I hcl
  have I₁ : InstAt h₁ e (excO C t0) C none := ⟨hx₁, rfl, rfl, trivial⟩
  have hne := hcat X₁ I₁
  obtain ⟨hp, g, d, t, os⟩ := s
  dsimp only at *
  -- super().__init__(msg)
  refine ks_wpAt_execs_cons (ks_wpAt_Expr_any (ks_wpAt_MethodCall (pl := _) (ks_wpAt_super_base e3 e2 rfl rfl (X₁ _ _ ho) rfl rfl rfl (X₁ _ _ hcda) rfl hvs hfile T.top ?_) (ev_super hline rfl)))
  refine ks_loadName_global rfl e3 (loadGlobal_builtin hG₁ T.nm hB₁ (hb.trans (by decide +kernel)) ⟨rfl, ?_⟩)
  refine wpAny_loadName_free rfl e2 rfl ⟨_, X₁ _ _ hcc, rfl⟩ ?_
  refine wpAny_loadName_local rfl rfl hns ns_self ?_
  obtain ⟨oD, hD1, hD2⟩ : ∃ oD, h₁.get? C = some oD ∧ oD.data = .cls cd := by
    unfold clsIn at hcl
    split at hcl
    · rename_i c d' cd' sl ho'
      cases hcl
      exact ⟨_, X₁ _ _ ho', rfl⟩
    · cases hcl
  refine ks_wpAny_isType_cls hD1 hD2 ⟨rfl, ?_⟩
  refine ks_wpAny_call_super hD1 hD2 hx₁ rfl (fun c z => by cases z) (looks_mroIn X₁ (mro_has2 hcl hm (by rw [List.contains_cons]; simp))) (fun h₂ hso k₂ => ?_)
  have X₂ : K.In h₂ := X₁.keeps k₂
  have hx₂ := k₂ _ _ hx₁
  have I₂ : InstAt h₂ e (excO C t0) C none := ⟨hx₂, rfl, rfl, trivial⟩
  have hsup : alongIn K "__init__" (exT2 O) = some (some (.builtin "Exception.__init__")) := by
    have z := T.sup
    unfold ks_superIn at z
    rw [hcl, Option.bind_some, hm, drop_own] at z
    exact z
  refine getMethod_super hso (looks_opaque X₂ T.opq) (l₀ := .ref C :: exT2 O) ?_ (drop_own C _) X₂ hsup hne rfl ?_ ?_
  · have : Looks (model prog w) h₂ (mroOf (.ref C)) cd.mro := (looks_clsIn X₂ hcl).andThen .now
    rw [hm] at this
    exact this
  · exact I₂.type.andThen (looks_mroIn X₂ (mro_has2 hcl hm (tail2 "Exception" (by decide +kernel))))
  have k₃ : ∀ b o, h₂.get? b = some o → (h₂.push (bw e)).get? b = some o := fun b o q => Heap.get?_push_of_some _ q
  have X₃ : K.In (h₂.push (bw e)) := X₂.keeps k₃
  refine callWith_bound (x := e) (args_cons (Constant_str (args_nil ⟨Heap.get?_push_size _ rfl, ?_⟩)))
  refine call_bw (X₃ _ _ hC) (k₃ _ _ hx₂) (Heap.get?_push_size _ rfl) (by rw [sizeLine_eq]; exact (by decide : 1 ≤ 16777216)) (fun h₄ t1 k₄ hx₄ => ?_)
  have X₄ : K.In h₄ := fun a o q => k₄ a o (fun z => by rw [z, hnx] at q; cases q) (X₃ a o q)
  have k14 : ∀ b o, b ≠ e → h₁.get? b = some o → h₄.get? b = some o := fun b o hb q => k₄ b o hb (k₃ b o (k₂ b o q))
  have hns₄ : h₄.Ns hp.objs.size (fun y => ([((PySem.Str.ofString "self" : Str), Value.ref e), (f, v)] : List (Str × Value)).reverse.lookup y) := by
    have hee : hp.objs.size ≠ e := Nat.ne_of_gt (Heap.lt_size hx)
    obtain ⟨oL, es, ep, hL, r⟩ := hns
    exact ⟨oL, es, ep, k14 _ _ hee hL, r⟩
  -- self.f = f
  refine ks_wpAt_execs_cons (ks_wpAt_Assign_Attr (wpAt_of_wpAny (wpAny_Name (wpAny_loadName_local rfl e1 hns₄ ns_f ?_) f4)) (T.sw _ _ _ _ _))
  refine wpAny_Name (wpAny_loadName_local rfl rfl hns₄ ns_self ?_) (by decide)
  refine set_plain X₄ (ox := excO C t1) (od := none) ⟨hx₄, rfl, rfl, trivial⟩ T.sa ?_
  refine osa2_new X₄ hx₄ hcl hm hh T.noN (fun h₅ tk₅ dx k₅ dn dne hx₅ hn₅ => ?_)
  refine wpAt_of_wpAny (wpAny_execs_nil (hq h₅ tk₅ dx ⟨fun b o hb q => k₅ b o hb (k14 b o hb (k b o q)), ⟨t1, hx₅⟩, ?_, dne, hn₅⟩))
  have z : hp.objs.size < h₄.objs.size := hns₄.lt
  exact Nat.le_of_lt (Nat.lt_of_lt_of_le z dn)
end
end DnX
end PySem
namespace PySem
namespace DnX
open PySem.W PySem.Calls PyProof.Rows PySem.HandSPX PySem.ESX
/-- a made error -/
structure Made (h h' : Heap) (e C d : Addr) (f : Str) (v : Value) : Prop where
  keep : ∀ b o, h.get? b = some o → h'.get? b = some o
  new : h.objs.size ≤ e
  obj : ∃ oe vs, h'.get? e = some oe ∧ oe.cls = .ref C ∧ oe.dict = some d ∧ oe.data = .fields vs ∧ vs[1]? = some .none ∧ vs[2]? = some .none
  dbig : h.objs.size ≤ d
  dne : d ≠ e
  ns : h'.Ns1 d (fun y => if y = f then some v else none)
section
variable {prog : Program} {w : World} {A : Around} {E : Value → Shared → Prop} {R : Result → Shared → Prop} {s : Shared} {K : Frag} {mg : Str → Option Value} {C : Addr} {x f : Str}
theorem err_made (T : ErrTxt prog K mg x f C) {v : Value} {mb : Str → Option Value} (X : K.In s.heap) (hlim : s.heap.NoLimit) (hG : s.heap.Ns mainGlobals mg) (hB : s.heap.Ns builtinsNs mb) (hb : mb "super" = bootBuiltins "super") (hroom : A.depth + 1 < recursionLimit)
    (hq : ∀ h' tk e d, Made s.heap h' e C d f v → R (.ok (.ret (.ref e))) { s with heap := h', toks := tk }) :
    codeAny (model prog w) A (.call (.ref C) ⟨[v], []⟩) R s := by
  obtain ⟨fI, _, _, _, _, _, _, _, _, _, _, _, _, _, _, _, _, _, _, _, _, _, _, _, _, _, _, _, _, _, _, _, _, _, hi, hti, _⟩ := T.fn
  obtain ⟨O, nm, q, N, bs, sn, sub, ab, col, dd, k0, k1, k2, k3, k5, hC⟩ := T.cls
  obtain ⟨hp, g, dr, tk, os⟩ := s
  have k : ∀ b o, hp.get? b = some o → ((hp.push (kdv_tup [v])).push (excO C hp.objs.size)).get? b = some o := fun b o e => Heap.get?_push_of_some _ (Heap.get?_push_of_some _ e)
  have hget : ((hp.push (kdv_tup [v])).push (excO C hp.objs.size)).get? (hp.objs.size + 1) = some (excO C hp.objs.size) := by heap_get
  have hnx : K.lookup (hp.objs.size + 1) = none := by
    cases e : K.lookup (hp.objs.size + 1) with
    | none => rfl
    | some o =>
      have z : hp.get? (hp.objs.size + 1) = some o := X _ _ e
      exact absurd (Nat.lt_of_succ_lt (Heap.lt_size z)) (Nat.lt_irrefl _)
  refine call_own F.excBase_Exception (fun X => cont2 X) (X _ _ hC) (looks_findIn X hi) (fun self => bind_fn X self hti) (by rw [sizeLine_eq]; exact (by decide : 1 ≤ 16777216)) ?_
  refine err_init (s := ⟨(hp.push (kdv_tup [v])).push (excO C hp.objs.size), g, dr, tk, os⟩) T hi (X.keeps k) (hlim.keeps k) (hG.keeps k) (hB.keeps k) hb hget hnx ?_ fun h' tk' dx ⟨k', ⟨t1, hx⟩, dn, dne, hns⟩ => ?_
  · show A.depth + 1 < recursionLimit
    exact hroom
  · have old : ∀ b o, hp.get? b = some o → h'.get? b = some o := fun b o e => k' b o (Nat.ne_of_lt (Nat.lt_succ_of_lt (Heap.lt_size e))) (k b o e)
    have z : hp.objs.size + 1 + 1 ≤ dx := by
      first
        | (simpa only [Heap.size_push] using dn)
        | exact dn
        | (have q := dn; rw [Heap.size_push, Heap.size_push] at q; exact q)
    exact ⟨rfl, hq h' tk' (hp.objs.size + 1) dx ⟨old, Nat.le_succ _, ⟨_, _, hx, rfl, rfl, rfl, rfl, rfl⟩, Nat.le_trans (Nat.le_trans (Nat.le_succ _) (Nat.le_succ _)) z, dne, hns⟩⟩
end
end DnX
end PySem
namespace Dn
open PySem L2
section
variable {X : Cx} {G : Cfg} {W : WX} {C : Addr}
theorem relO_one {f : Str} {v : V} {v' : Value} (r : RelV v v') (y : Str) : RelO (List.lookup y [(f, v)]) (if y = f then some v' else none) := by
  by_cases hw : y = f
  · subst hw
    rw [if_pos rfl]
    have q : List.lookup y [(y, v)] = some v := by simp [List.lookup]
    rw [q]
    exact r
  · rw [if_neg hw]
    have qw : (y == f) = false := by simpa using hw
    have q2 : List.lookup y [(f, v)] = none := by simp [List.lookup, qw]
    rw [q2]
    trivial
/-- x(e) -/
theorem de_mk {x f : Str} {a : Expr} {es : List Expr} {fs : EvA} {p pos : Pos} {k c : Nat} (T : PySem.DnX.ErrTxt X.prog X.K X.mg x f C) (hK : X.K = G.K) (hX : G.X c = some (C, [f])) (hr : Room k X.A) (ha : PA X (a :: es) (semA G W fs)) (hn : ∀ e m xs m', fs G.C e m = .ok xs m' → xs.length = 1) (hg : Gl X x)
    (he : starEach (a :: es) X.env = (false, eval a X.env) :: starEach es X.env) (hpl : (backTo pos (starEach es X.env)).any (·.1) = false) (hdb : (x == ("__debug__" : Str)) = false := by decide) :
    L2N.PMk X (.Call (.Name x p) (a :: es) [] pos) (semX G W c fs) := by
  intro pins s σ H Q I ⟨S, t, m, e, si, g⟩
  refine wpAny_Call_Name_kw (ld_glob I hg T.gC ?_ hdb)
  have hlen := hn e m
  refine PySem.W.callWith_K (h₀ := X.base) I.ok.mod.kin T.kC (thn (ha.run pos pins s σ H (fun vs H1 => ∃ v, vs = [v] ∧ ∀ d, H1 d = none → Q (.ref C) (some d) (upd H1 d (.xd [(f, v)]))) I ⟨S, t, m, e, si, ?_⟩) fun us s1 hh => ?_) he hpl
  · revert g hlen
    cases fs G.C e m with
    | ok ds m1 =>
      intro g hlen S1 H1 t1 p1 i1 vs rs
      have hl : ds.length = 1 := hlen ds m1 rfl
      cases rs with
      | nil => cases hl
      | cons r rr =>
        cases rr with
        | cons _ _ => simp at hl
        | nil =>
          rename_i v d
          refine ⟨v, rfl, fun dx hd => ?_⟩
          obtain ⟨i2, p2⟩ := new_hi (o := .xd [(f, v)]) i1 hd
          exact g S1 H1 t1 p1 i1 _ _ _ _ p2 i2 ⟨C, [f], dx, [v], hX, rfl, rfl, upd_same, .cons (r.stp i1 p2) .nil, rfl⟩
    | exc c' gs m1 => exact fun g _ => g
    | stuck => exact fun g _ => g
  obtain ⟨vs, H1, I1, r1, v, ev, q1⟩ := hh
  subst ev
  refine ⟨I1.kIn, ?_⟩
  cases r1 with
  | cons rv rn =>
    rename_i v' us'
    cases rn
    show wpAny _ _ (call (.ref C) [v']) _ _ _
    have hlim := I1.nolimit
    obtain ⟨mb, hb1, hb2⟩ := I1.ok.mod.blt
    have hG := I1.ok.mod.glob.keeps I1.bk
    have hB := hb1.keeps I1.bk
    obtain ⟨hp, gn, dr, tk, os⟩ := s1
    refine wpAny_call (PySem.DnX.err_made T I1.kIn hlim hG hB (hb2 "super" (by decide)) (by have := hr.dp; omega) fun h' tk' e d M => ?_)
    show L2N.MkP X pins σ Q (.ref e) ⟨h', gn, dr, tk', os⟩
    obtain ⟨oe, fv, hoe, hc, hd, hdat, h1, h2⟩ := M.obj
    have hns := M.ns
    obtain ⟨G', g1, g2⟩ := restrict h' fun b => decide (b ≠ e)
    have gk : ∀ b, b ≠ e → G'.get? b = h'.get? b := fun b hb => g1 b (decide_eq_true hb)
    have ge : G'.get? e = none := g2 e (by simp)
    have old : ∀ b o, hp.get? b = some o → G'.get? b = some o := fun b o q => (gk b (Nat.ne_of_lt (Nat.lt_of_lt_of_le (Heap.lt_size q) M.new))).trans (M.keep b o q)
    have ob : ObjOk X.prog X.w (upd H1 d (.xd [(f, v)])) G' d (.xd [(f, v)]) :=
      ⟨_, hns.at (fun o q => (gk d M.dne).trans q), fun y => relO_one rv y⟩
    have J : Inv X pins σ (upd H1 d (.xd [(f, v)])) ⟨G', gn, dr, tk', os⟩ := I1.laid (t' := tk') old M.dbig ob
    refine ⟨e, oe, fv, ⟨G', gn, dr, tk', os⟩, _, .ref C, some d, rfl, J, fun b o q => ?_, ge, hoe, ⟨hc, hd, fun vs hv => ?_⟩, hdat, h1, ?_, rfl, I1.bare, raises_own T.exC T.tyC, q1 d (I1.hok.fresh M.dbig)⟩
    · by_cases hb : b = e
      · have q' : G'.get? b = some o := q
        rw [hb, ge] at q'; cases q'
      · exact (gk b hb).symm.trans q
    · rw [hdat] at hv
      cases hv
      exact h2
    · rw [upd_ne (Ne.symm M.dne)]
      exact I1.hok.fresh M.new
end
end Dn
namespace Dn
open PySem L2
section
variable {P : Program} {w : World} {K : PySem.W.Frag} {mg : Str → Option Value} {base h : Heap}
/-- an error of the class at S is what «except S» names -/
theorem exm_self {S : Addr} (h1 : PySem.W.subIn K (.ref S) (.type "BaseException") = some true) (h2 : PySem.W.isClsIn K S = true) (h3 : PySem.W.typeIn K (.ref S) = some (.type "type")) (h4 : PySem.W.subIn K (.ref S) (.ref S) = some true) :
    PySem.W.exmOne K (.ref S) (.ref S) = some true := by
  have e1 : (PySem.W.subIn K (.ref S) (.type "BaseException") == some true) = true := by rw [h1] <;> rfl
  have e2 : ((PySem.W.clsIn K S).isSome && PySem.W.typeIn K (.ref S) == some (.type "type")) = true := by
    have h2' : (PySem.W.clsIn K S).isSome = true := h2
    rw [h2', h3] <;> rfl
  show (if (PySem.W.subIn K (.ref S) (.type "BaseException") == some true) = true then (if ((PySem.W.clsIn K S).isSome && PySem.W.typeIn K (.ref S) == some (.type "type")) = true then PySem.W.subIn K (.ref S) (.ref S) else none) else none) = some true
  rw [if_pos e1, if_pos e2]
  exact h4
theorem fun_sta {x : Str} {st : Stmt} {f : Addr} {oc : Value} {od an : Option Addr} {osl : Array (Option Value)} {kV doc pm cdv ct : Value} {ps : List Str} (X : K.In h) (G : h.Ns mainGlobals mg) (a : PySem.W.nsIn K mainGlobals x = some (some (.ref f)))
    (l : K.lookup f = some ⟨oc, od, .func (PySem.W.fnOf x x (defArgs st) (defBody st) (defScope st) .none kV doc pm an cdv ct), osl⟩) (c : PySem.W.codeIn K cdv x = true) (k : PySem.W.keepIn K (.ref f) = true)
    (hb : ∀ (kV doc pm : Value) (an : Option Addr) (cdv ct : Value) (us : List Value), us.length = ps.length → bindArgs (PySem.W.fnOf x x (defArgs st) (defBody st) (defScope st) .none kV doc pm an cdv ct) ⟨us, []⟩ = pure (ps.zip us)) :
    ∃ a fd, Fun K x x st a fd ∧ mg x = some (.ref a) ∧ PySem.W.keepIn K (.ref a) = true ∧ Binds K fd ps [] :=
  ⟨_, _, fun_mk l c k, PySem.W.mg_of X G a, k, (fun_mk l c k).binds hb⟩
/-- what the judge asks of law -/
def spLaw (K : PySem.W.Frag) : Sp := fun vs H Q _ => ∃ (a : Addr) (ns : List Int), vs = [.ref a] ∧ SqL K H a (ns.map V.int) ∧ ns.length ≤ 63 ∧ ∀ H', Q (.bl true) H'
theorem law_ok {T : Tab} {Xs : Nat → Option (Addr × List Str)} {n f : Nat} {a : Addr} {fd : FuncData} {ps : List Str} (F : FnOk P w K mg base (L2N.CX P w) n a fd ps (spD ⟨K, run T n, Xs, none⟩ f 1)) (hp : ps.length = 1)
    (M : ∀ ns : List Int, ns.length ≤ 63 → ∃ m', run T n f [.frz (ns.map D.int)] [] = .ok (.bl true) m') : FnOk P w K mg base (L2N.CX P w) n a fd ps (spLaw K) :=
  ⟨fun vs H Q E ⟨a, ns, e, _⟩ => by subst e; exact hp.symm, fun A outer s H args us vs Q E hr e0 hb r ⟨a, ns, e, hs, hl, q⟩ => F.run A outer s H args us vs Q E hr e0 hb r (by
    subst e
    obtain ⟨m', hm⟩ := M ns hl
    refine ⟨rfl, H, fun _ => none, [], [.frz (ns.map D.int)], only_hi, .cons (frz_v hs) .nil, ?_⟩
    show Gd _ _ _ H H _ (run T n f [.frz (ns.map D.int)] []) _
    rw [hm]
    intro S' H' t' p i v r
    cases r
    exact q H')⟩
theorem cx_no {outer : List PySem.Env} {H : Hp} {s : Shared} {e : Value} {s' : Shared} (z : L2N.CX P w outer H s (fun _ _ _ => False) e s') : False := by
  obtain ⟨_, _, _, _, _, _, _, _, _, _, _, _, z⟩ := z
  exact z
end
end Dn
namespace PySem
namespace DnX
open PySem.W PySem.Calls PyProof.Rows PySem.HandSPX PySem.ESX
theorem sup_of {K : Frag} {C O : Addr} {nm q nm' q' : Str} {N N' : Addr} {bs bs' : List Value} {sn sn' : List Str} {sub sub' : List Value} {ab ab' : Bool} {col col' : Option Bool} {dd dd' : Option Addr} {k0 k1 k2 k3 k5 k0' k1' k2' k3' k5' : Option Value} {hd' : Bool} {nw' : String}
    (hC : K.lookup C = some (excClassObj nm q C N bs (exT2 O) true sn sub ab col dd k0 k1 k2 k3 k5 "Exception.__new__")) (hO : K.lookup O = some (excClassObj nm' q' O N' bs' exTail hd' sn' sub' ab' col' dd' k0' k1' k2' k3' k5' nw'))
    (hf : findIn K (.ref O) "__init__" = some (some (.builtin "Exception.__init__"))) : ks_superIn K C C "__init__" = some (some (.builtin "Exception.__init__")) := by
  obtain ⟨cd, hcl, hm, _⟩ := cls_of hC
  unfold ks_superIn
  rw [hcl, Option.bind_some, hm, drop_own]
  unfold findIn at hf
  dsimp only at hf
  rw [hO] at hf
  exact hf
end DnX
end PySem
/-! For the mirrors: equality, order of plain data. -/
namespace Dn
open PySem L2
theorem eqG_ok {x y : D} {p q : PyData} {m : Store} (hx : toP x = some p) (hy : toP y = some q) (sx : SeqAt.shaped p = true) (sy : SeqAt.shaped q = true) : eqG m x y = some (.bl (PyData.eqv p q)) := by
  unfold eqG twoP
  simp [hx, hy, sx, sy]
theorem neG_ok {x y : D} {p q : PyData} {m : Store} (hx : toP x = some p) (hy : toP y = some q) (sx : SeqAt.shaped p = true) (sy : SeqAt.shaped q = true) : neG m x y = some (.bl (!PyData.eqv p q)) := by
  unfold neG twoP
  simp [hx, hy, sx, sy]
theorem sh_int (i : Int) : SeqAt.shaped (.int i) = true := by simp [SeqAt.shaped, PyData.canLay0, PyData.depth]
theorem sh_bl (i : Bool) : SeqAt.shaped (.bool i) = true := by simp [SeqAt.shaped, PyData.canLay0, PyData.depth]
@[simp] theorem eqG_ii (m : Store) (i j : Int) : eqG m (.int i) (.int j) = some (.bl (decide (i = j))) := by
  rw [eqG_ok (p := .int i) (q := .int j) (by simp [toP]) (by simp [toP]) (sh_int i) (sh_int j)]
  rw [PyData.eqv]
  congr 2
@[simp] theorem neG_ii (m : Store) (i j : Int) : neG m (.int i) (.int j) = some (.bl (!decide (i = j))) := by
  rw [neG_ok (p := .int i) (q := .int j) (by simp [toP]) (by simp [toP]) (sh_int i) (sh_int j)]
  rw [PyData.eqv]
  congr 2
@[simp] theorem eqG_bb (m : Store) (i j : Bool) : eqG m (.bl i) (.bl j) = some (.bl (decide (i = j))) := by
  rw [eqG_ok (p := .bool i) (q := .bool j) (by simp [toP]) (by simp [toP]) (sh_bl i) (sh_bl j)]
  rw [PyData.eqv]
  congr 2
@[simp] theorem neG_bb (m : Store) (i j : Bool) : neG m (.bl i) (.bl j) = some (.bl (!decide (i = j))) := by
  rw [neG_ok (p := .bool i) (q := .bool j) (by simp [toP]) (by simp [toP]) (sh_bl i) (sh_bl j)]
  rw [PyData.eqv]
  congr 2
/-! items that are alike told by a list of α -/
/-- an encoding: its data, one by one -/
structure Enc (α : Type) where
  d : α → D
  p : α → PyData
  to : ∀ a, toP (d a) = some (p a)
  lay : ∀ a, (p a).canLay0 = true
  dep : ∀ a, (p a).depth ≤ 60
  inj : ∀ a b, PyData.eqv (p a) (p b) = true ↔ a = b
section
variable {α : Type} (e : Enc α)
theorem Enc.tos : ∀ l : List α, toPs (l.map e.d) = some (l.map e.p)
  | [] => by simp [toPs]
  | a :: l => by simp [toPs, e.to, Enc.tos l]
theorem Enc.lays : ∀ l : List α, PyData.canLayAll0 (l.map e.p) = true
  | [] => by simp [PyData.canLayAll0]
  | a :: l => by simp [PyData.canLayAll0, e.lay, Enc.lays l]
theorem Enc.deps : ∀ l : List α, PyData.depthAll (l.map e.p) ≤ 60
  | [] => by simp [PyData.depthAll]
  | a :: l => by
    simp only [List.map_cons, PyData.depthAll]
    exact Nat.max_le.mpr ⟨e.dep a, Enc.deps l⟩
theorem Enc.shT (l : List α) : SeqAt.shaped (.tuple (l.map e.p)) = true := by
  have h1 := e.lays l
  have h2 := e.deps l
  simp only [SeqAt.shaped, PyData.canLay0, PyData.depth, Bool.and_eq_true, decide_eq_true_eq]
  exact ⟨h1, decide_eq_true (by omega)⟩
theorem Enc.shL (l : List α) : SeqAt.shaped (.list (l.map e.p)) = true := by
  have h1 := e.lays l
  have h2 := e.deps l
  simp only [SeqAt.shaped, PyData.canLay0, PyData.depth, Bool.and_eq_true, decide_eq_true_eq]
  exact ⟨h1, decide_eq_true (by omega)⟩
theorem Enc.eqs [DecidableEq α] : ∀ a b : List α, PyData.eqvAll (a.map e.p) (b.map e.p) = decide (a = b)
  | [], [] => by simp [PyData.eqvAll]
  | [], _ :: _ => by simp [PyData.eqvAll]
  | _ :: _, [] => by simp [PyData.eqvAll]
  | x :: a, y :: b => by
    simp only [List.map_cons, PyData.eqvAll, Enc.eqs a b]
    by_cases h : x = y
    · have := (e.inj x y).mpr h
      rw [this]; simp [h]
    · have : PyData.eqv (e.p x) (e.p y) = false := by
        cases q : PyData.eqv (e.p x) (e.p y) with
        | false => rfl
        | true => exact absurd ((e.inj x y).mp q) h
      rw [this]; simp [h]
theorem Enc.eqT [DecidableEq α] (m : Store) (a b : List α) : eqG m (.tup (a.map e.d)) (.tup (b.map e.d)) = some (.bl (decide (a = b))) := by
  rw [eqG_ok (p := .tuple (a.map e.p)) (q := .tuple (b.map e.p)) (by simp [toP, e.tos]) (by simp [toP, e.tos]) (e.shT a) (e.shT b)]
  simp [PyData.eqv, e.eqs]
theorem Enc.neT [DecidableEq α] (m : Store) (a b : List α) : neG m (.tup (a.map e.d)) (.tup (b.map e.d)) = some (.bl (!decide (a = b))) := by
  rw [neG_ok (p := .tuple (a.map e.p)) (q := .tuple (b.map e.p)) (by simp [toP, e.tos]) (by simp [toP, e.tos]) (e.shT a) (e.shT b)]
  simp [PyData.eqv, e.eqs]
theorem Enc.eqL [DecidableEq α] (m : Store) (a b : List α) : eqG m (.lst (a.map e.d)) (.lst (b.map e.d)) = some (.bl (decide (a = b))) := by
  rw [eqG_ok (p := .list (a.map e.p)) (q := .list (b.map e.p)) (by simp [toP, e.tos]) (by simp [toP, e.tos]) (e.shL a) (e.shL b)]
  simp [PyData.eqv, e.eqs]
theorem Enc.neL [DecidableEq α] (m : Store) (a b : List α) : neG m (.lst (a.map e.d)) (.lst (b.map e.d)) = some (.bl (!decide (a = b))) := by
  rw [neG_ok (p := .list (a.map e.p)) (q := .list (b.map e.p)) (by simp [toP, e.tos]) (by simp [toP, e.tos]) (e.shL a) (e.shL b)]
  simp [PyData.eqv, e.eqs]
theorem Enc.eqF [DecidableEq α] (m : Store) (a b : List α) : eqG m (.frz (a.map e.d)) (.lst (b.map e.d)) = some (.bl (decide (a = b))) := by
  rw [eqG_ok (p := .list (a.map e.p)) (q := .list (b.map e.p)) (by simp [toP, e.tos]) (by simp [toP, e.tos]) (e.shL a) (e.shL b)]
  simp [PyData.eqv, e.eqs]
theorem Enc.inL [DecidableEq α] (m : Store) (x : α) (b : List α) (h : ∀ z, e.d x ≠ .str z) : inG m (e.d x) (.lst (b.map e.d)) = some (.bl (decide (x ∈ b))) := by
  have hs : SeqAt.shaped (e.p x) = true := by
    have h1 := e.lay x
    have h2 := e.dep x
    simp only [SeqAt.shaped, Bool.and_eq_true, decide_eq_true_eq]
    exact ⟨h1, by omega⟩
  have : ∀ b : List α, (b.map e.p).any (fun z => PyData.eqv z (e.p x)) = decide (x ∈ b) := by
    intro b
    induction b with
    | nil => simp
    | cons y b ih =>
      rw [List.map_cons, List.any_cons, ih]
      by_cases q : y = x
      · subst q; have := (e.inj y y).mpr rfl; rw [this]; simp
      · have z : PyData.eqv (e.p y) (e.p x) = false := by
          cases r : PyData.eqv (e.p y) (e.p x) with
          | false => rfl
          | true => exact absurd ((e.inj y x).mp r) q
        rw [z]
        have : x ≠ y := fun w => q w.symm
        simp [this]
  unfold inG
  split
  · rename_i w _; exact absurd w (h _)
  · unfold twoP
    simp only [e.to, toP, e.tos, Option.map_some, hs, e.shL, Bool.and_self, if_true, Option.bind_some]
    unfold Dn.inL
    simp [this]
/-- sorting -/
theorem Enc.sort (l : List α) (le : α → α → Bool) (hl : l.length ≤ LIM) (hle : ∀ a b, PySem.W.dataLe false encD (e.d a) (e.d b) = le a b) (hal : ∀ a b, PySem.W.alike (e.p a) (e.p b) = true) (hk : (∀ a, isTup1 (e.p a) = true) ∨ ∀ a, noTup (e.p a) = true) :
    sortOk (l.map e.d) = true ∧ sortedD (l.map e.d) = (l.mergeSort le).map e.d := by
  have en : ∀ a, encD (e.d a) = e.p a := fun a => by unfold encD; rw [e.to]; rfl
  refine ⟨?_, ?_⟩
  · unfold sortOk
    simp only [List.length_map, List.all_map, Bool.and_eq_true, Bool.or_eq_true, List.all_eq_true, decide_eq_true_eq, Function.comp, e.to, Option.isSome_some, true_and, en]
    refine ⟨⟨⟨hl, fun a _ => e.dep a⟩, fun a _ b hb => hal _ _⟩, ?_⟩
    rcases hk with hk | hk
    · exact .inl fun a _ => hk a
    · exact .inr fun a _ => hk a
  · unfold sortedD leD
    rw [List.map_mergeSort (r := le)]
    intro a _ b _
    exact (hle a b).symm
end
theorem eqv_int (i j : Int) : PyData.eqv (.int i) (.int j) = true ↔ i = j := by simp [PyData.eqv]
def encI : Enc Int := ⟨.int, .int, fun a => by simp [toP], fun a => by simp [PyData.canLay0], fun a => by simp [PyData.depth], eqv_int⟩
def encB : Enc Bool := ⟨.bl, .bool, fun a => by simp [toP], fun a => by simp [PyData.canLay0], fun a => by simp [PyData.depth], fun a b => by simp [PyData.eqv]⟩
def encP : Enc (Int × Int) := ⟨fun p => .tup [.int p.1, .int p.2], fun p => .tuple [.int p.1, .int p.2], fun a => by simp [toP, toPs], fun a => by simp [PyData.canLay0, PyData.canLayAll0], fun a => by simp [PyData.depth, PyData.depthAll], fun a b => by
  simp only [PyData.eqv, PyData.eqvAll, Bool.and_true, Bool.and_eq_true, beq_iff_eq]
  exact ⟨fun h => Prod.ext h.1 h.2, fun h => by subst h; exact ⟨rfl, rfl⟩⟩⟩
/-- pairs by the first, then the second -/
def leP (p q : Int × Int) : Bool := decide (p.1 < q.1 ∨ (p.1 = q.1 ∧ p.2 ≤ q.2))
theorem sort_pairs (l : List (Int × Int)) (hl : l.length ≤ LIM) : sortOk (l.map encP.d) = true ∧ sortedD (l.map encP.d) = (l.mergeSort leP).map encP.d := by
  refine encP.sort l leP hl (fun a b => ?_) (fun a b => ?_) (.inl fun a => rfl)
  · have h := congrFun (congrFun (PySem.W.dataLe_ii (β := Int × Int) (·.1) (·.2)) a) b
    have en : ∀ a : Int × Int, encD (encP.d a) = .tuple [.int a.1, .int a.2] := fun a => by unfold encD; rw [encP.to]; rfl
    have e : PySem.W.dataLe false encD (encP.d a) (encP.d b) = PySem.W.dataLe false (fun b : Int × Int => PyData.tuple [.int b.1, .int b.2]) a b := by
      rw [PySem.W.dataLe_eq, PySem.W.dataLe_eq]
      show cond false _ (!PySem.W.dataLt (encD (encP.d b)) (encD (encP.d a))) = cond false _ (!PySem.W.dataLt _ _)
      rw [en, en]
    rw [e]
    exact h
  · show PySem.W.alike (.tuple [.int a.1, .int a.2]) (.tuple [.int b.1, .int b.2]) = true
    simp [PySem.W.alike, PySem.W.alikeAll]
theorem sort_ints (l : List Int) (hl : l.length ≤ LIM) : sortOk (l.map encI.d) = true ∧ sortedD (l.map encI.d) = (l.mergeSort fun a b => decide (a ≤ b)).map encI.d := by
  refine encI.sort l _ hl (fun a b => ?_) (fun a b => ?_) (.inr fun a => rfl)
  · have h := congrFun (congrFun (PySem.W.dataLe_int (β := Int) id) a) b
    have en : ∀ a : Int, encD (encI.d a) = .int a := fun a => by unfold encD; rw [encI.to]; rfl
    have e : PySem.W.dataLe false encD (encI.d a) (encI.d b) = PySem.W.dataLe false (fun b : Int => PyData.int (id b)) a b := by
      rw [PySem.W.dataLe_eq, PySem.W.dataLe_eq]
      show cond false _ (!PySem.W.dataLt (encD (encI.d b)) (encD (encI.d a))) = cond false _ (!PySem.W.dataLt _ _)
      rw [en, en]; rfl
    rw [e]
    exact h
  · show PySem.W.alike (.int a) (.int b) = true
    simp [PySem.W.alike]
end Dn
namespace Dn
open PySem L2
theorem lcL_map {α : Type} {C : Orc} {g : Tg} {tt : EvT} {te : EvE} {e : Env} {m : Store} {f h : α → D} {keep : α → Bool} : ∀ {l : List α}, (∀ x ∈ l, ∃ e1, asg g (f x) e = some e1 ∧ tt C e1 m = .ok (keep x) m ∧ (keep x = true → te C e1 m = .ok (h x) m)) →
    lcL C g tt te e (l.map f) m = .ok ((l.filter keep).map h) m
  | [], _ => by simp [lcL]
  | x :: l, H => by
    obtain ⟨e1, h1, h2, h3⟩ := H x List.mem_cons_self
    have ih := lcL_map (l := l) fun y hy => H y (List.mem_cons_of_mem _ hy)
    rw [List.map_cons]
    unfold lcL
    rw [h1]
    dsimp only
    rw [h2]
    cases hk : keep x with
    | true =>
      simp only [noX_ok, R.bind_ok, if_true, h3 hk, ih]
      rw [List.filter_cons_of_pos hk, List.map_cons]
    | false =>
      simp only [noX_ok, R.bind_ok, Bool.false_eq_true, if_false, ih]
      rw [List.filter_cons_of_neg (by simp [hk])]
theorem lcL_all {α : Type} {C : Orc} {g : Tg} {te : EvE} {e : Env} {m : Store} {f h : α → D} {l : List α} (H : ∀ x ∈ l, ∃ e1, asg g (f x) e = some e1 ∧ te C e1 m = .ok (h x) m) : lcL C g yesT te e (l.map f) m = .ok (l.map h) m := by
  rw [lcL_map (keep := fun _ => true) (h := h) fun x hx => ?_]
  · rw [List.filter_eq_self.mpr fun _ _ => rfl]
  · obtain ⟨e1, h1, h2⟩ := H x hx
    exact ⟨e1, h1, rfl, fun _ => h2⟩
theorem toInts_map {α : Type} (f : α → Int) : ∀ l : List α, toInts (l.map fun x => D.int (f x)) = some (l.map f)
  | [] => rfl
  | x :: l => by simp [toInts, toInts_map f l]
theorem toBls_map {α : Type} (f : α → Bool) : ∀ l : List α, toBls (l.map fun x => D.bl (f x)) = some (l.map f)
  | [] => rfl
  | x :: l => by simp [toBls, toBls_map f l]
end Dn
namespace Dn.K50
open PySem L2
/-! What law_k50_whole_spans reaches, as combinators (printed by pr.py). -/
noncomputable def B_law : EvS :=
  (seqS (ownS 1 (bltF lstG (consA (varE 0) (consA (conE (.int 0)) nilA))))
  (seqS (stoS 1) (seqS (parS [2, 3] (consM (fnE 1 (consA (varE 1) nilA)) (consM (fnE 1 (consA (varE 1) nilA)) nilM)))
  (seqS (parS [4, 5] (consM (fnE 2 (consA (varE 2) nilA)) (consM (fnE 2 (consA (varE 3) nilA)) nilM)))
  (seqS (ifS (orT (notT (blT (fnE 3 (consA (varE 4) nilA)))) (orT (blT (bin neG (fnE 2 (consA (bin addA (frzE (revF (brwE 2))) (brwE 2)) nilA)) (brwE 4))) (blT (bin neG (fnE 2 (consA (varE 4) nilA)) (brwE 4)))))
  (retS (conE (.bl false)))
  nxS)
  (seqS (ifS (notT (blT (bltE allG (consA (frzE (lcF (seqI (bin addA (brwE 2) (bltE listG (consA (brwE 4) nilA)))) (.nm 16) yesT (fnE 4 (consA (varE 16) nilA)) [16])) nilA))))
  (retS (conE (.bl false)))
  nxS)
  (seqS (asgS (.nm 6) (bltE tupG (consA (fnE 5 (consA (varE 4) (consA (varE 5) nilA))) (consA (fnE 6 (consA (varE 4) (consA (varE 5) nilA))) (consA (fnE 7 (consA (varE 4) (consA (varE 5) nilA))) (consA (fnE 8 (consA (varE 4) nilA)) (consA (fnE 9 (consA (varE 4) (consA (varE 5) nilA))) nilA)))))))
  (seqS (forS (seqI (bin addA (fnE 10 nilA) (frzE (bltF lstG (consA (conE (.int 500000)) nilA))))) (.nm 7)
  (seqS (parS [11, 12] (consM (bltE anyG (consA (frzE (lcF (seqI (varE 2)) (.tp [(.nm 17), (.nm 18)]) yesT (chainE leG leG (brwE 17) (brwE 7) (brwE 18)) [17, 18])) nilA)) (consM (bltE anyG (consA (frzE (lcF (seqI (varE 3)) (.tp [(.nm 17), (.nm 18)]) yesT (chainE leG leG (brwE 17) (brwE 7) (brwE 18)) [17, 18])) nilA)) nilM)))
  (seqS (asgS (.nm 13) (bltE tupG (consA (orE (varE 11) (varE 12)) (consA (andE (varE 11) (varE 12)) (consA (andE (varE 11) (notE (varE 12))) (consA (notE (varE 11)) (consA (bin neG (brwE 11) (brwE 12)) nilA)))))))
  (ifS (orT (blT (bin neG (fnE 11 (consA (varE 4) (consA (varE 7) nilA))) (brwE 11))) (blT (bin neG (bltE tupleG (consA (frzE (lcF (seqI (varE 6)) (.nm 19) yesT (fnE 11 (consA (varE 19) (consA (varE 7) nilA))) [19])) nilA)) (brwE 13))))
  (retS (conE (.bl false)))
  nxS))))
  (seqS (ifS (orT (notT (blT (bltE allG (consA (frzE (lcF (seqI (varE 6)) (.nm 19) yesT (fnE 3 (consA (varE 19) nilA)) [19])) nilA)))) (blT (bin neG (bin addA (fnE 12 (consA (varE 4) nilA)) (fnE 12 (consA (fnE 8 (consA (varE 4) nilA)) nilA))) (conE (.int 1000000)))))
  (retS (conE (.bl false)))
  nxS)
  (seqS (ifS (blT (bin neG (fnE 12 (consA (fnE 5 (consA (varE 4) (consA (varE 5) nilA))) nilA)) (bin subG (bin addA (fnE 12 (consA (varE 4) nilA)) (fnE 12 (consA (varE 5) nilA))) (fnE 12 (consA (fnE 6 (consA (varE 4) (consA (varE 5) nilA))) nilA)))))
  (retS (conE (.bl false)))
  nxS)
  (seqS (ifS (orT (blT (bin neG (fnE 13 (consA (varE 4) (consA (varE 5) nilA))) (bin eqG (fnE 6 (consA (varE 4) (consA (varE 5) nilA))) (brwE 4)))) (notT (blT (fnE 13 (consA (fnE 6 (consA (varE 4) (consA (varE 5) nilA))) (consA (varE 5) nilA))))))
  (retS (conE (.bl false)))
  nxS)
  (seqS (asgS (.nm 8) (fnE 14 (consA (varE 4) nilA)))
  (seqS (ifS (orT (blT (bin neG (brwE 8) (bltE sortG (consA (brwE 8) nilA)))) (blT (bin neG (bltE lenG (consA (brwE 8) nilA)) (bin mulG (conE (.int 2)) (bltE lenG (consA (brwE 4) nilA))))))
  (retS (conE (.bl false)))
  nxS)
  (seqS (forS (argI rng1 (consA (conE (.int 12)) nilA)) (.nm 7)
  (ifS (blT (bin neG (bin inG (brwE 7) (brwE 8)) (bin neG (fnE 11 (consA (varE 4) (consA (varE 7) nilA))) (andE (bin gtG (brwE 7) (conE (.int 0))) (fnE 11 (consA (varE 4) (consA (bin subG (brwE 7) (conE (.int 1))) nilA)))))))
  (retS (conE (.bl false)))
  nxS))
  (seqS (asgS (.nm 9) (fnE 15 (consA (varE 1) (consA (frzE (bltF lstG (consA (bltE tupG (consA (conE (.int 3)) (consA (conE (.int 2)) nilA))) (consA (bltE tupG (consA (conE (.int 0)) (consA (conE (.int 1000000)) nilA))) (consA (bltE tupG (consA (una negG (conE (.int 1))) (consA (conE (.int 4)) nilA))) (consA (bltE tupG (consA (conE (.int 1)) nilA)) (consA (frzE (bltF lstG (consA (conE (.int 1)) (consA (conE (.int 2)) nilA)))) (consA (bltE tupG (consA (conE (.bl true)) (consA (conE (.int 2)) nilA))) (consA (conE .non) (consA (bltE tupG (consA (conE (.str "a")) (consA (conE (.int 2)) nilA))) nilA)))))))))) nilA))))
  (seqS (tryS 0 14
  (seqS (dropS (fnE 2 (consA (bin addA (bin addA (brwE 2) (frzE (bltF lstG (consA (varE 9) nilA)))) (brwE 3)) nilA)))
  (retS (conE (.bl false))))
  (ifS (orT (blT (bin neG (xfE 14 0) (bltE lenG (consA (brwE 2) nilA)))) (blT (fnE 4 (consA (varE 9) nilA))))
  (retS (conE (.bl false)))
  nxS))
  (seqS (asgS (.nm 10) (frzE (lcF (seqI (bltE tupG (consA (conE (.str "a")) (consA (conE (.str "z9")) (consA (conE (.str "abcdefgh")) (consA (conE (.str "abcdefghi")) (consA (conE (.str "")) (consA (conE (.str "9a")) (consA (conE (.str "A")) (consA (conE (.str "a_b")) (consA (conE .non) (consA (conE (.int 7)) nilA)))))))))))) (.nm 15) (blT (fnE 16 (consA (varE 15) nilA))) (varE 15) [15])))
  (retS (andE (bin eqG (brwE 10) (frzE (bltF lstG (consA (conE (.str "a")) (consA (conE (.str "z9")) (consA (conE (.str "abcdefgh")) nilA)))))) (bin eqG (frzE (lcF (seqI (bltE tupG (consA (conE (.int 0)) (consA (conE (.int 999999)) (consA (conE (.int 1000000)) (consA (una negG (conE (.int 1))) (consA (conE (.bl true)) (consA (conE (.str "1")) nilA)))))))) (.nm 7) (blT (fnE 17 (consA (varE 7) nilA))) (varE 7) [7])) (frzE (bltF lstG (consA (conE (.int 0)) (consA (conE (.int 999999)) nilA))))))))))))))))))))))))
noncomputable def B_law_rows : EvS :=
  (seqS (ownS 1 (bltF lstG nilA))
  (seqS (forS (argI rng1 (consA (fnE 18 (consA (varE 0) (consA (conE (.int 6)) nilA))) nilA)) (.nm 2)
  (seqS (parS [3, 4] (consM (fnE 19 (consA (varE 0) nilA)) (consM (fnE 19 (consA (varE 0) nilA)) nilM)))
  (appS 1 (bltE tupG (consA (bltE minG (consA (brwE 3) (consA (brwE 4) nilA))) (consA (bltE maxG (consA (brwE 3) (consA (brwE 4) nilA))) nilA))))))
  (seqS (frzS 1) (retS (varE 1)))))
noncomputable def B_normal : EvS :=
  (seqS (dropS (fnE 20 (consA (varE 0) nilA)))
  (retS (fnE 21 (consA (bltE sortG (consA (brwE 0) nilA)) nilA))))
noncomputable def B_law_is_form : EvS :=
  (retS (andE (isE "tuple" (brwE 0)) (bltE allG (consA (frzE (lcF (argI zipG (consA (varE 0) (consA (slA (brwE 0) (intO (conE (.int 1))) noO) nilA))) (.tp [(.nm 1), (.nm 2)]) yesT (bin ltG (bin addA (bin ixG (brwE 1) (conE (.int 1))) (conE (.int 1))) (bin ixG (brwE 2) (conE (.int 0)))) [1, 2])) nilA))))
noncomputable def B_is_span : EvS :=
  (seqS (ifS (orT (notT (blT (isE "tuple" (brwE 0)))) (blT (bin neG (bltE lenG (consA (brwE 0) nilA)) (conE (.int 2)))))
  (retS (conE (.bl false)))
  nxS)
  (retS (andE (fnE 17 (consA (bin ixG (brwE 0) (conE (.int 0))) nilA)) (andE (fnE 17 (consA (bin ixG (brwE 0) (conE (.int 1))) nilA)) (bin leG (bin ixG (brwE 0) (conE (.int 0))) (bin ixG (brwE 0) (conE (.int 1))))))))
noncomputable def B_union : EvS :=
  (retS (fnE 21 (consA (bltE sortG (consA (bltE tupG (starA (seqOnly (varE 0)) (starA (seqOnly (varE 1)) nilA))) nilA)) nilA)))
noncomputable def B_meet : EvS :=
  (seqS (parS [2, 3, 4] (newM (bltF lstG nilA) (consM (conE (.int 0)) (consM (conE (.int 0)) nilM))))
  (seqS (whileS (andT (blT (bin ltG (brwE 3) (bltE lenG (consA (brwE 0) nilA)))) (blT (bin ltG (brwE 4) (bltE lenG (consA (brwE 1) nilA)))))
  (seqS (parS [5, 6] (consM (bltE maxG (consA (bin ixG (bin ixG (brwE 0) (brwE 3)) (conE (.int 0))) (consA (bin ixG (bin ixG (brwE 1) (brwE 4)) (conE (.int 0))) nilA))) (consM (bltE minG (consA (bin ixG (bin ixG (brwE 0) (brwE 3)) (conE (.int 1))) (consA (bin ixG (bin ixG (brwE 1) (brwE 4)) (conE (.int 1))) nilA))) nilM)))
  (seqS (ifS (blT (bin leG (brwE 5) (brwE 6)))
  (appS 2 (bltE tupG (consA (varE 5) (consA (varE 6) nilA))))
  nxS)
  (ifS (blT (bin ltG (bin ixG (bin ixG (brwE 0) (brwE 3)) (conE (.int 1))) (bin ixG (bin ixG (brwE 1) (brwE 4)) (conE (.int 1)))))
  (asgS (.nm 3) (bin addA (brwE 3) (conE (.int 1))))
  (asgS (.nm 4) (bin addA (brwE 4) (conE (.int 1))))))))
  (retS (bltE tupleG (consA (brwE 2) nilA)))))
noncomputable def B_less : EvS :=
  (retS (fnE 6 (consA (varE 0) (consA (fnE 8 (consA (varE 1) nilA)) nilA))))
noncomputable def B_others : EvS :=
  (seqS (parS [1, 2] (newM (bltF lstG nilA) (consM (conE (.int 0)) nilM)))
  (seqS (forS (seqI (varE 0)) (.tp [(.nm 3), (.nm 4)])
  (seqS (ifS (blT (bin ltG (brwE 2) (brwE 3)))
  (appS 1 (bltE tupG (consA (varE 2) (consA (bin subG (brwE 3) (conE (.int 1))) nilA))))
  nxS)
  (asgS (.nm 2) (bin addA (brwE 4) (conE (.int 1))))))
  (seqS (ifS (blT (bin leG (brwE 2) (conE (.int 999999))))
  (appS 1 (bltE tupG (consA (varE 2) (consA (conE (.int 999999)) nilA))))
  nxS)
  (retS (bltE tupleG (consA (brwE 1) nilA))))))
noncomputable def B_unlike : EvS :=
  (retS (fnE 5 (consA (fnE 7 (consA (varE 0) (consA (varE 1) nilA))) (consA (fnE 7 (consA (varE 1) (consA (varE 0) nilA))) nilA))))
noncomputable def B_law_days : EvS :=
  (retS (bin addA (listRg1 (conE (.int 11))) (listRg2 (conE (.int 999991)) (conE (.int 1000000)))))
noncomputable def B_has : EvS :=
  (seqS (parS [2, 3] (consM (conE (.int 0)) (consM (bltE lenG (consA (brwE 0) nilA)) nilM)))
  (seqS (whileS (blT (bin ltG (brwE 2) (brwE 3)))
  (seqS (asgS (.nm 4) (bin fdivG (bin addA (brwE 2) (brwE 3)) (conE (.int 2))))
  (ifS (blT (bin ltG (bin ixG (bin ixG (brwE 0) (brwE 4)) (conE (.int 1))) (brwE 1)))
  (asgS (.nm 2) (bin addA (brwE 4) (conE (.int 1))))
  (asgS (.nm 3) (varE 4)))))
  (retS (andE (bin ltG (brwE 2) (bltE lenG (consA (brwE 0) nilA))) (bin leG (bin ixG (bin ixG (brwE 0) (brwE 2)) (conE (.int 0))) (brwE 1))))))
noncomputable def B_how_many : EvS :=
  (retS (bltE sumG (consA (frzE (lcF (seqI (varE 0)) (.tp [(.nm 1), (.nm 2)]) yesT (bin addA (bin subG (brwE 2) (brwE 1)) (conE (.int 1))) [1, 2])) nilA)))
noncomputable def B_is_part : EvS :=
  (retS (bin eqG (fnE 7 (consA (varE 0) (consA (varE 1) nilA))) (bltE tupG nilA)))
noncomputable def B_breaks : EvS :=
  (seqS (ownS 1 (bltF lstG nilA))
  (seqS (forS (seqI (varE 0)) (.tp [(.nm 2), (.nm 3)])
  (extS 1 (frzE (bltF lstG (consA (varE 2) (consA (bin addA (brwE 3) (conE (.int 1))) nilA))))))
  (seqS (frzS 1) (retS (varE 1)))))
noncomputable def B_law_pick : EvS :=
  (retS (bin ixG (brwE 1) (fnE 18 (consA (varE 0) (consA (bltE lenG (consA (brwE 1) nilA)) nilA)))))
noncomputable def B_is_name : EvS :=
  (seqS (ifS (orT (notT (blT (isE "str" (brwE 0)))) (orT (notT (blT (chainE leG leG (conE (.int 1)) (bltE lenG (consA (brwE 0) nilA)) (conE (.int 8))))) (blT (bin notInG (bin ixG (brwE 0) (conE (.int 0))) (conE (.str "abcdefghijklmnopqrstuvwxyz"))))))
  (retS (conE (.bl false)))
  nxS)
  (retS (bltE allG (consA (frzE (lcF (seqI (varE 0)) (.nm 1) yesT (orE (bin inG (brwE 1) (conE (.str "abcdefghijklmnopqrstuvwxyz"))) (bin inG (brwE 1) (conE (.str "0123456789")))) [1])) nilA))))
noncomputable def B_is_day : EvS :=
  (retS (fnE 22 (consA (varE 0) (consA (conE (.int 0)) (consA (conE (.int 999999)) nilA)))))
noncomputable def B_law_take : EvS :=
  (seqS (stoAug addI (varE 0) (conE (.int 1)) (conE (.int 1)))
  (retS (bin modG (bltE intG (consA (fnE 23 (consA (bin ixG (brwE 0) (conE (.int 0))) (consA (bltE intG (consA (bin ixG (brwE 0) (conE (.int 1))) nilA)) nilA))) nilA)) (brwE 1))))
noncomputable def B_law_day : EvS :=
  (retS (ifE (blT (bin eqG (fnE 18 (consA (varE 0) (consA (conE (.int 9)) nilA))) (conE (.int 0)))) (bin subG (conE (.int 999999)) (fnE 18 (consA (varE 0) (consA (conE (.int 6)) nilA)))) (fnE 18 (consA (varE 0) (consA (conE (.int 9)) nilA)))))
noncomputable def B_check_spans : EvS :=
  (forS (argI enumG (consA (varE 0) nilA)) (.tp [(.nm 1), (.nm 2)])
  (ifS (notT (blT (fnE 4 (consA (varE 2) nilA))))
  (raiseS 0 (consA (varE 1) nilA))
  nxS))
noncomputable def B_joined : EvS :=
  (seqS (ownS 1 (bltF lstG nilA))
  (seqS (forS (seqI (varE 0)) (.tp [(.nm 2), (.nm 3)])
  (ifS (andT (blT (bin neG (brwE 1) (frzE (bltF lstG nilA)))) (blT (bin leG (brwE 2) (bin addA (bin ixG (bin ixG (brwE 1) (una negG (conE (.int 1)))) (conE (.int 1))) (conE (.int 1))))))
  (setS 1 (una negG (conE (.int 1))) (bltE tupG (consA (bin ixG (bin ixG (brwE 1) (una negG (conE (.int 1)))) (conE (.int 0))) (consA (bltE maxG (consA (bin ixG (bin ixG (brwE 1) (una negG (conE (.int 1)))) (conE (.int 1))) (consA (brwE 3) nilA))) nilA))))
  (appS 1 (bltE tupG (consA (varE 2) (consA (varE 3) nilA))))))
  (retS (bltE tupleG (consA (brwE 1) nilA)))))
noncomputable def B_is_whole : EvS :=
  (retS (andE (isE "int" (brwE 0)) (andE (notE (isE "bool" (brwE 0))) (chainE leG leG (brwE 1) (brwE 0) (brwE 2)))))
noncomputable def B_law_number : EvS :=
  (seqS (ifS (blT (bin eqG (brwE 0) (frzE (bltF lstG nilA))))
  (retS (bltE intG (consA (bin modG (bin addA (bin mulG (brwE 1) (conE (.int 48271))) (conE (.int 12345))) (conE (.int 2147483647))) nilA)))
  nxS)
  (seqS (asgS (.nm 2) (bin ixG (brwE 0) (bin modG (brwE 1) (bltE lenG (consA (brwE 0) nilA)))))
  (seqS (ifS (blT (bin geG (bltE absG (consA (brwE 2) nilA)) (bin powG (conE (.int 10)) (conE (.int 60)))))
  (asgS (.nm 2) (bin modG (brwE 2) (bin powG (conE (.int 10)) (conE (.int 18)))))
  nxS)
  (seqS (asgS (.nm 3) (bin modG (bin addA (bin mulG (bin addA (brwE 2) (bin mulG (conE (.int 977)) (brwE 1))) (conE (.int 48271))) (bin mulG (conE (.int 31)) (bltE lenG (consA (brwE 0) nilA)))) (conE (.int 2147483647))))
  (retS (bltE intG (consA (bin modG (bin addA (bin mulG (bin modG (bin mulG (brwE 3) (conE (.int 69621))) (conE (.int 2147483629))) (conE (.int 16807))) (brwE 1)) (conE (.int 2147483587))) nilA)))))))
noncomputable def tab : Tab
  | 0 => some ⟨1, 20, B_law⟩
  | 1 => some ⟨1, 5, B_law_rows⟩
  | 2 => some ⟨1, 1, B_normal⟩
  | 3 => some ⟨1, 3, B_law_is_form⟩
  | 4 => some ⟨1, 1, B_is_span⟩
  | 5 => some ⟨2, 2, B_union⟩
  | 6 => some ⟨2, 7, B_meet⟩
  | 7 => some ⟨2, 2, B_less⟩
  | 8 => some ⟨1, 5, B_others⟩
  | 9 => some ⟨2, 2, B_unlike⟩
  | 10 => some ⟨0, 0, B_law_days⟩
  | 11 => some ⟨2, 5, B_has⟩
  | 12 => some ⟨1, 3, B_how_many⟩
  | 13 => some ⟨2, 2, B_is_part⟩
  | 14 => some ⟨1, 4, B_breaks⟩
  | 15 => some ⟨2, 2, B_law_pick⟩
  | 16 => some ⟨1, 2, B_is_name⟩
  | 17 => some ⟨1, 1, B_is_day⟩
  | 18 => some ⟨2, 2, B_law_take⟩
  | 19 => some ⟨1, 1, B_law_day⟩
  | 20 => some ⟨1, 3, B_check_spans⟩
  | 21 => some ⟨1, 4, B_joined⟩
  | 22 => some ⟨3, 3, B_is_whole⟩
  | 23 => some ⟨2, 4, B_law_number⟩
  | _ => none
end Dn.K50
namespace Dn.K50
open PySem L2
abbrev PR := Int × Int
abbrev ds (l : List PR) : List D := l.map encP.d
theorem encP_d (p : PR) : encP.d p = .tup [.int p.1, .int p.2] := rfl
/-! ### the defs' bodies -/
theorem t4 (n : Nat) (a : D) (m : Store) : run tab (n+1) 4 [a] m = endS (B_is_span (run tab n) [.dat a] m) := by simp [run, tab]
theorem t17 (n : Nat) (a : D) (m : Store) : run tab (n+1) 17 [a] m = endS (B_is_day (run tab n) [.dat a] m) := by simp [run, tab]
theorem t22 (n : Nat) (a b c : D) (m : Store) : run tab (n+1) 22 [a, b, c] m = endS (B_is_whole (run tab n) [.dat a, .dat b, .dat c] m) := by simp [run, tab]
theorem t20 (n : Nat) (a : D) (m : Store) : run tab (n+1) 20 [a] m = endS (B_check_spans (run tab n) [.dat a, .em, .em] m) := by simp [run, tab]
theorem t21 (n : Nat) (a : D) (m : Store) : run tab (n+1) 21 [a] m = endS (B_joined (run tab n) [.dat a, .em, .em, .em] m) := by simp [run, tab]
theorem t2 (n : Nat) (a : D) (m : Store) : run tab (n+1) 2 [a] m = endS (B_normal (run tab n) [.dat a] m) := by simp [run, tab]
theorem t5 (n : Nat) (a b : D) (m : Store) : run tab (n+1) 5 [a, b] m = endS (B_union (run tab n) [.dat a, .dat b] m) := by simp [run, tab]
theorem t6 (n : Nat) (a b : D) (m : Store) : run tab (n+1) 6 [a, b] m = endS (B_meet (run tab n) [.dat a, .dat b, .em, .em, .em, .em, .em] m) := by simp [run, tab]
theorem t7 (n : Nat) (a b : D) (m : Store) : run tab (n+1) 7 [a, b] m = endS (B_less (run tab n) [.dat a, .dat b] m) := by simp [run, tab]
theorem t8 (n : Nat) (a : D) (m : Store) : run tab (n+1) 8 [a] m = endS (B_others (run tab n) [.dat a, .em, .em, .em, .em] m) := by simp [run, tab]
theorem t9 (n : Nat) (a b : D) (m : Store) : run tab (n+1) 9 [a, b] m = endS (B_unlike (run tab n) [.dat a, .dat b] m) := by simp [run, tab]
theorem t11 (n : Nat) (a b : D) (m : Store) : run tab (n+1) 11 [a, b] m = endS (B_has (run tab n) [.dat a, .dat b, .em, .em, .em] m) := by simp [run, tab]
theorem t12 (n : Nat) (a : D) (m : Store) : run tab (n+1) 12 [a] m = endS (B_how_many (run tab n) [.dat a, .em, .em] m) := by simp [run, tab]
theorem t13 (n : Nat) (a b : D) (m : Store) : run tab (n+1) 13 [a, b] m = endS (B_is_part (run tab n) [.dat a, .dat b] m) := by simp [run, tab]
theorem t14 (n : Nat) (a : D) (m : Store) : run tab (n+1) 14 [a] m = endS (B_breaks (run tab n) [.dat a, .em, .em, .em] m) := by simp [run, tab]
theorem t3 (n : Nat) (a : D) (m : Store) : run tab (n+1) 3 [a] m = endS (B_law_is_form (run tab n) [.dat a, .em, .em] m) := by simp [run, tab]
/-! ### is_whole, is_day, is_span -/
def dayB : D → Bool
  | .int i => decide (0 ≤ i) && decide (i ≤ 999999)
  | _ => false
def Simple : D → Prop
  | .non => True
  | .bl _ => True
  | .int _ => True
  | .str _ => True
  | .tup _ => True
  | .lst _ => True
  | _ => False
theorem kit_ii : kitB "int" "int" = some true := by decide +kernel
theorem kit_bi : kitB "bool" "int" = some true := by decide +kernel
theorem kit_bb : kitB "bool" "bool" = some true := by decide +kernel
theorem kit_ib : kitB "int" "bool" = some false := by decide +kernel
theorem kit_ni : kitB "NoneType" "int" = some false := by decide +kernel
theorem kit_si : kitB "str" "int" = some false := by decide +kernel
theorem kit_ti : kitB "tuple" "int" = some false := by decide +kernel
theorem kit_li : kitB "list" "int" = some false := by decide +kernel
theorem kit_it : kitB "int" "tuple" = some false := by decide +kernel
theorem kit_bt : kitB "bool" "tuple" = some false := by decide +kernel
theorem kit_nt : kitB "NoneType" "tuple" = some false := by decide +kernel
theorem kit_st : kitB "str" "tuple" = some false := by decide +kernel
theorem kit_tt : kitB "tuple" "tuple" = some true := by decide +kernel
theorem kit_lt : kitB "list" "tuple" = some false := by decide +kernel
theorem whole_ok (n : Nat) (d : D) (h : Simple d) (m : Store) : run tab (n+1) 22 [d, .int 0, .int 999999] m = .ok (.bl (dayB d)) m := by
  rw [t22]
  unfold B_is_whole
  cases d with
  | int i =>
    simp [kit_ii, kit_ib, dayB]
    by_cases h1 : 0 ≤ i <;> simp [h1]
  | non => simp [kit_ni, dayB]
  | bl b => simp [kit_bi, kit_bb, dayB]
  | str b => simp [kit_si, dayB]
  | tup b => simp [kit_ti, dayB]
  | lst b => simp [kit_li, dayB]
  | _ => exact h.elim
theorem day_ok (n : Nat) (d : D) (h : Simple d) (m : Store) : run tab (n+2) 17 [d] m = .ok (.bl (dayB d)) m := by
  rw [t17]
  unfold B_is_day
  simp [whole_ok n d h]
def spanB : D → Bool
  | .tup [a, b] => dayB a && (dayB b && (match a, b with
    | .int i, .int j => decide (i ≤ j)
    | _, _ => false))
  | _ => false
theorem atI_nat {α : Type} (xs : List α) (i : Nat) : atI xs (i : Int) = xs[i]? := by
  unfold atI ixN
  rw [if_pos (by omega)]
  by_cases h : i < xs.length
  · rw [if_pos (by omega)]; simp
  · rw [if_neg (by omega), List.getElem?_eq_none (by omega)]; rfl
theorem atI0 {α : Type} (a : α) (l : List α) : atI (a :: l) 0 = some a := (atI_nat (a :: l) 0).trans rfl
theorem atI1 {α : Type} (a b : α) (l : List α) : atI (a :: b :: l) 1 = some b := (atI_nat (a :: b :: l) 1).trans rfl
theorem ixN_last {α : Type} (l : List α) (x : α) : ixN (l ++ [x]).length (-1) = some l.length := by
  unfold ixN
  rw [if_neg (by omega)]
  simp only [List.length_append, List.length_singleton]
  rw [if_pos (by omega)]
  congr 1
  omega
theorem atI_last {α : Type} (l : List α) (x : α) : atI (l ++ [x]) (-1) = some x := by
  unfold atI
  rw [ixN_last]
  simp
theorem span_ok (n : Nat) (d : D) (h : Simple d) (hs : ∀ xs, d = .tup xs → ∀ x ∈ xs, Simple x) (m : Store) : run tab (n+3) 4 [d] m = .ok (.bl (spanB d)) m := by
  rw [t4]
  unfold B_is_span
  cases d with
  | tup b =>
    match b, hs b rfl with
    | [], _ => simp [kit_tt, spanB]
    | [x], _ => simp [kit_tt, spanB]
    | [x, y], h' =>
      have h1 := h' x (by simp)
      have h2 := h' y (by simp)
      simp [kit_tt, atI0, atI1, day_ok n x h1, day_ok n y h2, spanB]
      cases hx : dayB x with
      | false => simp
      | true =>
        cases hy : dayB y with
        | false => simp
        | true =>
          cases x with
          | int i =>
            cases y with
            | int j => simp
            | _ => cases hy
          | _ => cases hx
    | x :: y :: z :: l, _ =>
      have : ¬ ((l.length : Int) + 1 + 1 + 1 = 2) := by omega
      simp [kit_tt, spanB, this]
  | int i => simp [kit_it, spanB]
  | non => simp [kit_nt, spanB]
  | bl b => simp [kit_bt, spanB]
  | str b => simp [kit_st, spanB]
  | lst b => simp [kit_lt, spanB]
  | _ => exact h.elim
end Dn.K50
namespace Dn.K50
open PySem L2
theorem nil_or_last {α : Type} : ∀ l : List α, l = [] ∨ ∃ k x, l = k ++ [x]
  | [] => .inl rfl
  | a :: l => by
    rcases nil_or_last l with h | ⟨k, x, h⟩
    · exact .inr ⟨[], a, by rw [h]; rfl⟩
    · exact .inr ⟨a :: k, x, by rw [h]; rfl⟩
/-! ### joined -/
def jstep (acc : List PR) (p : PR) : List PR := match acc.reverse with
  | [] => [p]
  | q :: r => if p.1 ≤ q.2 + 1 then r.reverse ++ [(q.1, if p.2 > q.2 then p.2 else q.2)] else acc ++ [p]
theorem jstep_nil (p : PR) : jstep [] p = [p] := rfl
theorem jstep_last (l : List PR) (q p : PR) : jstep (l ++ [q]) p = if p.1 ≤ q.2 + 1 then l ++ [(q.1, if p.2 > q.2 then p.2 else q.2)] else (l ++ [q]) ++ [p] := by
  unfold jstep
  simp
def joinedM (l : List PR) : List PR := l.foldl jstep []
theorem jstep_len (acc : List PR) (p : PR) : (jstep acc p).length ≤ acc.length + 1 := by
  rcases nil_or_last acc with rfl | ⟨l, q, rfl⟩
  · simp [jstep_nil]
  · rw [jstep_last]
    split <;> simp
theorem ne_nil (m : Store) (acc : List PR) : neG m (.lst (ds acc)) (.lst []) = some (.bl (!decide (acc = []))) := encP.neL m acc []
theorem ne_last (m : Store) (l : List PR) (a b : Int) : neG m (.lst (ds l ++ [.tup [.int a, .int b]])) (.lst []) = some (.bl true) := by
  have := encP.neL m (l ++ [(a, b)]) []
  simpa [ds, encP_d] using this
theorem ixN_len (n : Nat) : ixN (n + 1) (-1) = some n := by
  unfold ixN
  rw [if_neg (by omega), if_pos (by omega)]
  congr 1
  omega
theorem set_last (l : List PR) (x y : D) : (ds l ++ [x]).set l.length y = ds l ++ [y] := by
  have e : l.length = (ds l).length := by simp [ds]
  rw [e, List.set_append_right _ _ (Nat.le_refl _)]
  simp
def jbody : EvS :=
  (ifS (andT (blT (bin neG (brwE 1) (frzE (bltF lstG nilA)))) (blT (bin leG (brwE 2) (bin addA (bin ixG (bin ixG (brwE 1) (una negG (conE (.int 1)))) (conE (.int 1))) (conE (.int 1))))))
  (setS 1 (una negG (conE (.int 1))) (bltE tupG (consA (bin ixG (bin ixG (brwE 1) (una negG (conE (.int 1)))) (conE (.int 0))) (consA (bltE maxG (consA (bin ixG (bin ixG (brwE 1) (una negG (conE (.int 1)))) (conE (.int 1))) (consA (brwE 3) nilA))) nilA))))
  (appS 1 (bltE tupG (consA (varE 2) (consA (varE 3) nilA)))))
theorem jbody_ok (C : Orc) (r : D) (acc : List PR) (p : PR) (m : Store) (h : acc.length < LIM) : jbody C [.dat r, .own (.lst (ds acc)), .dat (.int p.1), .dat (.int p.2)] m = .nx [.dat r, .own (.lst (ds (jstep acc p))), .dat (.int p.1), .dat (.int p.2)] m := by
  have h' : (ds acc).length < LIM := by simpa [ds] using h
  unfold jbody
  rcases nil_or_last acc with rfl | ⟨l, q, rfl⟩
  · simp [ne_nil, jstep_nil, short, encP_d]
    simp [ds, neG, twoP, toP, toPs, SeqAt.shaped, PyData.canLay0, PyData.canLayAll0, PyData.depth, PyData.depthAll, PyData.eqv, PyData.eqvAll, encP_d, LIM]
  · have e1 : ds (l ++ [q]) = ds l ++ [encP.d q] := by simp [ds]
    simp only [jstep_last]
    by_cases c : p.1 ≤ q.2 + 1
    · simp [ne_last, e1, atI_last, encP_d, atI0, atI1, short, c, ixN_len, set_last]
    · have hl : l.length + 1 < LIM := by simpa using h
      simp [ne_last, e1, atI_last, encP_d, atI0, atI1, short, c, hl]
theorem joined_loop (C : Orc) (r : D) (m : Store) : ∀ (ps acc : List PR) (c2 c3 : Cell), acc.length + ps.length < LIM → ∃ c2' c3', forL C (.tp [.nm 2, .nm 3]) jbody (ds ps) [.dat r, .own (.lst (ds acc)), c2, c3] m = .nx [.dat r, .own (.lst (ds (ps.foldl jstep acc))), c2', c3'] m
  | [], acc, c2, c3, _ => ⟨c2, c3, by simp [ds, forL]⟩
  | p :: ps, acc, c2, c3, h => by
    have h1 : acc.length < LIM := by simp at h; omega
    have h2 := jstep_len acc p
    obtain ⟨c2', c3', ih⟩ := joined_loop C r m ps (jstep acc p) (.dat (.int p.1)) (.dat (.int p.2)) (by simp at h; omega)
    refine ⟨c2', c3', ?_⟩
    have e : ds (p :: ps) = .tup [.int p.1, .int p.2] :: ds ps := rfl
    rw [e]
    unfold forL
    simp only [asg, asgs, List.length_cons, List.length_nil, List.set_cons_succ, List.set_cons_zero, Option.bind_some, if_true, Nat.reduceAdd, Nat.reduceLT]
    rw [jbody_ok C r acc p m h1]
    exact ih
theorem joined_ok (n : Nat) (ps : List PR) (m : Store) (h : ps.length < LIM) : run tab (n+1) 21 [.lst (ds ps)] m = .ok (.tup (ds (joinedM ps))) m := by
  rw [t21]
  have hb : B_joined = seqS (ownS 1 (bltF lstG nilA)) (seqS (forS (seqI (varE 0)) (.tp [(.nm 2), (.nm 3)]) jbody) (retS (bltE tupleG (consA (brwE 1) nilA)))) := rfl
  rw [hb]
  obtain ⟨c2, c3, e⟩ := joined_loop (run tab n) (.lst (ds ps)) m ps [] .em .em (by simpa using h)
  simp [short] at e ⊢
  rw [e]
  simp [joinedM]
end Dn.K50
namespace Dn.K50
open PySem L2
/-! ### meet -/
def mx (a b : Int) : Int := if b > a then b else a
def mn (a b : Int) : Int := if b < a then b else a
def both (a b : PR) : List PR := if mx a.1 b.1 ≤ mn a.2 b.2 then [(mx a.1 b.1, mn a.2 b.2)] else []
def meetM : List PR → List PR → List PR
  | a :: as, b :: bs => both a b ++ (if a.2 < b.2 then meetM as (b :: bs) else meetM (a :: as) bs)
  | _, _ => []
termination_by as bs => as.length + bs.length
def mcond : EvT := (andT (blT (bin ltG (brwE 3) (bltE lenG (consA (brwE 0) nilA)))) (blT (bin ltG (brwE 4) (bltE lenG (consA (brwE 1) nilA)))))
def mbody : EvS :=
  (seqS (parS [5, 6] (consM (bltE maxG (consA (bin ixG (bin ixG (brwE 0) (brwE 3)) (conE (.int 0))) (consA (bin ixG (bin ixG (brwE 1) (brwE 4)) (conE (.int 0))) nilA))) (consM (bltE minG (consA (bin ixG (bin ixG (brwE 0) (brwE 3)) (conE (.int 1))) (consA (bin ixG (bin ixG (brwE 1) (brwE 4)) (conE (.int 1))) nilA))) nilM)))
  (seqS (ifS (blT (bin leG (brwE 5) (brwE 6)))
  (appS 2 (bltE tupG (consA (varE 5) (consA (varE 6) nilA))))
  nxS)
  (ifS (blT (bin ltG (bin ixG (bin ixG (brwE 0) (brwE 3)) (conE (.int 1))) (bin ixG (bin ixG (brwE 1) (brwE 4)) (conE (.int 1)))))
  (asgS (.nm 3) (bin addA (brwE 3) (conE (.int 1))))
  (asgS (.nm 4) (bin addA (brwE 4) (conE (.int 1)))))))
theorem atI_ds {l : List PR} {i : Nat} {p : PR} (h : l[i]? = some p) : atI (ds l) (i : Int) = some (.tup [.int p.1, .int p.2]) := by
  rw [atI_nat, ds, List.getElem?_map, h]; rfl
theorem maxG_mx (m : Store) (i j : Int) : maxG m [.int i, .int j] = some (.int (mx i j)) := rfl
theorem minG_mn (m : Store) (i j : Int) : minG m [.int i, .int j] = some (.int (mn i j)) := rfl
theorem mcond_ok (C : Orc) (a b : List PR) (f c5 c6 : Cell) (i j : Nat) (m : Store) : mcond C [.dat (.tup (ds a)), .dat (.tup (ds b)), f, .dat (.int i), .dat (.int j), c5, c6] m = .ok (decide (i < a.length) && decide (j < b.length)) m := by
  unfold mcond
  simp
  by_cases h : i < a.length <;> simp [h]
theorem mbody_ok (C : Orc) (a b acc : List PR) (c5 c6 : Cell) (i j : Nat) (p q : PR) (m : Store) (hp : a[i]? = some p) (hq : b[j]? = some q) (hl : acc.length < LIM) :
    mbody C [.dat (.tup (ds a)), .dat (.tup (ds b)), .own (.lst (ds acc)), .dat (.int i), .dat (.int j), c5, c6] m =
      .nx [.dat (.tup (ds a)), .dat (.tup (ds b)), .own (.lst (ds (acc ++ both p q))), .dat (.int ((if p.2 < q.2 then i + 1 else i : Nat) : Int)), .dat (.int ((if p.2 < q.2 then j else j + 1 : Nat) : Int)), .dat (.int (mx p.1 q.1)), .dat (.int (mn p.2 q.2))] m := by
  have e1 := atI_ds hp
  have e2 := atI_ds hq
  have hl' : (ds acc).length < LIM := by simpa [ds] using hl
  unfold mbody both
  by_cases c1 : mx p.1 q.1 ≤ mn p.2 q.2 <;> by_cases c2 : p.2 < q.2 <;> simp [-maxG, -minG, maxG_mx, minG_mn, e1, e2, atI0, atI1, short, c1, c2, hl, encP_d]
theorem meet_loop (C : Orc) (a b : List PR) (m : Store) : ∀ (N i j : Nat) (acc : List PR) (c5 c6 : Cell), (a.length - i) + (b.length - j) = N → acc.length + N < LIM → ∃ i' j' c5' c6',
    whileS mcond mbody C [.dat (.tup (ds a)), .dat (.tup (ds b)), .own (.lst (ds acc)), .dat (.int i), .dat (.int j), c5, c6] m = .nx [.dat (.tup (ds a)), .dat (.tup (ds b)), .own (.lst (ds (acc ++ meetM (a.drop i) (b.drop j)))), i', j', c5', c6'] m := by
  intro N
  induction N with
  | zero =>
    intro i j acc c5 c6 h hl
    refine ⟨.dat (.int i), .dat (.int j), c5, c6, ?_⟩
    rw [whileS_eq]
    unfold turnW
    rw [mcond_ok]
    have : (decide (i < a.length) && decide (j < b.length)) = false := by simp; omega
    rw [this, List.drop_eq_nil_of_le (by omega : a.length ≤ i)]
    simp [meetM]
  | succ N ih =>
    intro i j acc c5 c6 h hl
    by_cases hi : i < a.length
    · by_cases hj : j < b.length
      · have hp : a[i]? = some a[i] := List.getElem?_eq_getElem hi
        have hq : b[j]? = some b[j] := List.getElem?_eq_getElem hj
        have hb : (both a[i] b[j]).length ≤ 1 := by unfold both; split <;> simp
        rw [whileS_eq]
        unfold turnW
        rw [mcond_ok]
        have : (decide (i < a.length) && decide (j < b.length)) = true := by simp [hi, hj]
        rw [this]
        dsimp only
        rw [mbody_ok C a b acc c5 c6 i j _ _ m hp hq (by omega)]
        dsimp only
        by_cases c : a[i].2 < b[j].2
        · obtain ⟨i', j', c5', c6', e⟩ := ih (i + 1) j (acc ++ both a[i] b[j]) (.dat (.int (mx a[i].1 b[j].1))) (.dat (.int (mn a[i].2 b[j].2))) (by omega) (by simp; omega)
          refine ⟨i', j', c5', c6', ?_⟩
          simp only [c, if_true]
          rw [e]
          rw [List.drop_eq_getElem_cons hi, List.drop_eq_getElem_cons hj]
          conv => rhs; unfold meetM
          simp [c]
        · obtain ⟨i', j', c5', c6', e⟩ := ih i (j + 1) (acc ++ both a[i] b[j]) (.dat (.int (mx a[i].1 b[j].1))) (.dat (.int (mn a[i].2 b[j].2))) (by omega) (by simp; omega)
          refine ⟨i', j', c5', c6', ?_⟩
          simp only [c, if_false]
          rw [e]
          rw [List.drop_eq_getElem_cons hi, List.drop_eq_getElem_cons hj]
          conv => rhs; unfold meetM
          simp [c]
      · refine ⟨.dat (.int i), .dat (.int j), c5, c6, ?_⟩
        rw [whileS_eq]
        unfold turnW
        rw [mcond_ok]
        have : (decide (i < a.length) && decide (j < b.length)) = false := by simp [hj]
        rw [this, List.drop_eq_nil_of_le (by omega : b.length ≤ j)]
        simp [meetM]
    · refine ⟨.dat (.int i), .dat (.int j), c5, c6, ?_⟩
      rw [whileS_eq]
      unfold turnW
      rw [mcond_ok]
      have : (decide (i < a.length) && decide (j < b.length)) = false := by simp [hi]
      rw [this, List.drop_eq_nil_of_le (by omega : a.length ≤ i)]
      simp [meetM]
theorem meet_ok (n : Nat) (a b : List PR) (m : Store) (h : a.length + b.length < LIM) : run tab (n+1) 6 [.tup (ds a), .tup (ds b)] m = .ok (.tup (ds (meetM a b))) m := by
  rw [t6]
  have hb : B_meet = seqS (parS [2, 3, 4] (newM (bltF lstG nilA) (consM (conE (.int 0)) (consM (conE (.int 0)) nilM)))) (seqS (whileS mcond mbody) (retS (bltE tupleG (consA (brwE 2) nilA)))) := rfl
  rw [hb]
  obtain ⟨i', j', c5, c6, e⟩ := meet_loop (run tab n) a b m _ 0 0 [] .em .em rfl (by simpa using h)
  simp [short] at e ⊢
  rw [e]
  simp
/-! ### others -/
def ogap (b : Int) (p : PR) : List PR := if b < p.1 then [(b, p.1 - 1)] else []
def othersG : List PR → Int → List PR
  | [], b => if b ≤ 999999 then [(b, 999999)] else []
  | p :: ps, b => ogap b p ++ othersG ps (p.2 + 1)
def othersM (l : List PR) : List PR := othersG l 0
def obody : EvS :=
  (seqS (ifS (blT (bin ltG (brwE 2) (brwE 3)))
  (appS 1 (bltE tupG (consA (varE 2) (consA (bin subG (brwE 3) (conE (.int 1))) nilA))))
  nxS)
  (asgS (.nm 2) (bin addA (brwE 4) (conE (.int 1)))))
def oend : EvS := (seqS (ifS (blT (bin leG (brwE 2) (conE (.int 999999))))
  (appS 1 (bltE tupG (consA (varE 2) (consA (conE (.int 999999)) nilA))))
  nxS)
  (retS (bltE tupleG (consA (brwE 1) nilA))))
theorem others_loop (C : Orc) (r : D) (m : Store) : ∀ (ps acc : List PR) (b : Int) (c3 c4 : Cell), acc.length + ps.length + 1 < LIM → ∃ acc' b' c3' c4',
    forL C (.tp [.nm 3, .nm 4]) obody (ds ps) [.dat r, .own (.lst (ds acc)), .dat (.int b), c3, c4] m = .nx [.dat r, .own (.lst (ds acc')), .dat (.int b'), c3', c4'] m ∧ acc'.length ≤ acc.length + ps.length ∧ acc' ++ othersG [] b' = acc ++ othersG ps b
  | [], acc, b, c3, c4, _ => ⟨acc, b, c3, c4, by simp [ds, forL], by simp, rfl⟩
  | p :: ps, acc, b, c3, c4, h => by
    have h1 : acc.length < LIM := by simp at h; omega
    have h2 : (ogap b p).length ≤ 1 := by unfold ogap; split <;> simp
    obtain ⟨acc', b', c3', c4', ih, hl, he⟩ := others_loop C r m ps (acc ++ ogap b p) (p.2 + 1) (.dat (.int p.1)) (.dat (.int p.2)) (by simp at h ⊢; omega)
    refine ⟨acc', b', c3', c4', ?_, by simp at hl ⊢; omega, by rw [he]; simp [othersG]⟩
    have e : ds (p :: ps) = .tup [.int p.1, .int p.2] :: ds ps := rfl
    rw [e]
    unfold forL
    simp only [asg, asgs, List.length_cons, List.length_nil, List.set_cons_succ, List.set_cons_zero, Option.bind_some, if_true, Nat.reduceAdd, Nat.reduceLT]
    have eb : obody C [.dat r, .own (.lst (ds acc)), .dat (.int b), .dat (.int p.1), .dat (.int p.2)] m = .nx [.dat r, .own (.lst (ds (acc ++ ogap b p))), .dat (.int (p.2 + 1)), .dat (.int p.1), .dat (.int p.2)] m := by
      unfold obody ogap
      by_cases c : b < p.1 <;> simp [c, short, h1, encP_d]
    rw [eb]
    exact ih
theorem others_ok (n : Nat) (a : List PR) (m : Store) (h : a.length + 1 < LIM) : run tab (n+1) 8 [.tup (ds a)] m = .ok (.tup (ds (othersM a))) m := by
  rw [t8]
  have hb : B_others = seqS (parS [1, 2] (newM (bltF lstG nilA) (consM (conE (.int 0)) nilM))) (seqS (forS (seqI (varE 0)) (.tp [(.nm 3), (.nm 4)]) obody) oend) := rfl
  rw [hb]
  obtain ⟨acc', b', c3, c4, e, hl, he⟩ := others_loop (run tab n) (.tup (ds a)) m a [] 0 .em .em (by simpa using h)
  have hl' : acc'.length < LIM := by simp at hl; omega
  unfold oend
  simp [short] at e ⊢
  rw [e]
  unfold othersM
  simp at he
  rw [← he]
  unfold othersG
  by_cases c : b' ≤ 999999 <;> simp [c, hl', encP_d]
end Dn.K50
namespace Dn.K50
open PySem L2
/-! ### has -/
def lowM (l : List PR) (day : Int) (lo hi : Nat) : Nat := if h : lo < hi then (match l[(lo + hi) / 2]? with
  | some p => if p.2 < day then lowM l day ((lo + hi) / 2 + 1) hi else lowM l day lo ((lo + hi) / 2)
  | none => lo) else lo
termination_by hi - lo
def hcond : EvT := (blT (bin ltG (brwE 2) (brwE 3)))
def hbody : EvS :=
  (seqS (asgS (.nm 4) (bin fdivG (bin addA (brwE 2) (brwE 3)) (conE (.int 2))))
  (ifS (blT (bin ltG (bin ixG (bin ixG (brwE 0) (brwE 4)) (conE (.int 1))) (brwE 1)))
  (asgS (.nm 2) (bin addA (brwE 4) (conE (.int 1))))
  (asgS (.nm 3) (varE 4))))
theorem hbody_ok (C : Orc) (l : List PR) (day lo hi : Int) (k : Nat) (p : PR) (c4 : Cell) (m : Store) (ek : (lo + hi) / 2 = (k : Int)) (hp : l[k]? = some p) :
    hbody C [.dat (.tup (ds l)), .dat (.int day), .dat (.int lo), .dat (.int hi), c4] m = .nx [.dat (.tup (ds l)), .dat (.int day), .dat (.int (if p.2 < day then (k : Int) + 1 else lo)), .dat (.int (if p.2 < day then hi else (k : Int))), .dat (.int (k : Int))] m := by
  have e1 := atI_ds hp
  unfold hbody
  by_cases d : p.2 < day <;> simp [ek, e1, atI1, d]
theorem has_loop (C : Orc) (l : List PR) (day : Int) (m : Store) : ∀ (N lo hi : Nat) (c4 : Cell), hi - lo ≤ N → hi ≤ l.length → lo ≤ hi → ∃ c4',
    whileS hcond hbody C [.dat (.tup (ds l)), .dat (.int day), .dat (.int lo), .dat (.int hi), c4] m = .nx [.dat (.tup (ds l)), .dat (.int day), .dat (.int (lowM l day lo hi : Nat)), .dat (.int (lowM l day lo hi : Nat)), c4'] m := by
  intro N
  induction N with
  | zero =>
    intro lo hi c4 h1 h2 h3
    have e : lo = hi := by omega
    subst e
    refine ⟨c4, ?_⟩
    rw [whileS_eq]
    unfold turnW lowM
    simp [hcond]
  | succ N ih =>
    intro lo hi c4 h1 h2 h3
    by_cases c : lo < hi
    · have hm : (lo + hi) / 2 < l.length := by omega
      have hp : l[(lo + hi) / 2]? = some l[(lo + hi) / 2] := List.getElem?_eq_getElem hm
      have e1 := atI_ds hp
      have ei : ((lo : Int) + (hi : Int)) / 2 = (((lo + hi) / 2 : Nat) : Int) := by omega
      rw [whileS_eq]
      unfold turnW
      have hc : hcond C [.dat (.tup (ds l)), .dat (.int day), .dat (.int lo), .dat (.int hi), c4] m = .ok true m := by
        unfold hcond; simp [c]
      rw [hc]
      dsimp only
      by_cases d : l[(lo + hi) / 2].2 < day
      · have hb : hbody C [.dat (.tup (ds l)), .dat (.int day), .dat (.int lo), .dat (.int hi), c4] m = .nx [.dat (.tup (ds l)), .dat (.int day), .dat (.int (((lo + hi) / 2 + 1 : Nat) : Int)), .dat (.int hi), .dat (.int (((lo + hi) / 2 : Nat) : Int))] m := by
          rw [hbody_ok C l day lo hi ((lo + hi) / 2) _ c4 m ei hp, if_pos d, if_pos d]; rfl
        rw [hb]
        dsimp only
        obtain ⟨c4', e⟩ := ih ((lo + hi) / 2 + 1) hi (.dat (.int (((lo + hi) / 2 : Nat) : Int))) (by omega) h2 (by omega)
        refine ⟨c4', ?_⟩
        rw [e]
        conv => rhs; unfold lowM
        rw [dif_pos c, hp]
        simp only [d, if_true]
      · have hb : hbody C [.dat (.tup (ds l)), .dat (.int day), .dat (.int lo), .dat (.int hi), c4] m = .nx [.dat (.tup (ds l)), .dat (.int day), .dat (.int lo), .dat (.int (((lo + hi) / 2 : Nat) : Int)), .dat (.int (((lo + hi) / 2 : Nat) : Int))] m := by
          rw [hbody_ok C l day lo hi ((lo + hi) / 2) _ c4 m ei hp, if_neg d, if_neg d]
        rw [hb]
        dsimp only
        obtain ⟨c4', e⟩ := ih lo ((lo + hi) / 2) (.dat (.int (((lo + hi) / 2 : Nat) : Int))) (by omega) (by omega) (by omega)
        refine ⟨c4', ?_⟩
        rw [e]
        conv => rhs; unfold lowM
        rw [dif_pos c, hp]
        simp only [d, if_false]
    · have e : lo = hi := by omega
      subst e
      refine ⟨c4, ?_⟩
      rw [whileS_eq]
      unfold turnW lowM
      simp [hcond]
def hasM (l : List PR) (day : Int) : Bool := match l[lowM l day 0 l.length]? with
  | some p => decide (p.1 ≤ day)
  | none => false
theorem lowM_le (l : List PR) (day : Int) : ∀ (N lo hi : Nat), hi - lo ≤ N → lo ≤ hi → lowM l day lo hi ≤ hi := by
  intro N
  induction N with
  | zero => intro lo hi h1 h2; unfold lowM; rw [dif_neg (by omega)]; omega
  | succ N ih =>
    intro lo hi h1 h2
    unfold lowM
    by_cases c : lo < hi
    · rw [dif_pos c]
      split
      · split
        · exact ih _ _ (by omega) (by omega)
        · have := ih lo ((lo + hi) / 2) (by omega) (by omega); omega
      · omega
    · rw [dif_neg c]; omega
theorem has_ok (n : Nat) (l : List PR) (day : Int) (m : Store) : run tab (n+1) 11 [.tup (ds l), .int day] m = .ok (.bl (hasM l day)) m := by
  rw [t11]
  have hb : B_has = seqS (parS [2, 3] (consM (conE (.int 0)) (consM (bltE lenG (consA (brwE 0) nilA)) nilM))) (seqS (whileS hcond hbody) (retS (andE (bin ltG (brwE 2) (bltE lenG (consA (brwE 0) nilA))) (bin leG (bin ixG (bin ixG (brwE 0) (brwE 2)) (conE (.int 0))) (brwE 1))))) := rfl
  rw [hb]
  obtain ⟨c4, e⟩ := has_loop (run tab n) l day m l.length 0 l.length .em (by omega) (Nat.le_refl _) (Nat.zero_le _)
  have hl := lowM_le l day l.length 0 l.length (by omega) (Nat.zero_le _)
  simp at e ⊢
  rw [e]
  unfold hasM
  by_cases c : lowM l day 0 l.length < l.length
  · have hp : l[lowM l day 0 l.length]? = some l[lowM l day 0 l.length] := List.getElem?_eq_getElem c
    have e1 := atI_ds hp
    simp [c, e1, atI0]
  · have hp : l[lowM l day 0 l.length]? = none := List.getElem?_eq_none (by omega)
    simp [c]
/-! ### how_many, breaks -/
def manyM (l : List PR) : Int := (l.map fun p => p.2 - p.1 + 1).sum
theorem many_ok (n : Nat) (l : List PR) (m : Store) : run tab (n+1) 12 [.tup (ds l)] m = .ok (.int (manyM l)) m := by
  rw [t12]
  unfold B_how_many
  have e := lcL_all (C := run tab n) (g := .tp [(.nm 1), (.nm 2)]) (te := bin addA (bin subG (brwE 2) (brwE 1)) (conE (.int 1))) (e := wipeE [.dat (.tup (ds l)), .em, .em] [1, 2]) (m := m) (f := encP.d) (h := fun p => D.int (p.2 - p.1 + 1)) (l := l)
    (fun p _ => ⟨[.dat (.tup (ds l)), .dat (.int p.1), .dat (.int p.2)], by simp [encP_d], by simp⟩)
  have e2 : lcF (seqI (varE 0)) (.tp [(.nm 1), (.nm 2)]) yesT (bin addA (bin subG (brwE 2) (brwE 1)) (conE (.int 1))) [1, 2] (run tab n) [.dat (.tup (ds l)), .em, .em] m = .ok (l.map fun p => D.int (p.2 - p.1 + 1)) m := by
    unfold lcF
    simpa using e
  simp only [retS, bltE, consA, frzE, nilA, e2, R.bind_ok, sumG]
  rw [toInts_map (fun p : PR => p.2 - p.1 + 1) l]
  rfl
def breaksM (l : List PR) : List Int := l.flatMap fun p => [p.1, p.2 + 1]
abbrev is (l : List Int) : List D := l.map encI.d
def bbody : EvS := (extS 1 (frzE (bltF lstG (consA (varE 2) (consA (bin addA (brwE 3) (conE (.int 1))) nilA)))))
theorem breaks_loop (C : Orc) (r : D) (m : Store) : ∀ (ps : List PR) (acc : List Int) (c2 c3 : Cell), acc.length + 2 * ps.length ≤ LIM → ∃ c2' c3', forL C (.tp [.nm 2, .nm 3]) bbody (ds ps) [.dat r, .own (.lst (is acc)), c2, c3] m = .nx [.dat r, .own (.lst (is (acc ++ breaksM ps))), c2', c3'] m
  | [], acc, c2, c3, _ => ⟨c2, c3, by simp [ds, forL, breaksM]⟩
  | p :: ps, acc, c2, c3, h => by
    obtain ⟨c2', c3', ih⟩ := breaks_loop C r m ps (acc ++ [p.1, p.2 + 1]) (.dat (.int p.1)) (.dat (.int p.2)) (by simp at h ⊢; omega)
    refine ⟨c2', c3', ?_⟩
    have e : ds (p :: ps) = .tup [.int p.1, .int p.2] :: ds ps := rfl
    rw [e]
    unfold forL
    simp only [asg, asgs, List.length_cons, List.length_nil, List.set_cons_succ, List.set_cons_zero, Option.bind_some, if_true, Nat.reduceAdd, Nat.reduceLT]
    have eb : bbody C [.dat r, .own (.lst (is acc)), .dat (.int p.1), .dat (.int p.2)] m = .nx [.dat r, .own (.lst (is (acc ++ [p.1, p.2 + 1]))), .dat (.int p.1), .dat (.int p.2)] m := by
      unfold bbody
      have hl : acc.length + 1 + 1 ≤ LIM := by simp at h; omega
      have hl' : acc.length + 2 ≤ LIM := by omega
      simp [short, is, encI, hl, hl']
    rw [eb]
    have e2 : breaksM (p :: ps) = [p.1, p.2 + 1] ++ breaksM ps := rfl
    rw [e2, ← List.append_assoc]
    exact ih
theorem breaks_ok (n : Nat) (l : List PR) (m : Store) (h : 2 * l.length ≤ LIM) : run tab (n+1) 14 [.tup (ds l)] m = .ok (.lst (is (breaksM l))) m := by
  rw [t14]
  have hb : B_breaks = seqS (ownS 1 (bltF lstG nilA)) (seqS (forS (seqI (varE 0)) (.tp [(.nm 2), (.nm 3)]) bbody) (seqS (frzS 1) (retS (varE 1)))) := rfl
  rw [hb]
  obtain ⟨c2, c3, e⟩ := breaks_loop (run tab n) (.tup (ds l)) m l [] .em .em (by simpa using h)
  simp [short] at e ⊢
  rw [e]
  simp
/-! ### is_form -/
def formB : List PR → Bool
  | p :: q :: l => decide (p.2 + 1 < q.1) && formB (q :: l)
  | _ => true
theorem zips_ds : ∀ l : List PR, zips (ds l) (ds l.tail) = (l.zip l.tail).map fun z => .tup [encP.d z.1, encP.d z.2]
  | [] => by simp [zips]
  | [p] => by simp [zips]
  | p :: q :: l => by
    have ih := zips_ds (q :: l)
    simp only [List.tail_cons] at ih ⊢
    have e : ds (p :: q :: l) = encP.d p :: ds (q :: l) := rfl
    have e2 : ds (q :: l) = encP.d q :: ds l := rfl
    rw [e]
    conv => lhs; rw [e2]
    unfold zips
    rw [← e2, ih]
    simp
theorem all_zip : ∀ l : List PR, ((l.zip l.tail).map fun z => decide (z.1.2 + 1 < z.2.1)).all id = formB l
  | [] => rfl
  | [p] => rfl
  | p :: q :: l => by
    have ih := all_zip (q :: l)
    simp only [List.tail_cons, List.zip_cons_cons, List.map_cons, List.all_cons, id] at ih ⊢
    rw [ih]
    rfl
theorem cut_tail (l : List D) : cutD l (some 1) none = l.tail := by
  unfold cutD HT.sIx
  cases l with
  | nil => rfl
  | cons a l =>
    simp
theorem form_ok (n : Nat) (l : List PR) (m : Store) (h : l.length ≤ 100000) : run tab (n+1) 3 [.tup (ds l)] m = .ok (.bl (formB l)) m := by
  rw [t3]
  unfold B_law_is_form
  have ez : zips (ds l) (ds l).tail = (l.zip l.tail).map fun z => .tup [encP.d z.1, encP.d z.2] := by
    have : (ds l).tail = ds l.tail := by simp [ds]
    rw [this, zips_ds]
  have hs : short (zips (ds l) (ds l).tail) = true := by
    unfold short
    rw [ez]
    simp
    omega
  have e := lcL_all (C := run tab n) (g := .tp [(.nm 1), (.nm 2)]) (te := bin ltG (bin addA (bin ixG (brwE 1) (conE (.int 1))) (conE (.int 1))) (bin ixG (brwE 2) (conE (.int 0)))) (e := wipeE [.dat (.tup (ds l)), .em, .em] [1, 2]) (m := m)
    (f := fun z : PR × PR => .tup [encP.d z.1, encP.d z.2]) (h := fun z => D.bl (decide (z.1.2 + 1 < z.2.1))) (l := l.zip l.tail)
    (fun z _ => ⟨[.dat (.tup (ds l)), .dat (encP.d z.1), .dat (encP.d z.2)], by simp, by simp [encP_d, atI0, atI1]⟩)
  have e2 : lcF (argI zipG (consA (varE 0) (consA (slA (brwE 0) (intO (conE (.int 1))) noO) nilA))) (.tp [(.nm 1), (.nm 2)]) yesT (bin ltG (bin addA (bin ixG (brwE 1) (conE (.int 1))) (conE (.int 1))) (bin ixG (brwE 2) (conE (.int 0)))) [1, 2] (run tab n) [.dat (.tup (ds l)), .em, .em] m
      = .ok ((l.zip l.tail).map fun z => D.bl (decide (z.1.2 + 1 < z.2.1))) m := by
    unfold lcF
    rw [← ez] at e
    simp [cutA, cutG, cut_tail, hs] at e ⊢
    exact e
  simp only [retS, andE, isE, brwE, bltE, consA, frzE, nilA, e2, R.bind_ok, allG, List.getElem?_cons_zero, tyD, isTy, Option.bind_some, kit_tt, R.of_some, isB, if_true]
  rw [toBls_map (fun z : PR × PR => decide (z.1.2 + 1 < z.2.1)) (l.zip l.tail)]
  simp only [Option.map_some, R.of_some, liftS_ok, endS_ret]
  rw [all_zip]
end Dn.K50
namespace Dn.K50
open PySem L2
def Good (x : D) : Prop := Simple x ∧ ∀ ys, x = .tup ys → ∀ y ∈ ys, Simple y
theorem good_p (p : PR) : Good (encP.d p) := ⟨trivial, fun ys e y hy => by
  rw [encP_d] at e
  cases e
  simp at hy
  rcases hy with rfl | rfl <;> trivial⟩
def okP (p : PR) : Bool := decide (0 ≤ p.1) && decide (p.1 ≤ p.2) && decide (p.2 ≤ 999999)
theorem spanB_p (p : PR) : spanB (encP.d p) = okP p := by
  rw [encP_d]
  unfold spanB okP dayB
  rw [Bool.eq_iff_iff]
  simp
  omega
def cbody : EvS := (ifS (notT (blT (fnE 4 (consA (varE 2) nilA))))
  (raiseS 0 (consA (varE 1) nilA))
  nxS)
theorem cbody_ok (n : Nat) (r : D) (k : Int) (x : D) (g : Good x) (m : Store) : cbody (run tab (n+3)) [.dat r, .dat (.int k), .dat x] m = if spanB x = true then .nx [.dat r, .dat (.int k), .dat x] m else .exc 0 [.int k] [.dat r, .dat (.int k), .dat x] m := by
  unfold cbody
  have := span_ok n x g.1 g.2 m
  simp [this]
  cases spanB x <;> simp
theorem check_loop (n : Nat) (r : D) (m : Store) : ∀ (xs : List D) (k : Nat) (c1 c2 : Cell), (∀ x ∈ xs, Good x ∧ spanB x = true) → ∃ c1' c2', forL (run tab (n+3)) (.tp [.nm 1, .nm 2]) cbody (nums k xs) [.dat r, c1, c2] m = .nx [.dat r, c1', c2'] m
  | [], k, c1, c2, _ => ⟨c1, c2, by simp [forL]⟩
  | x :: xs, k, c1, c2, h => by
    obtain ⟨c1', c2', ih⟩ := check_loop n r m xs (k + 1) (.dat (.int k)) (.dat x) fun y hy => h y (List.mem_cons_of_mem _ hy)
    refine ⟨c1', c2', ?_⟩
    obtain ⟨g, s⟩ := h x List.mem_cons_self
    simp only [nums]
    unfold forL
    simp only [asg, asgs, List.length_cons, List.length_nil, List.set_cons_succ, List.set_cons_zero, Option.bind_some, if_true, Nat.reduceAdd, Nat.reduceLT]
    rw [cbody_ok n r k x g m, if_pos s]
    exact ih
theorem check_bad (n : Nat) (r w : D) (m : Store) (gw : Good w) (sw : spanB w = false) (rest : List D) : ∀ (xs : List D) (k : Nat) (c1 c2 : Cell), (∀ x ∈ xs, Good x ∧ spanB x = true) → ∃ e, forL (run tab (n+3)) (.tp [.nm 1, .nm 2]) cbody (nums k (xs ++ w :: rest)) [.dat r, c1, c2] m = .exc 0 [.int ((k + xs.length : Nat) : Int)] e m
  | [], k, c1, c2, _ => by
    refine ⟨[.dat r, .dat (.int k), .dat w], ?_⟩
    simp only [nums, List.nil_append]
    unfold forL
    simp only [asg, asgs, List.length_cons, List.length_nil, List.set_cons_succ, List.set_cons_zero, Option.bind_some, if_true, Nat.reduceAdd, Nat.reduceLT]
    rw [cbody_ok n r k w gw m, if_neg (by rw [sw]; simp)]
    simp
  | x :: xs, k, c1, c2, h => by
    obtain ⟨e', ih⟩ := check_bad n r w m gw sw rest xs (k + 1) (.dat (.int k)) (.dat x) fun y hy => h y (List.mem_cons_of_mem _ hy)
    refine ⟨e', ?_⟩
    obtain ⟨g, s⟩ := h x List.mem_cons_self
    simp only [nums, List.cons_append]
    unfold forL
    simp only [asg, asgs, List.length_cons, List.length_nil, List.set_cons_succ, List.set_cons_zero, Option.bind_some, if_true, Nat.reduceAdd, Nat.reduceLT]
    rw [cbody_ok n r k x g m, if_pos s]
    dsimp only
    rw [ih]
    have : (k + 1 + xs.length : Nat) = k + (xs.length + 1) := by omega
    rw [this]
theorem check_ok (n : Nat) (xs : List D) (m : Store) (h : ∀ x ∈ xs, Good x ∧ spanB x = true) : run tab (n+4) 20 [.lst xs] m = .ok .non m ∧ run tab (n+4) 20 [.tup xs] m = .ok .non m := by
  have hb : B_check_spans = forS (argI enumG (consA (varE 0) nilA)) (.tp [(.nm 1), (.nm 2)]) cbody := rfl
  rw [t20, t20, hb]
  obtain ⟨c1, c2, e⟩ := check_loop n (.lst xs) m xs 0 .em .em h
  obtain ⟨d1, d2, f⟩ := check_loop n (.tup xs) m xs 0 .em .em h
  simp at e f ⊢
  rw [e, f]
  simp
theorem check_err (n : Nat) (xs rest : List D) (w : D) (m : Store) (h : ∀ x ∈ xs, Good x ∧ spanB x = true) (gw : Good w) (sw : spanB w = false) : run tab (n+4) 20 [.lst (xs ++ w :: rest)] m = .exc 0 [.int xs.length] m := by
  have hb : B_check_spans = forS (argI enumG (consA (varE 0) nilA)) (.tp [(.nm 1), (.nm 2)]) cbody := rfl
  rw [t20, hb]
  obtain ⟨e', e⟩ := check_bad n (.lst (xs ++ w :: rest)) w m gw sw rest xs 0 .em .em h
  simp at e ⊢
  rw [e]
def normM (l : List PR) : List PR := joinedM (l.mergeSort leP)
theorem lim_of {n : Nat} (h : n ≤ 100000) : n ≤ LIM := Nat.le_trans h (by decide)
theorem joined_sorted (n : Nat) (l : List PR) (m : Store) (h : l.length ≤ 100000) : run tab (n+1) 21 [.lst (ds (l.mergeSort leP))] m = .ok (.tup (ds (normM l))) m :=
  joined_ok n _ m (by rw [List.length_mergeSort]; exact Nat.lt_of_le_of_lt h (by decide))
theorem normal_ok (n : Nat) (l : List PR) (m : Store) (hl : l.length ≤ 100000) (h : ∀ p ∈ l, okP p = true) : run tab (n+5) 2 [.lst (ds l)] m = .ok (.tup (ds (normM l))) m ∧ run tab (n+5) 2 [.tup (ds l)] m = .ok (.tup (ds (normM l))) m := by
  have hg : ∀ x ∈ ds l, Good x ∧ spanB x = true := fun x hx => by
    obtain ⟨p, hp, rfl⟩ := List.mem_map.mp hx
    exact ⟨good_p p, by rw [spanB_p]; exact h p hp⟩
  obtain ⟨c1, c2⟩ := check_ok n (ds l) m hg
  obtain ⟨s1, s2⟩ := sort_pairs l (lim_of hl)
  have j := joined_sorted (n+3) l m hl
  rw [t2, t2]
  unfold B_normal
  have e3 : n + 3 + 1 = n + 4 := rfl
  rw [e3] at j
  simp only [seqS, dropS, retS, fnE, consA, nilA, bltE, varE, brwE, List.getElem?_cons_zero, R.bind_ok, c1, c2, liftS_ok, SR.bind_nx, sortG, sortF, s1, if_true, s2, Option.map_some, R.of_some, j, endS_ret, and_self]
theorem normal_err (n : Nat) (l : List PR) (w : D) (rest : List D) (m : Store) (h : ∀ p ∈ l, okP p = true) (gw : Good w) (sw : spanB w = false) : run tab (n+5) 2 [.lst (ds l ++ w :: rest)] m = .exc 0 [.int l.length] m := by
  have hg : ∀ x ∈ ds l, Good x ∧ spanB x = true := fun x hx => by
    obtain ⟨p, hp, rfl⟩ := List.mem_map.mp hx
    exact ⟨good_p p, by rw [spanB_p]; exact h p hp⟩
  have c := check_err n (ds l) rest w m hg gw sw
  rw [t2]
  unfold B_normal
  simp only [seqS, dropS, retS, fnE, consA, nilA, varE, List.getElem?_cons_zero, R.bind_ok, c, liftS_exc, SR.bind_exc, endS_exc, List.length_map]
def unionM (a b : List PR) : List PR := normM (a ++ b)
theorem union_ok (n : Nat) (a b : List PR) (m : Store) (h : a.length + b.length ≤ 100000) : run tab (n+2) 5 [.tup (ds a), .tup (ds b)] m = .ok (.tup (ds (unionM a b))) m := by
  have hl : (a ++ b).length ≤ 100000 := by simpa using h
  obtain ⟨s1, s2⟩ := sort_pairs (a ++ b) (lim_of hl)
  have j := joined_sorted n (a ++ b) m hl
  rw [t5]
  unfold B_union
  have hs : short (ds a ++ (ds b ++ [])) = true := by unfold short; simp; omega
  have e1 : ds a ++ (ds b ++ []) = (a ++ b).map encP.d := by simp
  simp only [retS, fnE, consA, nilA, bltE, starA, seqOnly, noStr, itemsOf, varE, List.getElem?_cons_zero, List.getElem?_cons_succ, R.bind_ok, if_true, R.of_some, tupG, hs, sortG, sortF]
  rw [e1]
  simp only [s1, if_true, s2, Option.map_some, R.of_some, R.bind_ok, j, liftS_ok, endS_ret]
  rfl
def lessM (a b : List PR) : List PR := meetM a (othersM b)
theorem othersG_len : ∀ (l : List PR) (b : Int), (othersG l b).length ≤ l.length + 1
  | [], b => by unfold othersG; split <;> simp
  | p :: l, b => by
    have := othersG_len l (p.2 + 1)
    have h2 : (ogap b p).length ≤ 1 := by unfold ogap; split <;> simp
    unfold othersG
    simp
    omega
theorem both_len (a b : PR) : (both a b).length ≤ 1 := by unfold both; split <;> simp
theorem meetM_len : ∀ (N : Nat) (a b : List PR), a.length + b.length ≤ N → (meetM a b).length ≤ a.length + b.length := by
  intro N
  induction N with
  | zero => intro a b h; have : a = [] := List.length_eq_zero_iff.mp (by omega); subst this; simp [meetM]
  | succ N ih =>
    intro a b h
    cases a with
    | nil => simp [meetM]
    | cons p a =>
      cases b with
      | nil => simp [meetM]
      | cons q b =>
        have hb := both_len p q
        unfold meetM
        split
        · have := ih a (q :: b) (by simp at h ⊢; omega)
          simp at this ⊢; omega
        · have := ih (p :: a) b (by simp at h ⊢; omega)
          simp at this ⊢; omega
theorem less_ok (n : Nat) (a b : List PR) (m : Store) (h : a.length + b.length ≤ 100000) : run tab (n+2) 7 [.tup (ds a), .tup (ds b)] m = .ok (.tup (ds (lessM a b))) m := by
  have e1 := others_ok n b m (Nat.lt_of_le_of_lt (by omega : b.length + 1 ≤ 100001) (by decide))
  have hl := othersG_len b 0
  have e2 := meet_ok n a (othersM b) m (Nat.lt_of_le_of_lt (by unfold othersM; omega : a.length + (othersM b).length ≤ 100001) (by decide))
  rw [t7]
  unfold B_less
  simp [e1, e2]
  rfl
def unlikeM (a b : List PR) : List PR := unionM (lessM a b) (lessM b a)
theorem less_len (a b : List PR) : (lessM a b).length ≤ a.length + b.length + 1 := by
  have h1 := meetM_len _ a (othersM b) (Nat.le_refl _)
  have h2 := othersG_len b 0
  unfold lessM
  unfold othersM at h1 ⊢
  omega
theorem unlike_ok (n : Nat) (a b : List PR) (m : Store) (h : a.length + b.length ≤ 40000) : run tab (n+3) 9 [.tup (ds a), .tup (ds b)] m = .ok (.tup (ds (unlikeM a b))) m := by
  have e1 := less_ok n a b m (by omega)
  have e2 := less_ok n b a m (by omega)
  have l1 := less_len a b
  have l2 := less_len b a
  have e3 := union_ok n (lessM a b) (lessM b a) m (by omega)
  rw [t9]
  unfold B_unlike
  simp [e1, e2, e3]
  rfl
theorem part_ok (n : Nat) (a b : List PR) (m : Store) (h : a.length + b.length ≤ 100000) : run tab (n+3) 13 [.tup (ds a), .tup (ds b)] m = .ok (.bl (decide (lessM a b = []))) m := by
  have e1 := less_ok n a b m h
  have e2 : eqG m (.tup (ds (lessM a b))) (.tup []) = some (.bl (decide (lessM a b = []))) := encP.eqT m (lessM a b) []
  rw [t13]
  unfold B_is_part
  simp only [retS, bin, fnE, consA, nilA, varE, List.getElem?_cons_zero, List.getElem?_cons_succ, R.bind_ok, e1, bltE, tupG, short, List.length_nil, Nat.zero_le, decide_true, if_true, R.of_some, e2, liftS_ok, endS_ret]
end Dn.K50
/-! The plain law of rows of spans. -/
namespace Dn.K50
def inP (p : PR) (d : Int) : Bool := decide (p.1 ≤ d) && decide (d ≤ p.2)
def inS (l : List PR) (d : Int) : Bool := l.any fun p => inP p d
theorem inS_nil (d : Int) : inS [] d = false := rfl
theorem inS_cons (p : PR) (l : List PR) (d : Int) : inS (p :: l) d = (inP p d || inS l d) := rfl
theorem inS_app (a b : List PR) (d : Int) : inS (a ++ b) d = (inS a d || inS b d) := by unfold inS; rw [List.any_append]
theorem inP_iff {p : PR} {d : Int} : inP p d = true ↔ p.1 ≤ d ∧ d ≤ p.2 := by unfold inP; simp
theorem inP_no {p : PR} {d : Int} : inP p d = false ↔ ¬ (p.1 ≤ d ∧ d ≤ p.2) := by rw [← inP_iff]; simp
/-- ascending, a day between each two, ahead of b+1 nothing -/
def Fm : Int → List PR → Prop
  | _, [] => True
  | b, p :: l => b < p.1 ∧ p.1 ≤ p.2 ∧ Fm (p.2 + 1) l
def Bd (l : List PR) : Prop := ∀ p ∈ l, p.2 ≤ 999999
structure Form (l : List PR) : Prop where
  fm : Fm (-1) l
  bd : Bd l
theorem Fm.mono : ∀ {l : List PR} {b c : Int}, Fm b l → c ≤ b → Fm c l
  | [], _, _, _, _ => trivial
  | p :: l, b, c, h, hc => ⟨by have := h.1; omega, h.2.1, h.2.2⟩
theorem Fm.above : ∀ {l : List PR} {b d : Int}, Fm b l → inS l d = true → b < d
  | [], _, _, _, h => by cases h
  | p :: l, b, d, h, hi => by
    rw [inS_cons, Bool.or_eq_true] at hi
    obtain ⟨h1, h2, h3⟩ := h
    rcases hi with hi | hi
    · have := inP_iff.mp hi; omega
    · have := Fm.above h3 hi; omega
theorem Fm.off {l : List PR} {b d : Int} (h : Fm b l) (hd : d ≤ b) : inS l d = false := by
  cases q : inS l d with
  | false => rfl
  | true => have := h.above q; omega
theorem Fm.formB : ∀ {l : List PR} {b : Int}, Fm b l → formB l = true
  | [], _, _ => rfl
  | [p], _, _ => rfl
  | p :: q :: l, b, h => by
    have h3 := h.2.2
    have ih := Fm.formB (l := q :: l) h3
    unfold K50.formB
    rw [ih]
    simp
    exact h3.1
/-! ### joined -/
def jrec (q : PR) : List PR → List PR
  | [] => [q]
  | p :: ps => if p.1 ≤ q.2 + 1 then jrec (q.1, if p.2 > q.2 then p.2 else q.2) ps else q :: jrec p ps
theorem fold_jrec : ∀ (ps k : List PR) (q : PR), ps.foldl jstep (k ++ [q]) = k ++ jrec q ps
  | [], k, q => rfl
  | p :: ps, k, q => by
    rw [List.foldl_cons, jstep_last]
    unfold jrec
    split
    · exact fold_jrec ps k _
    · rw [fold_jrec ps (k ++ [q]) p]; simp
theorem joinedM_cons (p : PR) (ps : List PR) : joinedM (p :: ps) = jrec p ps := by
  unfold joinedM
  rw [List.foldl_cons, jstep_nil]
  exact fold_jrec ps [] p
theorem jrec_ok : ∀ (ps : List PR) (q : PR) (b : Int), b < q.1 → q.1 ≤ q.2 → q.2 ≤ 999999 → (∀ p ∈ ps, okP p = true) → (q :: ps).Pairwise (fun a c => a.1 ≤ c.1) →
    Fm b (jrec q ps) ∧ Bd (jrec q ps) ∧ ∀ d, inS (jrec q ps) d = (inP q d || inS ps d)
  | [], q, b, h1, h2, h3, _, _ => ⟨⟨h1, h2, trivial⟩, fun p hp => by simp [jrec] at hp; subst hp; exact h3, fun d => rfl⟩
  | p :: ps, q, b, h1, h2, h3, ho, hs => by
    have hp := ho p List.mem_cons_self
    unfold okP at hp
    simp only [Bool.and_eq_true, decide_eq_true_eq] at hp
    obtain ⟨hs1, hs2⟩ := List.pairwise_cons.mp hs
    have hqp := hs1 p List.mem_cons_self
    unfold jrec
    split
    · rename_i c
      have hmx : q.1 ≤ (if p.2 > q.2 then p.2 else q.2) ∧ (if p.2 > q.2 then p.2 else q.2) ≤ 999999 := by split <;> omega
      obtain ⟨a1, a2, a3⟩ := jrec_ok ps (q.1, if p.2 > q.2 then p.2 else q.2) b h1 hmx.1 hmx.2 (fun x hx => ho x (List.mem_cons_of_mem _ hx))
        (List.pairwise_cons.mpr ⟨fun x hx => hs1 x (List.mem_cons_of_mem _ hx), (List.pairwise_cons.mp hs2).2⟩)
      refine ⟨a1, a2, fun d => ?_⟩
      rw [a3, inS_cons, ← Bool.or_assoc]
      congr 1
      unfold inP
      rw [Bool.eq_iff_iff]
      simp only [Bool.and_eq_true, Bool.or_eq_true, decide_eq_true_eq]
      split <;> omega
    · rename_i c
      obtain ⟨a1, a2, a3⟩ := jrec_ok ps p (q.2 + 1) (by omega) hp.1.2 hp.2 (fun x hx => ho x (List.mem_cons_of_mem _ hx)) hs2
      refine ⟨⟨h1, h2, a1⟩, fun x hx => ?_, fun d => ?_⟩
      · rcases List.mem_cons.mp hx with rfl | hx
        · exact h3
        · exact a2 x hx
      · rw [inS_cons, a3, inS_cons]
theorem leP_iff {p q : PR} : leP p q = true ↔ p.1 < q.1 ∨ (p.1 = q.1 ∧ p.2 ≤ q.2) := by unfold leP; simp
theorem sorted_leP (l : List PR) : (l.mergeSort leP).Pairwise (fun a c => a.1 ≤ c.1) := by
  have h := List.pairwise_mergeSort (le := leP) (fun a b c h1 h2 => by rw [leP_iff] at *; omega) (fun a b => by
    rw [Bool.or_eq_true, leP_iff, leP_iff]; omega) l
  exact h.imp fun {a b} hab => by rw [leP_iff] at hab; omega
theorem inS_mem {l : List PR} {d : Int} : inS l d = true ↔ ∃ p ∈ l, inP p d = true := by unfold inS; rw [List.any_eq_true]
theorem inS_perm {a b : List PR} (h : a.Perm b) (d : Int) : inS a d = inS b d := by
  rw [Bool.eq_iff_iff, inS_mem, inS_mem]
  exact ⟨fun ⟨p, hp, hi⟩ => ⟨p, h.mem_iff.mp hp, hi⟩, fun ⟨p, hp, hi⟩ => ⟨p, h.mem_iff.mpr hp, hi⟩⟩
theorem norm_form (l : List PR) (h : ∀ p ∈ l, okP p = true) : Form (normM l) ∧ ∀ d, inS (normM l) d = inS l d := by
  have hp := List.mergeSort_perm l leP
  have hs := sorted_leP l
  have ho : ∀ p ∈ l.mergeSort leP, okP p = true := fun p hm => h p (hp.mem_iff.mp hm)
  unfold normM
  cases e : l.mergeSort leP with
  | nil =>
    rw [e] at hp
    have : l = [] := List.Perm.eq_nil hp.symm
    subst this
    exact ⟨⟨trivial, fun p hp => by simp [joinedM] at hp⟩, fun d => rfl⟩
  | cons p ps =>
    rw [e] at hp hs ho
    have hk := ho p List.mem_cons_self
    unfold okP at hk
    simp only [Bool.and_eq_true, decide_eq_true_eq] at hk
    rw [joinedM_cons]
    obtain ⟨a1, a2, a3⟩ := jrec_ok ps p (-1) (by omega) hk.1.2 hk.2 (fun x hx => ho x (List.mem_cons_of_mem _ hx)) hs
    refine ⟨⟨a1, a2⟩, fun d => ?_⟩
    rw [a3, ← inS_cons, inS_perm hp]
theorem Fm.ok : ∀ {l : List PR} {b : Int}, Fm b l → -1 ≤ b → Bd l → ∀ p ∈ l, okP p = true
  | [], _, _, _, _, _, hp => by cases hp
  | q :: l, b, h, hb, hd, p, hp => by
    obtain ⟨h1, h2, h3⟩ := h
    have hq := hd q List.mem_cons_self
    rcases List.mem_cons.mp hp with rfl | hp
    · unfold okP
      simp only [Bool.and_eq_true, decide_eq_true_eq]
      omega
    · exact Fm.ok h3 (by omega) (fun x hx => hd x (List.mem_cons_of_mem _ hx)) p hp
theorem Form.ok {l : List PR} (h : Form l) : ∀ p ∈ l, okP p = true := h.fm.ok (Int.le_refl _) h.bd
/-! ### one form -/
theorem Fm.one : ∀ {a b : List PR} {x y : Int}, Fm x a → Fm y b → (∀ d, inS a d = inS b d) → a = b
  | [], [], _, _, _, _, _ => rfl
  | [], q :: b, _, _, _, h, e => by
    have := e q.1
    have hq : inP q q.1 = true := inP_iff.mpr ⟨Int.le_refl _, h.2.1⟩
    rw [inS_cons, hq] at this
    cases this
  | p :: a, [], _, _, h, _, e => by
    have := e p.1
    have hq : inP p p.1 = true := inP_iff.mpr ⟨Int.le_refl _, h.2.1⟩
    rw [inS_cons, hq] at this
    cases this
  | p :: a, q :: b, x, y, ⟨h1, h2, h3⟩, ⟨g1, g2, g3⟩, e => by
    have key : ∀ (p q : PR) (a b : List PR), p.1 ≤ p.2 → q.1 ≤ q.2 → Fm (q.2 + 1) b → (∀ d, inS (p :: a) d = inS (q :: b) d) → q.1 ≤ p.1 := by
      intro p q a b hp hq2 hb e
      have hh : inS (q :: b) p.1 = true := by rw [← e, inS_cons, inP_iff.mpr ⟨Int.le_refl _, hp⟩]; rfl
      rw [inS_cons, Bool.or_eq_true] at hh
      rcases hh with hh | hh
      · exact (inP_iff.mp hh).1
      · by_cases c : q.1 ≤ p.1
        · exact c
        · have := hb.above hh
          omega
    have e1 : p.1 = q.1 := by
      have k1 := key p q a b h2 g2 g3 e
      have k2 := key q p b a g2 h2 h3 fun d => (e d).symm
      omega
    have key2 : ∀ (p q : PR) (a b : List PR), p.1 = q.1 → p.1 ≤ p.2 → Fm (p.2 + 1) a → (∀ d, inS (p :: a) d = inS (q :: b) d) → q.2 ≤ p.2 := by
      intro p q a b h hp ha e
      by_cases c : q.2 ≤ p.2
      · exact c
      · have hh := e (p.2 + 1)
        have hq : inP q (p.2 + 1) = true := inP_iff.mpr ⟨by omega, by omega⟩
        have hn : inP p (p.2 + 1) = false := inP_no.mpr (by omega)
        rw [inS_cons, inS_cons, hq, hn, ha.off (Int.le_refl _)] at hh
        cases hh
    have e2 : p.2 = q.2 := by
      have k1 := key2 p q a b e1 h2 h3 e
      have k2 := key2 q p b a e1.symm g2 g3 fun d => (e d).symm
      omega
    have epq : p = q := Prod.ext e1 e2
    subst epq
    congr 1
    refine Fm.one h3 g3 fun d => ?_
    have hd := e d
    rw [inS_cons, inS_cons] at hd
    by_cases c : d ≤ p.2 + 1
    · rw [h3.off c, g3.off c]
    · have hn : inP p d = false := inP_no.mpr (by omega)
      rw [hn, Bool.false_or, Bool.false_or] at hd
      exact hd
/-! ### meet -/
theorem meet_fm : ∀ (N : Nat) (a b : List PR) (x y : Int), a.length + b.length ≤ N → Fm x a → Fm y b → Fm (mx x y) (meetM a b) ∧ (Bd a → Bd (meetM a b)) ∧ ∀ d, inS (meetM a b) d = (inS a d && inS b d) := by
  intro N
  induction N with
  | zero => intro a b x y h _ _; have : a = [] := List.length_eq_zero_iff.mp (by omega); subst this; exact ⟨by simp [meetM, Fm], fun _ => by simp [meetM, Bd], fun d => by simp [meetM, inS_nil]⟩
  | succ N ih =>
    intro a b x y h ha hb
    cases a with
    | nil => exact ⟨by simp [meetM, Fm], fun _ => by simp [meetM, Bd], fun d => by simp [meetM, inS_nil]⟩
    | cons p a =>
      cases b with
      | nil => exact ⟨by simp [meetM, Fm], fun _ => by simp [meetM, Bd], fun d => by simp [meetM, inS_nil]⟩
      | cons q b =>
        obtain ⟨h1, h2, h3⟩ := ha
        obtain ⟨g1, g2, g3⟩ := hb
        have bothI : ∀ d, inS (both p q) d = (inP p d && inP q d) := fun d => by
          unfold both
          rw [Bool.eq_iff_iff, Bool.and_eq_true, inP_iff, inP_iff]
          by_cases c : mx p.1 q.1 ≤ mn p.2 q.2
          · rw [if_pos c, inS_cons, inS_nil, Bool.or_false, inP_iff]
            unfold mx mn
            dsimp only
            split <;> split <;> omega
          · rw [if_neg c, inS_nil]
            constructor
            · intro z; cases z
            · intro z
              exfalso
              apply c
              unfold mx mn
              split <;> split <;> omega
        have step : ∀ (rest : List PR) (z : Int), mn p.2 q.2 + 1 ≤ z → mx x y ≤ z → Fm z rest → Fm (mx x y) (both p q ++ rest) := by
          intro rest z hz hz2 hr
          unfold both
          split
          · rename_i c
            exact ⟨by unfold mx; split <;> split <;> omega, c, hr.mono hz⟩
          · exact hr.mono hz2
        have bothB : Bd (p :: a) → Bd (both p q) := fun hB r hr => by
          have := hB p List.mem_cons_self
          unfold both at hr
          split at hr
          · simp at hr; subst hr; show mn p.2 q.2 ≤ _; unfold mn; split <;> omega
          · cases hr
        unfold meetM
        by_cases c : p.2 < q.2
        · rw [if_pos c]
          obtain ⟨i1, i2, i3⟩ := ih a (q :: b) (p.2 + 1) y (by simp at h ⊢; omega) h3 ⟨g1, g2, g3⟩
          refine ⟨step _ _ ?_ ?_ i1, fun hB r hr => ?_, fun d => ?_⟩
          · unfold mn mx; split <;> split <;> omega
          · unfold mx; split <;> split <;> omega
          · rcases List.mem_append.mp hr with hr | hr
            · exact bothB hB r hr
            · exact i2 (fun x hx => hB x (List.mem_cons_of_mem _ hx)) r hr
          · rw [inS_app, bothI, i3, inS_cons, inS_cons]
            by_cases hp : inP p d = true
            · have hd := inP_iff.mp hp
              have z1 : inS b d = false := g3.off (by omega)
              have z2 : inS a d = false := h3.off (by omega)
              rw [hp, z1, z2]; simp
            · have hp : inP p d = false := by simpa using hp
              rw [hp]; simp
        · rw [if_neg c]
          obtain ⟨i1, i2, i3⟩ := ih (p :: a) b x (q.2 + 1) (by simp at h ⊢; omega) ⟨h1, h2, h3⟩ g3
          refine ⟨step _ _ ?_ ?_ i1, fun hB r hr => ?_, fun d => ?_⟩
          · unfold mn mx; split <;> split <;> omega
          · unfold mx; split <;> split <;> omega
          · rcases List.mem_append.mp hr with hr | hr
            · exact bothB hB r hr
            · exact i2 hB r hr
          · rw [inS_app, bothI, i3, inS_cons, inS_cons]
            by_cases hq : inP q d = true
            · have hd := inP_iff.mp hq
              have z1 : inS b d = false := g3.off (by omega)
              rw [hq, z1]
              by_cases hp : inP p d = true
              · rw [hp]; simp
              · have hp : inP p d = false := by simpa using hp
                have hpd := inP_no.mp hp
                have z2 : inS a d = false := h3.off (by omega)
                rw [hp, z2]; simp
            · have hq : inP q d = false := by simpa using hq
              rw [hq]; simp
theorem meet_form {a b : List PR} (ha : Form a) (hb : Form b) : Form (meetM a b) ∧ ∀ d, inS (meetM a b) d = (inS a d && inS b d) := by
  obtain ⟨h1, h2, h3⟩ := meet_fm _ a b (-1) (-1) (Nat.le_refl _) ha.fm hb.fm
  exact ⟨⟨h1, h2 ha.bd⟩, h3⟩
/-! ### others -/
theorem others_fm : ∀ (l : List PR) (b : Int), Fm (b - 1) l → Bd l → Fm (b - 1) (othersG l b) ∧ Bd (othersG l b) ∧ ∀ d, inS (othersG l b) d = (decide (b ≤ d) && decide (d ≤ 999999) && !inS l d)
  | [], b, _, _ => by
    unfold othersG
    by_cases c : b ≤ 999999
    · rw [if_pos c]
      refine ⟨⟨by show b - 1 < b; omega, c, trivial⟩, fun p hp => by simp at hp; subst hp; exact Int.le_refl _, fun d => by rw [inS_cons, inS_nil]; simp [inP]⟩
    · rw [if_neg c]
      refine ⟨trivial, (fun p hp => by cases hp), fun d => ?_⟩
      rw [inS_nil, Bool.eq_iff_iff]
      simp
      omega
  | p :: l, b, ⟨h1, h2, h3⟩, hd => by
    have hp := hd p List.mem_cons_self
    obtain ⟨i1, i2, i3⟩ := others_fm l (p.2 + 1) (h3.mono (by omega)) fun x hx => hd x (List.mem_cons_of_mem _ hx)
    have e : p.2 + 1 - 1 = p.2 := by omega
    rw [e] at i1
    unfold othersG ogap
    have tail : ∀ d, b ≤ d → p.1 ≤ d → (decide (p.2 + 1 ≤ d) && decide (d ≤ 999999) && !inS l d) = (decide (b ≤ d) && decide (d ≤ 999999) && !(inP p d || inS l d)) := by
      intro d c1 c2
      by_cases c3 : d ≤ p.2
      · have : inP p d = true := inP_iff.mpr ⟨c2, c3⟩
        have z : decide (p.2 + 1 ≤ d) = false := by simp; omega
        rw [this, z]; simp
      · have : inP p d = false := inP_no.mpr (by omega)
        have z : decide (p.2 + 1 ≤ d) = true := by simp; omega
        have z2 : decide (b ≤ d) = true := by simpa using c1
        rw [this, z, z2]; simp
    have low : ∀ d, d < p.1 → inS (p :: l) d = false := fun d c => by
      rw [inS_cons, inP_no.mpr (by omega), h3.off (by omega)]; rfl
    have lowO : ∀ d, d < p.1 → (decide (p.2 + 1 ≤ d) && decide (d ≤ 999999) && !inS l d) = false := fun d c => by
      have z : decide (p.2 + 1 ≤ d) = false := by simp; omega
      rw [z]; rfl
    by_cases c : b < p.1
    · rw [if_pos c]
      refine ⟨⟨by show b - 1 < b; omega, by show b ≤ p.1 - 1; omega, i1.mono (by show p.1 - 1 + 1 ≤ p.2; omega)⟩, fun x hx => ?_, fun d => ?_⟩
      · rcases List.mem_cons.mp hx with rfl | hx
        · show p.1 - 1 ≤ 999999; omega
        · exact i2 x hx
      · show inS ((b, p.1 - 1) :: othersG l (p.2 + 1)) d = _
        rw [inS_cons, i3]
        by_cases c2 : d < p.1
        · rw [lowO d c2, low d c2]
          unfold inP
          rw [Bool.eq_iff_iff]
          simp
          omega
        · have z : inP (b, p.1 - 1) d = false := inP_no.mpr (by dsimp only; omega)
          rw [z, Bool.false_or, tail d (by omega) (by omega), inS_cons]
    · rw [if_neg c]
      refine ⟨i1.mono (by omega), i2, fun d => ?_⟩
      show inS (othersG l (p.2 + 1)) d = _
      rw [i3]
      by_cases c2 : d < p.1
      · rw [lowO d c2]
        have z : decide (b ≤ d) = false := by simp; omega
        rw [z]; rfl
      · rw [tail d (by omega) (by omega), inS_cons]
theorem others_form {a : List PR} (ha : Form a) : Form (othersM a) ∧ ∀ d, inS (othersM a) d = (decide (0 ≤ d) && decide (d ≤ 999999) && !inS a d) := by
  obtain ⟨h1, h2, h3⟩ := others_fm a 0 ha.fm ha.bd
  exact ⟨⟨h1, h2⟩, h3⟩
end Dn.K50
namespace Dn.K50
/-! ### how many -/
def cnt (N : Nat) (l : List PR) : Nat := (List.range N).countP fun k : Nat => inS l (k : Int)
theorem cnt_one (a b : Nat) (h : a ≤ b + 1) : ∀ N : Nat, b < N → (List.range N).countP (fun k => decide (a ≤ k) && decide (k ≤ b)) + a = b + 1
  | 0, hb => by omega
  | N + 1, hb => by
    rw [List.range_succ, List.countP_append]
    by_cases c : b < N
    · have ih := cnt_one a b h N c
      have : (decide (a ≤ N) && decide (N ≤ b)) = false := by simp; omega
      simp [List.countP_cons, this]
      exact ih
    · have e : b = N := by omega
      subst e
      by_cases c2 : a ≤ b
      · have low : ∀ M : Nat, M ≤ b → (List.range M).countP (fun k => decide (a ≤ k) && decide (k ≤ b)) = M - a := by
          intro M
          induction M with
          | zero => intro _; simp
          | succ M ih =>
            intro hM
            rw [List.range_succ, List.countP_append, ih (by omega)]
            by_cases c3 : a ≤ M
            · have : (decide (a ≤ M) && decide (M ≤ b)) = true := by simp; omega
              simp [List.countP_cons, this]; omega
            · have : (decide (a ≤ M) && decide (M ≤ b)) = false := by simp; omega
              simp [List.countP_cons, this]; omega
        rw [low b (Nat.le_refl _)]
        have e : ([b].countP fun k => decide (a ≤ k) && decide (k ≤ b)) = 1 := by simp [c2]
        rw [e]
        omega
      · have z : (List.range b).countP (fun k => decide (a ≤ k) && decide (k ≤ b)) = 0 := by
          rw [List.countP_eq_zero]
          intro k hk
          have := List.mem_range.mp hk
          simp; omega
        have e : ([b].countP fun k => decide (a ≤ k) && decide (k ≤ b)) = 0 := by simp [c2]
        rw [z, e]
        omega
theorem cnt_or {α : Type} (p q : α → Bool) : ∀ l : List α, l.countP (fun x => p x || q x) + l.countP (fun x => p x && q x) = l.countP p + l.countP q
  | [] => by simp
  | x :: l => by
    have ih := cnt_or p q l
    simp only [List.countP_cons]
    cases p x <;> cases q x <;> simp <;> omega
theorem many_cnt (N : Nat) : ∀ (l : List PR) (b : Int), -1 ≤ b → Fm b l → (∀ p ∈ l, p.2 < (N : Int)) → manyM l = (cnt N l : Int)
  | [], _, _, _, _ => by simp [manyM, cnt, inS_nil]
  | p :: l, b, hb, ⟨h1, h2, h3⟩, hN => by
    have ih := many_cnt N l (p.2 + 1) (by omega) h3 fun x hx => hN x (List.mem_cons_of_mem _ hx)
    have hp := hN p List.mem_cons_self
    have e1 : manyM (p :: l) = (p.2 - p.1 + 1) + manyM l := by unfold manyM; simp
    obtain ⟨a, ha⟩ : ∃ a : Nat, p.1 = a := ⟨p.1.toNat, by omega⟩
    obtain ⟨c, hc⟩ : ∃ c : Nat, p.2 = c := ⟨p.2.toNat, by omega⟩
    have o := cnt_or (fun k : Nat => inP p (k : Int)) (fun k : Nat => inS l (k : Int)) (List.range N)
    have z : (List.range N).countP (fun k : Nat => inP p (k : Int) && inS l (k : Int)) = 0 := by
      rw [List.countP_eq_zero]
      intro k _
      by_cases hk : inP p (k : Int) = true
      · have := inP_iff.mp hk
        rw [h3.off (by omega)]; simp
      · simp at hk; rw [hk]; simp
    have e2 : (fun k : Nat => inP p (k : Int)) = fun k => decide (a ≤ k) && decide (k ≤ c) := by
      funext k
      unfold inP
      rw [ha, hc, Bool.eq_iff_iff]
      simp
    have o2 := cnt_one a c (by omega) N (by omega)
    rw [z] at o
    rw [e1, ih]
    have e3 : cnt N (p :: l) = (List.range N).countP (fun k : Nat => inP p (k : Int) || inS l (k : Int)) := rfl
    rw [e3]
    rw [e2] at o
    unfold cnt
    have e4 : (List.range N).countP (fun k : Nat => inP p (k : Int) || inS l (k : Int)) = (List.range N).countP (fun x => (fun k => decide (a ≤ k) && decide (k ≤ c)) x || inS l (x : Int)) := by
      have := congrArg (fun f : Nat → Bool => (List.range N).countP fun x => f x || inS l (x : Int)) e2
      exact this
    rw [e4]
    omega
theorem many_form {l : List PR} (h : Form l) : manyM l = (cnt 1000000 l : Int) := many_cnt 1000000 l (-1) (Int.le_refl _) h.fm fun p hp => by have := h.bd p hp; omega
theorem cnt_congr {N : Nat} {a b : List PR} {f : Nat → Bool} (h : ∀ k : Nat, k < N → inS a (k : Int) = f k) : cnt N a = (List.range N).countP f := by
  unfold cnt
  refine List.countP_congr fun k hk => ?_
  rw [h k (List.mem_range.mp hk)]
theorem many_sum {a b u m : List PR} (ha : Form a) (hb : Form b) (hu : Form u) (hm : Form m) (eu : ∀ d, inS u d = (inS a d || inS b d)) (em : ∀ d, inS m d = (inS a d && inS b d)) : manyM u = manyM a + manyM b - manyM m := by
  rw [many_form ha, many_form hb, many_form hu, many_form hm]
  have o := cnt_or (fun k : Nat => inS a (k : Int)) (fun k : Nat => inS b (k : Int)) (List.range 1000000)
  rw [cnt_congr (a := u) (b := u) fun k _ => eu k, cnt_congr (a := m) (b := m) fun k _ => em k]
  unfold cnt
  omega
theorem many_others {a o : List PR} (ha : Form a) (ho : Form o) (e : ∀ d, inS o d = (decide (0 ≤ d) && decide (d ≤ 999999) && !inS a d)) : manyM a + manyM o = 1000000 := by
  rw [many_form ha, many_form ho]
  rw [cnt_congr (a := o) (b := o) (f := fun k => !inS a (k : Int)) fun k hk => by
    rw [e]
    have h1 : decide ((0 : Int) ≤ (k : Int)) = true := by simp
    have h2 : decide ((k : Int) ≤ 999999) = true := by simp; omega
    rw [h1, h2]; rfl]
  have : ∀ (N : Nat), (List.range N).countP (fun k : Nat => inS a (k : Int)) + (List.range N).countP (fun k : Nat => !inS a (k : Int)) = N := by
    intro N
    induction N with
    | zero => rfl
    | succ N ih =>
      rw [List.range_succ, List.countP_append, List.countP_append]
      simp only [List.countP_cons, List.countP_nil]
      cases inS a (N : Int) <;> simp <;> omega
  have := this 1000000
  unfold cnt
  omega
/-! ### has -/
theorem Fm.rise : ∀ {l : List PR} {b : Int}, Fm b l → l.Pairwise (fun p q => p.2 < q.1) ∧ (∀ p ∈ l, b < p.1) ∧ ∀ p ∈ l, p.1 ≤ p.2
  | [], _, _ => ⟨.nil, (fun _ h => by cases h), fun _ h => by cases h⟩
  | p :: l, b, ⟨h1, h2, h3⟩ => by
    obtain ⟨i1, i2, i3⟩ := Fm.rise h3
    refine ⟨List.pairwise_cons.mpr ⟨fun q hq => by have := i2 q hq; omega, i1⟩, fun q hq => ?_, fun q hq => ?_⟩
    · rcases List.mem_cons.mp hq with rfl | hq
      · exact h1
      · have := i2 q hq; omega
    · rcases List.mem_cons.mp hq with rfl | hq
      · exact h2
      · exact i3 q hq
theorem low_spec {l : List PR} {day : Int} (hr : l.Pairwise (fun p q => p.2 < q.1)) (ho : ∀ p ∈ l, p.1 ≤ p.2) : ∀ (N lo hi : Nat), hi - lo ≤ N → lo ≤ hi → hi ≤ l.length → (∀ (i : Nat) p, i < lo → l[i]? = some p → p.2 < day) → (∀ (i : Nat) p, hi ≤ i → l[i]? = some p → ¬ p.2 < day) →
    (∀ (i : Nat) p, i < lowM l day lo hi → l[i]? = some p → p.2 < day) ∧ ∀ (i : Nat) p, lowM l day lo hi ≤ i → l[i]? = some p → ¬ p.2 < day := by
  have mono : ∀ (i j : Nat) p q, i ≤ j → l[i]? = some p → l[j]? = some q → p.2 ≤ q.2 := by
    intro i j p q hij hp hq
    by_cases e : i = j
    · subst e; rw [hp] at hq; cases hq; exact Int.le_refl _
    · have hi := (List.getElem?_eq_some_iff.mp hp)
      have hj := (List.getElem?_eq_some_iff.mp hq)
      obtain ⟨hi1, hi2⟩ := hi
      obtain ⟨hj1, hj2⟩ := hj
      have := List.pairwise_iff_getElem.mp hr i j hi1 hj1 (by omega)
      rw [hi2, hj2] at this
      have := ho q (List.mem_of_getElem? hq)
      omega
  intro N
  induction N with
  | zero =>
    intro lo hi h1 h2 h3 hL hH
    have : lo = hi := by omega
    subst this
    unfold lowM
    rw [dif_neg (by omega)]
    exact ⟨hL, hH⟩
  | succ N ih =>
    intro lo hi h1 h2 h3 hL hH
    unfold lowM
    by_cases c : lo < hi
    · rw [dif_pos c]
      have hm : (lo + hi) / 2 < l.length := by omega
      have hp : l[(lo + hi) / 2]? = some l[(lo + hi) / 2] := List.getElem?_eq_getElem hm
      rw [hp]
      dsimp only
      by_cases d : l[(lo + hi) / 2].2 < day
      · rw [if_pos d]
        exact ih _ _ (by omega) (by omega) h3 (fun i p hi' e => by have := mono i _ p _ (by omega) e hp; omega) hH
      · rw [if_neg d]
        exact ih _ _ (by omega) (by omega) (by omega) hL fun i p hi' e => by have := mono _ i _ p hi' hp e; omega
    · rw [dif_neg c]
      have : lo = hi := by omega
      subst this
      exact ⟨hL, hH⟩
theorem has_in {l : List PR} (h : Form l) (day : Int) : hasM l day = inS l day := by
  obtain ⟨r1, r2, r3⟩ := h.fm.rise
  obtain ⟨s1, s2⟩ := low_spec (day := day) r1 r3 l.length 0 l.length (by omega) (Nat.zero_le _) (Nat.le_refl _) (fun i p hi => by omega) (fun i p hi e => by rw [List.getElem?_eq_none hi] at e; cases e)
  unfold hasM
  cases e : l[lowM l day 0 l.length]? with
  | none =>
    dsimp only
    symm
    cases q : inS l day with
    | false => rfl
    | true =>
      exfalso
      obtain ⟨p, hp, hi⟩ := inS_mem.mp q
      obtain ⟨i, hi2⟩ := List.mem_iff_getElem?.mp hp
      have hk : l.length ≤ lowM l day 0 l.length := by
        by_cases z : l.length ≤ lowM l day 0 l.length
        · exact z
        · rw [List.getElem?_eq_getElem (by omega)] at e; cases e
      have hil := (List.getElem?_eq_some_iff.mp hi2).1
      have := s1 i p (by omega) hi2
      have := inP_iff.mp hi
      omega
  | some p =>
    dsimp only
    have hn := s2 _ p (Nat.le_refl _) e
    rw [Bool.eq_iff_iff, decide_eq_true_eq, inS_mem]
    constructor
    · intro hle
      exact ⟨p, List.mem_of_getElem? e, inP_iff.mpr ⟨hle, by omega⟩⟩
    · rintro ⟨q, hq, hi⟩
      obtain ⟨i, hi2⟩ := List.mem_iff_getElem?.mp hq
      have hd := inP_iff.mp hi
      by_cases c1 : i < lowM l day 0 l.length
      · have := s1 i q c1 hi2; omega
      · by_cases c2 : i = lowM l day 0 l.length
        · subst c2; rw [e] at hi2; cases hi2; exact hd.1
        · obtain ⟨k1, k2⟩ := List.getElem?_eq_some_iff.mp e
          obtain ⟨i1, i2⟩ := List.getElem?_eq_some_iff.mp hi2
          have := List.pairwise_iff_getElem.mp r1 _ i k1 i1 (by omega)
          rw [k2, i2] at this
          have := r3 p (List.mem_of_getElem? e)
          omega
/-! ### breaks -/
theorem breaks_mem : ∀ (l : List PR) (b d : Int), Fm b l → (decide (d ∈ breaksM l) = (inS l d != inS l (d - 1)))
  | [], b, d, _ => by simp [breaksM, inS_nil]
  | p :: l, b, d, ⟨h1, h2, h3⟩ => by
    have ih := breaks_mem l (p.2 + 1) d h3
    have e : breaksM (p :: l) = p.1 :: (p.2 + 1) :: breaksM l := rfl
    rw [e, inS_cons, inS_cons]
    have hb : ∀ x ∈ breaksM l, p.2 + 1 < x := by
      intro x hx
      unfold breaksM at hx
      obtain ⟨q, hq, hx⟩ := List.mem_flatMap.mp hx
      obtain ⟨_, r2, r3⟩ := h3.rise
      have := r2 q hq
      have := r3 q hq
      simp at hx
      omega
    by_cases c : d ≤ p.2 + 1
    · have z1 := h3.off c
      have z2 : inS l (d - 1) = false := h3.off (by omega)
      have z3 : ¬ d ∈ breaksM l := fun z => by have := hb d z; omega
      rw [z1, z2]
      rw [Bool.eq_iff_iff]
      simp only [List.mem_cons, z3, or_false, decide_eq_true_eq, Bool.or_false, bne_iff_ne, ne_eq]
      unfold inP
      rw [Bool.eq_iff_iff]
      simp only [Bool.and_eq_true, decide_eq_true_eq]
      omega
    · have z1 : inP p d = false := inP_no.mpr (by omega)
      have z2 : inP p (d - 1) = false := inP_no.mpr (by omega)
      rw [z1, z2, Bool.false_or, Bool.false_or, ← ih]
      have : ¬ d = p.1 ∧ ¬ d = p.2 + 1 := by omega
      simp [this.1, this.2]
theorem breaks_rise : ∀ (l : List PR) (b : Int), Fm b l → (breaksM l).Pairwise (fun x y => decide (x ≤ y) = true) ∧ ∀ x ∈ breaksM l, b < x
  | [], _, _ => ⟨.nil, fun _ h => by cases h⟩
  | p :: l, b, ⟨h1, h2, h3⟩ => by
    obtain ⟨i1, i2⟩ := breaks_rise l (p.2 + 1) h3
    have e : breaksM (p :: l) = p.1 :: (p.2 + 1) :: breaksM l := rfl
    rw [e]
    refine ⟨List.pairwise_cons.mpr ⟨fun y hy => ?_, List.pairwise_cons.mpr ⟨fun y hy => by have := i2 y hy; simp; omega, i1⟩⟩, fun x hx => ?_⟩
    · rcases List.mem_cons.mp hy with rfl | hy
      · simp; omega
      · have := i2 y hy; simp; omega
    · rcases List.mem_cons.mp hx with rfl | hx
      · exact h1
      · rcases List.mem_cons.mp hx with rfl | hx
        · omega
        · have := i2 x hx; omega
theorem breaks_sorted {l : List PR} (h : Form l) : (breaksM l).mergeSort (fun a b => decide (a ≤ b)) = breaksM l := List.mergeSort_of_pairwise (breaks_rise l _ h.fm).1
theorem breaks_len : ∀ l : List PR, (breaksM l).length = 2 * l.length
  | [] => rfl
  | p :: l => by
    have e : breaksM (p :: l) = p.1 :: (p.2 + 1) :: breaksM l := rfl
    rw [e]
    simp [breaks_len l]
    omega
end Dn.K50
namespace Dn.K50
open PySem L2
theorem t23 (n : Nat) (a b : D) (m : Store) : run tab (n+1) 23 [a, b] m = endS (B_law_number (run tab n) [.dat a, .dat b, .em, .em] m) := by simp [run, tab]
theorem t18 (n : Nat) (a b : D) (m : Store) : run tab (n+1) 18 [a, b] m = endS (B_law_take (run tab n) [.dat a, .dat b] m) := by simp [run, tab]
theorem t19 (n : Nat) (a : D) (m : Store) : run tab (n+1) 19 [a] m = endS (B_law_day (run tab n) [.dat a] m) := by simp [run, tab]
theorem t1 (n : Nat) (a : D) (m : Store) : run tab (n+1) 1 [a] m = endS (B_law_rows (run tab n) [.dat a, .em, .em, .em, .em] m) := by simp [run, tab]
theorem t15 (n : Nat) (a b : D) (m : Store) : run tab (n+1) 15 [a, b] m = endS (B_law_pick (run tab n) [.dat a, .dat b] m) := by simp [run, tab]
theorem t16 (n : Nat) (a : D) (m : Store) : run tab (n+1) 16 [a] m = endS (B_is_name (run tab n) [.dat a, .em] m) := by simp [run, tab]
theorem t10 (n : Nat) (m : Store) : run tab (n+1) 10 [] m = endS (B_law_days (run tab n) [] m) := by simp [run, tab]
/-! ### what is drawn -/
abbrev sc (ns : List Int) : D := .frz (is ns)
theorem eq_sc (m : Store) (ns : List Int) : eqG m (.frz (is ns)) (.lst []) = some (.bl (decide (ns = []))) := encI.eqF m ns []
theorem number_ok (n : Nat) (ns : List Int) (k : Int) (m : Store) : ∃ v, 0 ≤ v ∧ run tab (n+1) 23 [sc ns, .int k] m = .ok (.int v) m := by
  rw [t23]
  unfold B_law_number
  by_cases h : ns = []
  · subst h
    refine ⟨(k * 48271 + 12345) % 2147483647, by omega, ?_⟩
    have e := eq_sc m []
    simp at e
    simp [short, sc, is, e, mulB]
  · have hlen : 0 < ns.length := List.length_pos_iff.mpr h
    have hlen' : (0 : Int) < (ns.length : Int) := by omega
    obtain ⟨j, hj⟩ : ∃ j : Nat, k % (ns.length : Int) = (j : Int) := ⟨(k % (ns.length : Int)).toNat, by have := Int.emod_nonneg k (by omega : (ns.length : Int) ≠ 0); omega⟩
    have hj2 : j < ns.length := by have := Int.emod_lt_of_pos k hlen'; omega
    have hat : atI (is ns) (j : Int) = some (.int ns[j]) := by
      rw [atI_nat, is, List.getElem?_map, List.getElem?_eq_getElem hj2]; rfl
    have e := eq_sc m ns
    have e0 : decide (ns = []) = false := by simpa using h
    rw [e0] at e
    refine ⟨(((((if (10 : Int) ^ 60 ≤ (if ns[j] < 0 then -ns[j] else ns[j]) then ns[j] % 10 ^ 18 else ns[j]) + 977 * k) * 48271 + 31 * (ns.length : Int)) % 2147483647 * 69621) % 2147483629 * 16807 + k) % 2147483587, by omega, ?_⟩
    by_cases c : (10 : Int) ^ 60 ≤ (if ns[j] < 0 then -ns[j] else ns[j])
    · rw [if_pos c]
      simp at c
      simp [short, e, hj, hat, hlen, c, mulB]
    · rw [if_neg c]
      simp at c
      have c' := Int.not_le.mpr c
      simp [short, e, hj, hat, hlen, c', mulB]
/-- the store while the law draws -/
def ST (ns : List Int) (k : Int) : Store := [.lst [sc ns, .int k]]
theorem take_ok (n : Nat) (ns : List Int) (k many : Int) (h : 0 < many) : ∃ v, 0 ≤ v ∧ v < many ∧ run tab (n+2) 18 [.ref 0, .int many] (ST ns k) = .ok (.int v) (ST ns (k + 1)) := by
  obtain ⟨v, hv, e⟩ := number_ok n ns (k + 1) (ST ns (k + 1))
  refine ⟨v % many, Int.emod_nonneg _ (by omega), Int.emod_lt_of_pos _ h, ?_⟩
  rw [t18]
  unfold B_law_take
  unfold ST at e ⊢
  simp [stoGet, atI0, atI1, e, h, LIM]
def dayOk (v : Int) : Prop := 0 ≤ v ∧ v ≤ 999999
theorem lday_ok (n : Nat) (ns : List Int) (k : Int) : ∃ v k', dayOk v ∧ run tab (n+3) 19 [.ref 0] (ST ns k) = .ok (.int v) (ST ns k') := by
  obtain ⟨u, _, _, e1⟩ := take_ok n ns k 9 (by omega)
  rw [t19]
  unfold B_law_day
  by_cases c : u = 0
  · subst c
    obtain ⟨v, v1, v2, e2⟩ := take_ok n ns (k + 1) 6 (by omega)
    refine ⟨999999 - v, k + 1 + 1, ⟨by omega, by omega⟩, ?_⟩
    simp [e1, e2]
  · obtain ⟨v, v1, v2, e2⟩ := take_ok n ns (k + 1) 9 (by omega)
    refine ⟨v, k + 1 + 1, ⟨by omega, by omega⟩, ?_⟩
    simp [e1, e2, c]
def rbody : EvS :=
  (seqS (parS [3, 4] (consM (fnE 19 (consA (varE 0) nilA)) (consM (fnE 19 (consA (varE 0) nilA)) nilM)))
  (appS 1 (bltE tupG (consA (bltE minG (consA (brwE 3) (consA (brwE 4) nilA))) (consA (bltE maxG (consA (brwE 3) (consA (brwE 4) nilA))) nilA)))))
theorem rows_loop (n : Nat) (ns : List Int) : ∀ (xs : List D) (acc : List PR) (k : Int) (c2 c3 c4 : Cell), acc.length + xs.length < LIM → (∀ p ∈ acc, okP p = true) → ∃ acc' k' c2' c3' c4', (∀ p ∈ acc', okP p = true) ∧ acc'.length = acc.length + xs.length ∧
    forL (run tab (n+3)) (.nm 2) rbody xs [.dat (.ref 0), .own (.lst (ds acc)), c2, c3, c4] (ST ns k) = .nx [.dat (.ref 0), .own (.lst (ds acc')), c2', c3', c4'] (ST ns k')
  | [], acc, k, c2, c3, c4, _, h => ⟨acc, k, c2, c3, c4, h, by simp, by simp [forL]⟩
  | x :: xs, acc, k, c2, c3, c4, hl, h => by
    obtain ⟨v, k1, v1, e1⟩ := lday_ok n ns k
    obtain ⟨w, k2, w1, e2⟩ := lday_ok n ns k1
    have hl2 : acc.length < LIM := by simp at hl; omega
    obtain ⟨acc', k', d2, d3, d4, h1, h2, h3⟩ := rows_loop n ns xs (acc ++ [(mn v w, mx v w)]) k2 (.dat x) (.dat (.int v)) (.dat (.int w)) (by simp at hl ⊢; omega) (fun p hp => by
      rcases List.mem_append.mp hp with hp | hp
      · exact h p hp
      · simp at hp
        subst hp
        unfold dayOk at v1 w1
        unfold okP mn mx
        simp only [Bool.and_eq_true, decide_eq_true_eq]
        split <;> split <;> omega)
    refine ⟨acc', k', d2, d3, d4, h1, by simp at h2 ⊢; omega, ?_⟩
    unfold forL
    have eb : rbody (run tab (n+3)) [.dat (.ref 0), .own (.lst (ds acc)), .dat x, c3, c4] (ST ns k) = .nx [.dat (.ref 0), .own (.lst (ds (acc ++ [(mn v w, mx v w)]))), .dat x, .dat (.int v), .dat (.int w)] (ST ns k2) := by
      unfold rbody
      simp [-maxG, -minG, maxG_mx, minG_mn, e1, e2, short, hl2, encP_d]
    simp only [asg, List.length_cons, List.length_nil, List.set_cons_succ, List.set_cons_zero, if_true, Nat.reduceAdd, Nat.reduceLT]
    rw [eb]
    exact h3
theorem rows_ok (n : Nat) (ns : List Int) (k : Int) : ∃ (l : List PR) (k' : Int), l.length ≤ 6 ∧ (∀ p ∈ l, okP p = true) ∧ run tab (n+4) 1 [.ref 0] (ST ns k) = .ok (.lst (ds l)) (ST ns k') := by
  obtain ⟨v, v1, v2, e1⟩ := take_ok (n+1) ns k 6 (by omega)
  have hr : (rng 0 v.toNat).length = v.toNat := by unfold rng; simp
  obtain ⟨acc, k', c2, c3, c4, h1, h2, h3⟩ := rows_loop n ns (rng 0 v.toNat) [] (k + 1) .em .em .em (by rw [hr]; exact Nat.lt_of_le_of_lt (by simp; omega : _ ≤ 6) (by decide)) (fun p hp => by cases hp)
  refine ⟨acc, k', by rw [h2, hr]; simp; omega, h1, ?_⟩
  rw [t1]
  have hb : B_law_rows = seqS (ownS 1 (bltF lstG nilA)) (seqS (forS (argI rng1 (consA (fnE 18 (consA (varE 0) (consA (conE (.int 6)) nilA))) nilA)) (.nm 2) rbody) (seqS (frzS 1) (retS (varE 1)))) := rfl
  rw [hb]
  have hv : bdI v = true := by unfold bdI; simp; omega
  have hv2 : v ≤ 100000 := by omega
  have e3 : n + 1 + 2 = n + 3 := rfl
  rw [e3] at e1
  simp [short, e1, hv, hv2] at h3 ⊢
  rw [h3]
  simp
theorem pick_ok (n : Nat) (ns : List Int) (k : Int) (xs : List D) (hx : xs ≠ []) (hl : xs.length ≤ 100000) : ∃ x k', x ∈ xs ∧ run tab (n+3) 15 [.ref 0, .lst xs] (ST ns k) = .ok x (ST ns k') := by
  have hp : 0 < xs.length := List.length_pos_iff.mpr hx
  obtain ⟨v, v1, v2, e1⟩ := take_ok n ns k xs.length (by omega)
  obtain ⟨j, rfl⟩ : ∃ j : Nat, v = (j : Int) := ⟨v.toNat, by omega⟩
  have hj : j < xs.length := by omega
  refine ⟨xs[j], k + 1, List.getElem_mem hj, ?_⟩
  rw [t15]
  unfold B_law_pick
  have hat : atI xs (j : Int) = some xs[j] := by rw [atI_nat, List.getElem?_eq_getElem hj]
  simp [e1, hat]
end Dn.K50
namespace Dn.K50
open PySem L2
theorem nm1 (n : Nat) (m : Store) : run tab (n+1) 16 [.str "a"] m = .ok (.bl true) m := by kernel_rfl
theorem nm2 (n : Nat) (m : Store) : run tab (n+1) 16 [.str "z9"] m = .ok (.bl true) m := by kernel_rfl
theorem nm3 (n : Nat) (m : Store) : run tab (n+1) 16 [.str "abcdefgh"] m = .ok (.bl true) m := by kernel_rfl
theorem nm4 (n : Nat) (m : Store) : run tab (n+1) 16 [.str "abcdefghi"] m = .ok (.bl false) m := by kernel_rfl
theorem nm5 (n : Nat) (m : Store) : run tab (n+1) 16 [.str ""] m = .ok (.bl false) m := by kernel_rfl
theorem nm6 (n : Nat) (m : Store) : run tab (n+1) 16 [.str "9a"] m = .ok (.bl false) m := by kernel_rfl
theorem nm7 (n : Nat) (m : Store) : run tab (n+1) 16 [.str "A"] m = .ok (.bl false) m := by kernel_rfl
theorem nm8 (n : Nat) (m : Store) : run tab (n+1) 16 [.str "a_b"] m = .ok (.bl false) m := by kernel_rfl
theorem nm9 (n : Nat) (m : Store) : run tab (n+1) 16 [.non] m = .ok (.bl false) m := by kernel_rfl
theorem nm10 (n : Nat) (m : Store) : run tab (n+1) 16 [.int 7] m = .ok (.bl false) m := by kernel_rfl
def daysL : List Int := [0, 1, 2, 3, 4, 5, 6, 7, 8, 9, 10, 999991, 999992, 999993, 999994, 999995, 999996, 999997, 999998, 999999]
theorem days_ok (n : Nat) (m : Store) : run tab (n+1) 10 [] m = .ok (.lst (is daysL)) m := by kernel_rfl
end Dn.K50
namespace Dn.K50
open PySem L2
theorem t0 (n : Nat) (a : D) (m : Store) : run tab (n+1) 0 [a] m = endS (B_law (run tab n) [.dat a, .em, .em, .em, .em, .em, .em, .em, .em, .em, .em, .em, .em, .em, .em, .em, .em, .em, .em, .em] m) := by simp [run, tab]
theorem fold_len : ∀ (ps acc : List PR), (ps.foldl jstep acc).length ≤ acc.length + ps.length
  | [], acc => by simp
  | p :: ps, acc => by
    have h1 := fold_len ps (jstep acc p)
    have h2 := jstep_len acc p
    rw [List.foldl_cons]
    simp
    omega
theorem norm_len (l : List PR) : (normM l).length ≤ l.length := by
  have := fold_len (l.mergeSort leP) []
  rw [List.length_mergeSort] at this
  unfold normM joinedM
  simpa using this
/-- what stands behind the first lines -/
structure Two (f s : List PR) : Prop where
  okf : ∀ p ∈ f, okP p = true
  oks : ∀ p ∈ s, okP p = true
  lf : f.length ≤ 6
  ls : s.length ≤ 6
section
variable {f s : List PR} (T : Two f s)
include T
theorem Two.one : Form (normM f) ∧ ∀ d, inS (normM f) d = inS f d := norm_form f T.okf
theorem Two.other : Form (normM s) ∧ ∀ d, inS (normM s) d = inS s d := norm_form s T.oks
theorem Two.l1 : (normM f).length ≤ 6 := Nat.le_trans (norm_len f) T.lf
theorem Two.l2 : (normM s).length ≤ 6 := Nat.le_trans (norm_len s) T.ls
end
theorem Form.one {a b : List PR} (ha : Form a) (hb : Form b) (e : ∀ d, inS a d = inS b d) : a = b := Fm.one ha.fm hb.fm e
theorem union_form {a b : List PR} (ha : Form a) (hb : Form b) : Form (unionM a b) ∧ ∀ d, inS (unionM a b) d = (inS a d || inS b d) := by
  obtain ⟨h1, h2⟩ := norm_form (a ++ b) fun p hp => by
    rcases List.mem_append.mp hp with hp | hp
    · exact ha.ok p hp
    · exact hb.ok p hp
  exact ⟨h1, fun d => by rw [← inS_app]; exact h2 d⟩
theorem inS_day {a : List PR} (ha : Form a) {d : Int} (h : inS a d = true) : 0 ≤ d ∧ d ≤ 999999 := by
  refine ⟨by have := ha.fm.above h; omega, ?_⟩
  obtain ⟨p, hp, hi⟩ := inS_mem.mp h
  have := ha.bd p hp
  have := inP_iff.mp hi
  omega
theorem less_form {a b : List PR} (ha : Form a) (hb : Form b) : Form (lessM a b) ∧ ∀ d, inS (lessM a b) d = (inS a d && !inS b d) := by
  obtain ⟨o1, o2⟩ := others_form hb
  obtain ⟨m1, m2⟩ := meet_form ha o1
  refine ⟨m1, fun d => ?_⟩
  show inS (meetM a (othersM b)) d = _
  rw [m2, o2]
  cases h : inS a d with
  | false => simp
  | true =>
    obtain ⟨h1, h2⟩ := inS_day ha h
    have z1 : decide (0 ≤ d) = true := by simpa using h1
    have z2 : decide (d ≤ 999999) = true := by simpa using h2
    rw [z1, z2]; rfl
theorem unlike_form {a b : List PR} (ha : Form a) (hb : Form b) : Form (unlikeM a b) ∧ ∀ d, inS (unlikeM a b) d = (inS a d != inS b d) := by
  obtain ⟨l1, l2⟩ := less_form ha hb
  obtain ⟨r1, r2⟩ := less_form hb ha
  obtain ⟨u1, u2⟩ := union_form l1 r1
  refine ⟨u1, fun d => ?_⟩
  show inS (unionM (lessM a b) (lessM b a)) d = _
  rw [u2, l2, r2]
  cases inS a d <;> cases inS b d <;> rfl
/-! ### the pieces of law -/
abbrev EV (ns : List Int) (f s : List PR) (c4 c5 c6 c7 c8 c9 c10 c11 c12 c13 : Cell) : Env := [.dat (sc ns), .dat (.ref 0), .dat (.lst (ds f)), .dat (.lst (ds s)), c4, c5, c6, c7, c8, c9, c10, c11, c12, c13, .em, .em, .em, .em, .em, .em]
def q3 : EvS := (ifS (orT (notT (blT (fnE 3 (consA (varE 4) nilA)))) (orT (blT (bin neG (fnE 2 (consA (bin addA (frzE (revF (brwE 2))) (brwE 2)) nilA)) (brwE 4))) (blT (bin neG (fnE 2 (consA (varE 4) nilA)) (brwE 4)))))
  (retS (conE (.bl false)))
  nxS)
def q4 : EvS := (ifS (notT (blT (bltE allG (consA (frzE (lcF (seqI (bin addA (brwE 2) (bltE listG (consA (brwE 4) nilA)))) (.nm 16) yesT (fnE 4 (consA (varE 16) nilA)) [16])) nilA))))
  (retS (conE (.bl false)))
  nxS)
def q5 : EvS := (asgS (.nm 6) (bltE tupG (consA (fnE 5 (consA (varE 4) (consA (varE 5) nilA))) (consA (fnE 6 (consA (varE 4) (consA (varE 5) nilA))) (consA (fnE 7 (consA (varE 4) (consA (varE 5) nilA))) (consA (fnE 8 (consA (varE 4) nilA)) (consA (fnE 9 (consA (varE 4) (consA (varE 5) nilA))) nilA)))))))
section
variable {ns : List Int} {f s : List PR} (T : Two f s) (m : Store) (c4 c5 c6 c7 c8 c9 c10 c11 c12 c13 : Cell)
abbrev O (f : List PR) : Cell := .dat (.tup (ds (normM f)))
include T
theorem q3_ok : q3 (run tab 8) (EV ns f s (O f) (O s) c6 c7 c8 c9 c10 c11 c12 c13) m = .nx (EV ns f s (O f) (O s) c6 c7 c8 c9 c10 c11 c12 c13) m := by
  obtain ⟨h1, h2⟩ := T.one
  have e1 := form_ok 7 (normM f) m (by have := T.l1; omega)
  rw [h1.fm.formB] at e1
  have e2 := (normal_ok 3 (f.reverse ++ f) m (by have := T.lf; simp; omega) (fun p hp => T.okf p (by simpa using hp))).1
  have e3 : normM (f.reverse ++ f) = normM f := by
    obtain ⟨g1, g2⟩ := norm_form (f.reverse ++ f) (fun p hp => T.okf p (by simpa using hp))
    refine g1.one h1 fun d => ?_
    rw [g2, h2, inS_app, inS_perm (List.reverse_perm f), Bool.or_self]
  have e4 := (normal_ok 3 (normM f) m (by have := T.l1; omega) h1.ok).2
  have e5 : normM (normM f) = normM f := by
    obtain ⟨g1, g2⟩ := norm_form (normM f) h1.ok
    exact g1.one h1 g2
  rw [e3] at e2
  rw [e5] at e4
  have e6 : (ds f).reverse ++ ds f = ds (f.reverse ++ f) := by simp
  have e7 := encP.neT m (normM f) (normM f)
  have e8 : (ds f).length + (ds f).length ≤ LIM := Nat.le_trans (by have := T.lf; simp; omega : _ ≤ 12) (by decide)
  unfold q3
  simp only [ifS, orT, notT, blT, fnE, consA, nilA, varE, brwE, EV, List.getElem?_cons_zero, List.getElem?_cons_succ, R.bind_ok, e1, isB, R.of_some, liftS_ok, bin, frzE, revF, revG, addA, orO, addG, catF, List.length_reverse, e8, if_true, Option.map_some, e6, e2, e7, decide_true, Bool.not_true, Bool.false_eq_true, if_false, e4, nxS]
theorem q4_ok : q4 (run tab 8) (EV ns f s (O f) (O s) c6 c7 c8 c9 c10 c11 c12 c13) m = .nx (EV ns f s (O f) (O s) c6 c7 c8 c9 c10 c11 c12 c13) m := by
  obtain ⟨h1, h2⟩ := T.one
  have hok : ∀ p ∈ f ++ normM f, okP p = true := fun p hp => by
    rcases List.mem_append.mp hp with hp | hp
    · exact T.okf p hp
    · exact h1.ok p hp
  have e6 : ds f ++ ds (normM f) = ds (f ++ normM f) := by simp
  have e8 : (ds f).length + (ds (normM f)).length ≤ LIM := Nat.le_trans (by have := T.lf; have := T.l1; simp; omega : _ ≤ 12) (by decide)
  have e := lcL_all (C := run tab 8) (g := .nm 16) (te := fnE 4 (consA (varE 16) nilA)) (e := wipeE (EV ns f s (O f) (O s) c6 c7 c8 c9 c10 c11 c12 c13) [16]) (m := m) (f := encP.d) (h := fun p => D.bl (okP p)) (l := f ++ normM f)
    (fun p hp => ⟨_, by simp [wipeE, EV]; rfl, by
      have := span_ok 5 (encP.d p) (good_p p).1 (good_p p).2 m
      rw [spanB_p] at this
      simp [this]⟩)
  have e9 : ((f ++ normM f).map fun p => okP p).all id = true := by
    rw [List.all_eq_true]
    intro b hb
    obtain ⟨p, hp, rfl⟩ := List.mem_map.mp hb
    exact hok p hp
  unfold q4
  simp only [ifS, notT, blT, bltE, consA, nilA, frzE, lcF, seqI, bin, brwE, EV, List.getElem?_cons_zero, List.getElem?_cons_succ, R.bind_ok, listG, listF, Option.map_some, R.of_some, addA, orO, addG, catF, e8, if_true, e6, itemsOf] at e ⊢
  rw [e]
  simp only [R.bind_ok, allG]
  rw [toBls_map (fun p : PR => okP p), Option.map_some, e9]
  simp only [R.of_some, R.bind_ok, isB, liftS_ok, Bool.not_true, Bool.false_eq_true, if_false, nxS]
def made (f s : List PR) : List (List PR) := [unionM (normM f) (normM s), meetM (normM f) (normM s), lessM (normM f) (normM s), othersM (normM f), unlikeM (normM f) (normM s)]
abbrev MD (f s : List PR) : Cell := .dat (.tup ((made f s).map fun l => .tup (ds l)))
theorem q5_ok : q5 (run tab 8) (EV ns f s (O f) (O s) c6 c7 c8 c9 c10 c11 c12 c13) m = .nx (EV ns f s (O f) (O s) (MD f s) c7 c8 c9 c10 c11 c12 c13) m := by
  have l1 := T.l1
  have l2 := T.l2
  have e1 := union_ok 6 (normM f) (normM s) m (by omega)
  have e2 := meet_ok 7 (normM f) (normM s) m (Nat.lt_of_le_of_lt (by omega : _ ≤ 12) (by decide))
  have e3 := less_ok 6 (normM f) (normM s) m (by omega)
  have e4 := others_ok 7 (normM f) m (Nat.lt_of_le_of_lt (by omega : _ ≤ 12) (by decide))
  have e5 := unlike_ok 5 (normM f) (normM s) m (by omega)
  unfold q5
  simp [EV, e1, e2, e3, e4, e5, short, made, MD]
end
end Dn.K50
namespace Dn.K50
open PySem L2
def d1 : EvS := (parS [11, 12] (consM (bltE anyG (consA (frzE (lcF (seqI (varE 2)) (.tp [(.nm 17), (.nm 18)]) yesT (chainE leG leG (brwE 17) (brwE 7) (brwE 18)) [17, 18])) nilA)) (consM (bltE anyG (consA (frzE (lcF (seqI (varE 3)) (.tp [(.nm 17), (.nm 18)]) yesT (chainE leG leG (brwE 17) (brwE 7) (brwE 18)) [17, 18])) nilA)) nilM)))
def d2 : EvS := (asgS (.nm 13) (bltE tupG (consA (orE (varE 11) (varE 12)) (consA (andE (varE 11) (varE 12)) (consA (andE (varE 11) (notE (varE 12))) (consA (notE (varE 11)) (consA (bin neG (brwE 11) (brwE 12)) nilA)))))))
def d3 : EvS := (ifS (orT (blT (bin neG (fnE 11 (consA (varE 4) (consA (varE 7) nilA))) (brwE 11))) (blT (bin neG (bltE tupleG (consA (frzE (lcF (seqI (varE 6)) (.nm 19) yesT (fnE 11 (consA (varE 19) (consA (varE 7) nilA))) [19])) nilA)) (brwE 13))))
  (retS (conE (.bl false)))
  nxS)
def q6 : EvS := (forS (seqI (bin addA (fnE 10 nilA) (frzE (bltF lstG (consA (conE (.int 500000)) nilA))))) (.nm 7) (seqS d1 (seqS d2 d3)))
theorem in_lc (C : Orc) (l : List PR) (day : Int) (m : Store) (e : Env) (he : e[7]? = some (.dat (.int day))) (hl : e.length = 20) : lcL C (.tp [(.nm 17), (.nm 18)]) yesT (chainE leG leG (brwE 17) (brwE 7) (brwE 18)) (wipeE e [17, 18]) (ds l) m = .ok (l.map fun p => D.bl (inP p day)) m := by
  refine lcL_all fun p _ => ⟨((wipeE e [17, 18]).set 17 (.dat (.int p.1))).set 18 (.dat (.int p.2)), ?_, ?_⟩
  · simp [encP_d, wipeE, hl]
  · have a1 : (((wipeE e [17, 18]).set 17 (.dat (.int p.1))).set 18 (.dat (.int p.2)))[17]? = some (.dat (.int p.1)) := by
      rw [List.getElem?_set_ne (by decide), List.getElem?_set_self (by simp [wipeE, hl])]
    have a2 : (((wipeE e [17, 18]).set 17 (.dat (.int p.1))).set 18 (.dat (.int p.2)))[18]? = some (.dat (.int p.2)) := List.getElem?_set_self (by simp [wipeE, hl])
    have a3 : (((wipeE e [17, 18]).set 17 (.dat (.int p.1))).set 18 (.dat (.int p.2)))[7]? = some (.dat (.int day)) := by
      rw [List.getElem?_set_ne (by decide), List.getElem?_set_ne (by decide)]
      simp only [wipeE]
      rw [List.getElem?_set_ne (by decide), List.getElem?_set_ne (by decide)]
      exact he
    simp only [chainE, brwE, a1, a2, a3, R.bind_ok, leG, R.of_some, isB]
    unfold inP
    by_cases c : p.1 ≤ day <;> simp [c]
theorem any_in (l : List PR) (day : Int) : (l.map fun p => inP p day).any id = inS l day := by
  unfold inS
  rw [List.any_map]
  rfl
def dueL (a b : Bool) : List Bool := [a || b, a && b, a && !b, !a, a != b]
section
variable {ns : List Int} {f s : List PR} (T : Two f s) (m : Store) (c4 c5 c6 c7 c8 c9 c10 c11 c12 c13 : Cell)
theorem d1_ok (day : Int) : d1 (run tab 8) (EV ns f s (O f) (O s) (MD f s) (.dat (.int day)) c8 c9 c10 c11 c12 c13) m = .nx (EV ns f s (O f) (O s) (MD f s) (.dat (.int day)) c8 c9 c10 (.dat (.bl (inS f day))) (.dat (.bl (inS s day))) c13) m := by
  have e1 := in_lc (run tab 8) f day m (EV ns f s (O f) (O s) (MD f s) (.dat (.int day)) c8 c9 c10 c11 c12 c13) rfl rfl
  have e2 := in_lc (run tab 8) s day m (EV ns f s (O f) (O s) (MD f s) (.dat (.int day)) c8 c9 c10 c11 c12 c13) rfl rfl
  unfold d1
  simp only [parS, consM, nilM, bltE, consA, nilA, frzE, lcF, seqI, varE, EV, List.getElem?_cons_zero, List.getElem?_cons_succ, R.bind_ok, itemsOf, R.of_some] at e1 e2 ⊢
  rw [e1]
  simp only [R.bind_ok, anyG, toBls_map (fun p : PR => inP p day), Option.map_some, R.of_some, any_in]
  rw [e2]
  simp only [R.bind_ok, anyG, toBls_map (fun p : PR => inP p day), Option.map_some, R.of_some, any_in, liftS_ok]
  simp
theorem d2_ok (day : Int) (a b : Bool) : d2 (run tab 8) (EV ns f s (O f) (O s) (MD f s) (.dat (.int day)) c8 c9 c10 (.dat (.bl a)) (.dat (.bl b)) c13) m = .nx (EV ns f s (O f) (O s) (MD f s) (.dat (.int day)) c8 c9 c10 (.dat (.bl a)) (.dat (.bl b)) (.dat (.tup ((dueL a b).map encB.d)))) m := by
  unfold d2
  cases a <;> cases b <;> simp [EV, short, dueL, encB]
include T
theorem made_has (day : Int) (hd : 0 ≤ day ∧ day ≤ 999999) : (made f s).map (fun l => hasM l day) = dueL (inS f day) (inS s day) := by
  obtain ⟨h1, h2⟩ := T.one
  obtain ⟨g1, g2⟩ := T.other
  obtain ⟨u1, u2⟩ := union_form h1 g1
  obtain ⟨m1, m2⟩ := meet_form h1 g1
  obtain ⟨l1, l2⟩ := less_form h1 g1
  obtain ⟨o1, o2⟩ := others_form h1
  obtain ⟨x1, x2⟩ := unlike_form h1 g1
  have z1 : decide (0 ≤ day) = true := by simpa using hd.1
  have z2 : decide (day ≤ 999999) = true := by simpa using hd.2
  unfold made dueL
  simp only [List.map_cons, List.map_nil, has_in u1, has_in m1, has_in l1, has_in o1, has_in x1, u2, m2, l2, o2, x2, h2, g2, z1, z2, Bool.true_and]
theorem d3_ok (day : Int) (hd : 0 ≤ day ∧ day ≤ 999999) : d3 (run tab 8) (EV ns f s (O f) (O s) (MD f s) (.dat (.int day)) c8 c9 c10 (.dat (.bl (inS f day))) (.dat (.bl (inS s day))) (.dat (.tup ((dueL (inS f day) (inS s day)).map encB.d)))) m = .nx (EV ns f s (O f) (O s) (MD f s) (.dat (.int day)) c8 c9 c10 (.dat (.bl (inS f day))) (.dat (.bl (inS s day))) (.dat (.tup ((dueL (inS f day) (inS s day)).map encB.d)))) m := by
  obtain ⟨h1, h2⟩ := T.one
  have e1 := has_ok 7 (normM f) day m
  rw [has_in h1, h2] at e1
  have e2 := lcL_all (C := run tab 8) (g := .nm 19) (te := fnE 11 (consA (varE 19) (consA (varE 7) nilA))) (e := wipeE (EV ns f s (O f) (O s) (MD f s) (.dat (.int day)) c8 c9 c10 (.dat (.bl (inS f day))) (.dat (.bl (inS s day))) (.dat (.tup ((dueL (inS f day) (inS s day)).map encB.d)))) [19]) (m := m)
    (f := fun l => .tup (ds l)) (h := fun l => D.bl (hasM l day)) (l := made f s) (fun l _ => ⟨_, by simp [wipeE, EV]; rfl, by
      have := has_ok 7 l day m
      simp [this]⟩)
  have e3 : (made f s).map (fun l => D.bl (hasM l day)) = (dueL (inS f day) (inS s day)).map encB.d := by
    rw [← made_has T day hd, List.map_map]; rfl
  rw [e3] at e2
  have e4 := encB.neT m (dueL (inS f day) (inS s day)) (dueL (inS f day) (inS s day))
  unfold d3
  simp only [ifS, orT, blT, bin, fnE, consA, nilA, varE, brwE, EV, List.getElem?_cons_zero, List.getElem?_cons_succ, R.bind_ok, e1, neG_bb, R.of_some, isB, decide_true, Bool.not_true, Bool.false_eq_true, if_false, bltE, frzE, lcF, seqI, itemsOf, MD] at e2 ⊢
  rw [e2]
  simp only [R.bind_ok, tupleG, R.of_some, e4, decide_true, Bool.not_true, isB, Bool.false_eq_true, if_false, liftS_ok, nxS]
theorem q6_loop : ∀ (l : List Int) (c7 c11 c12 c13 : Cell), (∀ d ∈ l, 0 ≤ d ∧ d ≤ 999999) → [c7, c11, c12, c13].all plainC = true → ∃ c7' c11' c12' c13', [c7', c11', c12', c13'].all plainC = true ∧ forL (run tab 8) (.nm 7) (seqS d1 (seqS d2 d3)) (is l) (EV ns f s (O f) (O s) (MD f s) c7 c8 c9 c10 c11 c12 c13) m = .nx (EV ns f s (O f) (O s) (MD f s) c7' c8 c9 c10 c11' c12' c13') m
  | [], c7, c11, c12, c13, _, hp => ⟨c7, c11, c12, c13, hp, by simp [forL]⟩
  | d :: l, c7, c11, c12, c13, h, hp => by
    obtain ⟨a1, a2, a3, a4, ap, ih⟩ := q6_loop l (.dat (.int d)) (.dat (.bl (inS f d))) (.dat (.bl (inS s d))) (.dat (.tup ((dueL (inS f d) (inS s d)).map encB.d))) (fun x hx => h x (List.mem_cons_of_mem _ hx)) rfl
    refine ⟨a1, a2, a3, a4, ap, ?_⟩
    have e : is (d :: l) = .int d :: is l := rfl
    rw [e]
    unfold forL
    have ea : asg (.nm 7) (.int d) (EV ns f s (O f) (O s) (MD f s) c7 c8 c9 c10 c11 c12 c13) = some (EV ns f s (O f) (O s) (MD f s) (.dat (.int d)) c8 c9 c10 c11 c12 c13) := rfl
    rw [ea]
    dsimp only
    have eb : seqS d1 (seqS d2 d3) (run tab 8) (EV ns f s (O f) (O s) (MD f s) (.dat (.int d)) c8 c9 c10 c11 c12 c13) m = .nx (EV ns f s (O f) (O s) (MD f s) (.dat (.int d)) c8 c9 c10 (.dat (.bl (inS f d))) (.dat (.bl (inS s d))) (.dat (.tup ((dueL (inS f d) (inS s d)).map encB.d)))) m := by
      unfold seqS
      rw [d1_ok]
      simp only [SR.bind_nx]
      rw [d2_ok]
      simp only [SR.bind_nx]
      rw [d3_ok T m c8 c9 c10 d (h d List.mem_cons_self)]
    rw [eb]
    exact ih
theorem q6_ok (hp : [c7, c11, c12, c13].all plainC = true) : ∃ c7' c11' c12' c13', [c7', c11', c12', c13'].all plainC = true ∧ q6 (run tab 8) (EV ns f s (O f) (O s) (MD f s) c7 c8 c9 c10 c11 c12 c13) m = .nx (EV ns f s (O f) (O s) (MD f s) c7' c8 c9 c10 c11' c12' c13') m := by
  obtain ⟨a1, a2, a3, a4, ap, e⟩ := q6_loop (ns := ns) T m c8 c9 c10 (daysL ++ [500000]) c7 c11 c12 c13 (by decide) hp
  refine ⟨a1, a2, a3, a4, ap, ?_⟩
  have ed := days_ok 7 m
  have e8 : (is daysL).length + [D.int 500000].length ≤ LIM := by decide
  have e6 : is daysL ++ [D.int 500000] = is (daysL ++ [500000]) := rfl
  unfold q6
  simp only [forS, seqI, bin, fnE, nilA, R.bind_ok, ed, frzE, bltF, consA, conE, lstG, short, List.length_cons, List.length_nil, Nat.reduceAdd, Nat.reduceLeDiff, decide_true, if_true, R.of_some, addA, orO, addG, catF, Option.map_some, itemsOf, liftS_ok]
  rw [if_pos (by decide)]
  simp only [R.of_some, R.bind_ok, Option.map_some, itemsOf, liftS_ok]
  exact e
end
end Dn.K50
namespace Dn.K50
open PySem L2
def rf : EvS := (retS (conE (.bl false)))
def q7 : EvS := (ifS (orT (notT (blT (bltE allG (consA (frzE (lcF (seqI (varE 6)) (.nm 19) yesT (fnE 3 (consA (varE 19) nilA)) [19])) nilA)))) (blT (bin neG (bin addA (fnE 12 (consA (varE 4) nilA)) (fnE 12 (consA (fnE 8 (consA (varE 4) nilA)) nilA))) (conE (.int 1000000))))) rf nxS)
def q8 : EvS := (ifS (blT (bin neG (fnE 12 (consA (fnE 5 (consA (varE 4) (consA (varE 5) nilA))) nilA)) (bin subG (bin addA (fnE 12 (consA (varE 4) nilA)) (fnE 12 (consA (varE 5) nilA))) (fnE 12 (consA (fnE 6 (consA (varE 4) (consA (varE 5) nilA))) nilA))))) rf nxS)
def q9 : EvS := (ifS (orT (blT (bin neG (fnE 13 (consA (varE 4) (consA (varE 5) nilA))) (bin eqG (fnE 6 (consA (varE 4) (consA (varE 5) nilA))) (brwE 4)))) (notT (blT (fnE 13 (consA (fnE 6 (consA (varE 4) (consA (varE 5) nilA))) (consA (varE 5) nilA)))))) rf nxS)
def q10 : EvS := (asgS (.nm 8) (fnE 14 (consA (varE 4) nilA)))
def q11 : EvS := (ifS (orT (blT (bin neG (brwE 8) (bltE sortG (consA (brwE 8) nilA)))) (blT (bin neG (bltE lenG (consA (brwE 8) nilA)) (bin mulG (conE (.int 2)) (bltE lenG (consA (brwE 4) nilA)))))) rf nxS)
def q12b : EvS := (ifS (blT (bin neG (bin inG (brwE 7) (brwE 8)) (bin neG (fnE 11 (consA (varE 4) (consA (varE 7) nilA))) (andE (bin gtG (brwE 7) (conE (.int 0))) (fnE 11 (consA (varE 4) (consA (bin subG (brwE 7) (conE (.int 1))) nilA))))))) rf nxS)
def q12 : EvS := (forS (argI rng1 (consA (conE (.int 12)) nilA)) (.nm 7) q12b)
section
variable {ns : List Int} {f s : List PR} (T : Two f s) (m : Store) (c4 c5 c6 c7 c8 c9 c10 c11 c12 c13 : Cell)
abbrev E7 (ns : List Int) (f s : List PR) (c7 c8 c9 c10 c11 c12 c13 : Cell) : Env := EV ns f s (O f) (O s) (MD f s) c7 c8 c9 c10 c11 c12 c13
include T
theorem made_form : ∀ l ∈ made f s, Form l ∧ l.length ≤ 100000 := by
  obtain ⟨h1, h2⟩ := T.one
  obtain ⟨g1, g2⟩ := T.other
  have l1 := T.l1
  have l2 := T.l2
  intro l hl
  unfold made at hl
  simp only [List.mem_cons, List.not_mem_nil, or_false] at hl
  rcases hl with rfl | rfl | rfl | rfl | rfl
  · refine ⟨(union_form h1 g1).1, ?_⟩
    have := norm_len (normM f ++ normM s)
    unfold unionM
    simp at this
    omega
  · refine ⟨(meet_form h1 g1).1, ?_⟩
    have := meetM_len _ (normM f) (normM s) (Nat.le_refl _)
    omega
  · refine ⟨(less_form h1 g1).1, ?_⟩
    have := less_len (normM f) (normM s)
    omega
  · refine ⟨(others_form h1).1, ?_⟩
    have := othersG_len (normM f) 0
    unfold othersM
    omega
  · refine ⟨(unlike_form h1 g1).1, ?_⟩
    have a := less_len (normM f) (normM s)
    have b := less_len (normM s) (normM f)
    have := norm_len (lessM (normM f) (normM s) ++ lessM (normM s) (normM f))
    unfold unlikeM unionM
    simp at this
    omega
theorem q7_ok : q7 (run tab 8) (E7 ns f s c7 c8 c9 c10 c11 c12 c13) m = .nx (E7 ns f s c7 c8 c9 c10 c11 c12 c13) m := by
  obtain ⟨h1, h2⟩ := T.one
  obtain ⟨o1, o2⟩ := others_form h1
  have e2 := lcL_all (C := run tab 8) (g := .nm 19) (te := fnE 3 (consA (varE 19) nilA)) (e := wipeE (E7 ns f s c7 c8 c9 c10 c11 c12 c13) [19]) (m := m)
    (f := fun l => .tup (ds l)) (h := fun _ => D.bl true) (l := made f s) (fun l hl => ⟨_, by simp [wipeE, EV]; rfl, by
      obtain ⟨a, b⟩ := made_form T l hl
      have := form_ok 7 l m b
      rw [a.fm.formB] at this
      simp [this]⟩)
  have e3 := many_ok 7 (normM f) m
  have e4 := others_ok 7 (normM f) m (Nat.lt_of_le_of_lt (by have := T.l1; omega : _ ≤ 12) (by decide))
  have e5 := many_ok 7 (othersM (normM f)) m
  have e6 := many_others h1 o1 o2
  have e7 : ((made f s).map fun _ => true).all id = true := by rw [List.all_eq_true]; intro b hb; obtain ⟨_, _, rfl⟩ := List.mem_map.mp hb; rfl
  unfold q7
  simp only [ifS, orT, notT, blT, bltE, consA, nilA, frzE, lcF, seqI, varE, E7, EV, MD, List.getElem?_cons_zero, List.getElem?_cons_succ, R.bind_ok, itemsOf, R.of_some] at e2 ⊢
  rw [e2]
  simp only [R.bind_ok, allG, toBls_map (fun _ : List PR => true), Option.map_some, R.of_some, e7, isB, Bool.not_true, Bool.false_eq_true, if_false, bin, fnE, consA, nilA, varE, List.getElem?_cons_zero, List.getElem?_cons_succ, e3, e4, e5, addA, orO, addG, conE, neG_ii, e6, decide_true, liftS_ok, nxS]
theorem q8_ok : q8 (run tab 8) (E7 ns f s c7 c8 c9 c10 c11 c12 c13) m = .nx (E7 ns f s c7 c8 c9 c10 c11 c12 c13) m := by
  obtain ⟨h1, h2⟩ := T.one
  obtain ⟨g1, g2⟩ := T.other
  obtain ⟨u1, u2⟩ := union_form h1 g1
  obtain ⟨m1, m2⟩ := meet_form h1 g1
  have l1 := T.l1
  have l2 := T.l2
  have e1 := union_ok 6 (normM f) (normM s) m (by omega)
  have e2 := meet_ok 7 (normM f) (normM s) m (Nat.lt_of_le_of_lt (by omega : _ ≤ 12) (by decide))
  have e3 := many_ok 7 (normM f) m
  have e4 := many_ok 7 (normM s) m
  have e5 := many_ok 7 (unionM (normM f) (normM s)) m
  have e6 := many_ok 7 (meetM (normM f) (normM s)) m
  have e7 := many_sum h1 g1 u1 m1 u2 m2
  unfold q8
  simp only [ifS, blT, bin, fnE, consA, nilA, varE, E7, EV, List.getElem?_cons_zero, List.getElem?_cons_succ, R.bind_ok, e1, e2, e3, e4, e5, e6, addA, orO, addG, subG, R.of_some, neG_ii, e7, decide_true, Bool.not_true, isB, Bool.false_eq_true, if_false, liftS_ok, nxS]
theorem q9_ok : q9 (run tab 8) (E7 ns f s c7 c8 c9 c10 c11 c12 c13) m = .nx (E7 ns f s c7 c8 c9 c10 c11 c12 c13) m := by
  obtain ⟨h1, h2⟩ := T.one
  obtain ⟨g1, g2⟩ := T.other
  obtain ⟨m1, m2⟩ := meet_form h1 g1
  obtain ⟨a1, a2⟩ := less_form h1 g1
  obtain ⟨b1, b2⟩ := less_form m1 g1
  have l1 := T.l1
  have l2 := T.l2
  have lm := meetM_len _ (normM f) (normM s) (Nat.le_refl _)
  have e2 := meet_ok 7 (normM f) (normM s) m (Nat.lt_of_le_of_lt (by omega : _ ≤ 12) (by decide))
  have e3 := part_ok 5 (normM f) (normM s) m (by omega)
  have e4 := part_ok 5 (meetM (normM f) (normM s)) (normM s) m (by omega)
  have e5 := encP.eqT m (meetM (normM f) (normM s)) (normM f)
  have nil_iff : ∀ {l : List PR}, Form l → (l = [] ↔ ∀ d, inS l d = false) := fun {l} h =>
    ⟨fun e d => by rw [e]; rfl, fun e => Form.one h ⟨trivial, fun p hp => by cases hp⟩ fun d => by rw [e d]; rfl⟩
  have e6 : decide (lessM (normM f) (normM s) = []) = decide (meetM (normM f) (normM s) = normM f) := by
    apply decide_eq_decide.mpr
    rw [nil_iff a1]
    constructor
    · intro h
      refine m1.one h1 fun d => ?_
      have := h d
      rw [a2] at this
      rw [m2]
      revert this
      cases inS (normM f) d <;> cases inS (normM s) d <;> simp
    · intro h d
      have := m2 d
      rw [h] at this
      rw [a2]
      revert this
      cases inS (normM f) d <;> cases inS (normM s) d <;> simp
  have e7 : decide (lessM (meetM (normM f) (normM s)) (normM s) = []) = true := by
    rw [decide_eq_true_eq, nil_iff b1]
    intro d
    rw [b2, m2]
    cases inS (normM f) d <;> cases inS (normM s) d <;> rfl
  rw [e6] at e3
  rw [e7] at e4
  unfold q9
  simp only [ifS, orT, notT, blT, bin, fnE, consA, nilA, varE, brwE, E7, EV, List.getElem?_cons_zero, List.getElem?_cons_succ, R.bind_ok, e2, e3, e4, e5, R.of_some, neG_bb, decide_true, Bool.not_true, isB, Bool.false_eq_true, if_false, liftS_ok, nxS]
abbrev BK (f : List PR) : Cell := .dat (.lst (is (breaksM (normM f))))
theorem q10_ok : q10 (run tab 8) (E7 ns f s c7 c8 c9 c10 c11 c12 c13) m = .nx (E7 ns f s c7 (BK f) c9 c10 c11 c12 c13) m := by
  have e := breaks_ok 7 (normM f) m (Nat.le_trans (by have := T.l1; omega : _ ≤ 12) (by decide))
  unfold q10
  simp [EV, e]
theorem q11_ok : q11 (run tab 8) (E7 ns f s c7 (BK f) c9 c10 c11 c12 c13) m = .nx (E7 ns f s c7 (BK f) c9 c10 c11 c12 c13) m := by
  obtain ⟨h1, h2⟩ := T.one
  have hb := breaks_len (normM f)
  obtain ⟨s1, s2⟩ := sort_ints (breaksM (normM f)) (Nat.le_trans (by have := T.l1; omega : _ ≤ 12) (by decide))
  rw [breaks_sorted h1] at s2
  have e := encI.neL m (breaksM (normM f)) (breaksM (normM f))
  have e2 : (((is (breaksM (normM f))).length : Nat) : Int) = 2 * (((ds (normM f)).length : Nat) : Int) := by simp; omega
  unfold q11
  simp only [ifS, orT, blT, bin, bltE, consA, nilA, brwE, E7, EV, List.getElem?_cons_zero, List.getElem?_cons_succ, R.bind_ok, sortG, sortF, s1, if_true, s2, Option.map_some, R.of_some, e, decide_true, Bool.not_true, isB, Bool.false_eq_true, if_false, lenG, conE, mulG, mulB, neG_ii, e2, liftS_ok, nxS]
  simp
theorem q12b_ok (d : Int) (hd : 0 ≤ d) : q12b (run tab 8) (E7 ns f s (.dat (.int d)) (BK f) c9 c10 c11 c12 c13) m = .nx (E7 ns f s (.dat (.int d)) (BK f) c9 c10 c11 c12 c13) m := by
  obtain ⟨h1, h2⟩ := T.one
  have e1 := has_ok 7 (normM f) d m
  have e2 := has_ok 7 (normM f) (d - 1) m
  rw [has_in h1] at e1 e2
  have e3 := encI.inL m d (breaksM (normM f)) (fun z q => by cases q)
  have e3' : inG m (.int d) (.lst (is (breaksM (normM f)))) = some (.bl (decide (d ∈ breaksM (normM f)))) := e3
  have e4 := breaks_mem (normM f) (-1) d h1.fm
  unfold q12b
  simp only [ifS, blT, bin, fnE, consA, nilA, varE, brwE, E7, EV, List.getElem?_cons_zero, List.getElem?_cons_succ, R.bind_ok, e3', e4, e1, R.of_some, andE, gtG, conE, isB]
  by_cases c : d > 0
  · simp only [c, decide_true, if_true, subG, R.of_some, R.bind_ok, e2, neG_bb]
    cases inS (normM f) d <;> cases inS (normM f) (d - 1) <;> simp
  · have z : inS (normM f) (d - 1) = false := h1.fm.off (by omega)
    have c' : decide (d > 0) = false := by simpa using c
    rw [z]
    simp only [c', Bool.false_eq_true, if_false, R.bind_ok, R.of_some, neG_bb]
    cases inS (normM f) d <;> simp
theorem q12_loop : ∀ (l : List Int) (c7 : Cell), (∀ d ∈ l, 0 ≤ d) → plainC c7 = true → ∃ c7', plainC c7' = true ∧ forL (run tab 8) (.nm 7) q12b (is l) (E7 ns f s c7 (BK f) c9 c10 c11 c12 c13) m = .nx (E7 ns f s c7' (BK f) c9 c10 c11 c12 c13) m
  | [], c7, _, hp => ⟨c7, hp, by simp [forL]⟩
  | d :: l, c7, h, hp => by
    obtain ⟨a1, ap, ih⟩ := q12_loop l (.dat (.int d)) (fun x hx => h x (List.mem_cons_of_mem _ hx)) rfl
    refine ⟨a1, ap, ?_⟩
    have e : is (d :: l) = .int d :: is l := rfl
    rw [e]
    unfold forL
    have ea : asg (.nm 7) (.int d) (E7 ns f s c7 (BK f) c9 c10 c11 c12 c13) = some (E7 ns f s (.dat (.int d)) (BK f) c9 c10 c11 c12 c13) := rfl
    rw [ea]
    dsimp only
    rw [q12b_ok T m c9 c10 c11 c12 c13 d (h d List.mem_cons_self)]
    exact ih
theorem q12_ok (hp : plainC c7 = true) : ∃ c7', plainC c7' = true ∧ q12 (run tab 8) (E7 ns f s c7 (BK f) c9 c10 c11 c12 c13) m = .nx (E7 ns f s c7' (BK f) c9 c10 c11 c12 c13) m := by
  obtain ⟨a1, ap, e⟩ := q12_loop (ns := ns) T m c9 c10 c11 c12 c13 [0, 1, 2, 3, 4, 5, 6, 7, 8, 9, 10, 11] c7 (by decide) hp
  refine ⟨a1, ap, ?_⟩
  have er : rng1 [.int 12] = some (is [0, 1, 2, 3, 4, 5, 6, 7, 8, 9, 10, 11]) := by kernel_rfl
  unfold q12
  simp only [forS, argI, consA, conE, nilA, R.bind_ok, er, R.of_some, liftS_ok]
  exact e
end
end Dn.K50
namespace Dn.K50
open PySem L2
def q13 : EvS := (asgS (.nm 9) (fnE 15 (consA (varE 1) (consA (frzE (bltF lstG (consA (bltE tupG (consA (conE (.int 3)) (consA (conE (.int 2)) nilA))) (consA (bltE tupG (consA (conE (.int 0)) (consA (conE (.int 1000000)) nilA))) (consA (bltE tupG (consA (una negG (conE (.int 1))) (consA (conE (.int 4)) nilA))) (consA (bltE tupG (consA (conE (.int 1)) nilA)) (consA (frzE (bltF lstG (consA (conE (.int 1)) (consA (conE (.int 2)) nilA)))) (consA (bltE tupG (consA (conE (.bl true)) (consA (conE (.int 2)) nilA))) (consA (conE .non) (consA (bltE tupG (consA (conE (.str "a")) (consA (conE (.int 2)) nilA))) nilA)))))))))) nilA))))
def q14b : EvS := (seqS (dropS (fnE 2 (consA (bin addA (bin addA (brwE 2) (frzE (bltF lstG (consA (varE 9) nilA)))) (brwE 3)) nilA)))
  (retS (conE (.bl false))))
def q14s : EvS := (ifS (orT (blT (bin neG (xfE 14 0) (bltE lenG (consA (brwE 2) nilA)))) (blT (fnE 4 (consA (varE 9) nilA))))
  (retS (conE (.bl false)))
  nxS)
def q14 : EvS := (tryS 0 14 q14b q14s)
def q15 : EvS := (asgS (.nm 10) (frzE (lcF (seqI (bltE tupG (consA (conE (.str "a")) (consA (conE (.str "z9")) (consA (conE (.str "abcdefgh")) (consA (conE (.str "abcdefghi")) (consA (conE (.str "")) (consA (conE (.str "9a")) (consA (conE (.str "A")) (consA (conE (.str "a_b")) (consA (conE .non) (consA (conE (.int 7)) nilA)))))))))))) (.nm 15) (blT (fnE 16 (consA (varE 15) nilA))) (varE 15) [15])))
def q16 : EvS := (retS (andE (bin eqG (brwE 10) (frzE (bltF lstG (consA (conE (.str "a")) (consA (conE (.str "z9")) (consA (conE (.str "abcdefgh")) nilA)))))) (bin eqG (frzE (lcF (seqI (bltE tupG (consA (conE (.int 0)) (consA (conE (.int 999999)) (consA (conE (.int 1000000)) (consA (una negG (conE (.int 1))) (consA (conE (.bl true)) (consA (conE (.str "1")) nilA)))))))) (.nm 7) (blT (fnE 17 (consA (varE 7) nilA))) (varE 7) [7])) (frzE (bltF lstG (consA (conE (.int 0)) (consA (conE (.int 999999)) nilA)))))))
def WR : List D := [.tup [.int 3, .int 2], .tup [.int 0, .int 1000000], .tup [.int (-1), .int 4], .tup [.int 1], .lst [.int 1, .int 2], .tup [.bl true, .int 2], .non, .tup [.str "a", .int 2]]
theorem wr_bad : ∀ w ∈ WR, Good w ∧ spanB w = false := by
  intro w hw
  unfold WR at hw
  simp only [List.mem_cons, List.not_mem_nil, or_false] at hw
  rcases hw with rfl | rfl | rfl | rfl | rfl | rfl | rfl | rfl
  all_goals refine ⟨⟨trivial, fun ys e y hy => ?_⟩, by decide⟩
  all_goals first
    | cases e; done
    | (cases e; simp at hy; rcases hy with rfl | rfl <;> trivial)
    | (cases e; simp at hy; subst hy; trivial)
theorem addA_lst {m : Store} {xs ys : List D} (h : xs.length + ys.length ≤ LIM) : addA m (.lst xs) (.lst ys) = some (.lst (xs ++ ys)) := by
  unfold addA orO addG catF
  simp [h]
section
variable {ns : List Int} {f s : List PR} (T : Two f s) (m : Store) (c4 c5 c6 c7 c8 c9 c10 c11 c12 c13 : Cell)
theorem q13_ok (k : Int) : ∃ w k', w ∈ WR ∧ q13 (run tab 8) (E7 ns f s c7 c8 c9 c10 c11 c12 c13) (ST ns k) = .nx (E7 ns f s c7 c8 (.dat w) c10 c11 c12 c13) (ST ns k') := by
  obtain ⟨w, k', hw, e⟩ := pick_ok 5 ns k WR (by unfold WR; simp) (by decide)
  refine ⟨w, k', hw, ?_⟩
  unfold WR at e
  unfold q13
  simp [short, EV, e]
include T
theorem q14_ok (w : D) (hw : w ∈ WR) (hp : [c7, c8, c10, c11, c12, c13].all plainC = true) : q14 (run tab 8) (E7 ns f s c7 c8 (.dat w) c10 c11 c12 c13) m = .nx (E7 ns f s c7 c8 (.dat w) c10 c11 c12 c13) m := by
  obtain ⟨gw, sw⟩ := wr_bad w hw
  have e1 := normal_err 3 f w (ds s) m T.okf gw sw
  have e2 := span_ok 5 w gw.1 gw.2 m
  rw [sw] at e2
  have l1 : (ds f).length + [w].length ≤ LIM := Nat.le_trans (by have := T.lf; simp; omega : _ ≤ 20) (by decide)
  have l2 : (ds f ++ [w]).length + (ds s).length ≤ LIM := Nat.le_trans (by have := T.lf; have := T.ls; simp; omega : _ ≤ 20) (by decide)
  have e3 : (ds f ++ [w]) ++ ds s = ds f ++ w :: ds s := by simp
  have hb : q14b (run tab 8) (E7 ns f s c7 c8 (.dat w) c10 c11 c12 c13) m = .exc 0 [.int f.length] (E7 ns f s c7 c8 (.dat w) c10 c11 c12 c13) m := by
    unfold q14b
    have z1 := addA_lst (m := m) l1
    have z2 := addA_lst (m := m) l2
    have z3 : short [w] = true := rfl
    rw [e3] at z2
    simp only [seqS, dropS, fnE, consA, nilA, bin, brwE, varE, frzE, bltF, lstG, E7, EV, List.getElem?_cons_zero, List.getElem?_cons_succ, R.bind_ok, z3, if_true, R.of_some, z1, z2, e1, liftS_exc, SR.bind_exc]
  have hs : q14s (run tab 8) ((E7 ns f s c7 c8 (.dat w) c10 c11 c12 c13).set 14 (.exn 0 [.int f.length])) m = .nx ((E7 ns f s c7 c8 (.dat w) c10 c11 c12 c13).set 14 (.exn 0 [.int f.length])) m := by
    unfold q14s
    simp [EV, e2]
  have hall : (((E7 ns f s c7 c8 (.dat w) c10 c11 c12 c13).set 14 (.exn 0 [.int f.length])).set 14 .em).all plainC = true := by
    simp only [List.all_cons, List.all_nil, Bool.and_true, Bool.and_eq_true] at hp
    obtain ⟨p1, p2, p3, p4, p5, p6⟩ := hp
    have pd : ∀ d, plainC (.dat d) = true := fun _ => rfl
    have pe : plainC .em = true := rfl
    simp only [E7, EV, List.set_cons_succ, List.set_cons_zero, List.all_cons, List.all_nil, Bool.and_true, pd, pe, p1, p2, p3, p4, p5, p6, Bool.and_self]
  have hback : ((E7 ns f s c7 c8 (.dat w) c10 c11 c12 c13).set 14 (.exn 0 [.int f.length])).set 14 .em = E7 ns f s c7 c8 (.dat w) c10 c11 c12 c13 := rfl
  unfold q14 tryS
  rw [hb]
  dsimp only
  rw [if_pos rfl, if_pos (by show 14 < 20; decide), hs]
  unfold behind
  dsimp only
  rw [if_pos hall, hback]
end
def NML : List D := [.str "a", .str "z9", .str "abcdefgh"]
theorem q15_ok (ns : List Int) (f s : List PR) (c7 c8 c9 c10 c11 c12 c13 : Cell) (m : Store) : q15 (run tab 8) (E7 ns f s c7 c8 c9 c10 c11 c12 c13) m = .nx (E7 ns f s c7 c8 c9 (.dat (.lst NML)) c11 c12 c13) m := by
  unfold q15
  simp [EV, short, lcL, nm1, nm2, nm3, nm4, nm5, nm6, nm7, nm8, nm9, nm10, NML]
theorem q16_ok (ns : List Int) (f s : List PR) (c7 c8 c9 c11 c12 c13 : Cell) (m : Store) : q16 (run tab 8) (E7 ns f s c7 c8 c9 (.dat (.lst NML)) c11 c12 c13) m = .ret (.bl true) m := by
  have e1 : eqG m (.lst NML) (.lst [.str "a", .str "z9", .str "abcdefgh"]) = some (.bl true) := by kernel_rfl
  have e2 : eqG m (.lst [.int 0, .int 999999]) (.lst [.int 0, .int 999999]) = some (.bl true) := by kernel_rfl
  have a1 : run tab 8 17 [.int 0] m = .ok (.bl true) m := by kernel_rfl
  have a2 : run tab 8 17 [.int 999999] m = .ok (.bl true) m := by kernel_rfl
  have a3 : run tab 8 17 [.int 1000000] m = .ok (.bl false) m := by kernel_rfl
  have a4 : run tab 8 17 [.int (-1)] m = .ok (.bl false) m := by kernel_rfl
  have a5 : run tab 8 17 [.bl true] m = .ok (.bl false) m := by kernel_rfl
  have a6 : run tab 8 17 [.str "1"] m = .ok (.bl false) m := by kernel_rfl
  unfold q16
  simp [EV, short, lcL, e1, e2, a1, a2, a3, a4, a5, a6]
/-! ### all -/
def q0 : EvS := (ownS 1 (bltF lstG (consA (varE 0) (consA (conE (.int 0)) nilA))))
def q1 : EvS := (parS [2, 3] (consM (fnE 1 (consA (varE 1) nilA)) (consM (fnE 1 (consA (varE 1) nilA)) nilM)))
def q2 : EvS := (parS [4, 5] (consM (fnE 2 (consA (varE 2) nilA)) (consM (fnE 2 (consA (varE 3) nilA)) nilM)))
theorem law_is : B_law = seqS q0 (seqS (stoS 1) (seqS q1 (seqS q2 (seqS q3 (seqS q4 (seqS q5 (seqS q6 (seqS q7 (seqS q8 (seqS q9 (seqS q10 (seqS q11 (seqS q12 (seqS q13 (seqS q14 (seqS q15 q16)))))))))))))))) := rfl
theorem seq_nx {f g : EvS} {C : Orc} {e e1 : Env} {m m1 : Store} {r : SR} (h : f C e m = .nx e1 m1) (h2 : g C e1 m1 = r) : seqS f g C e m = r := by
  unfold seqS
  rw [h]
  exact h2
theorem mirror (ns : List Int) (hl : ns.length ≤ 63) : ∃ m', run tab 9 0 [.frz (ns.map D.int)] [] = .ok (.bl true) m' := by
  obtain ⟨f, k1, lf, hf, e1⟩ := rows_ok 4 ns 0
  obtain ⟨s, k2, ls, hs, e2⟩ := rows_ok 4 ns k1
  have T : Two f s := ⟨hf, hs, lf, ls⟩
  have n1 := (normal_ok 3 f (ST ns k2) (by omega) hf).1
  have n2 := (normal_ok 3 s (ST ns k2) (by omega) hs).1
  obtain ⟨a7, a11, a12, a13, ap, e6⟩ := q6_ok (ns := ns) T (ST ns k2) .em .em .em .em .em .em .em rfl
  simp only [List.all_cons, List.all_nil, Bool.and_true, Bool.and_eq_true] at ap
  obtain ⟨p7, p11, p12, p13⟩ := ap
  obtain ⟨b7, bp, e12⟩ := q12_ok (ns := ns) T (ST ns k2) a7 .em .em a11 a12 a13 p7
  obtain ⟨w, k3, hw, e13⟩ := q13_ok (ns := ns) (f := f) (s := s) b7 (BK f) .em .em a11 a12 a13 k2
  refine ⟨ST ns k3, ?_⟩
  rw [t0, law_is]
  have e0 : q0 (run tab 8) [.dat (sc ns), .em, .em, .em, .em, .em, .em, .em, .em, .em, .em, .em, .em, .em, .em, .em, .em, .em, .em, .em] [] = .nx [.dat (sc ns), .own (.lst [sc ns, .int 0]), .em, .em, .em, .em, .em, .em, .em, .em, .em, .em, .em, .em, .em, .em, .em, .em, .em, .em] [] := by
    unfold q0
    simp [short]
  have e0s : stoS 1 (run tab 8) [.dat (sc ns), .own (.lst [sc ns, .int 0]), .em, .em, .em, .em, .em, .em, .em, .em, .em, .em, .em, .em, .em, .em, .em, .em, .em, .em] [] = .nx [.dat (sc ns), .dat (.ref 0), .em, .em, .em, .em, .em, .em, .em, .em, .em, .em, .em, .em, .em, .em, .em, .em, .em, .em] (ST ns 0) := rfl
  have eq1 : q1 (run tab 8) [.dat (sc ns), .dat (.ref 0), .em, .em, .em, .em, .em, .em, .em, .em, .em, .em, .em, .em, .em, .em, .em, .em, .em, .em] (ST ns 0) = .nx (EV ns f s .em .em .em .em .em .em .em .em .em .em) (ST ns k2) := by
    unfold q1
    simp [e1, e2, EV]
  have eq2 : q2 (run tab 8) (EV ns f s .em .em .em .em .em .em .em .em .em .em) (ST ns k2) = .nx (EV ns f s (O f) (O s) .em .em .em .em .em .em .em .em) (ST ns k2) := by
    unfold q2
    simp [n1, n2, EV]
  have h : seqS q0 (seqS (stoS 1) (seqS q1 (seqS q2 (seqS q3 (seqS q4 (seqS q5 (seqS q6 (seqS q7 (seqS q8 (seqS q9 (seqS q10 (seqS q11 (seqS q12 (seqS q13 (seqS q14 (seqS q15 q16)))))))))))))))) (run tab 8) [.dat (sc ns), .em, .em, .em, .em, .em, .em, .em, .em, .em, .em, .em, .em, .em, .em, .em, .em, .em, .em, .em] [] = .ret (.bl true) (ST ns k3) := by
    refine seq_nx e0 (seq_nx e0s (seq_nx eq1 (seq_nx eq2 (seq_nx (q3_ok T _ _ _ _ _ _ _ _ _) (seq_nx (q4_ok T _ _ _ _ _ _ _ _ _) (seq_nx (q5_ok T _ _ _ _ _ _ _ _ _) (seq_nx e6 (seq_nx (q7_ok T _ _ _ _ _ _ _ _) (seq_nx (q8_ok T _ _ _ _ _ _ _ _) (seq_nx (q9_ok T _ _ _ _ _ _ _ _) (seq_nx (q10_ok T _ _ _ _ _ _ _ _) (seq_nx (q11_ok T _ _ _ _ _ _ _) (seq_nx e12 (seq_nx e13 (seq_nx (q14_ok T _ _ _ _ _ _ _ w hw ?_) (seq_nx (q15_ok ..) (q16_ok ..)))))))))))))))))
    simp only [List.all_cons, List.all_nil, Bool.and_true, bp, p11, p12, p13]
    rfl
  have h' : _ := h
  have esc : (D.frz (ns.map D.int)) = sc ns := rfl
  rw [esc, h]
  rfl
end Dn.K50
namespace Dn.K50
open PySem L2
/-! The derivations (printed by pr.py). -/
def top (i : Nat) : Stmt := PySem.Challenge.pw_twicedated_k50_whole_spans.main.body.getD i (.Pass ⟨0, 0, 0, 0⟩)
abbrev s_law : Stmt := top 37
abbrev n_law : List Str := ["_law_script", "_law_draw", "_law_first", "_law_second", "_law_one", "_law_other", "_law_made", "_law_day_here", "_law_marks", "_law_wrong", "_law_names", "_law_mine", "_law_late", "_law_due", "bad", "_law_name", "_law_span", "_law_a", "_law_b", "_law_row"]
abbrev p_law : List Str := ["_law_script"]
abbrev s_law_rows : Stmt := top 35
abbrev n_law_rows : List Str := ["_law_draw", "_law_found", "_law_turn", "_law_first", "_law_last"]
abbrev p_law_rows : List Str := ["_law_draw"]
abbrev s_normal : Stmt := top 14
abbrev n_normal : List Str := ["rows"]
abbrev p_normal : List Str := ["rows"]
abbrev s_law_is_form : Stmt := top 36
abbrev n_law_is_form : List Str := ["_law_row", "_law_one", "_law_other"]
abbrev p_law_is_form : List Str := ["_law_row"]
abbrev s_is_span : Stmt := top 11
abbrev n_is_span : List Str := ["thing"]
abbrev p_is_span : List Str := ["thing"]
abbrev s_union : Stmt := top 15
abbrev n_union : List Str := ["one", "other"]
abbrev p_union : List Str := ["one", "other"]
abbrev s_meet : Stmt := top 16
abbrev n_meet : List Str := ["one", "other", "found", "at", "place", "first", "last"]
abbrev p_meet : List Str := ["one", "other"]
abbrev s_less : Stmt := top 18
abbrev n_less : List Str := ["one", "other"]
abbrev p_less : List Str := ["one", "other"]
abbrev s_others : Stmt := top 17
abbrev n_others : List Str := ["one", "found", "begin", "first", "last"]
abbrev p_others : List Str := ["one"]
abbrev s_unlike : Stmt := top 22
abbrev n_unlike : List Str := ["one", "other"]
abbrev p_unlike : List Str := ["one", "other"]
abbrev s_law_days : Stmt := top 33
abbrev n_law_days : List Str := []
abbrev p_law_days : List Str := []
abbrev s_has : Stmt := top 19
abbrev n_has : List Str := ["one", "day", "low", "high", "middle"]
abbrev p_has : List Str := ["one", "day"]
abbrev s_how_many : Stmt := top 20
abbrev n_how_many : List Str := ["one", "first", "last"]
abbrev p_how_many : List Str := ["one"]
abbrev s_is_part : Stmt := top 21
abbrev n_is_part : List Str := ["one", "other"]
abbrev p_is_part : List Str := ["one", "other"]
abbrev s_breaks : Stmt := top 23
abbrev n_breaks : List Str := ["one", "found", "first", "last"]
abbrev p_breaks : List Str := ["one"]
abbrev s_law_pick : Stmt := top 27
abbrev n_law_pick : List Str := ["_law_draw", "_law_items"]
abbrev p_law_pick : List Str := ["_law_draw", "_law_items"]
abbrev s_is_name : Stmt := top 9
abbrev n_is_name : List Str := ["thing", "sign"]
abbrev p_is_name : List Str := ["thing"]
abbrev s_is_day : Stmt := top 8
abbrev n_is_day : List Str := ["thing"]
abbrev p_is_day : List Str := ["thing"]
abbrev s_law_take : Stmt := top 26
abbrev n_law_take : List Str := ["_law_draw", "_law_many"]
abbrev p_law_take : List Str := ["_law_draw", "_law_many"]
abbrev s_law_day : Stmt := top 29
abbrev n_law_day : List Str := ["_law_draw"]
abbrev p_law_day : List Str := ["_law_draw"]
abbrev s_check_spans : Stmt := top 12
abbrev n_check_spans : List Str := ["rows", "number", "span"]
abbrev p_check_spans : List Str := ["rows"]
abbrev s_joined : Stmt := top 13
abbrev n_joined : List Str := ["rows", "found", "first", "last"]
abbrev p_joined : List Str := ["rows"]
abbrev s_is_whole : Stmt := top 7
abbrev n_is_whole : List Str := ["thing", "low", "high"]
abbrev p_is_whole : List Str := ["thing", "low", "high"]
abbrev s_law_number : Stmt := top 25
abbrev n_law_number : List Str := ["_law_script", "_law_index", "_law_cell", "_law_blend"]
abbrev p_law_number : List Str := ["_law_script", "_law_index"]
def Xs (e_BadSpans : Addr) : Nat → Option (Addr × List Str) := fun i => ([(e_BadSpans, (["number"] : List Str))] : List (Addr × List Str))[i]?
theorem x_look_BadSpans_0 (vs : List V) (h : vs.length = (["number"] : List Str).length) : ((["number"] : List Str).zip vs).lookup ("number" : Str) = vs[0]? := by
  match vs, h with
  | [_], _ => rfl
/-- what the top has made -/
structure Nms (K : PySem.W.Frag) (mg : Str → Option Value) : Prop where
  b_abs : mg "abs" = none
  b_all : mg "all" = none
  b_any : mg "any" = none
  b_bool : mg "bool" = none
  b_enumerate : mg "enumerate" = none
  b_int : mg "int" = none
  b_isinstance : mg "isinstance" = none
  b_len : mg "len" = none
  b_list : mg "list" = none
  b_max : mg "max" = none
  b_min : mg "min" = none
  b_range : mg "range" = none
  b_sorted : mg "sorted" = none
  b_str : mg "str" = none
  b_sum : mg "sum" = none
  b_tuple : mg "tuple" = none
  b_zip : mg "zip" = none
  g_FIGURES : ∃ u, mg "FIGURES" = some u ∧ RelV (.str "0123456789") u
  g_LETTERS : ∃ u, mg "LETTERS" = some u ∧ RelV (.str "abcdefghijklmnopqrstuvwxyz") u
  g_MOST_DAY : ∃ u, mg "MOST_DAY" = some u ∧ RelV (.int 999999) u
  yes : True
structure Txt (P : Program) (w : World) (K : PySem.W.Frag) (mg : Str → Option Value) (base : Heap) (n : Nat) (e_BadSpans : Addr) : Prop extends Nms K mg where
  f_law : Fnc P w K mg base ⟨K, run tab n, Xs e_BadSpans, none⟩ n 0 1 "law"
  f_law_rows : Fnc P w K mg base ⟨K, run tab n, Xs e_BadSpans, none⟩ n 1 1 "_law_rows"
  f_normal : Fnc P w K mg base ⟨K, run tab n, Xs e_BadSpans, none⟩ n 2 1 "normal"
  f_law_is_form : Fnc P w K mg base ⟨K, run tab n, Xs e_BadSpans, none⟩ n 3 1 "_law_is_form"
  f_is_span : Fnc P w K mg base ⟨K, run tab n, Xs e_BadSpans, none⟩ n 4 1 "is_span"
  f_union : Fnc P w K mg base ⟨K, run tab n, Xs e_BadSpans, none⟩ n 5 2 "union"
  f_meet : Fnc P w K mg base ⟨K, run tab n, Xs e_BadSpans, none⟩ n 6 2 "meet"
  f_less : Fnc P w K mg base ⟨K, run tab n, Xs e_BadSpans, none⟩ n 7 2 "less"
  f_others : Fnc P w K mg base ⟨K, run tab n, Xs e_BadSpans, none⟩ n 8 1 "others"
  f_unlike : Fnc P w K mg base ⟨K, run tab n, Xs e_BadSpans, none⟩ n 9 2 "unlike"
  f_law_days : Fnc P w K mg base ⟨K, run tab n, Xs e_BadSpans, none⟩ n 10 0 "_law_days"
  f_has : Fnc P w K mg base ⟨K, run tab n, Xs e_BadSpans, none⟩ n 11 2 "has"
  f_how_many : Fnc P w K mg base ⟨K, run tab n, Xs e_BadSpans, none⟩ n 12 1 "how_many"
  f_is_part : Fnc P w K mg base ⟨K, run tab n, Xs e_BadSpans, none⟩ n 13 2 "is_part"
  f_breaks : Fnc P w K mg base ⟨K, run tab n, Xs e_BadSpans, none⟩ n 14 1 "breaks"
  f_law_pick : Fnc P w K mg base ⟨K, run tab n, Xs e_BadSpans, none⟩ n 15 2 "_law_pick"
  f_is_name : Fnc P w K mg base ⟨K, run tab n, Xs e_BadSpans, none⟩ n 16 1 "is_name"
  f_is_day : Fnc P w K mg base ⟨K, run tab n, Xs e_BadSpans, none⟩ n 17 1 "is_day"
  f_law_take : Fnc P w K mg base ⟨K, run tab n, Xs e_BadSpans, none⟩ n 18 2 "_law_take"
  f_law_day : Fnc P w K mg base ⟨K, run tab n, Xs e_BadSpans, none⟩ n 19 1 "_law_day"
  f_check_spans : Fnc P w K mg base ⟨K, run tab n, Xs e_BadSpans, none⟩ n 20 1 "check_spans"
  f_joined : Fnc P w K mg base ⟨K, run tab n, Xs e_BadSpans, none⟩ n 21 1 "joined"
  f_is_whole : Fnc P w K mg base ⟨K, run tab n, Xs e_BadSpans, none⟩ n 22 3 "is_whole"
  f_law_number : Fnc P w K mg base ⟨K, run tab n, Xs e_BadSpans, none⟩ n 23 2 "_law_number"
  h_is_span : FncH P w K mg base ⟨K, run tab n, Xs e_BadSpans, none⟩ n 4 1 "is_span"
  h_is_day : FncH P w K mg base ⟨K, run tab n, Xs e_BadSpans, none⟩ n 17 1 "is_day"
  h_is_whole : FncH P w K mg base ⟨K, run tab n, Xs e_BadSpans, none⟩ n 22 3 "is_whole"
  m_BadSpans : mg "BadSpans" = some (.ref e_BadSpans)
  X_BadSpans : Xs e_BadSpans 0 = some (e_BadSpans, (["number"] : List Str))
  exm_BadSpans : ∀ c C ns, Xs e_BadSpans c = some (C, ns) → PySem.W.exmOne K (.ref C) (.ref e_BadSpans) = some (decide (c = 0))
  T_BadSpans : XfC K e_BadSpans
  no_BadSpans_0 : PySem.W.findIn K (.ref e_BadSpans) "number" = some none
  mk_BadSpans : ∀ {X : Cx} {a : Expr} {es : List Expr} {fs : EvA} {W : WX} {p pos : Pos}, X.prog = P → X.K = K → X.mg = mg → Room n X.A → PA X (a :: es) (semA ⟨K, run tab n, Xs e_BadSpans, none⟩ W fs) → lenA fs 1 → Gl X "BadSpans" → starEach (a :: es) X.env = (false, eval a X.env) :: starEach es X.env → (backTo pos (starEach es X.env)).any (·.1) = false → L2N.PMk X (.Call (.Name "BadSpans" p) (a :: es) [] pos) (semX ⟨K, run tab n, Xs e_BadSpans, none⟩ W 0 fs)
theorem sc_law : FnScope n_law p_law (defScope s_law) := ⟨rfl, rfl, rfl, by decide +kernel, rfl, by decide +kernel, by decide +kernel⟩
theorem sc_law_rows : FnScope n_law_rows p_law_rows (defScope s_law_rows) := ⟨rfl, rfl, rfl, by decide +kernel, rfl, by decide +kernel, by decide +kernel⟩
theorem sc_normal : FnScope n_normal p_normal (defScope s_normal) := ⟨rfl, rfl, rfl, by decide +kernel, rfl, by decide +kernel, by decide +kernel⟩
theorem sc_law_is_form : FnScope n_law_is_form p_law_is_form (defScope s_law_is_form) := ⟨rfl, rfl, rfl, by decide +kernel, rfl, by decide +kernel, by decide +kernel⟩
theorem sc_is_span : FnScope n_is_span p_is_span (defScope s_is_span) := ⟨rfl, rfl, rfl, by decide +kernel, rfl, by decide +kernel, by decide +kernel⟩
theorem sc_union : FnScope n_union p_union (defScope s_union) := ⟨rfl, rfl, rfl, by decide +kernel, rfl, by decide +kernel, by decide +kernel⟩
theorem sc_meet : FnScope n_meet p_meet (defScope s_meet) := ⟨rfl, rfl, rfl, by decide +kernel, rfl, by decide +kernel, by decide +kernel⟩
theorem sc_less : FnScope n_less p_less (defScope s_less) := ⟨rfl, rfl, rfl, by decide +kernel, rfl, by decide +kernel, by decide +kernel⟩
theorem sc_others : FnScope n_others p_others (defScope s_others) := ⟨rfl, rfl, rfl, by decide +kernel, rfl, by decide +kernel, by decide +kernel⟩
theorem sc_unlike : FnScope n_unlike p_unlike (defScope s_unlike) := ⟨rfl, rfl, rfl, by decide +kernel, rfl, by decide +kernel, by decide +kernel⟩
theorem sc_law_days : FnScope n_law_days p_law_days (defScope s_law_days) := ⟨rfl, rfl, rfl, by decide +kernel, rfl, by decide +kernel, by decide +kernel⟩
theorem sc_has : FnScope n_has p_has (defScope s_has) := ⟨rfl, rfl, rfl, by decide +kernel, rfl, by decide +kernel, by decide +kernel⟩
theorem sc_how_many : FnScope n_how_many p_how_many (defScope s_how_many) := ⟨rfl, rfl, rfl, by decide +kernel, rfl, by decide +kernel, by decide +kernel⟩
theorem sc_is_part : FnScope n_is_part p_is_part (defScope s_is_part) := ⟨rfl, rfl, rfl, by decide +kernel, rfl, by decide +kernel, by decide +kernel⟩
theorem sc_breaks : FnScope n_breaks p_breaks (defScope s_breaks) := ⟨rfl, rfl, rfl, by decide +kernel, rfl, by decide +kernel, by decide +kernel⟩
theorem sc_law_pick : FnScope n_law_pick p_law_pick (defScope s_law_pick) := ⟨rfl, rfl, rfl, by decide +kernel, rfl, by decide +kernel, by decide +kernel⟩
theorem sc_is_name : FnScope n_is_name p_is_name (defScope s_is_name) := ⟨rfl, rfl, rfl, by decide +kernel, rfl, by decide +kernel, by decide +kernel⟩
theorem sc_is_day : FnScope n_is_day p_is_day (defScope s_is_day) := ⟨rfl, rfl, rfl, by decide +kernel, rfl, by decide +kernel, by decide +kernel⟩
theorem sc_law_take : FnScope n_law_take p_law_take (defScope s_law_take) := ⟨rfl, rfl, rfl, by decide +kernel, rfl, by decide +kernel, by decide +kernel⟩
theorem sc_law_day : FnScope n_law_day p_law_day (defScope s_law_day) := ⟨rfl, rfl, rfl, by decide +kernel, rfl, by decide +kernel, by decide +kernel⟩
theorem sc_check_spans : FnScope n_check_spans p_check_spans (defScope s_check_spans) := ⟨rfl, rfl, rfl, by decide +kernel, rfl, by decide +kernel, by decide +kernel⟩
theorem sc_joined : FnScope n_joined p_joined (defScope s_joined) := ⟨rfl, rfl, rfl, by decide +kernel, rfl, by decide +kernel, by decide +kernel⟩
theorem sc_is_whole : FnScope n_is_whole p_is_whole (defScope s_is_whole) := ⟨rfl, rfl, rfl, by decide +kernel, rfl, by decide +kernel, by decide +kernel⟩
theorem sc_law_number : FnScope n_law_number p_law_number (defScope s_law_number) := ⟨rfl, rfl, rfl, by decide +kernel, rfl, by decide +kernel, by decide +kernel⟩
theorem d_law {P : Program} {w : World} {K : PySem.W.Frag} {mg : Str → Option Value} {base : Heap} {n : Nat} {e_BadSpans : Addr} (TT : Txt P w K mg base n e_BadSpans) (f : Addr) (cdv : Value) (A : Around) (outer : List PySem.Env) (s : Shared) (H : Hp) (E : XK) (R : Room n (A.deeper (PyProof.Rows.envOfC "law" (defScope s_law) s.heap.objs.size f cdv))) (Sn : Snap) :
    PSs (cxG P w K mg base n_law "law" (defScope s_law) f cdv A outer s H E true []) (defBody s_law) (semS ⟨K, run tab n, Xs e_BadSpans, none⟩ (fun c d _ H' => E c d H') Sn B_law) :=
  (dss_cons (ds_own (i := 1) sc_law.nd rfl (by first | exact Or.inl rfl | exact Or.inr rfl) (df_lst (da_cons (de_var (i := 0) rfl (by first | exact Or.inl rfl | exact Or.inr (Or.inl rfl) | exact Or.inr (Or.inr rfl))) (da_cons de_int da_nil))) (Or.inl rfl))
  (dss_sto (i := 1) (dss_cons (ds_par2 rfl sc_law.nd rfl rfl (by decide) rfl rfl (dm_cons (de_fn TT.f_law_rows R takesG rfl (da_cons (de_var (i := 1) rfl (by first | exact Or.inl rfl | exact Or.inr (Or.inl rfl) | exact Or.inr (Or.inr rfl))) da_nil) (lenA_cons lenA_nil)) (dm_cons (de_fn TT.f_law_rows R takesG rfl (da_cons (de_var (i := 1) rfl (by first | exact Or.inl rfl | exact Or.inr (Or.inl rfl) | exact Or.inr (Or.inr rfl))) da_nil) (lenA_cons lenA_nil)) dm_nil)) rfl)
  (dss_cons (ds_par2 rfl sc_law.nd rfl rfl (by decide) rfl rfl (dm_cons (de_fn TT.f_normal R takesG rfl (da_cons (de_var (i := 2) rfl (by first | exact Or.inl rfl | exact Or.inr (Or.inl rfl) | exact Or.inr (Or.inr rfl))) da_nil) (lenA_cons lenA_nil)) (dm_cons (de_fn TT.f_normal R takesG rfl (da_cons (de_var (i := 3) rfl (by first | exact Or.inl rfl | exact Or.inr (Or.inl rfl) | exact Or.inr (Or.inr rfl))) da_nil) (lenA_cons lenA_nil)) dm_nil)) rfl)
  (dss_cons (ds_if (PW.pt (dw_or (dt_not (dt_val (de_fn TT.f_law_is_form R takesG rfl (da_cons (de_var (i := 4) rfl (by first | exact Or.inl rfl | exact Or.inr (Or.inl rfl) | exact Or.inr (Or.inr rfl))) da_nil) (lenA_cons lenA_nil)))) (dw_or (dt_cmp (od_ne (hu65 R)) rfl (de_sub (de_fn TT.f_normal R takesG rfl (da_cons (de_bin od_addA rfl (de_sub (de_frz (df_rev rfl (de_brw (i := 2) rfl (by first | exact Or.inl rfl | exact Or.inr (Or.inl rfl) | exact Or.inr (Or.inr rfl)))))) (de_brw (i := 2) rfl (by first | exact Or.inl rfl | exact Or.inr (Or.inl rfl) | exact Or.inr (Or.inr rfl)))) da_nil) (lenA_cons lenA_nil))) (de_brw (i := 4) rfl (by first | exact Or.inl rfl | exact Or.inr (Or.inl rfl) | exact Or.inr (Or.inr rfl))) (nomark _)) (dt_or1 (dt_cmp (od_ne (hu65 R)) rfl (de_sub (de_fn TT.f_normal R takesG rfl (da_cons (de_var (i := 4) rfl (by first | exact Or.inl rfl | exact Or.inr (Or.inl rfl) | exact Or.inr (Or.inr rfl))) da_nil) (lenA_cons lenA_nil))) (de_brw (i := 4) rfl (by first | exact Or.inl rfl | exact Or.inr (Or.inl rfl) | exact Or.inr (Or.inr rfl))) (nomark _))))))
  (dss_one (ds_ret de_bl))
  dss_nil)
  (dss_cons (ds_if (dt_not (dt_val (de_bb (cb_all rfl) rfl rfl TT.b_all (by decide +kernel) (db_cons (de_sub (de_frz (df_lcV rfl sc_law.nd (⟨rfl, by decide +kernel, by decide +kernel, by decide +kernel, by decide +kernel⟩ : BlkOk n_law (defScope s_law) _ [("_law_span", 16)]) rfl (di_seq rfl (de_bin od_addA rfl (de_brw (i := 2) rfl (by first | exact Or.inl rfl | exact Or.inr (Or.inl rfl) | exact Or.inr (Or.inr rfl))) (de_sub (de_bt cb_list rfl rfl TT.b_list (by decide +kernel) (db_cons (de_brw (i := 4) rfl (by first | exact Or.inl rfl | exact Or.inr (Or.inl rfl) | exact Or.inr (Or.inr rfl))) db_nil))))) rfl (fun _ _ _ _ _ => (dg_name (i := 16) sc_law.nd rfl (by first | exact Or.inl rfl | exact Or.inr rfl) (by first | exact Or.inl rfl | exact Or.inr rfl))) (fun _ _ _ _ _ => dts_nil) (fun _ _ _ _ _ => (de_fn TT.f_is_span R takes0 rfl (da_cons (de_var (i := 16) rfl (by first | exact Or.inl rfl | exact Or.inr (Or.inl rfl) | exact Or.inr (Or.inr rfl))) da_nil) (lenA_cons lenA_nil)))))) db_nil))))
  (dss_one (ds_ret de_bl))
  dss_nil)
  (dss_cons (ds_set (i := 6) sc_law.nd rfl (by first | exact Or.inl rfl | exact Or.inr rfl) (de_tup (da_cons (de_fn TT.f_union R takesG rfl (da_cons (de_var (i := 4) rfl (by first | exact Or.inl rfl | exact Or.inr (Or.inl rfl) | exact Or.inr (Or.inr rfl))) (da_cons (de_var (i := 5) rfl (by first | exact Or.inl rfl | exact Or.inr (Or.inl rfl) | exact Or.inr (Or.inr rfl))) da_nil)) (lenA_cons (lenA_cons lenA_nil))) (da_cons (de_fn TT.f_meet R takesG rfl (da_cons (de_var (i := 4) rfl (by first | exact Or.inl rfl | exact Or.inr (Or.inl rfl) | exact Or.inr (Or.inr rfl))) (da_cons (de_var (i := 5) rfl (by first | exact Or.inl rfl | exact Or.inr (Or.inl rfl) | exact Or.inr (Or.inr rfl))) da_nil)) (lenA_cons (lenA_cons lenA_nil))) (da_cons (de_fn TT.f_less R takesG rfl (da_cons (de_var (i := 4) rfl (by first | exact Or.inl rfl | exact Or.inr (Or.inl rfl) | exact Or.inr (Or.inr rfl))) (da_cons (de_var (i := 5) rfl (by first | exact Or.inl rfl | exact Or.inr (Or.inl rfl) | exact Or.inr (Or.inr rfl))) da_nil)) (lenA_cons (lenA_cons lenA_nil))) (da_cons (de_fn TT.f_others R takesG rfl (da_cons (de_var (i := 4) rfl (by first | exact Or.inl rfl | exact Or.inr (Or.inl rfl) | exact Or.inr (Or.inr rfl))) da_nil) (lenA_cons lenA_nil)) (da_cons (de_fn TT.f_unlike R takesG rfl (da_cons (de_var (i := 4) rfl (by first | exact Or.inl rfl | exact Or.inr (Or.inl rfl) | exact Or.inr (Or.inr rfl))) (da_cons (de_var (i := 5) rfl (by first | exact Or.inl rfl | exact Or.inr (Or.inl rfl) | exact Or.inr (Or.inr rfl))) da_nil)) (lenA_cons (lenA_cons lenA_nil))) da_nil)))))) (Or.inl rfl))
  (dss_cons (ds_for passesG rfl (di_seq rfl (de_bin od_addA rfl (de_sub (de_fn0 TT.f_law_days R takesG rfl)) (de_sub (de_frz (df_lst (da_cons de_int da_nil)))))) (dg_name (i := 7) sc_law.nd rfl (by first | exact Or.inl rfl | exact Or.inr rfl) (by first | exact Or.inl rfl | exact Or.inr rfl)) (fun _ =>
  (dss_cons (ds_par2 rfl sc_law.nd rfl rfl (by decide) rfl rfl (dm_cons (de_bb (cb_any rfl) rfl rfl TT.b_any (by decide +kernel) (db_cons (de_sub (de_frz (df_lcV rfl sc_law.nd (⟨rfl, by decide +kernel, by decide +kernel, by decide +kernel, by decide +kernel⟩ : BlkOk n_law (defScope s_law) _ [("_law_a", 17), ("_law_b", 18)]) rfl (di_seq rfl (de_var (i := 2) rfl (by first | exact Or.inl rfl | exact Or.inr (Or.inl rfl) | exact Or.inr (Or.inr rfl)))) rfl (fun _ _ _ _ _ => (dg_tup rfl rfl (dgs_cons (dg_name (i := 17) sc_law.nd rfl (by first | exact Or.inl rfl | exact Or.inr rfl) (by first | exact Or.inl rfl | exact Or.inr rfl)) (dgs_cons (dg_name (i := 18) sc_law.nd rfl (by first | exact Or.inl rfl | exact Or.inr rfl) (by first | exact Or.inl rfl | exact Or.inr rfl)) dgs_nil)))) (fun _ _ _ _ _ => dts_nil) (fun _ _ _ _ _ => (de_chain od_le od_le rfl (de_brw (i := 17) rfl (by first | exact Or.inl rfl | exact Or.inr (Or.inl rfl) | exact Or.inr (Or.inr rfl))) (de_brw (i := 7) rfl (by first | exact Or.inl rfl | exact Or.inr (Or.inl rfl) | exact Or.inr (Or.inr rfl))) (de_brw (i := 18) rfl (by first | exact Or.inl rfl | exact Or.inr (Or.inl rfl) | exact Or.inr (Or.inr rfl)))))))) db_nil)) (dm_cons (de_bb (cb_any rfl) rfl rfl TT.b_any (by decide +kernel) (db_cons (de_sub (de_frz (df_lcV rfl sc_law.nd (⟨rfl, by decide +kernel, by decide +kernel, by decide +kernel, by decide +kernel⟩ : BlkOk n_law (defScope s_law) _ [("_law_a", 17), ("_law_b", 18)]) rfl (di_seq rfl (de_var (i := 3) rfl (by first | exact Or.inl rfl | exact Or.inr (Or.inl rfl) | exact Or.inr (Or.inr rfl)))) rfl (fun _ _ _ _ _ => (dg_tup rfl rfl (dgs_cons (dg_name (i := 17) sc_law.nd rfl (by first | exact Or.inl rfl | exact Or.inr rfl) (by first | exact Or.inl rfl | exact Or.inr rfl)) (dgs_cons (dg_name (i := 18) sc_law.nd rfl (by first | exact Or.inl rfl | exact Or.inr rfl) (by first | exact Or.inl rfl | exact Or.inr rfl)) dgs_nil)))) (fun _ _ _ _ _ => dts_nil) (fun _ _ _ _ _ => (de_chain od_le od_le rfl (de_brw (i := 17) rfl (by first | exact Or.inl rfl | exact Or.inr (Or.inl rfl) | exact Or.inr (Or.inr rfl))) (de_brw (i := 7) rfl (by first | exact Or.inl rfl | exact Or.inr (Or.inl rfl) | exact Or.inr (Or.inr rfl))) (de_brw (i := 18) rfl (by first | exact Or.inl rfl | exact Or.inr (Or.inl rfl) | exact Or.inr (Or.inr rfl)))))))) db_nil)) dm_nil)) rfl)
  (dss_cons (ds_set (i := 13) sc_law.nd rfl (by first | exact Or.inl rfl | exact Or.inr rfl) (de_tup (da_cons (de_or (de_var (i := 11) rfl (by first | exact Or.inl rfl | exact Or.inr (Or.inl rfl) | exact Or.inr (Or.inr rfl))) (de_one (de_var (i := 12) rfl (by first | exact Or.inl rfl | exact Or.inr (Or.inl rfl) | exact Or.inr (Or.inr rfl))))) (da_cons (de_and (de_var (i := 11) rfl (by first | exact Or.inl rfl | exact Or.inr (Or.inl rfl) | exact Or.inr (Or.inr rfl))) (de_one (de_var (i := 12) rfl (by first | exact Or.inl rfl | exact Or.inr (Or.inl rfl) | exact Or.inr (Or.inr rfl))))) (da_cons (de_and (de_var (i := 11) rfl (by first | exact Or.inl rfl | exact Or.inr (Or.inl rfl) | exact Or.inr (Or.inr rfl))) (de_one (de_not (de_var (i := 12) rfl (by first | exact Or.inl rfl | exact Or.inr (Or.inl rfl) | exact Or.inr (Or.inr rfl)))))) (da_cons (de_not (de_var (i := 11) rfl (by first | exact Or.inl rfl | exact Or.inr (Or.inl rfl) | exact Or.inr (Or.inr rfl)))) (da_cons (de_cmp (od_ne (hu65 R)) rfl (de_brw (i := 11) rfl (by first | exact Or.inl rfl | exact Or.inr (Or.inl rfl) | exact Or.inr (Or.inr rfl))) (de_brw (i := 12) rfl (by first | exact Or.inl rfl | exact Or.inr (Or.inl rfl) | exact Or.inr (Or.inr rfl))) (nomark _)) da_nil)))))) (Or.inl rfl))
  (dss_one (ds_if (PW.pt (dw_or (dt_cmp (od_ne (hu65 R)) rfl (de_sub (de_fn TT.f_has R takesG rfl (da_cons (de_var (i := 4) rfl (by first | exact Or.inl rfl | exact Or.inr (Or.inl rfl) | exact Or.inr (Or.inr rfl))) (da_cons (de_var (i := 7) rfl (by first | exact Or.inl rfl | exact Or.inr (Or.inl rfl) | exact Or.inr (Or.inr rfl))) da_nil)) (lenA_cons (lenA_cons lenA_nil)))) (de_brw (i := 11) rfl (by first | exact Or.inl rfl | exact Or.inr (Or.inl rfl) | exact Or.inr (Or.inr rfl))) (nomark _)) (dt_or1 (dt_cmp (od_ne (hu65 R)) rfl (de_sub (de_bt cb_tuple rfl rfl TT.b_tuple (by decide +kernel) (db_cons (de_sub (de_frz (df_lcV rfl sc_law.nd (⟨rfl, by decide +kernel, by decide +kernel, by decide +kernel, by decide +kernel⟩ : BlkOk n_law (defScope s_law) _ [("_law_row", 19)]) rfl (di_seq rfl (de_var (i := 6) rfl (by first | exact Or.inl rfl | exact Or.inr (Or.inl rfl) | exact Or.inr (Or.inr rfl)))) rfl (fun _ _ _ _ _ => (dg_name (i := 19) sc_law.nd rfl (by first | exact Or.inl rfl | exact Or.inr rfl) (by first | exact Or.inl rfl | exact Or.inr rfl))) (fun _ _ _ _ _ => dts_nil) (fun _ _ _ _ _ => (de_fn TT.f_has R takes0 rfl (da_cons (de_var (i := 19) rfl (by first | exact Or.inl rfl | exact Or.inr (Or.inl rfl) | exact Or.inr (Or.inr rfl))) (da_cons (de_var (i := 7) rfl (by first | exact Or.inl rfl | exact Or.inr (Or.inl rfl) | exact Or.inr (Or.inr rfl))) da_nil)) (lenA_cons (lenA_cons lenA_nil))))))) db_nil))) (de_brw (i := 13) rfl (by first | exact Or.inl rfl | exact Or.inr (Or.inl rfl) | exact Or.inr (Or.inr rfl))) (nomark _)))))
  (dss_one (ds_ret de_bl))
  dss_nil))))))
  (dss_cons (ds_if (PW.pt (dw_or (dt_not (dt_val (de_bb (cb_all rfl) rfl rfl TT.b_all (by decide +kernel) (db_cons (de_sub (de_frz (df_lcV rfl sc_law.nd (⟨rfl, by decide +kernel, by decide +kernel, by decide +kernel, by decide +kernel⟩ : BlkOk n_law (defScope s_law) _ [("_law_row", 19)]) rfl (di_seq rfl (de_var (i := 6) rfl (by first | exact Or.inl rfl | exact Or.inr (Or.inl rfl) | exact Or.inr (Or.inr rfl)))) rfl (fun _ _ _ _ _ => (dg_name (i := 19) sc_law.nd rfl (by first | exact Or.inl rfl | exact Or.inr rfl) (by first | exact Or.inl rfl | exact Or.inr rfl))) (fun _ _ _ _ _ => dts_nil) (fun _ _ _ _ _ => (de_fn TT.f_law_is_form R takes0 rfl (da_cons (de_var (i := 19) rfl (by first | exact Or.inl rfl | exact Or.inr (Or.inl rfl) | exact Or.inr (Or.inr rfl))) da_nil) (lenA_cons lenA_nil)))))) db_nil)))) (dt_or1 (dt_cmp (od_ne (hu65 R)) rfl (de_sub (de_bin od_addA rfl (de_sub (de_fn TT.f_how_many R takesG rfl (da_cons (de_var (i := 4) rfl (by first | exact Or.inl rfl | exact Or.inr (Or.inl rfl) | exact Or.inr (Or.inr rfl))) da_nil) (lenA_cons lenA_nil))) (de_sub (de_fn TT.f_how_many R takesG rfl (da_cons (de_fn TT.f_others R takesG rfl (da_cons (de_var (i := 4) rfl (by first | exact Or.inl rfl | exact Or.inr (Or.inl rfl) | exact Or.inr (Or.inr rfl))) da_nil) (lenA_cons lenA_nil)) da_nil) (lenA_cons lenA_nil))))) (de_sub de_int) (nomark _)))))
  (dss_one (ds_ret de_bl))
  dss_nil)
  (dss_cons (ds_if (dt_cmp (od_ne (hu65 R)) rfl (de_sub (de_fn TT.f_how_many R takesG rfl (da_cons (de_fn TT.f_union R takesG rfl (da_cons (de_var (i := 4) rfl (by first | exact Or.inl rfl | exact Or.inr (Or.inl rfl) | exact Or.inr (Or.inr rfl))) (da_cons (de_var (i := 5) rfl (by first | exact Or.inl rfl | exact Or.inr (Or.inl rfl) | exact Or.inr (Or.inr rfl))) da_nil)) (lenA_cons (lenA_cons lenA_nil))) da_nil) (lenA_cons lenA_nil))) (de_sub (de_bin od_sub rfl (de_sub (de_bin od_addA rfl (de_sub (de_fn TT.f_how_many R takesG rfl (da_cons (de_var (i := 4) rfl (by first | exact Or.inl rfl | exact Or.inr (Or.inl rfl) | exact Or.inr (Or.inr rfl))) da_nil) (lenA_cons lenA_nil))) (de_sub (de_fn TT.f_how_many R takesG rfl (da_cons (de_var (i := 5) rfl (by first | exact Or.inl rfl | exact Or.inr (Or.inl rfl) | exact Or.inr (Or.inr rfl))) da_nil) (lenA_cons lenA_nil))))) (de_sub (de_fn TT.f_how_many R takesG rfl (da_cons (de_fn TT.f_meet R takesG rfl (da_cons (de_var (i := 4) rfl (by first | exact Or.inl rfl | exact Or.inr (Or.inl rfl) | exact Or.inr (Or.inr rfl))) (da_cons (de_var (i := 5) rfl (by first | exact Or.inl rfl | exact Or.inr (Or.inl rfl) | exact Or.inr (Or.inr rfl))) da_nil)) (lenA_cons (lenA_cons lenA_nil))) da_nil) (lenA_cons lenA_nil))))) (nomark _))
  (dss_one (ds_ret de_bl))
  dss_nil)
  (dss_cons (ds_if (PW.pt (dw_or (dt_cmp (od_ne (hu65 R)) rfl (de_sub (de_fn TT.f_is_part R takesG rfl (da_cons (de_var (i := 4) rfl (by first | exact Or.inl rfl | exact Or.inr (Or.inl rfl) | exact Or.inr (Or.inr rfl))) (da_cons (de_var (i := 5) rfl (by first | exact Or.inl rfl | exact Or.inr (Or.inl rfl) | exact Or.inr (Or.inr rfl))) da_nil)) (lenA_cons (lenA_cons lenA_nil)))) (de_sub (de_cmp (od_eq (hu65 R)) rfl (de_sub (de_fn TT.f_meet R takesG rfl (da_cons (de_var (i := 4) rfl (by first | exact Or.inl rfl | exact Or.inr (Or.inl rfl) | exact Or.inr (Or.inr rfl))) (da_cons (de_var (i := 5) rfl (by first | exact Or.inl rfl | exact Or.inr (Or.inl rfl) | exact Or.inr (Or.inr rfl))) da_nil)) (lenA_cons (lenA_cons lenA_nil)))) (de_brw (i := 4) rfl (by first | exact Or.inl rfl | exact Or.inr (Or.inl rfl) | exact Or.inr (Or.inr rfl))) (nomark _))) (nomark _)) (dt_or1 (dt_not (dt_val (de_fn TT.f_is_part R takesG rfl (da_cons (de_fn TT.f_meet R takesG rfl (da_cons (de_var (i := 4) rfl (by first | exact Or.inl rfl | exact Or.inr (Or.inl rfl) | exact Or.inr (Or.inr rfl))) (da_cons (de_var (i := 5) rfl (by first | exact Or.inl rfl | exact Or.inr (Or.inl rfl) | exact Or.inr (Or.inr rfl))) da_nil)) (lenA_cons (lenA_cons lenA_nil))) (da_cons (de_var (i := 5) rfl (by first | exact Or.inl rfl | exact Or.inr (Or.inl rfl) | exact Or.inr (Or.inr rfl))) da_nil)) (lenA_cons (lenA_cons lenA_nil))))))))
  (dss_one (ds_ret de_bl))
  dss_nil)
  (dss_cons (ds_set (i := 8) sc_law.nd rfl (by first | exact Or.inl rfl | exact Or.inr rfl) (de_fn TT.f_breaks R takesG rfl (da_cons (de_var (i := 4) rfl (by first | exact Or.inl rfl | exact Or.inr (Or.inl rfl) | exact Or.inr (Or.inr rfl))) da_nil) (lenA_cons lenA_nil)) (Or.inl rfl))
  (dss_cons (ds_if (PW.pt (dw_or (dt_cmp (od_ne (hu65 R)) rfl (de_brw (i := 8) rfl (by first | exact Or.inl rfl | exact Or.inr (Or.inl rfl) | exact Or.inr (Or.inr rfl))) (de_sub (de_bb (cb_sort (hu65 R)) rfl rfl TT.b_sorted (by decide +kernel) (db_cons (de_brw (i := 8) rfl (by first | exact Or.inl rfl | exact Or.inr (Or.inl rfl) | exact Or.inr (Or.inr rfl))) db_nil))) (nomark _)) (dt_or1 (dt_cmp (od_ne (hu65 R)) rfl (de_sub (de_bb cb_len rfl rfl TT.b_len (by decide +kernel) (db_cons (de_brw (i := 8) rfl (by first | exact Or.inl rfl | exact Or.inr (Or.inl rfl) | exact Or.inr (Or.inr rfl))) db_nil))) (de_sub (de_bin od_mul rfl (de_sub de_int) (de_sub (de_bb cb_len rfl rfl TT.b_len (by decide +kernel) (db_cons (de_brw (i := 4) rfl (by first | exact Or.inl rfl | exact Or.inr (Or.inl rfl) | exact Or.inr (Or.inr rfl))) db_nil))))) (nomark _)))))
  (dss_one (ds_ret de_bl))
  dss_nil)
  (dss_cons (ds_for passesG rfl (di_rng1 rfl TT.b_range (da_cons de_int da_nil)) (dg_name (i := 7) sc_law.nd rfl (by first | exact Or.inl rfl | exact Or.inr rfl) (by first | exact Or.inl rfl | exact Or.inr rfl)) (fun _ =>
  (dss_one (ds_if (dt_cmp (od_ne (hu65 R)) rfl (de_sub (de_cmp (od_in (hu65 R)) rfl (de_brw (i := 7) rfl (by first | exact Or.inl rfl | exact Or.inr (Or.inl rfl) | exact Or.inr (Or.inr rfl))) (de_brw (i := 8) rfl (by first | exact Or.inl rfl | exact Or.inr (Or.inl rfl) | exact Or.inr (Or.inr rfl))) (by with_unfolding_all rfl))) (de_sub (de_cmp (od_ne (hu65 R)) rfl (de_sub (de_fn TT.f_has R takesG rfl (da_cons (de_var (i := 4) rfl (by first | exact Or.inl rfl | exact Or.inr (Or.inl rfl) | exact Or.inr (Or.inr rfl))) (da_cons (de_var (i := 7) rfl (by first | exact Or.inl rfl | exact Or.inr (Or.inl rfl) | exact Or.inr (Or.inr rfl))) da_nil)) (lenA_cons (lenA_cons lenA_nil)))) (de_sub (de_and (de_cmp od_gt rfl (de_brw (i := 7) rfl (by first | exact Or.inl rfl | exact Or.inr (Or.inl rfl) | exact Or.inr (Or.inr rfl))) (de_sub de_int) (nomark _)) (de_one (de_fn TT.f_has R takesG rfl (da_cons (de_var (i := 4) rfl (by first | exact Or.inl rfl | exact Or.inr (Or.inl rfl) | exact Or.inr (Or.inr rfl))) (da_cons (de_bin od_sub rfl (de_brw (i := 7) rfl (by first | exact Or.inl rfl | exact Or.inr (Or.inl rfl) | exact Or.inr (Or.inr rfl))) (de_sub de_int)) da_nil)) (lenA_cons (lenA_cons lenA_nil)))))) (nomark _))) (nomark _))
  (dss_one (ds_ret de_bl))
  dss_nil))))
  (dss_cons (ds_set (i := 9) sc_law.nd rfl (by first | exact Or.inl rfl | exact Or.inr rfl) (de_fn TT.f_law_pick R takesG rfl (da_cons (de_var (i := 1) rfl (by first | exact Or.inl rfl | exact Or.inr (Or.inl rfl) | exact Or.inr (Or.inr rfl))) (da_cons (de_frz (df_lst (da_cons (de_tup (da_cons de_int (da_cons de_int da_nil))) (da_cons (de_tup (da_cons de_int (da_cons de_int da_nil))) (da_cons (de_tup (da_cons (de_un ud_neg rfl (de_sub de_int)) (da_cons de_int da_nil))) (da_cons (de_tup (da_cons de_int da_nil)) (da_cons (de_frz (df_lst (da_cons de_int (da_cons de_int da_nil)))) (da_cons (de_tup (da_cons de_bl (da_cons de_int da_nil))) (da_cons de_non (da_cons (de_tup (da_cons de_str (da_cons de_int da_nil))) da_nil)))))))))) da_nil)) (lenA_cons (lenA_cons lenA_nil))) (Or.inl rfl))
  (dss_cons (ds_try (i := 14) rfl rfl sc_law.nd rfl rfl ⟨rfl, by decide, Or.inl TT.m_BadSpans⟩ takesG rfl rfl TT.X_BadSpans TT.exm_BadSpans (fun W0_ E_ pn xe tk po =>
  (dss_cons (ds_expr (de_fn TT.f_normal R tk rfl (da_cons (de_bin od_addA rfl (de_sub (de_bin od_addA rfl (de_brw (i := 2) rfl (by first | exact Or.inl rfl | exact Or.inr (Or.inl rfl) | exact Or.inr (Or.inr rfl))) (de_sub (de_frz (df_lst (da_cons (de_var (i := 9) rfl (by first | exact Or.inl rfl | exact Or.inr (Or.inl rfl) | exact Or.inr (Or.inr rfl))) da_nil)))))) (de_brw (i := 3) rfl (by first | exact Or.inl rfl | exact Or.inr (Or.inl rfl) | exact Or.inr (Or.inr rfl)))) da_nil) (lenA_cons lenA_nil)))
  (dss_one (ds_ret de_bl)))) (fun E_ a d oe pn hz ho =>
  have HC : L2H.HotC _ := hotS hz ho
  have RH : L2H.RoomH n _ := roomS R (h := some (.ref a))
  (dss_one (ds_if (PW.pt (dw_or (dt_cmp (od_ne (hu65H RH)) rfl (de_sub (de_xf TT.T_BadSpans TT.no_BadSpans_0 hz ho rfl (by first | exact Or.inl rfl | exact Or.inr (Or.inl rfl) | exact Or.inr (Or.inr rfl)) (x_look_BadSpans_0) rfl)) (de_sub (de_bb cb_len rfl rfl TT.b_len (by decide +kernel) (db_cons (de_brw (i := 2) rfl (by first | exact Or.inl rfl | exact Or.inr (Or.inl rfl) | exact Or.inr (Or.inr rfl))) db_nil))) (nomark _)) (dt_or1 (dt_val (de_fnH TT.h_is_span.suite RH HC takes0 rfl (da_cons (de_var (i := 9) rfl (by first | exact Or.inl rfl | exact Or.inr (Or.inl rfl) | exact Or.inr (Or.inr rfl))) da_nil) (lenA_cons lenA_nil))))))
  (dss_one (ds_ret de_bl))
  dss_nil))))
  (dss_cons (ds_setLcV rfl sc_law.nd (i := 10) rfl rfl rfl (⟨rfl, by decide +kernel, by decide +kernel, by decide +kernel, by decide +kernel⟩ : BlkOk n_law (defScope s_law) _ [("_law_name", 15)]) rfl (di_seq rfl (de_tup (da_cons de_str (da_cons de_str (da_cons de_str (da_cons de_str (da_cons de_str (da_cons de_str (da_cons de_str (da_cons de_str (da_cons de_non (da_cons de_int da_nil)))))))))))) rfl (fun _ _ _ _ _ => (dg_name (i := 15) sc_law.nd rfl (by first | exact Or.inl rfl | exact Or.inr rfl) (by first | exact Or.inl rfl | exact Or.inr rfl))) (fun _ _ _ _ _ => (dts_one (dt_val (de_fn TT.f_is_name R takes0 rfl (da_cons (de_var (i := 15) rfl (by first | exact Or.inl rfl | exact Or.inr (Or.inl rfl) | exact Or.inr (Or.inr rfl))) da_nil) (lenA_cons lenA_nil))))) (fun _ _ _ _ _ => (de_var (i := 15) rfl (by first | exact Or.inl rfl | exact Or.inr (Or.inl rfl) | exact Or.inr (Or.inr rfl)))))
  (dss_one (ds_ret (de_and (de_cmp (od_eq (hu65 R)) rfl (de_brw (i := 10) rfl (by first | exact Or.inl rfl | exact Or.inr (Or.inl rfl) | exact Or.inr (Or.inr rfl))) (de_sub (de_frz (df_lst (da_cons de_str (da_cons de_str (da_cons de_str da_nil)))))) (nomark _)) (de_one (de_cmp (od_eq (hu65 R)) rfl (de_sub (de_frz (df_lcV rfl sc_law.nd (⟨rfl, by decide +kernel, by decide +kernel, by decide +kernel, by decide +kernel⟩ : BlkOk n_law (defScope s_law) _ [("_law_day_here", 7)]) rfl (di_seq rfl (de_tup (da_cons de_int (da_cons de_int (da_cons de_int (da_cons (de_un ud_neg rfl (de_sub de_int)) (da_cons de_bl (da_cons de_str da_nil)))))))) rfl (fun _ _ _ _ _ => (dg_name (i := 7) sc_law.nd rfl (by first | exact Or.inl rfl | exact Or.inr rfl) (by first | exact Or.inl rfl | exact Or.inr rfl))) (fun _ _ _ _ _ => (dts_one (dt_val (de_fn TT.f_is_day R takes0 rfl (da_cons (de_var (i := 7) rfl (by first | exact Or.inl rfl | exact Or.inr (Or.inl rfl) | exact Or.inr (Or.inr rfl))) da_nil) (lenA_cons lenA_nil))))) (fun _ _ _ _ _ => (de_var (i := 7) rfl (by first | exact Or.inl rfl | exact Or.inr (Or.inl rfl) | exact Or.inr (Or.inr rfl))))))) (de_sub (de_frz (df_lst (da_cons de_int (da_cons de_int da_nil))))) (nomark _)))))))))))))))))))))))
theorem d_law_rows {P : Program} {w : World} {K : PySem.W.Frag} {mg : Str → Option Value} {base : Heap} {n : Nat} {e_BadSpans : Addr} (TT : Txt P w K mg base n e_BadSpans) (f : Addr) (cdv : Value) (A : Around) (outer : List PySem.Env) (s : Shared) (H : Hp) (E : XK) (R : Room n (A.deeper (PyProof.Rows.envOfC "_law_rows" (defScope s_law_rows) s.heap.objs.size f cdv))) (Sn : Snap) :
    PSs (cxG P w K mg base n_law_rows "_law_rows" (defScope s_law_rows) f cdv A outer s H E true []) (defBody s_law_rows) (semS ⟨K, run tab n, Xs e_BadSpans, none⟩ (fun c d _ H' => E c d H') Sn B_law_rows) :=
  (dss_cons (ds_own (i := 1) sc_law_rows.nd rfl (by first | exact Or.inl rfl | exact Or.inr rfl) (df_lst da_nil) (Or.inl rfl))
  (dss_cons (ds_for passesG rfl (di_rng1 rfl TT.b_range (da_cons (de_fn TT.f_law_take R takesG rfl (da_cons (de_var (i := 0) rfl (by first | exact Or.inl rfl | exact Or.inr (Or.inl rfl) | exact Or.inr (Or.inr rfl))) (da_cons de_int da_nil)) (lenA_cons (lenA_cons lenA_nil))) da_nil)) (dg_name (i := 2) sc_law_rows.nd rfl (by first | exact Or.inl rfl | exact Or.inr rfl) (by first | exact Or.inl rfl | exact Or.inr rfl)) (fun _ =>
  (dss_cons (ds_par2 rfl sc_law_rows.nd rfl rfl (by decide) rfl rfl (dm_cons (de_fn TT.f_law_day R takesG rfl (da_cons (de_var (i := 0) rfl (by first | exact Or.inl rfl | exact Or.inr (Or.inl rfl) | exact Or.inr (Or.inr rfl))) da_nil) (lenA_cons lenA_nil)) (dm_cons (de_fn TT.f_law_day R takesG rfl (da_cons (de_var (i := 0) rfl (by first | exact Or.inl rfl | exact Or.inr (Or.inl rfl) | exact Or.inr (Or.inr rfl))) da_nil) (lenA_cons lenA_nil)) dm_nil)) rfl)
  (dss_one (ds_app (i := 1) rfl rfl (by first | exact Or.inl rfl | exact Or.inr (Or.inl rfl) | exact Or.inr (Or.inr rfl)) (de_tup (da_cons (de_bb (cb_min rfl) rfl rfl TT.b_min (by decide +kernel) (db_cons (de_brw (i := 3) rfl (by first | exact Or.inl rfl | exact Or.inr (Or.inl rfl) | exact Or.inr (Or.inr rfl))) (db_cons (de_brw (i := 4) rfl (by first | exact Or.inl rfl | exact Or.inr (Or.inl rfl) | exact Or.inr (Or.inr rfl))) db_nil))) (da_cons (de_bb (cb_max rfl) rfl rfl TT.b_max (by decide +kernel) (db_cons (de_brw (i := 3) rfl (by first | exact Or.inl rfl | exact Or.inr (Or.inl rfl) | exact Or.inr (Or.inr rfl))) (db_cons (de_brw (i := 4) rfl (by first | exact Or.inl rfl | exact Or.inr (Or.inl rfl) | exact Or.inr (Or.inr rfl))) db_nil))) da_nil))))))))
  (dss_frz (i := 1) (dss_one (ds_ret (de_var (i := 1) rfl (by first | exact Or.inl rfl | exact Or.inr (Or.inl rfl) | exact Or.inr (Or.inr rfl))))))))
theorem d_normal {P : Program} {w : World} {K : PySem.W.Frag} {mg : Str → Option Value} {base : Heap} {n : Nat} {e_BadSpans : Addr} (TT : Txt P w K mg base n e_BadSpans) (f : Addr) (cdv : Value) (A : Around) (outer : List PySem.Env) (s : Shared) (H : Hp) (E : XK) (R : Room n (A.deeper (PyProof.Rows.envOfC "normal" (defScope s_normal) s.heap.objs.size f cdv))) (Sn : Snap) :
    PSs (cxG P w K mg base n_normal "normal" (defScope s_normal) f cdv A outer s H E true []) (defBody s_normal) (semS ⟨K, run tab n, Xs e_BadSpans, none⟩ (fun c d _ H' => E c d H') Sn B_normal) :=
  (dss_cons (ds_expr (de_fn TT.f_check_spans R takesG rfl (da_cons (de_var (i := 0) rfl (by first | exact Or.inl rfl | exact Or.inr (Or.inl rfl) | exact Or.inr (Or.inr rfl))) da_nil) (lenA_cons lenA_nil)))
  (dss_one (ds_ret (de_fn TT.f_joined R takesG rfl (da_cons (de_bb (cb_sort (hu65 R)) rfl rfl TT.b_sorted (by decide +kernel) (db_cons (de_brw (i := 0) rfl (by first | exact Or.inl rfl | exact Or.inr (Or.inl rfl) | exact Or.inr (Or.inr rfl))) db_nil)) da_nil) (lenA_cons lenA_nil)))))
theorem d_law_is_form {P : Program} {w : World} {K : PySem.W.Frag} {mg : Str → Option Value} {base : Heap} {n : Nat} {e_BadSpans : Addr} (TT : Txt P w K mg base n e_BadSpans) (f : Addr) (cdv : Value) (A : Around) (outer : List PySem.Env) (s : Shared) (H : Hp) (E : XK) (R : Room n (A.deeper (PyProof.Rows.envOfC "_law_is_form" (defScope s_law_is_form) s.heap.objs.size f cdv))) (Sn : Snap) :
    PSs (cxG P w K mg base n_law_is_form "_law_is_form" (defScope s_law_is_form) f cdv A outer s H E true []) (defBody s_law_is_form) (semS ⟨K, run tab n, Xs e_BadSpans, none⟩ (fun c d _ H' => E c d H') Sn B_law_is_form) :=
  (dss_one (ds_ret (de_and (de_isi rfl rfl TT.b_isinstance rfl TT.b_tuple (by decide +kernel) (de_brw (i := 0) rfl (by first | exact Or.inl rfl | exact Or.inr (Or.inl rfl) | exact Or.inr (Or.inr rfl)))) (de_one (de_bb (cb_all rfl) rfl rfl TT.b_all (by decide +kernel) (db_cons (de_sub (de_frz (df_lcV rfl sc_law_is_form.nd (⟨rfl, by decide +kernel, by decide +kernel, by decide +kernel, by decide +kernel⟩ : BlkOk n_law_is_form (defScope s_law_is_form) _ [("_law_one", 1), ("_law_other", 2)]) rfl (di_zip rfl rfl TT.b_zip (da_cons (de_var (i := 0) rfl (by first | exact Or.inl rfl | exact Or.inr (Or.inl rfl) | exact Or.inr (Or.inr rfl))) (da_cons (de_slA rfl (de_brw (i := 0) rfl (by first | exact Or.inl rfl | exact Or.inr (Or.inl rfl) | exact Or.inr (Or.inr rfl))) (do_some de_int) do_none) da_nil))) rfl (fun _ _ _ _ _ => (dg_tup rfl rfl (dgs_cons (dg_name (i := 1) sc_law_is_form.nd rfl (by first | exact Or.inl rfl | exact Or.inr rfl) (by first | exact Or.inl rfl | exact Or.inr rfl)) (dgs_cons (dg_name (i := 2) sc_law_is_form.nd rfl (by first | exact Or.inl rfl | exact Or.inr rfl) (by first | exact Or.inl rfl | exact Or.inr rfl)) dgs_nil)))) (fun _ _ _ _ _ => dts_nil) (fun _ _ _ _ _ => (de_cmp od_lt rfl (de_sub (de_bin od_addA rfl (de_sub (de_ix id_ix rfl (de_brw (i := 1) rfl (by first | exact Or.inl rfl | exact Or.inr (Or.inl rfl) | exact Or.inr (Or.inr rfl))) (de_sub de_int) (fun _ _ => rfl))) (de_sub de_int))) (de_sub (de_ix id_ix rfl (de_brw (i := 2) rfl (by first | exact Or.inl rfl | exact Or.inr (Or.inl rfl) | exact Or.inr (Or.inr rfl))) (de_sub de_int) (fun _ _ => rfl))) (nomark _)))))) db_nil))))))
theorem d_is_span {P : Program} {w : World} {K : PySem.W.Frag} {mg : Str → Option Value} {base : Heap} {n : Nat} {e_BadSpans : Addr} (TT : Txt P w K mg base n e_BadSpans) (f : Addr) (cdv : Value) (A : Around) (outer : List PySem.Env) (s : Shared) (H : Hp) (E : XK) (R : Room n (A.deeper (PyProof.Rows.envOfC "is_span" (defScope s_is_span) s.heap.objs.size f cdv))) (Sn : Snap) :
    PSs (cxG P w K mg base n_is_span "is_span" (defScope s_is_span) f cdv A outer s H E true []) (defBody s_is_span) (semS ⟨K, run tab n, Xs e_BadSpans, none⟩ (fun c d _ H' => E c d H') Sn B_is_span) :=
  (dss_cons (ds_if (PW.pt (dw_or (dt_not (dt_val (de_isi rfl rfl TT.b_isinstance rfl TT.b_tuple (by decide +kernel) (de_brw (i := 0) rfl (by first | exact Or.inl rfl | exact Or.inr (Or.inl rfl) | exact Or.inr (Or.inr rfl)))))) (dt_or1 (dt_cmp (od_ne (hu65 R)) rfl (de_sub (de_bb cb_len rfl rfl TT.b_len (by decide +kernel) (db_cons (de_brw (i := 0) rfl (by first | exact Or.inl rfl | exact Or.inr (Or.inl rfl) | exact Or.inr (Or.inr rfl))) db_nil))) (de_sub de_int) (nomark _)))))
  (dss_one (ds_ret de_bl))
  dss_nil)
  (dss_one (ds_ret (de_and (de_fn TT.f_is_day R takesG rfl (da_cons (de_ix id_ix rfl (de_brw (i := 0) rfl (by first | exact Or.inl rfl | exact Or.inr (Or.inl rfl) | exact Or.inr (Or.inr rfl))) (de_sub de_int) (fun _ _ => rfl)) da_nil) (lenA_cons lenA_nil)) (de_and (de_fn TT.f_is_day R takesG rfl (da_cons (de_ix id_ix rfl (de_brw (i := 0) rfl (by first | exact Or.inl rfl | exact Or.inr (Or.inl rfl) | exact Or.inr (Or.inr rfl))) (de_sub de_int) (fun _ _ => rfl)) da_nil) (lenA_cons lenA_nil)) (de_one (de_cmp od_le rfl (de_sub (de_ix id_ix rfl (de_brw (i := 0) rfl (by first | exact Or.inl rfl | exact Or.inr (Or.inl rfl) | exact Or.inr (Or.inr rfl))) (de_sub de_int) (fun _ _ => rfl))) (de_sub (de_ix id_ix rfl (de_brw (i := 0) rfl (by first | exact Or.inl rfl | exact Or.inr (Or.inl rfl) | exact Or.inr (Or.inr rfl))) (de_sub de_int) (fun _ _ => rfl))) (nomark _))))))))
theorem d_union {P : Program} {w : World} {K : PySem.W.Frag} {mg : Str → Option Value} {base : Heap} {n : Nat} {e_BadSpans : Addr} (TT : Txt P w K mg base n e_BadSpans) (f : Addr) (cdv : Value) (A : Around) (outer : List PySem.Env) (s : Shared) (H : Hp) (E : XK) (R : Room n (A.deeper (PyProof.Rows.envOfC "union" (defScope s_union) s.heap.objs.size f cdv))) (Sn : Snap) :
    PSs (cxG P w K mg base n_union "union" (defScope s_union) f cdv A outer s H E true []) (defBody s_union) (semS ⟨K, run tab n, Xs e_BadSpans, none⟩ (fun c d _ H' => E c d H') Sn B_union) :=
  (dss_one (ds_ret (de_fn TT.f_joined R takesG rfl (da_cons (de_bb (cb_sort (hu65 R)) rfl rfl TT.b_sorted (by decide +kernel) (db_cons (de_sub (de_tup (da_star rfl (de_var (i := 0) rfl (by first | exact Or.inl rfl | exact Or.inr (Or.inl rfl) | exact Or.inr (Or.inr rfl))) (da_star rfl (de_var (i := 1) rfl (by first | exact Or.inl rfl | exact Or.inr (Or.inl rfl) | exact Or.inr (Or.inr rfl))) da_nil)))) db_nil)) da_nil) (lenA_cons lenA_nil))))
theorem d_meet {P : Program} {w : World} {K : PySem.W.Frag} {mg : Str → Option Value} {base : Heap} {n : Nat} {e_BadSpans : Addr} (TT : Txt P w K mg base n e_BadSpans) (f : Addr) (cdv : Value) (A : Around) (outer : List PySem.Env) (s : Shared) (H : Hp) (E : XK) (R : Room n (A.deeper (PyProof.Rows.envOfC "meet" (defScope s_meet) s.heap.objs.size f cdv))) (Sn : Snap) :
    PSs (cxG P w K mg base n_meet "meet" (defScope s_meet) f cdv A outer s H E true []) (defBody s_meet) (semS ⟨K, run tab n, Xs e_BadSpans, none⟩ (fun c d _ H' => E c d H') Sn B_meet) :=
  (dss_cons (ds_par3 rfl sc_meet.nd rfl rfl rfl (by decide) (by decide) (by decide) rfl rfl rfl (dm_new (df_lst da_nil) (dm_cons de_int (dm_cons de_int dm_nil))) rfl)
  (dss_cons (ds_while passesG (PW.pt (dw_and (dt_cmp od_lt rfl (de_brw (i := 3) rfl (by first | exact Or.inl rfl | exact Or.inr (Or.inl rfl) | exact Or.inr (Or.inr rfl))) (de_sub (de_bb cb_len rfl rfl TT.b_len (by decide +kernel) (db_cons (de_brw (i := 0) rfl (by first | exact Or.inl rfl | exact Or.inr (Or.inl rfl) | exact Or.inr (Or.inr rfl))) db_nil))) (nomark _)) (dt_and1 (dt_cmp od_lt rfl (de_brw (i := 4) rfl (by first | exact Or.inl rfl | exact Or.inr (Or.inl rfl) | exact Or.inr (Or.inr rfl))) (de_sub (de_bb cb_len rfl rfl TT.b_len (by decide +kernel) (db_cons (de_brw (i := 1) rfl (by first | exact Or.inl rfl | exact Or.inr (Or.inl rfl) | exact Or.inr (Or.inr rfl))) db_nil))) (nomark _)))))
  (dss_cons (ds_par2 rfl sc_meet.nd rfl rfl (by decide) rfl rfl (dm_cons (de_bb (cb_max rfl) rfl rfl TT.b_max (by decide +kernel) (db_cons (de_sub (de_ix id_ix rfl (de_sub (de_ix id_ix rfl (de_brw (i := 0) rfl (by first | exact Or.inl rfl | exact Or.inr (Or.inl rfl) | exact Or.inr (Or.inr rfl))) (de_brw (i := 3) rfl (by first | exact Or.inl rfl | exact Or.inr (Or.inl rfl) | exact Or.inr (Or.inr rfl))) (fun _ _ => rfl))) (de_sub de_int) (fun _ _ => rfl))) (db_cons (de_sub (de_ix id_ix rfl (de_sub (de_ix id_ix rfl (de_brw (i := 1) rfl (by first | exact Or.inl rfl | exact Or.inr (Or.inl rfl) | exact Or.inr (Or.inr rfl))) (de_brw (i := 4) rfl (by first | exact Or.inl rfl | exact Or.inr (Or.inl rfl) | exact Or.inr (Or.inr rfl))) (fun _ _ => rfl))) (de_sub de_int) (fun _ _ => rfl))) db_nil))) (dm_cons (de_bb (cb_min rfl) rfl rfl TT.b_min (by decide +kernel) (db_cons (de_sub (de_ix id_ix rfl (de_sub (de_ix id_ix rfl (de_brw (i := 0) rfl (by first | exact Or.inl rfl | exact Or.inr (Or.inl rfl) | exact Or.inr (Or.inr rfl))) (de_brw (i := 3) rfl (by first | exact Or.inl rfl | exact Or.inr (Or.inl rfl) | exact Or.inr (Or.inr rfl))) (fun _ _ => rfl))) (de_sub de_int) (fun _ _ => rfl))) (db_cons (de_sub (de_ix id_ix rfl (de_sub (de_ix id_ix rfl (de_brw (i := 1) rfl (by first | exact Or.inl rfl | exact Or.inr (Or.inl rfl) | exact Or.inr (Or.inr rfl))) (de_brw (i := 4) rfl (by first | exact Or.inl rfl | exact Or.inr (Or.inl rfl) | exact Or.inr (Or.inr rfl))) (fun _ _ => rfl))) (de_sub de_int) (fun _ _ => rfl))) db_nil))) dm_nil)) rfl)
  (dss_cons (ds_if (dt_cmp od_le rfl (de_brw (i := 5) rfl (by first | exact Or.inl rfl | exact Or.inr (Or.inl rfl) | exact Or.inr (Or.inr rfl))) (de_brw (i := 6) rfl (by first | exact Or.inl rfl | exact Or.inr (Or.inl rfl) | exact Or.inr (Or.inr rfl))) (nomark _))
  (dss_one (ds_app (i := 2) rfl rfl (by first | exact Or.inl rfl | exact Or.inr (Or.inl rfl) | exact Or.inr (Or.inr rfl)) (de_tup (da_cons (de_var (i := 5) rfl (by first | exact Or.inl rfl | exact Or.inr (Or.inl rfl) | exact Or.inr (Or.inr rfl))) (da_cons (de_var (i := 6) rfl (by first | exact Or.inl rfl | exact Or.inr (Or.inl rfl) | exact Or.inr (Or.inr rfl))) da_nil)))))
  dss_nil)
  (dss_one (ds_if (dt_cmp od_lt rfl (de_sub (de_ix id_ix rfl (de_sub (de_ix id_ix rfl (de_brw (i := 0) rfl (by first | exact Or.inl rfl | exact Or.inr (Or.inl rfl) | exact Or.inr (Or.inr rfl))) (de_brw (i := 3) rfl (by first | exact Or.inl rfl | exact Or.inr (Or.inl rfl) | exact Or.inr (Or.inr rfl))) (fun _ _ => rfl))) (de_sub de_int) (fun _ _ => rfl))) (de_sub (de_ix id_ix rfl (de_sub (de_ix id_ix rfl (de_brw (i := 1) rfl (by first | exact Or.inl rfl | exact Or.inr (Or.inl rfl) | exact Or.inr (Or.inr rfl))) (de_brw (i := 4) rfl (by first | exact Or.inl rfl | exact Or.inr (Or.inl rfl) | exact Or.inr (Or.inr rfl))) (fun _ _ => rfl))) (de_sub de_int) (fun _ _ => rfl))) (nomark _))
  (dss_one (ds_set (i := 3) sc_meet.nd rfl (by first | exact Or.inl rfl | exact Or.inr rfl) (de_bin od_addA rfl (de_brw (i := 3) rfl (by first | exact Or.inl rfl | exact Or.inr (Or.inl rfl) | exact Or.inr (Or.inr rfl))) (de_sub de_int)) (Or.inl rfl)))
  (dss_one (ds_set (i := 4) sc_meet.nd rfl (by first | exact Or.inl rfl | exact Or.inr rfl) (de_bin od_addA rfl (de_brw (i := 4) rfl (by first | exact Or.inl rfl | exact Or.inr (Or.inl rfl) | exact Or.inr (Or.inr rfl))) (de_sub de_int)) (Or.inl rfl))))))))
  (dss_one (ds_ret (de_bt cb_tuple rfl rfl TT.b_tuple (by decide +kernel) (db_cons (de_brw (i := 2) rfl (by first | exact Or.inl rfl | exact Or.inr (Or.inl rfl) | exact Or.inr (Or.inr rfl))) db_nil))))))
theorem d_less {P : Program} {w : World} {K : PySem.W.Frag} {mg : Str → Option Value} {base : Heap} {n : Nat} {e_BadSpans : Addr} (TT : Txt P w K mg base n e_BadSpans) (f : Addr) (cdv : Value) (A : Around) (outer : List PySem.Env) (s : Shared) (H : Hp) (E : XK) (R : Room n (A.deeper (PyProof.Rows.envOfC "less" (defScope s_less) s.heap.objs.size f cdv))) (Sn : Snap) :
    PSs (cxG P w K mg base n_less "less" (defScope s_less) f cdv A outer s H E true []) (defBody s_less) (semS ⟨K, run tab n, Xs e_BadSpans, none⟩ (fun c d _ H' => E c d H') Sn B_less) :=
  (dss_one (ds_ret (de_fn TT.f_meet R takesG rfl (da_cons (de_var (i := 0) rfl (by first | exact Or.inl rfl | exact Or.inr (Or.inl rfl) | exact Or.inr (Or.inr rfl))) (da_cons (de_fn TT.f_others R takesG rfl (da_cons (de_var (i := 1) rfl (by first | exact Or.inl rfl | exact Or.inr (Or.inl rfl) | exact Or.inr (Or.inr rfl))) da_nil) (lenA_cons lenA_nil)) da_nil)) (lenA_cons (lenA_cons lenA_nil)))))
theorem d_others {P : Program} {w : World} {K : PySem.W.Frag} {mg : Str → Option Value} {base : Heap} {n : Nat} {e_BadSpans : Addr} (TT : Txt P w K mg base n e_BadSpans) (f : Addr) (cdv : Value) (A : Around) (outer : List PySem.Env) (s : Shared) (H : Hp) (E : XK) (R : Room n (A.deeper (PyProof.Rows.envOfC "others" (defScope s_others) s.heap.objs.size f cdv))) (Sn : Snap) :
    PSs (cxG P w K mg base n_others "others" (defScope s_others) f cdv A outer s H E true []) (defBody s_others) (semS ⟨K, run tab n, Xs e_BadSpans, none⟩ (fun c d _ H' => E c d H') Sn B_others) :=
  (dss_cons (ds_par2 rfl sc_others.nd rfl rfl (by decide) rfl rfl (dm_new (df_lst da_nil) (dm_cons de_int dm_nil)) rfl)
  (dss_cons (ds_for passesG rfl (di_seq rfl (de_var (i := 0) rfl (by first | exact Or.inl rfl | exact Or.inr (Or.inl rfl) | exact Or.inr (Or.inr rfl)))) (dg_tup rfl rfl (dgs_cons (dg_name (i := 3) sc_others.nd rfl (by first | exact Or.inl rfl | exact Or.inr rfl) (by first | exact Or.inl rfl | exact Or.inr rfl)) (dgs_cons (dg_name (i := 4) sc_others.nd rfl (by first | exact Or.inl rfl | exact Or.inr rfl) (by first | exact Or.inl rfl | exact Or.inr rfl)) dgs_nil))) (fun _ =>
  (dss_cons (ds_if (dt_cmp od_lt rfl (de_brw (i := 2) rfl (by first | exact Or.inl rfl | exact Or.inr (Or.inl rfl) | exact Or.inr (Or.inr rfl))) (de_brw (i := 3) rfl (by first | exact Or.inl rfl | exact Or.inr (Or.inl rfl) | exact Or.inr (Or.inr rfl))) (nomark _))
  (dss_one (ds_app (i := 1) rfl rfl (by first | exact Or.inl rfl | exact Or.inr (Or.inl rfl) | exact Or.inr (Or.inr rfl)) (de_tup (da_cons (de_var (i := 2) rfl (by first | exact Or.inl rfl | exact Or.inr (Or.inl rfl) | exact Or.inr (Or.inr rfl))) (da_cons (de_bin od_sub rfl (de_brw (i := 3) rfl (by first | exact Or.inl rfl | exact Or.inr (Or.inl rfl) | exact Or.inr (Or.inr rfl))) (de_sub de_int)) da_nil)))))
  dss_nil)
  (dss_one (ds_set (i := 2) sc_others.nd rfl (by first | exact Or.inl rfl | exact Or.inr rfl) (de_bin od_addA rfl (de_brw (i := 4) rfl (by first | exact Or.inl rfl | exact Or.inr (Or.inl rfl) | exact Or.inr (Or.inr rfl))) (de_sub de_int)) (Or.inl rfl))))))
  (dss_cons (ds_if (dt_cmp od_le rfl (de_brw (i := 2) rfl (by first | exact Or.inl rfl | exact Or.inr (Or.inl rfl) | exact Or.inr (Or.inr rfl))) (de_sub (de_globX rfl TT.g_MOST_DAY (fun _ _ => .int _))) (nomark _))
  (dss_one (ds_app (i := 1) rfl rfl (by first | exact Or.inl rfl | exact Or.inr (Or.inl rfl) | exact Or.inr (Or.inr rfl)) (de_tup (da_cons (de_var (i := 2) rfl (by first | exact Or.inl rfl | exact Or.inr (Or.inl rfl) | exact Or.inr (Or.inr rfl))) (da_cons (de_globX rfl TT.g_MOST_DAY (fun _ _ => .int _)) da_nil)))))
  dss_nil)
  (dss_one (ds_ret (de_bt cb_tuple rfl rfl TT.b_tuple (by decide +kernel) (db_cons (de_brw (i := 1) rfl (by first | exact Or.inl rfl | exact Or.inr (Or.inl rfl) | exact Or.inr (Or.inr rfl))) db_nil)))))))
theorem d_unlike {P : Program} {w : World} {K : PySem.W.Frag} {mg : Str → Option Value} {base : Heap} {n : Nat} {e_BadSpans : Addr} (TT : Txt P w K mg base n e_BadSpans) (f : Addr) (cdv : Value) (A : Around) (outer : List PySem.Env) (s : Shared) (H : Hp) (E : XK) (R : Room n (A.deeper (PyProof.Rows.envOfC "unlike" (defScope s_unlike) s.heap.objs.size f cdv))) (Sn : Snap) :
    PSs (cxG P w K mg base n_unlike "unlike" (defScope s_unlike) f cdv A outer s H E true []) (defBody s_unlike) (semS ⟨K, run tab n, Xs e_BadSpans, none⟩ (fun c d _ H' => E c d H') Sn B_unlike) :=
  (dss_one (ds_ret (de_fn TT.f_union R takesG rfl (da_cons (de_fn TT.f_less R takesG rfl (da_cons (de_var (i := 0) rfl (by first | exact Or.inl rfl | exact Or.inr (Or.inl rfl) | exact Or.inr (Or.inr rfl))) (da_cons (de_var (i := 1) rfl (by first | exact Or.inl rfl | exact Or.inr (Or.inl rfl) | exact Or.inr (Or.inr rfl))) da_nil)) (lenA_cons (lenA_cons lenA_nil))) (da_cons (de_fn TT.f_less R takesG rfl (da_cons (de_var (i := 1) rfl (by first | exact Or.inl rfl | exact Or.inr (Or.inl rfl) | exact Or.inr (Or.inr rfl))) (da_cons (de_var (i := 0) rfl (by first | exact Or.inl rfl | exact Or.inr (Or.inl rfl) | exact Or.inr (Or.inr rfl))) da_nil)) (lenA_cons (lenA_cons lenA_nil))) da_nil)) (lenA_cons (lenA_cons lenA_nil)))))
theorem d_law_days {P : Program} {w : World} {K : PySem.W.Frag} {mg : Str → Option Value} {base : Heap} {n : Nat} {e_BadSpans : Addr} (TT : Txt P w K mg base n e_BadSpans) (f : Addr) (cdv : Value) (A : Around) (outer : List PySem.Env) (s : Shared) (H : Hp) (E : XK) (R : Room n (A.deeper (PyProof.Rows.envOfC "_law_days" (defScope s_law_days) s.heap.objs.size f cdv))) (Sn : Snap) :
    PSs (cxG P w K mg base n_law_days "_law_days" (defScope s_law_days) f cdv A outer s H E true []) (defBody s_law_days) (semS ⟨K, run tab n, Xs e_BadSpans, none⟩ (fun c d _ H' => E c d H') Sn B_law_days) :=
  (dss_one (ds_ret (de_bin od_addA rfl (de_sub (de_listRg1 rfl rfl TT.b_list rfl TT.b_range de_int)) (de_sub (de_listRg2 rfl rfl TT.b_list rfl TT.b_range de_int de_int)))))
theorem d_has {P : Program} {w : World} {K : PySem.W.Frag} {mg : Str → Option Value} {base : Heap} {n : Nat} {e_BadSpans : Addr} (TT : Txt P w K mg base n e_BadSpans) (f : Addr) (cdv : Value) (A : Around) (outer : List PySem.Env) (s : Shared) (H : Hp) (E : XK) (R : Room n (A.deeper (PyProof.Rows.envOfC "has" (defScope s_has) s.heap.objs.size f cdv))) (Sn : Snap) :
    PSs (cxG P w K mg base n_has "has" (defScope s_has) f cdv A outer s H E true []) (defBody s_has) (semS ⟨K, run tab n, Xs e_BadSpans, none⟩ (fun c d _ H' => E c d H') Sn B_has) :=
  (dss_cons (ds_par2 rfl sc_has.nd rfl rfl (by decide) rfl rfl (dm_cons de_int (dm_cons (de_bb cb_len rfl rfl TT.b_len (by decide +kernel) (db_cons (de_brw (i := 0) rfl (by first | exact Or.inl rfl | exact Or.inr (Or.inl rfl) | exact Or.inr (Or.inr rfl))) db_nil)) dm_nil)) rfl)
  (dss_cons (ds_while passesG (dt_cmp od_lt rfl (de_brw (i := 2) rfl (by first | exact Or.inl rfl | exact Or.inr (Or.inl rfl) | exact Or.inr (Or.inr rfl))) (de_brw (i := 3) rfl (by first | exact Or.inl rfl | exact Or.inr (Or.inl rfl) | exact Or.inr (Or.inr rfl))) (nomark _))
  (dss_cons (ds_set (i := 4) sc_has.nd rfl (by first | exact Or.inl rfl | exact Or.inr rfl) (de_bin od_fdiv rfl (de_sub (de_bin od_addA rfl (de_brw (i := 2) rfl (by first | exact Or.inl rfl | exact Or.inr (Or.inl rfl) | exact Or.inr (Or.inr rfl))) (de_brw (i := 3) rfl (by first | exact Or.inl rfl | exact Or.inr (Or.inl rfl) | exact Or.inr (Or.inr rfl))))) (de_sub de_int)) (Or.inl rfl))
  (dss_one (ds_if (dt_cmp od_lt rfl (de_sub (de_ix id_ix rfl (de_sub (de_ix id_ix rfl (de_brw (i := 0) rfl (by first | exact Or.inl rfl | exact Or.inr (Or.inl rfl) | exact Or.inr (Or.inr rfl))) (de_brw (i := 4) rfl (by first | exact Or.inl rfl | exact Or.inr (Or.inl rfl) | exact Or.inr (Or.inr rfl))) (fun _ _ => rfl))) (de_sub de_int) (fun _ _ => rfl))) (de_brw (i := 1) rfl (by first | exact Or.inl rfl | exact Or.inr (Or.inl rfl) | exact Or.inr (Or.inr rfl))) (nomark _))
  (dss_one (ds_set (i := 2) sc_has.nd rfl (by first | exact Or.inl rfl | exact Or.inr rfl) (de_bin od_addA rfl (de_brw (i := 4) rfl (by first | exact Or.inl rfl | exact Or.inr (Or.inl rfl) | exact Or.inr (Or.inr rfl))) (de_sub de_int)) (Or.inl rfl)))
  (dss_one (ds_set (i := 3) sc_has.nd rfl (by first | exact Or.inl rfl | exact Or.inr rfl) (de_var (i := 4) rfl (by first | exact Or.inl rfl | exact Or.inr (Or.inl rfl) | exact Or.inr (Or.inr rfl))) (Or.inl rfl)))))))
  (dss_one (ds_ret (de_and (de_cmp od_lt rfl (de_brw (i := 2) rfl (by first | exact Or.inl rfl | exact Or.inr (Or.inl rfl) | exact Or.inr (Or.inr rfl))) (de_sub (de_bb cb_len rfl rfl TT.b_len (by decide +kernel) (db_cons (de_brw (i := 0) rfl (by first | exact Or.inl rfl | exact Or.inr (Or.inl rfl) | exact Or.inr (Or.inr rfl))) db_nil))) (nomark _)) (de_one (de_cmp od_le rfl (de_sub (de_ix id_ix rfl (de_sub (de_ix id_ix rfl (de_brw (i := 0) rfl (by first | exact Or.inl rfl | exact Or.inr (Or.inl rfl) | exact Or.inr (Or.inr rfl))) (de_brw (i := 2) rfl (by first | exact Or.inl rfl | exact Or.inr (Or.inl rfl) | exact Or.inr (Or.inr rfl))) (fun _ _ => rfl))) (de_sub de_int) (fun _ _ => rfl))) (de_brw (i := 1) rfl (by first | exact Or.inl rfl | exact Or.inr (Or.inl rfl) | exact Or.inr (Or.inr rfl))) (nomark _))))))))
theorem d_how_many {P : Program} {w : World} {K : PySem.W.Frag} {mg : Str → Option Value} {base : Heap} {n : Nat} {e_BadSpans : Addr} (TT : Txt P w K mg base n e_BadSpans) (f : Addr) (cdv : Value) (A : Around) (outer : List PySem.Env) (s : Shared) (H : Hp) (E : XK) (R : Room n (A.deeper (PyProof.Rows.envOfC "how_many" (defScope s_how_many) s.heap.objs.size f cdv))) (Sn : Snap) :
    PSs (cxG P w K mg base n_how_many "how_many" (defScope s_how_many) f cdv A outer s H E true []) (defBody s_how_many) (semS ⟨K, run tab n, Xs e_BadSpans, none⟩ (fun c d _ H' => E c d H') Sn B_how_many) :=
  (dss_one (ds_ret (de_bb (cb_sum rfl) rfl rfl TT.b_sum (by decide +kernel) (db_cons (de_sub (de_frz (df_lcV rfl sc_how_many.nd (⟨rfl, by decide +kernel, by decide +kernel, by decide +kernel, by decide +kernel⟩ : BlkOk n_how_many (defScope s_how_many) _ [("first", 1), ("last", 2)]) rfl (di_seq rfl (de_var (i := 0) rfl (by first | exact Or.inl rfl | exact Or.inr (Or.inl rfl) | exact Or.inr (Or.inr rfl)))) rfl (fun _ _ _ _ _ => (dg_tup rfl rfl (dgs_cons (dg_name (i := 1) sc_how_many.nd rfl (by first | exact Or.inl rfl | exact Or.inr rfl) (by first | exact Or.inl rfl | exact Or.inr rfl)) (dgs_cons (dg_name (i := 2) sc_how_many.nd rfl (by first | exact Or.inl rfl | exact Or.inr rfl) (by first | exact Or.inl rfl | exact Or.inr rfl)) dgs_nil)))) (fun _ _ _ _ _ => dts_nil) (fun _ _ _ _ _ => (de_bin od_addA rfl (de_sub (de_bin od_sub rfl (de_brw (i := 2) rfl (by first | exact Or.inl rfl | exact Or.inr (Or.inl rfl) | exact Or.inr (Or.inr rfl))) (de_brw (i := 1) rfl (by first | exact Or.inl rfl | exact Or.inr (Or.inl rfl) | exact Or.inr (Or.inr rfl))))) (de_sub de_int)))))) db_nil))))
theorem d_is_part {P : Program} {w : World} {K : PySem.W.Frag} {mg : Str → Option Value} {base : Heap} {n : Nat} {e_BadSpans : Addr} (TT : Txt P w K mg base n e_BadSpans) (f : Addr) (cdv : Value) (A : Around) (outer : List PySem.Env) (s : Shared) (H : Hp) (E : XK) (R : Room n (A.deeper (PyProof.Rows.envOfC "is_part" (defScope s_is_part) s.heap.objs.size f cdv))) (Sn : Snap) :
    PSs (cxG P w K mg base n_is_part "is_part" (defScope s_is_part) f cdv A outer s H E true []) (defBody s_is_part) (semS ⟨K, run tab n, Xs e_BadSpans, none⟩ (fun c d _ H' => E c d H') Sn B_is_part) :=
  (dss_one (ds_ret (de_cmp (od_eq (hu65 R)) rfl (de_sub (de_fn TT.f_less R takesG rfl (da_cons (de_var (i := 0) rfl (by first | exact Or.inl rfl | exact Or.inr (Or.inl rfl) | exact Or.inr (Or.inr rfl))) (da_cons (de_var (i := 1) rfl (by first | exact Or.inl rfl | exact Or.inr (Or.inl rfl) | exact Or.inr (Or.inr rfl))) da_nil)) (lenA_cons (lenA_cons lenA_nil)))) (de_sub (de_tup da_nil)) (nomark _))))
theorem d_breaks {P : Program} {w : World} {K : PySem.W.Frag} {mg : Str → Option Value} {base : Heap} {n : Nat} {e_BadSpans : Addr} (TT : Txt P w K mg base n e_BadSpans) (f : Addr) (cdv : Value) (A : Around) (outer : List PySem.Env) (s : Shared) (H : Hp) (E : XK) (R : Room n (A.deeper (PyProof.Rows.envOfC "breaks" (defScope s_breaks) s.heap.objs.size f cdv))) (Sn : Snap) :
    PSs (cxG P w K mg base n_breaks "breaks" (defScope s_breaks) f cdv A outer s H E true []) (defBody s_breaks) (semS ⟨K, run tab n, Xs e_BadSpans, none⟩ (fun c d _ H' => E c d H') Sn B_breaks) :=
  (dss_cons (ds_own (i := 1) sc_breaks.nd rfl (by first | exact Or.inl rfl | exact Or.inr rfl) (df_lst da_nil) (Or.inl rfl))
  (dss_cons (ds_for passesG rfl (di_seq rfl (de_var (i := 0) rfl (by first | exact Or.inl rfl | exact Or.inr (Or.inl rfl) | exact Or.inr (Or.inr rfl)))) (dg_tup rfl rfl (dgs_cons (dg_name (i := 2) sc_breaks.nd rfl (by first | exact Or.inl rfl | exact Or.inr rfl) (by first | exact Or.inl rfl | exact Or.inr rfl)) (dgs_cons (dg_name (i := 3) sc_breaks.nd rfl (by first | exact Or.inl rfl | exact Or.inr rfl) (by first | exact Or.inl rfl | exact Or.inr rfl)) dgs_nil))) (fun _ =>
  (dss_one (ds_ext (i := 1) sc_breaks.nd rfl (by first | exact Or.inl rfl | exact Or.inr rfl) (de_frz (df_lst (da_cons (de_var (i := 2) rfl (by first | exact Or.inl rfl | exact Or.inr (Or.inl rfl) | exact Or.inr (Or.inr rfl))) (da_cons (de_bin od_addA rfl (de_brw (i := 3) rfl (by first | exact Or.inl rfl | exact Or.inr (Or.inl rfl) | exact Or.inr (Or.inr rfl))) (de_sub de_int)) da_nil)))) (Or.inl rfl)))))
  (dss_frz (i := 1) (dss_one (ds_ret (de_var (i := 1) rfl (by first | exact Or.inl rfl | exact Or.inr (Or.inl rfl) | exact Or.inr (Or.inr rfl))))))))
theorem d_law_pick {P : Program} {w : World} {K : PySem.W.Frag} {mg : Str → Option Value} {base : Heap} {n : Nat} {e_BadSpans : Addr} (TT : Txt P w K mg base n e_BadSpans) (f : Addr) (cdv : Value) (A : Around) (outer : List PySem.Env) (s : Shared) (H : Hp) (E : XK) (R : Room n (A.deeper (PyProof.Rows.envOfC "_law_pick" (defScope s_law_pick) s.heap.objs.size f cdv))) (Sn : Snap) :
    PSs (cxG P w K mg base n_law_pick "_law_pick" (defScope s_law_pick) f cdv A outer s H E true []) (defBody s_law_pick) (semS ⟨K, run tab n, Xs e_BadSpans, none⟩ (fun c d _ H' => E c d H') Sn B_law_pick) :=
  (dss_one (ds_ret (de_ix id_ix rfl (de_brw (i := 1) rfl (by first | exact Or.inl rfl | exact Or.inr (Or.inl rfl) | exact Or.inr (Or.inr rfl))) (de_sub (de_fn TT.f_law_take R takesG rfl (da_cons (de_var (i := 0) rfl (by first | exact Or.inl rfl | exact Or.inr (Or.inl rfl) | exact Or.inr (Or.inr rfl))) (da_cons (de_bb cb_len rfl rfl TT.b_len (by decide +kernel) (db_cons (de_brw (i := 1) rfl (by first | exact Or.inl rfl | exact Or.inr (Or.inl rfl) | exact Or.inr (Or.inr rfl))) db_nil)) da_nil)) (lenA_cons (lenA_cons lenA_nil)))) (fun _ _ => rfl))))
theorem d_is_name {P : Program} {w : World} {K : PySem.W.Frag} {mg : Str → Option Value} {base : Heap} {n : Nat} {e_BadSpans : Addr} (TT : Txt P w K mg base n e_BadSpans) (f : Addr) (cdv : Value) (A : Around) (outer : List PySem.Env) (s : Shared) (H : Hp) (E : XK) (R : Room n (A.deeper (PyProof.Rows.envOfC "is_name" (defScope s_is_name) s.heap.objs.size f cdv))) (Sn : Snap) :
    PSs (cxG P w K mg base n_is_name "is_name" (defScope s_is_name) f cdv A outer s H E true []) (defBody s_is_name) (semS ⟨K, run tab n, Xs e_BadSpans, none⟩ (fun c d _ H' => E c d H') Sn B_is_name) :=
  (dss_cons (ds_if (PW.pt (dw_or (dt_not (dt_val (de_isi rfl rfl TT.b_isinstance rfl TT.b_str (by decide +kernel) (de_brw (i := 0) rfl (by first | exact Or.inl rfl | exact Or.inr (Or.inl rfl) | exact Or.inr (Or.inr rfl)))))) (dw_or (dt_not (dt_chain od_le od_le rfl (de_sub de_int) (de_sub (de_bb cb_len rfl rfl TT.b_len (by decide +kernel) (db_cons (de_brw (i := 0) rfl (by first | exact Or.inl rfl | exact Or.inr (Or.inl rfl) | exact Or.inr (Or.inr rfl))) db_nil))) (de_sub de_int))) (dt_or1 (dt_cmp (od_notIn (hu65 R)) rfl (de_sub (de_ix id_ix rfl (de_brw (i := 0) rfl (by first | exact Or.inl rfl | exact Or.inr (Or.inl rfl) | exact Or.inr (Or.inr rfl))) (de_sub de_int) (fun _ _ => rfl))) (de_sub (de_globX rfl TT.g_LETTERS (fun _ _ => .str _))) (by with_unfolding_all rfl))))))
  (dss_one (ds_ret de_bl))
  dss_nil)
  (dss_one (ds_ret (de_bb (cb_all rfl) rfl rfl TT.b_all (by decide +kernel) (db_cons (de_sub (de_frz (df_lcV rfl sc_is_name.nd (⟨rfl, by decide +kernel, by decide +kernel, by decide +kernel, by decide +kernel⟩ : BlkOk n_is_name (defScope s_is_name) _ [("sign", 1)]) rfl (di_seq rfl (de_var (i := 0) rfl (by first | exact Or.inl rfl | exact Or.inr (Or.inl rfl) | exact Or.inr (Or.inr rfl)))) rfl (fun _ _ _ _ _ => (dg_name (i := 1) sc_is_name.nd rfl (by first | exact Or.inl rfl | exact Or.inr rfl) (by first | exact Or.inl rfl | exact Or.inr rfl))) (fun _ _ _ _ _ => dts_nil) (fun _ _ _ _ _ => (de_or (de_cmp (od_in (hu65 R)) rfl (de_brw (i := 1) rfl (by first | exact Or.inl rfl | exact Or.inr (Or.inl rfl) | exact Or.inr (Or.inr rfl))) (de_sub (de_globX rfl TT.g_LETTERS (fun _ _ => .str _))) (by with_unfolding_all rfl)) (de_one (de_cmp (od_in (hu65 R)) rfl (de_brw (i := 1) rfl (by first | exact Or.inl rfl | exact Or.inr (Or.inl rfl) | exact Or.inr (Or.inr rfl))) (de_sub (de_globX rfl TT.g_FIGURES (fun _ _ => .str _))) (by with_unfolding_all rfl)))))))) db_nil)))))
theorem d_is_day {P : Program} {w : World} {K : PySem.W.Frag} {mg : Str → Option Value} {base : Heap} {n : Nat} {e_BadSpans : Addr} (TT : Txt P w K mg base n e_BadSpans) (f : Addr) (cdv : Value) (A : Around) (outer : List PySem.Env) (s : Shared) (H : Hp) (E : XK) (R : Room n (A.deeper (PyProof.Rows.envOfC "is_day" (defScope s_is_day) s.heap.objs.size f cdv))) (Sn : Snap) :
    PSs (cxG P w K mg base n_is_day "is_day" (defScope s_is_day) f cdv A outer s H E true []) (defBody s_is_day) (semS ⟨K, run tab n, Xs e_BadSpans, none⟩ (fun c d _ H' => E c d H') Sn B_is_day) :=
  (dss_one (ds_ret (de_fn TT.f_is_whole R takesG rfl (da_cons (de_var (i := 0) rfl (by first | exact Or.inl rfl | exact Or.inr (Or.inl rfl) | exact Or.inr (Or.inr rfl))) (da_cons de_int (da_cons (de_globX rfl TT.g_MOST_DAY (fun _ _ => .int _)) da_nil))) (lenA_cons (lenA_cons (lenA_cons lenA_nil))))))
theorem d_law_take {P : Program} {w : World} {K : PySem.W.Frag} {mg : Str → Option Value} {base : Heap} {n : Nat} {e_BadSpans : Addr} (TT : Txt P w K mg base n e_BadSpans) (f : Addr) (cdv : Value) (A : Around) (outer : List PySem.Env) (s : Shared) (H : Hp) (E : XK) (R : Room n (A.deeper (PyProof.Rows.envOfC "_law_take" (defScope s_law_take) s.heap.objs.size f cdv))) (Sn : Snap) :
    PSs (cxG P w K mg base n_law_take "_law_take" (defScope s_law_take) f cdv A outer s H E true []) (defBody s_law_take) (semS ⟨K, run tab n, Xs e_BadSpans, none⟩ (fun c d _ H' => E c d H') Sn B_law_take) :=
  (dss_cons (ds_stoAug oi_add rfl (de_var (i := 0) rfl (by first | exact Or.inl rfl | exact Or.inr (Or.inl rfl) | exact Or.inr (Or.inr rfl))) de_int de_int)
  (dss_one (ds_ret (de_bin od_mod rfl (de_sub (de_bt cb_int rfl rfl TT.b_int (by decide +kernel) (db_cons (de_sub (de_fn TT.f_law_number R takesG rfl (da_cons (de_ix id_ix rfl (de_brw (i := 0) rfl (by first | exact Or.inl rfl | exact Or.inr (Or.inl rfl) | exact Or.inr (Or.inr rfl))) (de_sub de_int) (fun _ _ => rfl)) (da_cons (de_bt cb_int rfl rfl TT.b_int (by decide +kernel) (db_cons (de_sub (de_ix id_ix rfl (de_brw (i := 0) rfl (by first | exact Or.inl rfl | exact Or.inr (Or.inl rfl) | exact Or.inr (Or.inr rfl))) (de_sub de_int) (fun _ _ => rfl))) db_nil)) da_nil)) (lenA_cons (lenA_cons lenA_nil)))) db_nil))) (de_brw (i := 1) rfl (by first | exact Or.inl rfl | exact Or.inr (Or.inl rfl) | exact Or.inr (Or.inr rfl)))))))
theorem d_law_day {P : Program} {w : World} {K : PySem.W.Frag} {mg : Str → Option Value} {base : Heap} {n : Nat} {e_BadSpans : Addr} (TT : Txt P w K mg base n e_BadSpans) (f : Addr) (cdv : Value) (A : Around) (outer : List PySem.Env) (s : Shared) (H : Hp) (E : XK) (R : Room n (A.deeper (PyProof.Rows.envOfC "_law_day" (defScope s_law_day) s.heap.objs.size f cdv))) (Sn : Snap) :
    PSs (cxG P w K mg base n_law_day "_law_day" (defScope s_law_day) f cdv A outer s H E true []) (defBody s_law_day) (semS ⟨K, run tab n, Xs e_BadSpans, none⟩ (fun c d _ H' => E c d H') Sn B_law_day) :=
  (dss_one (ds_ret (de_if (dt_cmp (od_eq (hu65 R)) rfl (de_sub (de_fn TT.f_law_take R takesG rfl (da_cons (de_var (i := 0) rfl (by first | exact Or.inl rfl | exact Or.inr (Or.inl rfl) | exact Or.inr (Or.inr rfl))) (da_cons de_int da_nil)) (lenA_cons (lenA_cons lenA_nil)))) (de_sub de_int) (nomark _)) (de_bin od_sub rfl (de_sub de_int) (de_sub (de_fn TT.f_law_take R takesG rfl (da_cons (de_var (i := 0) rfl (by first | exact Or.inl rfl | exact Or.inr (Or.inl rfl) | exact Or.inr (Or.inr rfl))) (da_cons de_int da_nil)) (lenA_cons (lenA_cons lenA_nil))))) (de_fn TT.f_law_take R takesG rfl (da_cons (de_var (i := 0) rfl (by first | exact Or.inl rfl | exact Or.inr (Or.inl rfl) | exact Or.inr (Or.inr rfl))) (da_cons de_int da_nil)) (lenA_cons (lenA_cons lenA_nil))))))
theorem d_check_spans {P : Program} {w : World} {K : PySem.W.Frag} {mg : Str → Option Value} {base : Heap} {n : Nat} {e_BadSpans : Addr} (TT : Txt P w K mg base n e_BadSpans) (f : Addr) (cdv : Value) (A : Around) (outer : List PySem.Env) (s : Shared) (H : Hp) (E : XK) (R : Room n (A.deeper (PyProof.Rows.envOfC "check_spans" (defScope s_check_spans) s.heap.objs.size f cdv))) (Sn : Snap) :
    PSs (cxG P w K mg base n_check_spans "check_spans" (defScope s_check_spans) f cdv A outer s H E true []) (defBody s_check_spans) (semS ⟨K, run tab n, Xs e_BadSpans, none⟩ (fun c d _ H' => E c d H') Sn B_check_spans) :=
  (dss_one (ds_for passesG rfl (di_enum rfl rfl TT.b_enumerate (da_cons (de_var (i := 0) rfl (by first | exact Or.inl rfl | exact Or.inr (Or.inl rfl) | exact Or.inr (Or.inr rfl))) da_nil)) (dg_tup rfl rfl (dgs_cons (dg_name (i := 1) sc_check_spans.nd rfl (by first | exact Or.inl rfl | exact Or.inr rfl) (by first | exact Or.inl rfl | exact Or.inr rfl)) (dgs_cons (dg_name (i := 2) sc_check_spans.nd rfl (by first | exact Or.inl rfl | exact Or.inr rfl) (by first | exact Or.inl rfl | exact Or.inr rfl)) dgs_nil))) (fun _ =>
  (dss_one (ds_if (dt_not (dt_val (de_fn TT.f_is_span R takesG rfl (da_cons (de_var (i := 2) rfl (by first | exact Or.inl rfl | exact Or.inr (Or.inl rfl) | exact Or.inr (Or.inr rfl))) da_nil) (lenA_cons lenA_nil))))
  (dss_one (ds_raise rfl takesG (TT.mk_BadSpans rfl rfl rfl R (da_cons (de_var (i := 1) rfl (by first | exact Or.inl rfl | exact Or.inr (Or.inl rfl) | exact Or.inr (Or.inr rfl))) da_nil) (lenA_cons lenA_nil) rfl rfl rfl)))
  dss_nil)))))
theorem d_joined {P : Program} {w : World} {K : PySem.W.Frag} {mg : Str → Option Value} {base : Heap} {n : Nat} {e_BadSpans : Addr} (TT : Txt P w K mg base n e_BadSpans) (f : Addr) (cdv : Value) (A : Around) (outer : List PySem.Env) (s : Shared) (H : Hp) (E : XK) (R : Room n (A.deeper (PyProof.Rows.envOfC "joined" (defScope s_joined) s.heap.objs.size f cdv))) (Sn : Snap) :
    PSs (cxG P w K mg base n_joined "joined" (defScope s_joined) f cdv A outer s H E true []) (defBody s_joined) (semS ⟨K, run tab n, Xs e_BadSpans, none⟩ (fun c d _ H' => E c d H') Sn B_joined) :=
  (dss_cons (ds_own (i := 1) sc_joined.nd rfl (by first | exact Or.inl rfl | exact Or.inr rfl) (df_lst da_nil) (Or.inl rfl))
  (dss_cons (ds_for passesG rfl (di_seq rfl (de_var (i := 0) rfl (by first | exact Or.inl rfl | exact Or.inr (Or.inl rfl) | exact Or.inr (Or.inr rfl)))) (dg_tup rfl rfl (dgs_cons (dg_name (i := 2) sc_joined.nd rfl (by first | exact Or.inl rfl | exact Or.inr rfl) (by first | exact Or.inl rfl | exact Or.inr rfl)) (dgs_cons (dg_name (i := 3) sc_joined.nd rfl (by first | exact Or.inl rfl | exact Or.inr rfl) (by first | exact Or.inl rfl | exact Or.inr rfl)) dgs_nil))) (fun _ =>
  (dss_one (ds_if (PW.pt (dw_and (dt_cmp (od_ne (hu65 R)) rfl (de_brw (i := 1) rfl (by first | exact Or.inl rfl | exact Or.inr (Or.inl rfl) | exact Or.inr (Or.inr rfl))) (de_sub (de_frz (df_lst da_nil))) (nomark _)) (dt_and1 (dt_cmp od_le rfl (de_brw (i := 2) rfl (by first | exact Or.inl rfl | exact Or.inr (Or.inl rfl) | exact Or.inr (Or.inr rfl))) (de_sub (de_bin od_addA rfl (de_sub (de_ix id_ix rfl (de_sub (de_ix id_ix rfl (de_brw (i := 1) rfl (by first | exact Or.inl rfl | exact Or.inr (Or.inl rfl) | exact Or.inr (Or.inr rfl))) (de_sub (de_un ud_neg rfl (de_sub de_int))) (fun _ _ => rfl))) (de_sub de_int) (fun _ _ => rfl))) (de_sub de_int))) (nomark _)))))
  (dss_one (ds_setI (i := 1) rfl (by first | exact Or.inl rfl | exact Or.inr (Or.inl rfl) | exact Or.inr (Or.inr rfl)) (de_un ud_neg rfl (de_sub de_int)) (de_tup (da_cons (de_ix id_ix rfl (de_sub (de_ix id_ix rfl (de_brw (i := 1) rfl (by first | exact Or.inl rfl | exact Or.inr (Or.inl rfl) | exact Or.inr (Or.inr rfl))) (de_sub (de_un ud_neg rfl (de_sub de_int))) (fun _ _ => rfl))) (de_sub de_int) (fun _ _ => rfl)) (da_cons (de_bb (cb_max rfl) rfl rfl TT.b_max (by decide +kernel) (db_cons (de_sub (de_ix id_ix rfl (de_sub (de_ix id_ix rfl (de_brw (i := 1) rfl (by first | exact Or.inl rfl | exact Or.inr (Or.inl rfl) | exact Or.inr (Or.inr rfl))) (de_sub (de_un ud_neg rfl (de_sub de_int))) (fun _ _ => rfl))) (de_sub de_int) (fun _ _ => rfl))) (db_cons (de_brw (i := 3) rfl (by first | exact Or.inl rfl | exact Or.inr (Or.inl rfl) | exact Or.inr (Or.inr rfl))) db_nil))) da_nil)))))
  (dss_one (ds_app (i := 1) rfl rfl (by first | exact Or.inl rfl | exact Or.inr (Or.inl rfl) | exact Or.inr (Or.inr rfl)) (de_tup (da_cons (de_var (i := 2) rfl (by first | exact Or.inl rfl | exact Or.inr (Or.inl rfl) | exact Or.inr (Or.inr rfl))) (da_cons (de_var (i := 3) rfl (by first | exact Or.inl rfl | exact Or.inr (Or.inl rfl) | exact Or.inr (Or.inr rfl))) da_nil)))))))))
  (dss_one (ds_ret (de_bt cb_tuple rfl rfl TT.b_tuple (by decide +kernel) (db_cons (de_brw (i := 1) rfl (by first | exact Or.inl rfl | exact Or.inr (Or.inl rfl) | exact Or.inr (Or.inr rfl))) db_nil))))))
theorem d_is_whole {P : Program} {w : World} {K : PySem.W.Frag} {mg : Str → Option Value} {base : Heap} {n : Nat} {e_BadSpans : Addr} (TT : Txt P w K mg base n e_BadSpans) (f : Addr) (cdv : Value) (A : Around) (outer : List PySem.Env) (s : Shared) (H : Hp) (E : XK) (R : Room n (A.deeper (PyProof.Rows.envOfC "is_whole" (defScope s_is_whole) s.heap.objs.size f cdv))) (Sn : Snap) :
    PSs (cxG P w K mg base n_is_whole "is_whole" (defScope s_is_whole) f cdv A outer s H E true []) (defBody s_is_whole) (semS ⟨K, run tab n, Xs e_BadSpans, none⟩ (fun c d _ H' => E c d H') Sn B_is_whole) :=
  (dss_one (ds_ret (de_and (de_isi rfl rfl TT.b_isinstance rfl TT.b_int (by decide +kernel) (de_brw (i := 0) rfl (by first | exact Or.inl rfl | exact Or.inr (Or.inl rfl) | exact Or.inr (Or.inr rfl)))) (de_and (de_not (de_isi rfl rfl TT.b_isinstance rfl TT.b_bool (by decide +kernel) (de_brw (i := 0) rfl (by first | exact Or.inl rfl | exact Or.inr (Or.inl rfl) | exact Or.inr (Or.inr rfl))))) (de_one (de_chain od_le od_le rfl (de_brw (i := 1) rfl (by first | exact Or.inl rfl | exact Or.inr (Or.inl rfl) | exact Or.inr (Or.inr rfl))) (de_brw (i := 0) rfl (by first | exact Or.inl rfl | exact Or.inr (Or.inl rfl) | exact Or.inr (Or.inr rfl))) (de_brw (i := 2) rfl (by first | exact Or.inl rfl | exact Or.inr (Or.inl rfl) | exact Or.inr (Or.inr rfl)))))))))
theorem d_law_number {P : Program} {w : World} {K : PySem.W.Frag} {mg : Str → Option Value} {base : Heap} {n : Nat} {e_BadSpans : Addr} (TT : Txt P w K mg base n e_BadSpans) (f : Addr) (cdv : Value) (A : Around) (outer : List PySem.Env) (s : Shared) (H : Hp) (E : XK) (R : Room n (A.deeper (PyProof.Rows.envOfC "_law_number" (defScope s_law_number) s.heap.objs.size f cdv))) (Sn : Snap) :
    PSs (cxG P w K mg base n_law_number "_law_number" (defScope s_law_number) f cdv A outer s H E true []) (defBody s_law_number) (semS ⟨K, run tab n, Xs e_BadSpans, none⟩ (fun c d _ H' => E c d H') Sn B_law_number) :=
  (dss_cons (ds_if (dt_cmp (od_eq (hu65 R)) rfl (de_brw (i := 0) rfl (by first | exact Or.inl rfl | exact Or.inr (Or.inl rfl) | exact Or.inr (Or.inr rfl))) (de_sub (de_frz (df_lst da_nil))) (nomark _))
  (dss_one (ds_ret (de_bt cb_int rfl rfl TT.b_int (by decide +kernel) (db_cons (de_sub (de_bin od_mod rfl (de_sub (de_bin od_addA rfl (de_sub (de_bin od_mul rfl (de_brw (i := 1) rfl (by first | exact Or.inl rfl | exact Or.inr (Or.inl rfl) | exact Or.inr (Or.inr rfl))) (de_sub de_int))) (de_sub de_int))) (de_sub de_int))) db_nil))))
  dss_nil)
  (dss_cons (ds_set (i := 2) sc_law_number.nd rfl (by first | exact Or.inl rfl | exact Or.inr rfl) (de_ix id_ix rfl (de_brw (i := 0) rfl (by first | exact Or.inl rfl | exact Or.inr (Or.inl rfl) | exact Or.inr (Or.inr rfl))) (de_sub (de_bin od_mod rfl (de_brw (i := 1) rfl (by first | exact Or.inl rfl | exact Or.inr (Or.inl rfl) | exact Or.inr (Or.inr rfl))) (de_sub (de_bb cb_len rfl rfl TT.b_len (by decide +kernel) (db_cons (de_brw (i := 0) rfl (by first | exact Or.inl rfl | exact Or.inr (Or.inl rfl) | exact Or.inr (Or.inr rfl))) db_nil))))) (fun _ _ => rfl)) (Or.inl rfl))
  (dss_cons (ds_if (dt_cmp od_ge rfl (de_sub (de_bb cb_abs rfl rfl TT.b_abs (by decide +kernel) (db_cons (de_brw (i := 2) rfl (by first | exact Or.inl rfl | exact Or.inr (Or.inl rfl) | exact Or.inr (Or.inr rfl))) db_nil))) (de_sub (de_bin od_pow rfl (de_sub de_int) (de_sub de_int))) (nomark _))
  (dss_one (ds_set (i := 2) sc_law_number.nd rfl (by first | exact Or.inl rfl | exact Or.inr rfl) (de_bin od_mod rfl (de_brw (i := 2) rfl (by first | exact Or.inl rfl | exact Or.inr (Or.inl rfl) | exact Or.inr (Or.inr rfl))) (de_sub (de_bin od_pow rfl (de_sub de_int) (de_sub de_int)))) (Or.inl rfl)))
  dss_nil)
  (dss_cons (ds_set (i := 3) sc_law_number.nd rfl (by first | exact Or.inl rfl | exact Or.inr rfl) (de_bin od_mod rfl (de_sub (de_bin od_addA rfl (de_sub (de_bin od_mul rfl (de_sub (de_bin od_addA rfl (de_brw (i := 2) rfl (by first | exact Or.inl rfl | exact Or.inr (Or.inl rfl) | exact Or.inr (Or.inr rfl))) (de_sub (de_bin od_mul rfl (de_sub de_int) (de_brw (i := 1) rfl (by first | exact Or.inl rfl | exact Or.inr (Or.inl rfl) | exact Or.inr (Or.inr rfl))))))) (de_sub de_int))) (de_sub (de_bin od_mul rfl (de_sub de_int) (de_sub (de_bb cb_len rfl rfl TT.b_len (by decide +kernel) (db_cons (de_brw (i := 0) rfl (by first | exact Or.inl rfl | exact Or.inr (Or.inl rfl) | exact Or.inr (Or.inr rfl))) db_nil))))))) (de_sub de_int)) (Or.inl rfl))
  (dss_one (ds_ret (de_bt cb_int rfl rfl TT.b_int (by decide +kernel) (db_cons (de_sub (de_bin od_mod rfl (de_sub (de_bin od_addA rfl (de_sub (de_bin od_mul rfl (de_sub (de_bin od_mod rfl (de_sub (de_bin od_mul rfl (de_brw (i := 3) rfl (by first | exact Or.inl rfl | exact Or.inr (Or.inl rfl) | exact Or.inr (Or.inr rfl))) (de_sub de_int))) (de_sub de_int))) (de_sub de_int))) (de_brw (i := 1) rfl (by first | exact Or.inl rfl | exact Or.inr (Or.inl rfl) | exact Or.inr (Or.inr rfl))))) (de_sub de_int))) db_nil))))))))
theorem dh_is_span {P : Program} {w : World} {K : PySem.W.Frag} {mg : Str → Option Value} {base : Heap} {n : Nat} {e_BadSpans : Addr} (TT : Txt P w K mg base n e_BadSpans) (f : Addr) (cdv : Value) (A : Around) (outer : List PySem.Env) (s : Shared) (H : Hp) (E : XK) (q : Addr × Obj) (HC0 : L2H.Hot1 A q) (R : L2H.RoomH n (A.deeper (PyProof.Rows.envOfC "is_span" (defScope s_is_span) s.heap.objs.size f cdv))) (Sn : Snap) :
    PSs (cxG P w K mg base n_is_span "is_span" (defScope s_is_span) f cdv A outer s H E false [q]) (defBody s_is_span) (semS ⟨K, run tab n, Xs e_BadSpans, none⟩ (fun c d _ H' => E c d H') Sn B_is_span) :=
  have HC : L2H.HotC (cxG P w K mg base n_is_span "is_span" (defScope s_is_span) f cdv A outer s H E false [q]) := ⟨q, HC0, List.mem_singleton.mpr rfl⟩
  (dss_cons (ds_if (PW.pt (dw_or (dt_not (dt_val (de_isi rfl rfl TT.b_isinstance rfl TT.b_tuple (by decide +kernel) (de_brw (i := 0) rfl (by first | exact Or.inl rfl | exact Or.inr (Or.inl rfl) | exact Or.inr (Or.inr rfl)))))) (dt_or1 (dt_cmp (od_ne (hu65H R)) rfl (de_sub (de_bb cb_len rfl rfl TT.b_len (by decide +kernel) (db_cons (de_brw (i := 0) rfl (by first | exact Or.inl rfl | exact Or.inr (Or.inl rfl) | exact Or.inr (Or.inr rfl))) db_nil))) (de_sub de_int) (nomark _)))))
  (dss_one (ds_ret de_bl))
  dss_nil)
  (dss_one (ds_ret (de_and (de_fnH TT.h_is_day R HC takesG rfl (da_cons (de_ix id_ix rfl (de_brw (i := 0) rfl (by first | exact Or.inl rfl | exact Or.inr (Or.inl rfl) | exact Or.inr (Or.inr rfl))) (de_sub de_int) (fun _ _ => rfl)) da_nil) (lenA_cons lenA_nil)) (de_and (de_fnH TT.h_is_day R HC takesG rfl (da_cons (de_ix id_ix rfl (de_brw (i := 0) rfl (by first | exact Or.inl rfl | exact Or.inr (Or.inl rfl) | exact Or.inr (Or.inr rfl))) (de_sub de_int) (fun _ _ => rfl)) da_nil) (lenA_cons lenA_nil)) (de_one (de_cmp od_le rfl (de_sub (de_ix id_ix rfl (de_brw (i := 0) rfl (by first | exact Or.inl rfl | exact Or.inr (Or.inl rfl) | exact Or.inr (Or.inr rfl))) (de_sub de_int) (fun _ _ => rfl))) (de_sub (de_ix id_ix rfl (de_brw (i := 0) rfl (by first | exact Or.inl rfl | exact Or.inr (Or.inl rfl) | exact Or.inr (Or.inr rfl))) (de_sub de_int) (fun _ _ => rfl))) (nomark _))))))))
theorem dh_is_day {P : Program} {w : World} {K : PySem.W.Frag} {mg : Str → Option Value} {base : Heap} {n : Nat} {e_BadSpans : Addr} (TT : Txt P w K mg base n e_BadSpans) (f : Addr) (cdv : Value) (A : Around) (outer : List PySem.Env) (s : Shared) (H : Hp) (E : XK) (q : Addr × Obj) (HC0 : L2H.Hot1 A q) (R : L2H.RoomH n (A.deeper (PyProof.Rows.envOfC "is_day" (defScope s_is_day) s.heap.objs.size f cdv))) (Sn : Snap) :
    PSs (cxG P w K mg base n_is_day "is_day" (defScope s_is_day) f cdv A outer s H E false [q]) (defBody s_is_day) (semS ⟨K, run tab n, Xs e_BadSpans, none⟩ (fun c d _ H' => E c d H') Sn B_is_day) :=
  have HC : L2H.HotC (cxG P w K mg base n_is_day "is_day" (defScope s_is_day) f cdv A outer s H E false [q]) := ⟨q, HC0, List.mem_singleton.mpr rfl⟩
  (dss_one (ds_ret (de_fnH TT.h_is_whole R HC takesG rfl (da_cons (de_var (i := 0) rfl (by first | exact Or.inl rfl | exact Or.inr (Or.inl rfl) | exact Or.inr (Or.inr rfl))) (da_cons de_int (da_cons (de_globX rfl TT.g_MOST_DAY (fun _ _ => .int _)) da_nil))) (lenA_cons (lenA_cons (lenA_cons lenA_nil))))))
theorem dh_is_whole {P : Program} {w : World} {K : PySem.W.Frag} {mg : Str → Option Value} {base : Heap} {n : Nat} {e_BadSpans : Addr} (TT : Txt P w K mg base n e_BadSpans) (f : Addr) (cdv : Value) (A : Around) (outer : List PySem.Env) (s : Shared) (H : Hp) (E : XK) (q : Addr × Obj) (HC0 : L2H.Hot1 A q) (R : L2H.RoomH n (A.deeper (PyProof.Rows.envOfC "is_whole" (defScope s_is_whole) s.heap.objs.size f cdv))) (Sn : Snap) :
    PSs (cxG P w K mg base n_is_whole "is_whole" (defScope s_is_whole) f cdv A outer s H E false [q]) (defBody s_is_whole) (semS ⟨K, run tab n, Xs e_BadSpans, none⟩ (fun c d _ H' => E c d H') Sn B_is_whole) :=
  have HC : L2H.HotC (cxG P w K mg base n_is_whole "is_whole" (defScope s_is_whole) f cdv A outer s H E false [q]) := ⟨q, HC0, List.mem_singleton.mpr rfl⟩
  (dss_one (ds_ret (de_and (de_isi rfl rfl TT.b_isinstance rfl TT.b_int (by decide +kernel) (de_brw (i := 0) rfl (by first | exact Or.inl rfl | exact Or.inr (Or.inl rfl) | exact Or.inr (Or.inr rfl)))) (de_and (de_not (de_isi rfl rfl TT.b_isinstance rfl TT.b_bool (by decide +kernel) (de_brw (i := 0) rfl (by first | exact Or.inl rfl | exact Or.inr (Or.inl rfl) | exact Or.inr (Or.inr rfl))))) (de_one (de_chain od_le od_le rfl (de_brw (i := 1) rfl (by first | exact Or.inl rfl | exact Or.inr (Or.inl rfl) | exact Or.inr (Or.inr rfl))) (de_brw (i := 0) rfl (by first | exact Or.inl rfl | exact Or.inr (Or.inl rfl) | exact Or.inr (Or.inr rfl))) (de_brw (i := 2) rfl (by first | exact Or.inl rfl | exact Or.inr (Or.inl rfl) | exact Or.inr (Or.inr rfl)))))))))
end Dn.K50
namespace Dn.K50
open PySem L2
/-! From what the top has written to the law (printed by pr.py). -/
structure Sta (P : Program) (K : PySem.W.Frag) (mg : Str → Option Value) (e_BadSpans : Addr) : Prop extends Nms K mg where
  F_law : ∃ a fd, Fun K "law" "law" s_law a fd ∧ mg "law" = some (.ref a) ∧ PySem.W.keepIn K (.ref a) = true ∧ Binds K fd p_law []
  F_law_rows : ∃ a fd, Fun K "_law_rows" "_law_rows" s_law_rows a fd ∧ mg "_law_rows" = some (.ref a) ∧ PySem.W.keepIn K (.ref a) = true ∧ Binds K fd p_law_rows []
  F_normal : ∃ a fd, Fun K "normal" "normal" s_normal a fd ∧ mg "normal" = some (.ref a) ∧ PySem.W.keepIn K (.ref a) = true ∧ Binds K fd p_normal []
  F_law_is_form : ∃ a fd, Fun K "_law_is_form" "_law_is_form" s_law_is_form a fd ∧ mg "_law_is_form" = some (.ref a) ∧ PySem.W.keepIn K (.ref a) = true ∧ Binds K fd p_law_is_form []
  F_is_span : ∃ a fd, Fun K "is_span" "is_span" s_is_span a fd ∧ mg "is_span" = some (.ref a) ∧ PySem.W.keepIn K (.ref a) = true ∧ Binds K fd p_is_span []
  F_union : ∃ a fd, Fun K "union" "union" s_union a fd ∧ mg "union" = some (.ref a) ∧ PySem.W.keepIn K (.ref a) = true ∧ Binds K fd p_union []
  F_meet : ∃ a fd, Fun K "meet" "meet" s_meet a fd ∧ mg "meet" = some (.ref a) ∧ PySem.W.keepIn K (.ref a) = true ∧ Binds K fd p_meet []
  F_less : ∃ a fd, Fun K "less" "less" s_less a fd ∧ mg "less" = some (.ref a) ∧ PySem.W.keepIn K (.ref a) = true ∧ Binds K fd p_less []
  F_others : ∃ a fd, Fun K "others" "others" s_others a fd ∧ mg "others" = some (.ref a) ∧ PySem.W.keepIn K (.ref a) = true ∧ Binds K fd p_others []
  F_unlike : ∃ a fd, Fun K "unlike" "unlike" s_unlike a fd ∧ mg "unlike" = some (.ref a) ∧ PySem.W.keepIn K (.ref a) = true ∧ Binds K fd p_unlike []
  F_law_days : ∃ a fd, Fun K "_law_days" "_law_days" s_law_days a fd ∧ mg "_law_days" = some (.ref a) ∧ PySem.W.keepIn K (.ref a) = true ∧ Binds K fd p_law_days []
  F_has : ∃ a fd, Fun K "has" "has" s_has a fd ∧ mg "has" = some (.ref a) ∧ PySem.W.keepIn K (.ref a) = true ∧ Binds K fd p_has []
  F_how_many : ∃ a fd, Fun K "how_many" "how_many" s_how_many a fd ∧ mg "how_many" = some (.ref a) ∧ PySem.W.keepIn K (.ref a) = true ∧ Binds K fd p_how_many []
  F_is_part : ∃ a fd, Fun K "is_part" "is_part" s_is_part a fd ∧ mg "is_part" = some (.ref a) ∧ PySem.W.keepIn K (.ref a) = true ∧ Binds K fd p_is_part []
  F_breaks : ∃ a fd, Fun K "breaks" "breaks" s_breaks a fd ∧ mg "breaks" = some (.ref a) ∧ PySem.W.keepIn K (.ref a) = true ∧ Binds K fd p_breaks []
  F_law_pick : ∃ a fd, Fun K "_law_pick" "_law_pick" s_law_pick a fd ∧ mg "_law_pick" = some (.ref a) ∧ PySem.W.keepIn K (.ref a) = true ∧ Binds K fd p_law_pick []
  F_is_name : ∃ a fd, Fun K "is_name" "is_name" s_is_name a fd ∧ mg "is_name" = some (.ref a) ∧ PySem.W.keepIn K (.ref a) = true ∧ Binds K fd p_is_name []
  F_is_day : ∃ a fd, Fun K "is_day" "is_day" s_is_day a fd ∧ mg "is_day" = some (.ref a) ∧ PySem.W.keepIn K (.ref a) = true ∧ Binds K fd p_is_day []
  F_law_take : ∃ a fd, Fun K "_law_take" "_law_take" s_law_take a fd ∧ mg "_law_take" = some (.ref a) ∧ PySem.W.keepIn K (.ref a) = true ∧ Binds K fd p_law_take []
  F_law_day : ∃ a fd, Fun K "_law_day" "_law_day" s_law_day a fd ∧ mg "_law_day" = some (.ref a) ∧ PySem.W.keepIn K (.ref a) = true ∧ Binds K fd p_law_day []
  F_check_spans : ∃ a fd, Fun K "check_spans" "check_spans" s_check_spans a fd ∧ mg "check_spans" = some (.ref a) ∧ PySem.W.keepIn K (.ref a) = true ∧ Binds K fd p_check_spans []
  F_joined : ∃ a fd, Fun K "joined" "joined" s_joined a fd ∧ mg "joined" = some (.ref a) ∧ PySem.W.keepIn K (.ref a) = true ∧ Binds K fd p_joined []
  F_is_whole : ∃ a fd, Fun K "is_whole" "is_whole" s_is_whole a fd ∧ mg "is_whole" = some (.ref a) ∧ PySem.W.keepIn K (.ref a) = true ∧ Binds K fd p_is_whole []
  F_law_number : ∃ a fd, Fun K "_law_number" "_law_number" s_law_number a fd ∧ mg "_law_number" = some (.ref a) ∧ PySem.W.keepIn K (.ref a) = true ∧ Binds K fd p_law_number []
  m_BadSpans : mg "BadSpans" = some (.ref e_BadSpans)
  exm_BadSpans : ∀ c C ns, Xs e_BadSpans c = some (C, ns) → PySem.W.exmOne K (.ref C) (.ref e_BadSpans) = some (decide (c = 0))
  T_BadSpans : XfC K e_BadSpans
  no_BadSpans_0 : PySem.W.findIn K (.ref e_BadSpans) "number" = some none
  t_BadSpans : PySem.DnX.ErrTxt P K mg "BadSpans" "number" e_BadSpans
theorem txt {P : Program} {w : World} {K : PySem.W.Frag} {mg : Str → Option Value} {base : Heap} {e_BadSpans : Addr} (S : Sta P K mg e_BadSpans) : ∀ n, Txt P w K mg base n e_BadSpans
  | 0 => { S.toNms with
    f_law := ⟨by obtain ⟨a, fd, F, hm, hk, hb⟩ := S.F_law; exact ⟨a, fd, p_law, fn_zero rfl, hm, hk, hb⟩⟩
    f_law_rows := ⟨by obtain ⟨a, fd, F, hm, hk, hb⟩ := S.F_law_rows; exact ⟨a, fd, p_law_rows, fn_zero rfl, hm, hk, hb⟩⟩
    f_normal := ⟨by obtain ⟨a, fd, F, hm, hk, hb⟩ := S.F_normal; exact ⟨a, fd, p_normal, fn_zero rfl, hm, hk, hb⟩⟩
    f_law_is_form := ⟨by obtain ⟨a, fd, F, hm, hk, hb⟩ := S.F_law_is_form; exact ⟨a, fd, p_law_is_form, fn_zero rfl, hm, hk, hb⟩⟩
    f_is_span := ⟨by obtain ⟨a, fd, F, hm, hk, hb⟩ := S.F_is_span; exact ⟨a, fd, p_is_span, fn_zero rfl, hm, hk, hb⟩⟩
    f_union := ⟨by obtain ⟨a, fd, F, hm, hk, hb⟩ := S.F_union; exact ⟨a, fd, p_union, fn_zero rfl, hm, hk, hb⟩⟩
    f_meet := ⟨by obtain ⟨a, fd, F, hm, hk, hb⟩ := S.F_meet; exact ⟨a, fd, p_meet, fn_zero rfl, hm, hk, hb⟩⟩
    f_less := ⟨by obtain ⟨a, fd, F, hm, hk, hb⟩ := S.F_less; exact ⟨a, fd, p_less, fn_zero rfl, hm, hk, hb⟩⟩
    f_others := ⟨by obtain ⟨a, fd, F, hm, hk, hb⟩ := S.F_others; exact ⟨a, fd, p_others, fn_zero rfl, hm, hk, hb⟩⟩
    f_unlike := ⟨by obtain ⟨a, fd, F, hm, hk, hb⟩ := S.F_unlike; exact ⟨a, fd, p_unlike, fn_zero rfl, hm, hk, hb⟩⟩
    f_law_days := ⟨by obtain ⟨a, fd, F, hm, hk, hb⟩ := S.F_law_days; exact ⟨a, fd, p_law_days, fn_zero rfl, hm, hk, hb⟩⟩
    f_has := ⟨by obtain ⟨a, fd, F, hm, hk, hb⟩ := S.F_has; exact ⟨a, fd, p_has, fn_zero rfl, hm, hk, hb⟩⟩
    f_how_many := ⟨by obtain ⟨a, fd, F, hm, hk, hb⟩ := S.F_how_many; exact ⟨a, fd, p_how_many, fn_zero rfl, hm, hk, hb⟩⟩
    f_is_part := ⟨by obtain ⟨a, fd, F, hm, hk, hb⟩ := S.F_is_part; exact ⟨a, fd, p_is_part, fn_zero rfl, hm, hk, hb⟩⟩
    f_breaks := ⟨by obtain ⟨a, fd, F, hm, hk, hb⟩ := S.F_breaks; exact ⟨a, fd, p_breaks, fn_zero rfl, hm, hk, hb⟩⟩
    f_law_pick := ⟨by obtain ⟨a, fd, F, hm, hk, hb⟩ := S.F_law_pick; exact ⟨a, fd, p_law_pick, fn_zero rfl, hm, hk, hb⟩⟩
    f_is_name := ⟨by obtain ⟨a, fd, F, hm, hk, hb⟩ := S.F_is_name; exact ⟨a, fd, p_is_name, fn_zero rfl, hm, hk, hb⟩⟩
    f_is_day := ⟨by obtain ⟨a, fd, F, hm, hk, hb⟩ := S.F_is_day; exact ⟨a, fd, p_is_day, fn_zero rfl, hm, hk, hb⟩⟩
    f_law_take := ⟨by obtain ⟨a, fd, F, hm, hk, hb⟩ := S.F_law_take; exact ⟨a, fd, p_law_take, fn_zero rfl, hm, hk, hb⟩⟩
    f_law_day := ⟨by obtain ⟨a, fd, F, hm, hk, hb⟩ := S.F_law_day; exact ⟨a, fd, p_law_day, fn_zero rfl, hm, hk, hb⟩⟩
    f_check_spans := ⟨by obtain ⟨a, fd, F, hm, hk, hb⟩ := S.F_check_spans; exact ⟨a, fd, p_check_spans, fn_zero rfl, hm, hk, hb⟩⟩
    f_joined := ⟨by obtain ⟨a, fd, F, hm, hk, hb⟩ := S.F_joined; exact ⟨a, fd, p_joined, fn_zero rfl, hm, hk, hb⟩⟩
    f_is_whole := ⟨by obtain ⟨a, fd, F, hm, hk, hb⟩ := S.F_is_whole; exact ⟨a, fd, p_is_whole, fn_zero rfl, hm, hk, hb⟩⟩
    f_law_number := ⟨by obtain ⟨a, fd, F, hm, hk, hb⟩ := S.F_law_number; exact ⟨a, fd, p_law_number, fn_zero rfl, hm, hk, hb⟩⟩
    h_is_span := ⟨by obtain ⟨a, fd, F, hm, hk, hb⟩ := S.F_is_span; exact ⟨a, fd, p_is_span, fn_zeroH rfl, hm, hk, hb⟩⟩
    h_is_day := ⟨by obtain ⟨a, fd, F, hm, hk, hb⟩ := S.F_is_day; exact ⟨a, fd, p_is_day, fn_zeroH rfl, hm, hk, hb⟩⟩
    h_is_whole := ⟨by obtain ⟨a, fd, F, hm, hk, hb⟩ := S.F_is_whole; exact ⟨a, fd, p_is_whole, fn_zeroH rfl, hm, hk, hb⟩⟩
    m_BadSpans := S.m_BadSpans
    X_BadSpans := rfl
    exm_BadSpans := S.exm_BadSpans
    T_BadSpans := S.T_BadSpans
    no_BadSpans_0 := S.no_BadSpans_0
    mk_BadSpans := fun e1 e2 e3 hr ha hn hg he hp => by subst e1 e2 e3; exact de_mk S.t_BadSpans rfl rfl hr ha (fun e m => hn _ e m) hg he hp }
  | n + 1 => let TT : Txt P w K mg base n e_BadSpans := txt S n
    { S.toNms with
    f_law := ⟨by obtain ⟨a, fd, F, hm, hk, hb⟩ := S.F_law; exact ⟨a, fd, p_law, fn_step (T := tab) (f := 0) (d := ⟨1, 20, B_law⟩) F sc_law rfl rfl rfl (fun cdv A outer s H E R Sn => d_law TT a cdv A outer s H E R Sn), hm, hk, hb⟩⟩
    f_law_rows := ⟨by obtain ⟨a, fd, F, hm, hk, hb⟩ := S.F_law_rows; exact ⟨a, fd, p_law_rows, fn_step (T := tab) (f := 1) (d := ⟨1, 5, B_law_rows⟩) F sc_law_rows rfl rfl rfl (fun cdv A outer s H E R Sn => d_law_rows TT a cdv A outer s H E R Sn), hm, hk, hb⟩⟩
    f_normal := ⟨by obtain ⟨a, fd, F, hm, hk, hb⟩ := S.F_normal; exact ⟨a, fd, p_normal, fn_step (T := tab) (f := 2) (d := ⟨1, 1, B_normal⟩) F sc_normal rfl rfl rfl (fun cdv A outer s H E R Sn => d_normal TT a cdv A outer s H E R Sn), hm, hk, hb⟩⟩
    f_law_is_form := ⟨by obtain ⟨a, fd, F, hm, hk, hb⟩ := S.F_law_is_form; exact ⟨a, fd, p_law_is_form, fn_step (T := tab) (f := 3) (d := ⟨1, 3, B_law_is_form⟩) F sc_law_is_form rfl rfl rfl (fun cdv A outer s H E R Sn => d_law_is_form TT a cdv A outer s H E R Sn), hm, hk, hb⟩⟩
    f_is_span := ⟨by obtain ⟨a, fd, F, hm, hk, hb⟩ := S.F_is_span; exact ⟨a, fd, p_is_span, fn_step (T := tab) (f := 4) (d := ⟨1, 1, B_is_span⟩) F sc_is_span rfl rfl rfl (fun cdv A outer s H E R Sn => d_is_span TT a cdv A outer s H E R Sn), hm, hk, hb⟩⟩
    f_union := ⟨by obtain ⟨a, fd, F, hm, hk, hb⟩ := S.F_union; exact ⟨a, fd, p_union, fn_step (T := tab) (f := 5) (d := ⟨2, 2, B_union⟩) F sc_union rfl rfl rfl (fun cdv A outer s H E R Sn => d_union TT a cdv A outer s H E R Sn), hm, hk, hb⟩⟩
    f_meet := ⟨by obtain ⟨a, fd, F, hm, hk, hb⟩ := S.F_meet; exact ⟨a, fd, p_meet, fn_step (T := tab) (f := 6) (d := ⟨2, 7, B_meet⟩) F sc_meet rfl rfl rfl (fun cdv A outer s H E R Sn => d_meet TT a cdv A outer s H E R Sn), hm, hk, hb⟩⟩
    f_less := ⟨by obtain ⟨a, fd, F, hm, hk, hb⟩ := S.F_less; exact ⟨a, fd, p_less, fn_step (T := tab) (f := 7) (d := ⟨2, 2, B_less⟩) F sc_less rfl rfl rfl (fun cdv A outer s H E R Sn => d_less TT a cdv A outer s H E R Sn), hm, hk, hb⟩⟩
    f_others := ⟨by obtain ⟨a, fd, F, hm, hk, hb⟩ := S.F_others; exact ⟨a, fd, p_others, fn_step (T := tab) (f := 8) (d := ⟨1, 5, B_others⟩) F sc_others rfl rfl rfl (fun cdv A outer s H E R Sn => d_others TT a cdv A outer s H E R Sn), hm, hk, hb⟩⟩
    f_unlike := ⟨by obtain ⟨a, fd, F, hm, hk, hb⟩ := S.F_unlike; exact ⟨a, fd, p_unlike, fn_step (T := tab) (f := 9) (d := ⟨2, 2, B_unlike⟩) F sc_unlike rfl rfl rfl (fun cdv A outer s H E R Sn => d_unlike TT a cdv A outer s H E R Sn), hm, hk, hb⟩⟩
    f_law_days := ⟨by obtain ⟨a, fd, F, hm, hk, hb⟩ := S.F_law_days; exact ⟨a, fd, p_law_days, fn_step (T := tab) (f := 10) (d := ⟨0, 0, B_law_days⟩) F sc_law_days rfl rfl rfl (fun cdv A outer s H E R Sn => d_law_days TT a cdv A outer s H E R Sn), hm, hk, hb⟩⟩
    f_has := ⟨by obtain ⟨a, fd, F, hm, hk, hb⟩ := S.F_has; exact ⟨a, fd, p_has, fn_step (T := tab) (f := 11) (d := ⟨2, 5, B_has⟩) F sc_has rfl rfl rfl (fun cdv A outer s H E R Sn => d_has TT a cdv A outer s H E R Sn), hm, hk, hb⟩⟩
    f_how_many := ⟨by obtain ⟨a, fd, F, hm, hk, hb⟩ := S.F_how_many; exact ⟨a, fd, p_how_many, fn_step (T := tab) (f := 12) (d := ⟨1, 3, B_how_many⟩) F sc_how_many rfl rfl rfl (fun cdv A outer s H E R Sn => d_how_many TT a cdv A outer s H E R Sn), hm, hk, hb⟩⟩
    f_is_part := ⟨by obtain ⟨a, fd, F, hm, hk, hb⟩ := S.F_is_part; exact ⟨a, fd, p_is_part, fn_step (T := tab) (f := 13) (d := ⟨2, 2, B_is_part⟩) F sc_is_part rfl rfl rfl (fun cdv A outer s H E R Sn => d_is_part TT a cdv A outer s H E R Sn), hm, hk, hb⟩⟩
    f_breaks := ⟨by obtain ⟨a, fd, F, hm, hk, hb⟩ := S.F_breaks; exact ⟨a, fd, p_breaks, fn_step (T := tab) (f := 14) (d := ⟨1, 4, B_breaks⟩) F sc_breaks rfl rfl rfl (fun cdv A outer s H E R Sn => d_breaks TT a cdv A outer s H E R Sn), hm, hk, hb⟩⟩
    f_law_pick := ⟨by obtain ⟨a, fd, F, hm, hk, hb⟩ := S.F_law_pick; exact ⟨a, fd, p_law_pick, fn_step (T := tab) (f := 15) (d := ⟨2, 2, B_law_pick⟩) F sc_law_pick rfl rfl rfl (fun cdv A outer s H E R Sn => d_law_pick TT a cdv A outer s H E R Sn), hm, hk, hb⟩⟩
    f_is_name := ⟨by obtain ⟨a, fd, F, hm, hk, hb⟩ := S.F_is_name; exact ⟨a, fd, p_is_name, fn_step (T := tab) (f := 16) (d := ⟨1, 2, B_is_name⟩) F sc_is_name rfl rfl rfl (fun cdv A outer s H E R Sn => d_is_name TT a cdv A outer s H E R Sn), hm, hk, hb⟩⟩
    f_is_day := ⟨by obtain ⟨a, fd, F, hm, hk, hb⟩ := S.F_is_day; exact ⟨a, fd, p_is_day, fn_step (T := tab) (f := 17) (d := ⟨1, 1, B_is_day⟩) F sc_is_day rfl rfl rfl (fun cdv A outer s H E R Sn => d_is_day TT a cdv A outer s H E R Sn), hm, hk, hb⟩⟩
    f_law_take := ⟨by obtain ⟨a, fd, F, hm, hk, hb⟩ := S.F_law_take; exact ⟨a, fd, p_law_take, fn_step (T := tab) (f := 18) (d := ⟨2, 2, B_law_take⟩) F sc_law_take rfl rfl rfl (fun cdv A outer s H E R Sn => d_law_take TT a cdv A outer s H E R Sn), hm, hk, hb⟩⟩
    f_law_day := ⟨by obtain ⟨a, fd, F, hm, hk, hb⟩ := S.F_law_day; exact ⟨a, fd, p_law_day, fn_step (T := tab) (f := 19) (d := ⟨1, 1, B_law_day⟩) F sc_law_day rfl rfl rfl (fun cdv A outer s H E R Sn => d_law_day TT a cdv A outer s H E R Sn), hm, hk, hb⟩⟩
    f_check_spans := ⟨by obtain ⟨a, fd, F, hm, hk, hb⟩ := S.F_check_spans; exact ⟨a, fd, p_check_spans, fn_step (T := tab) (f := 20) (d := ⟨1, 3, B_check_spans⟩) F sc_check_spans rfl rfl rfl (fun cdv A outer s H E R Sn => d_check_spans TT a cdv A outer s H E R Sn), hm, hk, hb⟩⟩
    f_joined := ⟨by obtain ⟨a, fd, F, hm, hk, hb⟩ := S.F_joined; exact ⟨a, fd, p_joined, fn_step (T := tab) (f := 21) (d := ⟨1, 4, B_joined⟩) F sc_joined rfl rfl rfl (fun cdv A outer s H E R Sn => d_joined TT a cdv A outer s H E R Sn), hm, hk, hb⟩⟩
    f_is_whole := ⟨by obtain ⟨a, fd, F, hm, hk, hb⟩ := S.F_is_whole; exact ⟨a, fd, p_is_whole, fn_step (T := tab) (f := 22) (d := ⟨3, 3, B_is_whole⟩) F sc_is_whole rfl rfl rfl (fun cdv A outer s H E R Sn => d_is_whole TT a cdv A outer s H E R Sn), hm, hk, hb⟩⟩
    f_law_number := ⟨by obtain ⟨a, fd, F, hm, hk, hb⟩ := S.F_law_number; exact ⟨a, fd, p_law_number, fn_step (T := tab) (f := 23) (d := ⟨2, 4, B_law_number⟩) F sc_law_number rfl rfl rfl (fun cdv A outer s H E R Sn => d_law_number TT a cdv A outer s H E R Sn), hm, hk, hb⟩⟩
    h_is_span := ⟨by obtain ⟨a, fd, F, hm, hk, hb⟩ := S.F_is_span; exact ⟨a, fd, p_is_span, fn_stepH (T := tab) (f := 4) (d := ⟨1, 1, B_is_span⟩) F sc_is_span rfl rfl rfl (fun cdv A outer s H E q hot R Sn => dh_is_span TT a cdv A outer s H E q hot R Sn), hm, hk, hb⟩⟩
    h_is_day := ⟨by obtain ⟨a, fd, F, hm, hk, hb⟩ := S.F_is_day; exact ⟨a, fd, p_is_day, fn_stepH (T := tab) (f := 17) (d := ⟨1, 1, B_is_day⟩) F sc_is_day rfl rfl rfl (fun cdv A outer s H E q hot R Sn => dh_is_day TT a cdv A outer s H E q hot R Sn), hm, hk, hb⟩⟩
    h_is_whole := ⟨by obtain ⟨a, fd, F, hm, hk, hb⟩ := S.F_is_whole; exact ⟨a, fd, p_is_whole, fn_stepH (T := tab) (f := 22) (d := ⟨3, 3, B_is_whole⟩) F sc_is_whole rfl rfl rfl (fun cdv A outer s H E q hot R Sn => dh_is_whole TT a cdv A outer s H E q hot R Sn), hm, hk, hb⟩⟩
    m_BadSpans := S.m_BadSpans
    X_BadSpans := rfl
    exm_BadSpans := S.exm_BadSpans
    T_BadSpans := S.T_BadSpans
    no_BadSpans_0 := S.no_BadSpans_0
    mk_BadSpans := fun e1 e2 e3 hr ha hn hg he hp => by subst e1 e2 e3; exact de_mk S.t_BadSpans rfl rfl hr ha (fun e m => hn _ e m) hg he hp }
set_option maxHeartbeats 0 in
theorem all_mk {w : World} {K : PySem.W.Frag} {h : Heap} {mg : Str → Option Value} {fa : Addr} (X : K.In h) (G : h.Ns mainGlobals mg) (hfa : mg "law" = some (.ref fa))
    {zt_FIGURES : Tok}
    {zt_LETTERS : Tok}
    {zt_MOST_DAY : Tok}
    {fa_law : Addr} {od_law an_law : Option Addr} {sl_law : Array (Option Value)} {oc_law kV_law dc_law pm_law cd_law ct_law : Value}
    {fa_law_rows : Addr} {od_law_rows an_law_rows : Option Addr} {sl_law_rows : Array (Option Value)} {oc_law_rows kV_law_rows dc_law_rows pm_law_rows cd_law_rows ct_law_rows : Value}
    {fa_normal : Addr} {od_normal an_normal : Option Addr} {sl_normal : Array (Option Value)} {oc_normal kV_normal dc_normal pm_normal cd_normal ct_normal : Value}
    {fa_law_is_form : Addr} {od_law_is_form an_law_is_form : Option Addr} {sl_law_is_form : Array (Option Value)} {oc_law_is_form kV_law_is_form dc_law_is_form pm_law_is_form cd_law_is_form ct_law_is_form : Value}
    {fa_is_span : Addr} {od_is_span an_is_span : Option Addr} {sl_is_span : Array (Option Value)} {oc_is_span kV_is_span dc_is_span pm_is_span cd_is_span ct_is_span : Value}
    {fa_union : Addr} {od_union an_union : Option Addr} {sl_union : Array (Option Value)} {oc_union kV_union dc_union pm_union cd_union ct_union : Value}
    {fa_meet : Addr} {od_meet an_meet : Option Addr} {sl_meet : Array (Option Value)} {oc_meet kV_meet dc_meet pm_meet cd_meet ct_meet : Value}
    {fa_less : Addr} {od_less an_less : Option Addr} {sl_less : Array (Option Value)} {oc_less kV_less dc_less pm_less cd_less ct_less : Value}
    {fa_others : Addr} {od_others an_others : Option Addr} {sl_others : Array (Option Value)} {oc_others kV_others dc_others pm_others cd_others ct_others : Value}
    {fa_unlike : Addr} {od_unlike an_unlike : Option Addr} {sl_unlike : Array (Option Value)} {oc_unlike kV_unlike dc_unlike pm_unlike cd_unlike ct_unlike : Value}
    {fa_law_days : Addr} {od_law_days an_law_days : Option Addr} {sl_law_days : Array (Option Value)} {oc_law_days kV_law_days dc_law_days pm_law_days cd_law_days ct_law_days : Value}
    {fa_has : Addr} {od_has an_has : Option Addr} {sl_has : Array (Option Value)} {oc_has kV_has dc_has pm_has cd_has ct_has : Value}
    {fa_how_many : Addr} {od_how_many an_how_many : Option Addr} {sl_how_many : Array (Option Value)} {oc_how_many kV_how_many dc_how_many pm_how_many cd_how_many ct_how_many : Value}
    {fa_is_part : Addr} {od_is_part an_is_part : Option Addr} {sl_is_part : Array (Option Value)} {oc_is_part kV_is_part dc_is_part pm_is_part cd_is_part ct_is_part : Value}
    {fa_breaks : Addr} {od_breaks an_breaks : Option Addr} {sl_breaks : Array (Option Value)} {oc_breaks kV_breaks dc_breaks pm_breaks cd_breaks ct_breaks : Value}
    {fa_law_pick : Addr} {od_law_pick an_law_pick : Option Addr} {sl_law_pick : Array (Option Value)} {oc_law_pick kV_law_pick dc_law_pick pm_law_pick cd_law_pick ct_law_pick : Value}
    {fa_is_name : Addr} {od_is_name an_is_name : Option Addr} {sl_is_name : Array (Option Value)} {oc_is_name kV_is_name dc_is_name pm_is_name cd_is_name ct_is_name : Value}
    {fa_is_day : Addr} {od_is_day an_is_day : Option Addr} {sl_is_day : Array (Option Value)} {oc_is_day kV_is_day dc_is_day pm_is_day cd_is_day ct_is_day : Value}
    {fa_law_take : Addr} {od_law_take an_law_take : Option Addr} {sl_law_take : Array (Option Value)} {oc_law_take kV_law_take dc_law_take pm_law_take cd_law_take ct_law_take : Value}
    {fa_law_day : Addr} {od_law_day an_law_day : Option Addr} {sl_law_day : Array (Option Value)} {oc_law_day kV_law_day dc_law_day pm_law_day cd_law_day ct_law_day : Value}
    {fa_check_spans : Addr} {od_check_spans an_check_spans : Option Addr} {sl_check_spans : Array (Option Value)} {oc_check_spans kV_check_spans dc_check_spans pm_check_spans cd_check_spans ct_check_spans : Value}
    {fa_joined : Addr} {od_joined an_joined : Option Addr} {sl_joined : Array (Option Value)} {oc_joined kV_joined dc_joined pm_joined cd_joined ct_joined : Value}
    {fa_is_whole : Addr} {od_is_whole an_is_whole : Option Addr} {sl_is_whole : Array (Option Value)} {oc_is_whole kV_is_whole dc_is_whole pm_is_whole cd_is_whole ct_is_whole : Value}
    {fa_law_number : Addr} {od_law_number an_law_number : Option Addr} {sl_law_number : Array (Option Value)} {oc_law_number kV_law_number dc_law_number pm_law_number cd_law_number ct_law_number : Value}
    {e_BadSpans O_BadSpans xf_BadSpans xc_BadSpans xd_BadSpans : Addr} {xnm_BadSpans xq_BadSpans : Str} {xN_BadSpans : Addr} {xbs_BadSpans : List Value} {xsn_BadSpans : List Str} {xsub_BadSpans : List Value} {xab_BadSpans : Bool} {xcol_BadSpans : Option Bool} {xdd_BadSpans : Option Addr} {xm0_BadSpans xm1_BadSpans xm2_BadSpans xm3_BadSpans xm5_BadSpans : Option Value} {xoc_BadSpans xdc_BadSpans xpm_BadSpans xct_BadSpans xcl_BadSpans xccl_BadSpans : Value} {xod_BadSpans xan_BadSpans xcld_BadSpans xcdd_BadSpans : Option Addr} {xosl_BadSpans xcsl_BadSpans xccs_BadSpans : Array (Option Value)} {xvs_BadSpans : Array Value} {xfile_BadSpans : Str} {xtf_BadSpans : Tok} {ynm_BadSpans yq_BadSpans : Str} {yN_BadSpans : Addr} {ybs_BadSpans : List Value} {yhd_BadSpans : Bool} {ysn_BadSpans : List Str} {ysub_BadSpans : List Value} {yab_BadSpans : Bool} {ycol_BadSpans : Option Bool} {ydd_BadSpans : Option Addr} {ym0_BadSpans ym1_BadSpans ym2_BadSpans ym3_BadSpans ym5_BadSpans : Option Value} {yw_BadSpans : String}
    (zb_abs : PySem.W.nsIn K mainGlobals "abs" = some none)
    (zb_all : PySem.W.nsIn K mainGlobals "all" = some none)
    (zb_any : PySem.W.nsIn K mainGlobals "any" = some none)
    (zb_bool : PySem.W.nsIn K mainGlobals "bool" = some none)
    (zb_enumerate : PySem.W.nsIn K mainGlobals "enumerate" = some none)
    (zb_int : PySem.W.nsIn K mainGlobals "int" = some none)
    (zb_isinstance : PySem.W.nsIn K mainGlobals "isinstance" = some none)
    (zb_len : PySem.W.nsIn K mainGlobals "len" = some none)
    (zb_list : PySem.W.nsIn K mainGlobals "list" = some none)
    (zb_max : PySem.W.nsIn K mainGlobals "max" = some none)
    (zb_min : PySem.W.nsIn K mainGlobals "min" = some none)
    (zb_range : PySem.W.nsIn K mainGlobals "range" = some none)
    (zb_sorted : PySem.W.nsIn K mainGlobals "sorted" = some none)
    (zb_str : PySem.W.nsIn K mainGlobals "str" = some none)
    (zb_sum : PySem.W.nsIn K mainGlobals "sum" = some none)
    (zb_tuple : PySem.W.nsIn K mainGlobals "tuple" = some none)
    (zb_zip : PySem.W.nsIn K mainGlobals "zip" = some none)
    (zg_FIGURES : PySem.W.nsIn K mainGlobals "FIGURES" = some (some (.str "0123456789" zt_FIGURES)))
    (zg_LETTERS : PySem.W.nsIn K mainGlobals "LETTERS" = some (some (.str "abcdefghijklmnopqrstuvwxyz" zt_LETTERS)))
    (zg_MOST_DAY : PySem.W.nsIn K mainGlobals "MOST_DAY" = some (some (.int 999999 zt_MOST_DAY)))
    (za_law : PySem.W.nsIn K mainGlobals "law" = some (some (.ref fa_law)))
    (zl_law : K.lookup fa_law = some ⟨oc_law, od_law, .func (PySem.W.fnOf "law" "law" (defArgs s_law) (defBody s_law) (defScope s_law) .none kV_law dc_law pm_law an_law cd_law ct_law), sl_law⟩)
    (zc_law : PySem.W.codeIn K cd_law "law" = true)
    (zk_law : PySem.W.keepIn K (.ref fa_law) = true)
    (za_law_rows : PySem.W.nsIn K mainGlobals "_law_rows" = some (some (.ref fa_law_rows)))
    (zl_law_rows : K.lookup fa_law_rows = some ⟨oc_law_rows, od_law_rows, .func (PySem.W.fnOf "_law_rows" "_law_rows" (defArgs s_law_rows) (defBody s_law_rows) (defScope s_law_rows) .none kV_law_rows dc_law_rows pm_law_rows an_law_rows cd_law_rows ct_law_rows), sl_law_rows⟩)
    (zc_law_rows : PySem.W.codeIn K cd_law_rows "_law_rows" = true)
    (zk_law_rows : PySem.W.keepIn K (.ref fa_law_rows) = true)
    (za_normal : PySem.W.nsIn K mainGlobals "normal" = some (some (.ref fa_normal)))
    (zl_normal : K.lookup fa_normal = some ⟨oc_normal, od_normal, .func (PySem.W.fnOf "normal" "normal" (defArgs s_normal) (defBody s_normal) (defScope s_normal) .none kV_normal dc_normal pm_normal an_normal cd_normal ct_normal), sl_normal⟩)
    (zc_normal : PySem.W.codeIn K cd_normal "normal" = true)
    (zk_normal : PySem.W.keepIn K (.ref fa_normal) = true)
    (za_law_is_form : PySem.W.nsIn K mainGlobals "_law_is_form" = some (some (.ref fa_law_is_form)))
    (zl_law_is_form : K.lookup fa_law_is_form = some ⟨oc_law_is_form, od_law_is_form, .func (PySem.W.fnOf "_law_is_form" "_law_is_form" (defArgs s_law_is_form) (defBody s_law_is_form) (defScope s_law_is_form) .none kV_law_is_form dc_law_is_form pm_law_is_form an_law_is_form cd_law_is_form ct_law_is_form), sl_law_is_form⟩)
    (zc_law_is_form : PySem.W.codeIn K cd_law_is_form "_law_is_form" = true)
    (zk_law_is_form : PySem.W.keepIn K (.ref fa_law_is_form) = true)
    (za_is_span : PySem.W.nsIn K mainGlobals "is_span" = some (some (.ref fa_is_span)))
    (zl_is_span : K.lookup fa_is_span = some ⟨oc_is_span, od_is_span, .func (PySem.W.fnOf "is_span" "is_span" (defArgs s_is_span) (defBody s_is_span) (defScope s_is_span) .none kV_is_span dc_is_span pm_is_span an_is_span cd_is_span ct_is_span), sl_is_span⟩)
    (zc_is_span : PySem.W.codeIn K cd_is_span "is_span" = true)
    (zk_is_span : PySem.W.keepIn K (.ref fa_is_span) = true)
    (za_union : PySem.W.nsIn K mainGlobals "union" = some (some (.ref fa_union)))
    (zl_union : K.lookup fa_union = some ⟨oc_union, od_union, .func (PySem.W.fnOf "union" "union" (defArgs s_union) (defBody s_union) (defScope s_union) .none kV_union dc_union pm_union an_union cd_union ct_union), sl_union⟩)
    (zc_union : PySem.W.codeIn K cd_union "union" = true)
    (zk_union : PySem.W.keepIn K (.ref fa_union) = true)
    (za_meet : PySem.W.nsIn K mainGlobals "meet" = some (some (.ref fa_meet)))
    (zl_meet : K.lookup fa_meet = some ⟨oc_meet, od_meet, .func (PySem.W.fnOf "meet" "meet" (defArgs s_meet) (defBody s_meet) (defScope s_meet) .none kV_meet dc_meet pm_meet an_meet cd_meet ct_meet), sl_meet⟩)
    (zc_meet : PySem.W.codeIn K cd_meet "meet" = true)
    (zk_meet : PySem.W.keepIn K (.ref fa_meet) = true)
    (za_less : PySem.W.nsIn K mainGlobals "less" = some (some (.ref fa_less)))
    (zl_less : K.lookup fa_less = some ⟨oc_less, od_less, .func (PySem.W.fnOf "less" "less" (defArgs s_less) (defBody s_less) (defScope s_less) .none kV_less dc_less pm_less an_less cd_less ct_less), sl_less⟩)
    (zc_less : PySem.W.codeIn K cd_less "less" = true)
    (zk_less : PySem.W.keepIn K (.ref fa_less) = true)
    (za_others : PySem.W.nsIn K mainGlobals "others" = some (some (.ref fa_others)))
    (zl_others : K.lookup fa_others = some ⟨oc_others, od_others, .func (PySem.W.fnOf "others" "others" (defArgs s_others) (defBody s_others) (defScope s_others) .none kV_others dc_others pm_others an_others cd_others ct_others), sl_others⟩)
    (zc_others : PySem.W.codeIn K cd_others "others" = true)
    (zk_others : PySem.W.keepIn K (.ref fa_others) = true)
    (za_unlike : PySem.W.nsIn K mainGlobals "unlike" = some (some (.ref fa_unlike)))
    (zl_unlike : K.lookup fa_unlike = some ⟨oc_unlike, od_unlike, .func (PySem.W.fnOf "unlike" "unlike" (defArgs s_unlike) (defBody s_unlike) (defScope s_unlike) .none kV_unlike dc_unlike pm_unlike an_unlike cd_unlike ct_unlike), sl_unlike⟩)
    (zc_unlike : PySem.W.codeIn K cd_unlike "unlike" = true)
    (zk_unlike : PySem.W.keepIn K (.ref fa_unlike) = true)
    (za_law_days : PySem.W.nsIn K mainGlobals "_law_days" = some (some (.ref fa_law_days)))
    (zl_law_days : K.lookup fa_law_days = some ⟨oc_law_days, od_law_days, .func (PySem.W.fnOf "_law_days" "_law_days" (defArgs s_law_days) (defBody s_law_days) (defScope s_law_days) .none kV_law_days dc_law_days pm_law_days an_law_days cd_law_days ct_law_days), sl_law_days⟩)
    (zc_law_days : PySem.W.codeIn K cd_law_days "_law_days" = true)
    (zk_law_days : PySem.W.keepIn K (.ref fa_law_days) = true)
    (za_has : PySem.W.nsIn K mainGlobals "has" = some (some (.ref fa_has)))
    (zl_has : K.lookup fa_has = some ⟨oc_has, od_has, .func (PySem.W.fnOf "has" "has" (defArgs s_has) (defBody s_has) (defScope s_has) .none kV_has dc_has pm_has an_has cd_has ct_has), sl_has⟩)
    (zc_has : PySem.W.codeIn K cd_has "has" = true)
    (zk_has : PySem.W.keepIn K (.ref fa_has) = true)
    (za_how_many : PySem.W.nsIn K mainGlobals "how_many" = some (some (.ref fa_how_many)))
    (zl_how_many : K.lookup fa_how_many = some ⟨oc_how_many, od_how_many, .func (PySem.W.fnOf "how_many" "how_many" (defArgs s_how_many) (defBody s_how_many) (defScope s_how_many) .none kV_how_many dc_how_many pm_how_many an_how_many cd_how_many ct_how_many), sl_how_many⟩)
    (zc_how_many : PySem.W.codeIn K cd_how_many "how_many" = true)
    (zk_how_many : PySem.W.keepIn K (.ref fa_how_many) = true)
    (za_is_part : PySem.W.nsIn K mainGlobals "is_part" = some (some (.ref fa_is_part)))
    (zl_is_part : K.lookup fa_is_part = some ⟨oc_is_part, od_is_part, .func (PySem.W.fnOf "is_part" "is_part" (defArgs s_is_part) (defBody s_is_part) (defScope s_is_part) .none kV_is_part dc_is_part pm_is_part an_is_part cd_is_part ct_is_part), sl_is_part⟩)
    (zc_is_part : PySem.W.codeIn K cd_is_part "is_part" = true)
    (zk_is_part : PySem.W.keepIn K (.ref fa_is_part) = true)
    (za_breaks : PySem.W.nsIn K mainGlobals "breaks" = some (some (.ref fa_breaks)))
    (zl_breaks : K.lookup fa_breaks = some ⟨oc_breaks, od_breaks, .func (PySem.W.fnOf "breaks" "breaks" (defArgs s_breaks) (defBody s_breaks) (defScope s_breaks) .none kV_breaks dc_breaks pm_breaks an_breaks cd_breaks ct_breaks), sl_breaks⟩)
    (zc_breaks : PySem.W.codeIn K cd_breaks "breaks" = true)
    (zk_breaks : PySem.W.keepIn K (.ref fa_breaks) = true)
    (za_law_pick : PySem.W.nsIn K mainGlobals "_law_pick" = some (some (.ref fa_law_pick)))
    (zl_law_pick : K.lookup fa_law_pick = some ⟨oc_law_pick, od_law_pick, .func (PySem.W.fnOf "_law_pick" "_law_pick" (defArgs s_law_pick) (defBody s_law_pick) (defScope s_law_pick) .none kV_law_pick dc_law_pick pm_law_pick an_law_pick cd_law_pick ct_law_pick), sl_law_pick⟩)
    (zc_law_pick : PySem.W.codeIn K cd_law_pick "_law_pick" = true)
    (zk_law_pick : PySem.W.keepIn K (.ref fa_law_pick) = true)
    (za_is_name : PySem.W.nsIn K mainGlobals "is_name" = some (some (.ref fa_is_name)))
    (zl_is_name : K.lookup fa_is_name = some ⟨oc_is_name, od_is_name, .func (PySem.W.fnOf "is_name" "is_name" (defArgs s_is_name) (defBody s_is_name) (defScope s_is_name) .none kV_is_name dc_is_name pm_is_name an_is_name cd_is_name ct_is_name), sl_is_name⟩)
    (zc_is_name : PySem.W.codeIn K cd_is_name "is_name" = true)
    (zk_is_name : PySem.W.keepIn K (.ref fa_is_name) = true)
    (za_is_day : PySem.W.nsIn K mainGlobals "is_day" = some (some (.ref fa_is_day)))
    (zl_is_day : K.lookup fa_is_day = some ⟨oc_is_day, od_is_day, .func (PySem.W.fnOf "is_day" "is_day" (defArgs s_is_day) (defBody s_is_day) (defScope s_is_day) .none kV_is_day dc_is_day pm_is_day an_is_day cd_is_day ct_is_day), sl_is_day⟩)
    (zc_is_day : PySem.W.codeIn K cd_is_day "is_day" = true)
    (zk_is_day : PySem.W.keepIn K (.ref fa_is_day) = true)
    (za_law_take : PySem.W.nsIn K mainGlobals "_law_take" = some (some (.ref fa_law_take)))
    (zl_law_take : K.lookup fa_law_take = some ⟨oc_law_take, od_law_take, .func (PySem.W.fnOf "_law_take" "_law_take" (defArgs s_law_take) (defBody s_law_take) (defScope s_law_take) .none kV_law_take dc_law_take pm_law_take an_law_take cd_law_take ct_law_take), sl_law_take⟩)
    (zc_law_take : PySem.W.codeIn K cd_law_take "_law_take" = true)
    (zk_law_take : PySem.W.keepIn K (.ref fa_law_take) = true)
    (za_law_day : PySem.W.nsIn K mainGlobals "_law_day" = some (some (.ref fa_law_day)))
    (zl_law_day : K.lookup fa_law_day = some ⟨oc_law_day, od_law_day, .func (PySem.W.fnOf "_law_day" "_law_day" (defArgs s_law_day) (defBody s_law_day) (defScope s_law_day) .none kV_law_day dc_law_day pm_law_day an_law_day cd_law_day ct_law_day), sl_law_day⟩)
    (zc_law_day : PySem.W.codeIn K cd_law_day "_law_day" = true)
    (zk_law_day : PySem.W.keepIn K (.ref fa_law_day) = true)
    (za_check_spans : PySem.W.nsIn K mainGlobals "check_spans" = some (some (.ref fa_check_spans)))
    (zl_check_spans : K.lookup fa_check_spans = some ⟨oc_check_spans, od_check_spans, .func (PySem.W.fnOf "check_spans" "check_spans" (defArgs s_check_spans) (defBody s_check_spans) (defScope s_check_spans) .none kV_check_spans dc_check_spans pm_check_spans an_check_spans cd_check_spans ct_check_spans), sl_check_spans⟩)
    (zc_check_spans : PySem.W.codeIn K cd_check_spans "check_spans" = true)
    (zk_check_spans : PySem.W.keepIn K (.ref fa_check_spans) = true)
    (za_joined : PySem.W.nsIn K mainGlobals "joined" = some (some (.ref fa_joined)))
    (zl_joined : K.lookup fa_joined = some ⟨oc_joined, od_joined, .func (PySem.W.fnOf "joined" "joined" (defArgs s_joined) (defBody s_joined) (defScope s_joined) .none kV_joined dc_joined pm_joined an_joined cd_joined ct_joined), sl_joined⟩)
    (zc_joined : PySem.W.codeIn K cd_joined "joined" = true)
    (zk_joined : PySem.W.keepIn K (.ref fa_joined) = true)
    (za_is_whole : PySem.W.nsIn K mainGlobals "is_whole" = some (some (.ref fa_is_whole)))
    (zl_is_whole : K.lookup fa_is_whole = some ⟨oc_is_whole, od_is_whole, .func (PySem.W.fnOf "is_whole" "is_whole" (defArgs s_is_whole) (defBody s_is_whole) (defScope s_is_whole) .none kV_is_whole dc_is_whole pm_is_whole an_is_whole cd_is_whole ct_is_whole), sl_is_whole⟩)
    (zc_is_whole : PySem.W.codeIn K cd_is_whole "is_whole" = true)
    (zk_is_whole : PySem.W.keepIn K (.ref fa_is_whole) = true)
    (za_law_number : PySem.W.nsIn K mainGlobals "_law_number" = some (some (.ref fa_law_number)))
    (zl_law_number : K.lookup fa_law_number = some ⟨oc_law_number, od_law_number, .func (PySem.W.fnOf "_law_number" "_law_number" (defArgs s_law_number) (defBody s_law_number) (defScope s_law_number) .none kV_law_number dc_law_number pm_law_number an_law_number cd_law_number ct_law_number), sl_law_number⟩)
    (zc_law_number : PySem.W.codeIn K cd_law_number "_law_number" = true)
    (zk_law_number : PySem.W.keepIn K (.ref fa_law_number) = true)
    (zsuper : PySem.W.nsIn K mainGlobals "super" = some none)
    (zopq : PySem.W.nsIn K PySem.cStatics "thirdparty.any" = some none)
    (zx_BadSpans : PySem.W.nsIn K mainGlobals "BadSpans" = some (some (.ref e_BadSpans)))
    (zcl_BadSpans : K.lookup e_BadSpans = some (PySem.excClassObj xnm_BadSpans xq_BadSpans e_BadSpans xN_BadSpans xbs_BadSpans (PySem.DnX.exT2 O_BadSpans) true xsn_BadSpans xsub_BadSpans xab_BadSpans xcol_BadSpans xdd_BadSpans xm0_BadSpans xm1_BadSpans xm2_BadSpans xm3_BadSpans xm5_BadSpans "Exception.__new__"))
    (zsa_BadSpans : PySem.W.findIn K (.ref e_BadSpans) "__setattr__" = some (some (.builtin "object.__setattr__")))
    (zga_BadSpans : PySem.W.findIn K (.ref e_BadSpans) "__getattribute__" = some (some (.builtin "BaseException.__getattribute__")))
    (zgg_BadSpans : PySem.W.findIn K (.ref e_BadSpans) "__getattr__" = some none)
    (zno_BadSpans : PySem.W.findIn K (.ref e_BadSpans) "number" = some none)
    (zlo_BadSpans : K.lookup O_BadSpans = some (PySem.excClassObj ynm_BadSpans yq_BadSpans O_BadSpans yN_BadSpans ybs_BadSpans PySem.ESX.exTail yhd_BadSpans ysn_BadSpans ysub_BadSpans yab_BadSpans ycol_BadSpans ydd_BadSpans ym0_BadSpans ym1_BadSpans ym2_BadSpans ym3_BadSpans ym5_BadSpans yw_BadSpans))
    (zfo_BadSpans : PySem.W.findIn K (.ref O_BadSpans) "__init__" = some (some (.builtin "Exception.__init__")))
    (zkC_BadSpans : PySem.W.keepIn K (.ref e_BadSpans) = true)
    (zeC_BadSpans : PySem.W.subIn K (.ref e_BadSpans) (.type "BaseException") = some true)
    (ztC_BadSpans : PySem.W.typeIn K (.ref e_BadSpans) = some (.type "type"))
    (zhC_BadSpans : PySem.W.hasDictIn K e_BadSpans = true)
    (ziC_BadSpans : PySem.W.isClsIn K e_BadSpans = true)
    (zsC_BadSpans : PySem.W.subIn K (.ref e_BadSpans) (.ref e_BadSpans) = some true)
    (zin_BadSpans : PySem.W.findIn K (.ref e_BadSpans) "__init__" = some (some (.ref xf_BadSpans)))
    (zit_BadSpans : PySem.W.typeIn K (.ref xf_BadSpans) = some (.type "function"))
    (zif_BadSpans : K.lookup xf_BadSpans = some ⟨xoc_BadSpans, xod_BadSpans, .func (PySem.W.ksFn "__init__" "BadSpans.__init__" (defArgs (inClass (top 2) 0)) (defBody (inClass (top 2) 0)) (defScope (inClass (top 2) 0)) .none .none xdc_BadSpans xpm_BadSpans xan_BadSpans (.ref xd_BadSpans) xct_BadSpans xc_BadSpans), xosl_BadSpans⟩)
    (zic_BadSpans : PySem.W.codeIn K (.ref xd_BadSpans) "BadSpans.__init__" = true)
    (zco_BadSpans : K.lookup xd_BadSpans = some ⟨xccl_BadSpans, xcdd_BadSpans, .fields xvs_BadSpans, xccs_BadSpans⟩)
    (zvs_BadSpans : xvs_BadSpans[2]? = some (.str xfile_BadSpans xtf_BadSpans))
    (zfi_BadSpans : ((PySem.Challenge.pw_twicedated_k50_whole_spans.main.file : Str) == xfile_BadSpans) = true)
    (zcc_BadSpans : K.lookup xc_BadSpans = some ⟨xcl_BadSpans, xcld_BadSpans, .cell (some (.ref e_BadSpans)), xcsl_BadSpans⟩) :
    ∃ fd : FuncData, (∀ (s : Shared) (v : Value), BindsTo s fd ⟨[v], []⟩ [("_law_script", v)]) ∧ ∀ base : Heap, K.In base → base.Ns mainGlobals mg → FnOk PySem.Challenge.pw_twicedated_k50_whole_spans w K mg base (L2N.CX PySem.Challenge.pw_twicedated_k50_whole_spans w) 9 fa fd p_law (spLaw K) := by
  have e := hfa.symm.trans (PySem.W.mg_of X G za_law)
  cases e
  have S : Sta PySem.Challenge.pw_twicedated_k50_whole_spans K mg e_BadSpans := {
    b_abs := PySem.W.mg_none_of X G zb_abs
    b_all := PySem.W.mg_none_of X G zb_all
    b_any := PySem.W.mg_none_of X G zb_any
    b_bool := PySem.W.mg_none_of X G zb_bool
    b_enumerate := PySem.W.mg_none_of X G zb_enumerate
    b_int := PySem.W.mg_none_of X G zb_int
    b_isinstance := PySem.W.mg_none_of X G zb_isinstance
    b_len := PySem.W.mg_none_of X G zb_len
    b_list := PySem.W.mg_none_of X G zb_list
    b_max := PySem.W.mg_none_of X G zb_max
    b_min := PySem.W.mg_none_of X G zb_min
    b_range := PySem.W.mg_none_of X G zb_range
    b_sorted := PySem.W.mg_none_of X G zb_sorted
    b_str := PySem.W.mg_none_of X G zb_str
    b_sum := PySem.W.mg_none_of X G zb_sum
    b_tuple := PySem.W.mg_none_of X G zb_tuple
    b_zip := PySem.W.mg_none_of X G zb_zip
    g_FIGURES := ⟨_, PySem.W.mg_of X G zg_FIGURES, ⟨_, rfl⟩⟩
    g_LETTERS := ⟨_, PySem.W.mg_of X G zg_LETTERS, ⟨_, rfl⟩⟩
    g_MOST_DAY := ⟨_, PySem.W.mg_of X G zg_MOST_DAY, ⟨_, rfl⟩⟩
    yes := trivial
    F_law := fun_sta X G za_law zl_law zc_law zk_law fun _ _ _ _ _ _ us hl => match us, hl with | [_], _ => rfl
    F_law_rows := fun_sta X G za_law_rows zl_law_rows zc_law_rows zk_law_rows fun _ _ _ _ _ _ us hl => match us, hl with | [_], _ => rfl
    F_normal := fun_sta X G za_normal zl_normal zc_normal zk_normal fun _ _ _ _ _ _ us hl => match us, hl with | [_], _ => rfl
    F_law_is_form := fun_sta X G za_law_is_form zl_law_is_form zc_law_is_form zk_law_is_form fun _ _ _ _ _ _ us hl => match us, hl with | [_], _ => rfl
    F_is_span := fun_sta X G za_is_span zl_is_span zc_is_span zk_is_span fun _ _ _ _ _ _ us hl => match us, hl with | [_], _ => rfl
    F_union := fun_sta X G za_union zl_union zc_union zk_union fun _ _ _ _ _ _ us hl => match us, hl with | [_, _], _ => rfl
    F_meet := fun_sta X G za_meet zl_meet zc_meet zk_meet fun _ _ _ _ _ _ us hl => match us, hl with | [_, _], _ => rfl
    F_less := fun_sta X G za_less zl_less zc_less zk_less fun _ _ _ _ _ _ us hl => match us, hl with | [_, _], _ => rfl
    F_others := fun_sta X G za_others zl_others zc_others zk_others fun _ _ _ _ _ _ us hl => match us, hl with | [_], _ => rfl
    F_unlike := fun_sta X G za_unlike zl_unlike zc_unlike zk_unlike fun _ _ _ _ _ _ us hl => match us, hl with | [_, _], _ => rfl
    F_law_days := fun_sta X G za_law_days zl_law_days zc_law_days zk_law_days fun _ _ _ _ _ _ us hl => match us, hl with | [], _ => rfl
    F_has := fun_sta X G za_has zl_has zc_has zk_has fun _ _ _ _ _ _ us hl => match us, hl with | [_, _], _ => rfl
    F_how_many := fun_sta X G za_how_many zl_how_many zc_how_many zk_how_many fun _ _ _ _ _ _ us hl => match us, hl with | [_], _ => rfl
    F_is_part := fun_sta X G za_is_part zl_is_part zc_is_part zk_is_part fun _ _ _ _ _ _ us hl => match us, hl with | [_, _], _ => rfl
    F_breaks := fun_sta X G za_breaks zl_breaks zc_breaks zk_breaks fun _ _ _ _ _ _ us hl => match us, hl with | [_], _ => rfl
    F_law_pick := fun_sta X G za_law_pick zl_law_pick zc_law_pick zk_law_pick fun _ _ _ _ _ _ us hl => match us, hl with | [_, _], _ => rfl
    F_is_name := fun_sta X G za_is_name zl_is_name zc_is_name zk_is_name fun _ _ _ _ _ _ us hl => match us, hl with | [_], _ => rfl
    F_is_day := fun_sta X G za_is_day zl_is_day zc_is_day zk_is_day fun _ _ _ _ _ _ us hl => match us, hl with | [_], _ => rfl
    F_law_take := fun_sta X G za_law_take zl_law_take zc_law_take zk_law_take fun _ _ _ _ _ _ us hl => match us, hl with | [_, _], _ => rfl
    F_law_day := fun_sta X G za_law_day zl_law_day zc_law_day zk_law_day fun _ _ _ _ _ _ us hl => match us, hl with | [_], _ => rfl
    F_check_spans := fun_sta X G za_check_spans zl_check_spans zc_check_spans zk_check_spans fun _ _ _ _ _ _ us hl => match us, hl with | [_], _ => rfl
    F_joined := fun_sta X G za_joined zl_joined zc_joined zk_joined fun _ _ _ _ _ _ us hl => match us, hl with | [_], _ => rfl
    F_is_whole := fun_sta X G za_is_whole zl_is_whole zc_is_whole zk_is_whole fun _ _ _ _ _ _ us hl => match us, hl with | [_, _, _], _ => rfl
    F_law_number := fun_sta X G za_law_number zl_law_number zc_law_number zk_law_number fun _ _ _ _ _ _ us hl => match us, hl with | [_, _], _ => rfl
    m_BadSpans := PySem.W.mg_of X G zx_BadSpans
    exm_BadSpans := fun c C ns hx => by
      match c, hx with
      | 0, hx => cases hx; exact exm_self zeC_BadSpans ziC_BadSpans ztC_BadSpans zsC_BadSpans
      | c + 1, hx => cases hx
    T_BadSpans := ⟨zga_BadSpans, zgg_BadSpans, zeC_BadSpans, zhC_BadSpans⟩
    no_BadSpans_0 := zno_BadSpans
    t_BadSpans := { gC := PySem.W.mg_of X G zx_BadSpans, cls := ⟨_, _, _, _, _, _, _, _, _, _, _, _, _, _, _, zcl_BadSpans⟩, sa := zsa_BadSpans, noN := zno_BadSpans, sup := PySem.DnX.sup_of zcl_BadSpans zlo_BadSpans zfo_BadSpans, opq := zopq, kC := zkC_BadSpans, exC := zeC_BadSpans, tyC := ztC_BadSpans, fn := ⟨_, _, _, _, _, _, _, _, _, _, _, _, _, _, _, _, _, _, _, _, _, _, _, _, _, _, _, _, _, _, _, _, _, _, zin_BadSpans, zit_BadSpans, zif_BadSpans, zic_BadSpans, zco_BadSpans, zvs_BadSpans, zfi_BadSpans, zcc_BadSpans, rfl⟩, nm := PySem.W.mg_none_of X G zsuper, top := rfl, fs := ⟨by decide, by decide, by decide, by decide⟩, sw := fun _ _ _ _ _ => rfl, bnd := fun _ _ _ _ _ _ _ _ _ _ _ _ => rfl } }
  exact ⟨_, fun s v => .of_eq rfl, fun base _ _ => law_ok (T := tab) (Xs := Xs e_BadSpans) (f := 0) (fn_step (T := tab) (f := 0) (d := ⟨1, 20, B_law⟩) (fun_mk zl_law zc_law zk_law) sc_law rfl rfl rfl (fun cdv A outer s H E R Sn => d_law (txt S 8) _ cdv A outer s H E R Sn)) rfl (fun ns hl => mirror ns hl)⟩
theorem walk {l : PySem.W.OpenLaw} {q : Program} {loose : List Str} {XP : (Str → Option Value) → Heap → Prop} {YP : World → Heap → Prop} {d : DefRec} {K : Params → PySem.W.Frag} (hn : l.most = some 63) (hdf : d.params.defaults = [])
    (hY : ∀ (w : World) (h : Heap), YP w h → (K w.params).In h)
    (F : ∀ (w : World) (mg : Str → Option Value) (fa : Addr) (h : Heap), (K w.params).In h → h.Ns mainGlobals mg → mg d.name = some (.ref fa) →
      ∃ fd : FuncData, (∀ (s : Shared) (u : Value), BindsTo s fd ⟨[u], []⟩ [("_law_script", u)]) ∧ ∀ base : Heap, (K w.params).In base → base.Ns mainGlobals mg → FnOk l.prog w (K w.params) mg base (L2N.CX l.prog w) 9 fa fd p_law (spLaw (K w.params))) :
    PySem.W.WalkO q loose XP YP l.row.toRowW d [] (fun f vs => PySem.call f vs) :=
  L2.walk_of (n := 63) (k := 9) (x := "_law_script") (CX := fun w => L2N.CX l.prog w) (sp := fun w => spLaw (K w.params)) hn (by decide) hdf ⟨rfl, by decide, by decide⟩ hY F (fun _ _ a ns hl _ hS => ⟨a, ns, rfl, hS, hl, fun _ => rfl⟩) fun _ _ _ _ _ z => cx_no z
end Dn.K50
open PySem PySem.W PyProof.Rows
set_option maxRecDepth 100000 in
set_option maxHeartbeats 0 in
theorem PySem.Challenge.cw_twicedated_k50_whole_spans_holds : PySem.Challenge.rw_twicedated_k50_whole_spans.Holds := by
  w_on; o_law; k_head; (case hw => w_witness2)
  k_fill
  refine Dn.K50.walk (l := PySem.Challenge.rw_twicedated_k50_whole_spans) rfl rfl (fun w h Y => PySem.W.kIn_of Y) ?F
  case F =>
    intro w mg fa h KX G hmg
    refine' Dn.K50.all_mk KX G hmg ?zb_abs ?zb_all ?zb_any ?zb_bool ?zb_enumerate ?zb_int ?zb_isinstance ?zb_len ?zb_list ?zb_max ?zb_min ?zb_range ?zb_sorted ?zb_str ?zb_sum ?zb_tuple ?zb_zip ?zg_FIGURES ?zg_LETTERS ?zg_MOST_DAY ?za_law ?zl_law ?zc_law ?zk_law ?za_law_rows ?zl_law_rows ?zc_law_rows ?zk_law_rows ?za_normal ?zl_normal ?zc_normal ?zk_normal ?za_law_is_form ?zl_law_is_form ?zc_law_is_form ?zk_law_is_form ?za_is_span ?zl_is_span ?zc_is_span ?zk_is_span ?za_union ?zl_union ?zc_union ?zk_union ?za_meet ?zl_meet ?zc_meet ?zk_meet ?za_less ?zl_less ?zc_less ?zk_less ?za_others ?zl_others ?zc_others ?zk_others ?za_unlike ?zl_unlike ?zc_unlike ?zk_unlike ?za_law_days ?zl_law_days ?zc_law_days ?zk_law_days ?za_has ?zl_has ?zc_has ?zk_has ?za_how_many ?zl_how_many ?zc_how_many ?zk_how_many ?za_is_part ?zl_is_part ?zc_is_part ?zk_is_part ?za_breaks ?zl_breaks ?zc_breaks ?zk_breaks ?za_law_pick ?zl_law_pick ?zc_law_pick ?zk_law_pick ?za_is_name ?zl_is_name ?zc_is_name ?zk_is_name ?za_is_day ?zl_is_day ?zc_is_day ?zk_is_day ?za_law_take ?zl_law_take ?zc_law_take ?zk_law_take ?za_law_day ?zl_law_day ?zc_law_day ?zk_law_day ?za_check_spans ?zl_check_spans ?zc_check_spans ?zk_check_spans ?za_joined ?zl_joined ?zc_joined ?zk_joined ?za_is_whole ?zl_is_whole ?zc_is_whole ?zk_is_whole ?za_law_number ?zl_law_number ?zc_law_number ?zk_law_number ?zsuper ?zopq ?zx_BadSpans ?zcl_BadSpans ?zsa_BadSpans ?zga_BadSpans ?zgg_BadSpans ?zno_BadSpans ?zlo_BadSpans ?zfo_BadSpans ?zkC_BadSpans ?zeC_BadSpans ?ztC_BadSpans ?zhC_BadSpans ?ziC_BadSpans ?zsC_BadSpans ?zin_BadSpans ?zit_BadSpans ?zif_BadSpans ?zic_BadSpans ?zco_BadSpans ?zvs_BadSpans ?zfi_BadSpans ?zcc_BadSpans
    (case zb_abs => k_is)
    (case zb_all => k_is)
    (case zb_any => k_is)
    (case zb_bool => k_is)
    (case zb_enumerate => k_is)
    (case zb_int => k_is)
    (case zb_isinstance => k_is)
    (case zb_len => k_is)
    (case zb_list => k_is)
    (case zb_max => k_is)
    (case zb_min => k_is)
    (case zb_range => k_is)
    (case zb_sorted => k_is)
    (case zb_str => k_is)
    (case zb_sum => k_is)
    (case zb_tuple => k_is)
    (case zb_zip => k_is)
    (case zg_FIGURES => k_is)
    (case zg_LETTERS => k_is)
    (case zg_MOST_DAY => k_is)
    (case za_law => k_is)
    (case zl_law => k_is)
    (case zc_law => k_is)
    (case zk_law => k_is)
    (case za_law_rows => k_is)
    (case zl_law_rows => k_is)
    (case zc_law_rows => k_is)
    (case zk_law_rows => k_is)
    (case za_normal => k_is)
    (case zl_normal => k_is)
    (case zc_normal => k_is)
    (case zk_normal => k_is)
    (case za_law_is_form => k_is)
    (case zl_law_is_form => k_is)
    (case zc_law_is_form => k_is)
    (case zk_law_is_form => k_is)
    (case za_is_span => k_is)
    (case zl_is_span => k_is)
    (case zc_is_span => k_is)
    (case zk_is_span => k_is)
    (case za_union => k_is)
    (case zl_union => k_is)
    (case zc_union => k_is)
    (case zk_union => k_is)
    (case za_meet => k_is)
    (case zl_meet => k_is)
    (case zc_meet => k_is)
    (case zk_meet => k_is)
    (case za_less => k_is)
    (case zl_less => k_is)
    (case zc_less => k_is)
    (case zk_less => k_is)
    (case za_others => k_is)
    (case zl_others => k_is)
    (case zc_others => k_is)
    (case zk_others => k_is)
    (case za_unlike => k_is)
    (case zl_unlike => k_is)
    (case zc_unlike => k_is)
    (case zk_unlike => k_is)
    (case za_law_days => k_is)
    (case zl_law_days => k_is)
    (case zc_law_days => k_is)
    (case zk_law_days => k_is)
    (case za_has => k_is)
    (case zl_has => k_is)
    (case zc_has => k_is)
    (case zk_has => k_is)
    (case za_how_many => k_is)
    (case zl_how_many => k_is)
    (case zc_how_many => k_is)
    (case zk_how_many => k_is)
    (case za_is_part => k_is)
    (case zl_is_part => k_is)
    (case zc_is_part => k_is)
    (case zk_is_part => k_is)
    (case za_breaks => k_is)
    (case zl_breaks => k_is)
    (case zc_breaks => k_is)
    (case zk_breaks => k_is)
    (case za_law_pick => k_is)
    (case zl_law_pick => k_is)
    (case zc_law_pick => k_is)
    (case zk_law_pick => k_is)
    (case za_is_name => k_is)
    (case zl_is_name => k_is)
    (case zc_is_name => k_is)
    (case zk_is_name => k_is)
    (case za_is_day => k_is)
    (case zl_is_day => k_is)
    (case zc_is_day => k_is)
    (case zk_is_day => k_is)
    (case za_law_take => k_is)
    (case zl_law_take => k_is)
    (case zc_law_take => k_is)
    (case zk_law_take => k_is)
    (case za_law_day => k_is)
    (case zl_law_day => k_is)
    (case zc_law_day => k_is)
    (case zk_law_day => k_is)
    (case za_check_spans => k_is)
    (case zl_check_spans => k_is)
    (case zc_check_spans => k_is)
    (case zk_check_spans => k_is)
    (case za_joined => k_is)
    (case zl_joined => k_is)
    (case zc_joined => k_is)
    (case zk_joined => k_is)
    (case za_is_whole => k_is)
    (case zl_is_whole => k_is)
    (case zc_is_whole => k_is)
    (case zk_is_whole => k_is)
    (case za_law_number => k_is)
    (case zl_law_number => k_is)
    (case zc_law_number => k_is)
    (case zk_law_number => k_is)
    (case zsuper => k_is)
    (case zopq => k_is)
    (case zx_BadSpans => k_is)
    (case zcl_BadSpans => k_is)
    (case zsa_BadSpans => k_is)
    (case zga_BadSpans => k_is)
    (case zgg_BadSpans => k_is)
    (case zno_BadSpans => k_is)
    (case zlo_BadSpans => k_is)
    (case zfo_BadSpans => k_is)
    (case zkC_BadSpans => k_is)
    (case zeC_BadSpans => k_is)
    (case ztC_BadSpans => k_is)
    (case zhC_BadSpans => k_is)
    (case ziC_BadSpans => k_is)
    (case zsC_BadSpans => first | rfl | k_is)
    (case zin_BadSpans => k_is)
    (case zit_BadSpans => k_is)
    (case zif_BadSpans => k_is)
    (case zic_BadSpans => k_is)
    (case zco_BadSpans => k_is)
    (case zvs_BadSpans => rfl)
    (case zfi_BadSpans => (first | rfl | decide +kernel))
    (case zcc_BadSpans => k_is)
