import PyProof.Rows.All
import Wide.All
import OpenK.AllK
import Wide.FinOn
import HandS.ForMost
import HandS.ForExc
import HandS.Style
import HandS.NoneIn
import HandS.ExcCtx
import HandS.HotCalls
import HandS.Zip
import KE.GoesMore
import HandS.ExcField
import HandS.TupAny
import HandS.Deep
import HandS.TupLe
import HandS.IsInst
import HandS.Star
import HandS.Conv
import HandS.SortRule
import KE.SortData
import HandS.Small
import HandS.Words
import HandS.ExcSuper
import HandS.HeadWalk
import HandS.CallRecv
import KE.KSuper
import HandS.ExcOwn
import KE.SortKeyHeap
import HandS.SortKw
import HandS.DictComp
import KE.OsSorts
import HandS.SetFor
import HandS.Strs
import HandS.List
import KE.SortLaws
import HandS.SortInts
import PySem.Challenge.RW_twicedated_k55_whole_meeting
set_option Elab.async false
set_option linter.all false
set_option maxRecDepth 100000
set_option maxHeartbeats 4000000
/-! Data by themselves: what a run computes, with lists, tuples and texts as plain values. -/
namespace Dn
open PySem L2

inductive D where
  | non | bl (b : Bool) | int (i : Int) | str (s : Str) | tup (xs : List D) | lst (xs : List D) | frz (xs : List D)
  | dct (kvs : List (D × D)) | ins (c : Str) (fs : List (Str × D)) | ref (n : Nat)

/-- a thing of the store: it may change -/
inductive Ob where
  | lst (xs : List D) | ins (c : Str) (fs : List (Str × D)) | gone
abbrev Store := List Ob

/-- a slot -/
inductive Cell where
  | em | dat (d : D) | own (d : D) | exn (c : Nat) (fs : List D)
abbrev Env := List Cell

inductive R (α : Type) where
  | ok (a : α) (m : Store) | exc (c : Nat) (fs : List D) (m : Store) | stuck
inductive SR where
  | nx (e : Env) (m : Store) | ret (d : D) (m : Store) | brk (e : Env) (m : Store) | ct (e : Env) (m : Store) | exc (c : Nat) (fs : List D) (e : Env) (m : Store) | stuck
abbrev Orc := Nat → List D → Store → R D
abbrev EvE := Orc → Env → Store → R D
abbrev EvA := Orc → Env → Store → R (List D)
abbrev EvT := Orc → Env → Store → R Bool
abbrev EvS := Orc → Env → Store → SR

def R.bind {α β : Type} (r : R α) (f : α → Store → R β) : R β := match r with
  | .ok a m => f a m
  | .exc c fs m => .exc c fs m
  | .stuck => .stuck
@[simp] theorem R.bind_ok {α β : Type} (a : α) (m : Store) (f : α → Store → R β) : (R.ok a m).bind f = f a m := rfl
@[simp] theorem R.bind_exc {α β : Type} (c : Nat) (fs : List D) (m : Store) (f : α → Store → R β) : (R.exc c fs m).bind f = .exc c fs m := rfl
@[simp] theorem R.bind_stuck {α β : Type} (f : α → Store → R β) : (R.stuck : R α).bind f = .stuck := rfl
def R.of {α : Type} (o : Option α) (m : Store) : R α := match o with
  | some a => .ok a m
  | none => .stuck
@[simp] theorem R.of_some {α : Type} (a : α) (m : Store) : R.of (some a) m = .ok a m := rfl
@[simp] theorem R.of_none {α : Type} (m : Store) : R.of (none : Option α) m = .stuck := rfl

/-! ### what stands for what -/
/-- the names of the store's things -/
abbrev Th := Nat → Option Addr

/-- where the class of that name stands -/
def cAt (K : PySem.W.Frag) (c : Str) : Option Addr := match PySem.W.nsIn K mainGlobals c with
  | some (some (.ref C)) => some C
  | _ => none

mutual
inductive DR (K : PySem.W.Frag) (S : Hp) (t : Th) : V → D → Prop
  | non : DR K S t .non .non
  | bl (b : Bool) : DR K S t (.bl b) (.bl b)
  | int (i : Int) : DR K S t (.int i) (.int i)
  | str (x : Str) : DR K S t (.str x) (.str x)
  | lst {a : Addr} {vs : List V} {ds : List D} : S a = some (.lst vs) → DRs K S t vs ds → DR K S t (.ref a) (.lst ds)
  | frz {a : Addr} {vs : List V} {ds : List D} : SqL K S a vs → DRs K S t vs ds → DR K S t (.ref a) (.frz ds)
  | tup {a : Addr} {vs : List V} {ds : List D} : SqT K S a vs → DRs K S t vs ds → DR K S t (.ref a) (.tup ds)
  | ref {n : Nat} {a : Addr} : t n = some a → DR K S t (.ref a) (.ref n)
  | ins {a C dx : Addr} {c : Str} {vs : List (Str × V)} {fs : List (Str × D)} : cAt K c = some C → S a = some (.ins C dx vs) → FRs K S t vs fs → DR K S t (.ref a) (.ins c fs)
inductive DRs (K : PySem.W.Frag) (S : Hp) (t : Th) : List V → List D → Prop
  | nil : DRs K S t [] []
  | cons {v : V} {vs : List V} {d : D} {ds : List D} : DR K S t v d → DRs K S t vs ds → DRs K S t (v :: vs) (d :: ds)
/-- fields -/
inductive FRs (K : PySem.W.Frag) (S : Hp) (t : Th) : List (Str × V) → List (Str × D) → Prop
  | nil : FRs K S t [] []
  | cons {f : Str} {v : V} {vs : List (Str × V)} {d : D} {ds : List (Str × D)} : DR K S t v d → FRs K S t vs ds → FRs K S t ((f, v) :: vs) ((f, d) :: ds)
end

def Sub (S S' : Hp) : Prop := ∀ a o, S a = some o → S' a = some o
def TSub (t t' : Th) : Prop := ∀ n a, t n = some a → t' n = some a
theorem Sub.refl (S : Hp) : Sub S S := fun _ _ h => h
theorem Sub.trans {S S1 S2 : Hp} (a : Sub S S1) (b : Sub S1 S2) : Sub S S2 := fun x o h => b x o (a x o h)
theorem TSub.refl (t : Th) : TSub t t := fun _ _ h => h
theorem TSub.trans {t t1 t2 : Th} (a : TSub t t1) (b : TSub t1 t2) : TSub t t2 := fun n x h => b n x (a n x h)
section
variable {K : PySem.W.Frag} {S S' H : Hp} {t t' : Th}
theorem Sub.sqL {a : Addr} {vs : List V} (e : Sub S S') (h : SqL K S a vs) : SqL K S' a vs := by
  rcases h with (h | ⟨o, h⟩) | h
  · exact .inl (.inl (e _ _ h))
  · exact .inl (.inr ⟨o, e _ _ h⟩)
  · exact .inr h
theorem Sub.sqT {a : Addr} {vs : List V} (e : Sub S S') (h : SqT K S a vs) : SqT K S' a vs := by
  rcases h with (h | ⟨o, h⟩) | h
  · exact .inl (.inl (e _ _ h))
  · exact .inl (.inr ⟨o, e _ _ h⟩)
  · exact .inr h
mutual
theorem DR.mono (e : Sub S S') (f : TSub t t') : ∀ {v : V} {d : D}, DR K S t v d → DR K S' t' v d
  | _, _, .non => .non
  | _, _, .bl b => .bl b
  | _, _, .int i => .int i
  | _, _, .str x => .str x
  | _, _, .lst h hs => .lst (e _ _ h) (DRs.mono e f hs)
  | _, _, .frz h hs => .frz (e.sqL h) (DRs.mono e f hs)
  | _, _, .tup h hs => .tup (e.sqT h) (DRs.mono e f hs)
  | _, _, .ref h => .ref (f _ _ h)
  | _, _, .ins c h hs => .ins c (e _ _ h) (FRs.mono e f hs)
theorem DRs.mono (e : Sub S S') (f : TSub t t') : ∀ {vs : List V} {ds : List D}, DRs K S t vs ds → DRs K S' t' vs ds
  | _, _, .nil => .nil
  | _, _, .cons h hs => .cons (DR.mono e f h) (DRs.mono e f hs)
theorem FRs.mono (e : Sub S S') (f : TSub t t') : ∀ {vs : List (Str × V)} {ds : List (Str × D)}, FRs K S t vs ds → FRs K S' t' vs ds
  | _, _, .nil => .nil
  | _, _, .cons h hs => .cons (DR.mono e f h) (FRs.mono e f hs)
end
/-- a field's value is put -/
def putD (f : Str) (d : D) : List (Str × D) → List (Str × D)
  | [] => [(f, d)]
  | (g, x) :: r => if g = f then (g, d) :: r else (g, x) :: putD f d r
theorem FRs.length {vs : List (Str × V)} : ∀ {ds : List (Str × D)}, FRs K S t vs ds → vs.length = ds.length := by
  induction vs with
  | nil => intro ds h; cases h; rfl
  | cons v vs ih => intro ds h; cases h with | cons h hs => simp [ih hs]
theorem FRs.lookup {vs : List (Str × V)} : ∀ {ds : List (Str × D)} {f : Str} {d : D}, FRs K S t vs ds → ds.lookup f = some d → ∃ v, vs.lookup f = some v ∧ DR K S t v d := by
  induction vs with
  | nil => intro ds f d h e; cases h; cases e
  | cons v vs ih =>
    intro ds f d h e
    cases h with
    | @cons g x _ y _ h hs =>
      by_cases z : f == g
      · simp only [List.lookup_cons, z] at e ⊢
        cases e
        exact ⟨x, rfl, h⟩
      · have z : (f == g) = false := by simpa using z
        simp only [List.lookup_cons, z] at e ⊢
        exact ih hs e
theorem FRs.put {vs : List (Str × V)} {f : Str} {v : V} {d : D} (g : DR K S t v d) : ∀ {ds : List (Str × D)}, FRs K S t vs ds → FRs K S t (putF f v vs) (putD f d ds) := by
  induction vs with
  | nil => intro ds h; cases h; exact .cons g .nil
  | cons v vs ih =>
    intro ds h
    cases h with
    | @cons k x _ y _ h hs =>
      unfold putF putD
      by_cases z : k = f
      · rw [if_pos z, if_pos z]; exact .cons g hs
      · rw [if_neg z, if_neg z]; exact .cons h (ih hs)
theorem FRs.lookup_none {vs : List (Str × V)} : ∀ {ds : List (Str × D)} {f : Str}, FRs K S t vs ds → ds.lookup f = none → vs.lookup f = none := by
  induction vs with
  | nil => intro ds f h e; rfl
  | cons v vs ih =>
    intro ds f h e
    cases h with
    | @cons g x _ y _ h hs =>
      by_cases z : f == g
      · simp only [List.lookup_cons, z] at e; cases e
      · have z : (f == g) = false := by simpa using z
        simp only [List.lookup_cons, z] at e ⊢
        exact ih hs e
theorem DRs.length {vs : List V} : ∀ {ds : List D}, DRs K S t vs ds → vs.length = ds.length := by
  induction vs with
  | nil => intro ds h; cases h; rfl
  | cons v vs ih => intro ds h; cases h with | cons h hs => simp [ih hs]
theorem DRs.get {vs : List V} : ∀ {ds : List D} {i : Nat} {d : D}, DRs K S t vs ds → ds[i]? = some d → ∃ v, vs[i]? = some v ∧ DR K S t v d := by
  induction vs with
  | nil => intro ds i d h e; cases h; simp at e
  | cons v vs ih =>
    intro ds i d h e
    cases h with
    | cons h hs =>
      cases i with
      | zero => simp at e; subst e; exact ⟨v, by simp, h⟩
      | succ i => obtain ⟨w, e1, r⟩ := ih hs (i := i) (d := d) (by simpa using e); exact ⟨w, by simpa using e1, r⟩
theorem DRs.get' {vs : List V} : ∀ {ds : List D} {i : Nat} {v : V}, DRs K S t vs ds → vs[i]? = some v → ∃ d, ds[i]? = some d ∧ DR K S t v d := by
  induction vs with
  | nil => intro ds i d h e; cases h; simp at e
  | cons v vs ih =>
    intro ds i d h e
    cases h with
    | cons h hs =>
      cases i with
      | zero => simp at e; subst e; exact ⟨_, by simp, h⟩
      | succ i => obtain ⟨w, e1, r⟩ := ih hs (i := i) (by simpa using e); exact ⟨w, by simpa using e1, r⟩
theorem DRs.append {vs ws : List V} {ds es : List D} (h : DRs K S t vs ds) (g : DRs K S t ws es) : DRs K S t (vs ++ ws) (ds ++ es) := by
  induction vs generalizing ds with
  | nil => cases h; exact g
  | cons v vs ih => cases h with | cons h hs => exact .cons h (ih hs)
theorem DRs.take {vs : List V} {ds : List D} (n : Nat) (h : DRs K S t vs ds) : DRs K S t (vs.take n) (ds.take n) := by
  induction vs generalizing ds n with
  | nil => cases h; simp; exact .nil
  | cons v vs ih =>
    cases h with
    | cons h hs =>
      cases n with
      | zero => simp; exact .nil
      | succ n => simp only [List.take_succ_cons]; exact .cons h (ih n hs)
theorem DRs.drop {vs : List V} {ds : List D} (n : Nat) (h : DRs K S t vs ds) : DRs K S t (vs.drop n) (ds.drop n) := by
  induction vs generalizing ds n with
  | nil => cases h; simp; exact .nil
  | cons v vs ih =>
    cases h with
    | cons h hs =>
      cases n with
      | zero => simp; exact .cons h hs
      | succ n => simp only [List.drop_succ_cons]; exact ih n hs
theorem DRs.set {vs : List V} {ds : List D} {v : V} {d : D} (n : Nat) (h : DRs K S t vs ds) (g : DR K S t v d) : DRs K S t (vs.set n v) (ds.set n d) := by
  induction vs generalizing ds n with
  | nil => cases h; simp; exact .nil
  | cons v vs ih =>
    cases h with
    | cons h hs =>
      cases n with
      | zero => simp; exact .cons g hs
      | succ n => simp only [List.set_cons_succ]; exact .cons h (ih n hs)
theorem DRs.reverse {vs : List V} {ds : List D} (h : DRs K S t vs ds) : DRs K S t vs.reverse ds.reverse := by
  induction vs generalizing ds with
  | nil => cases h; exact .nil
  | cons v vs ih =>
    cases h with
    | cons h hs => simp only [List.reverse_cons]; exact (ih hs).append (.cons h .nil)
end

/-! ### the state: S what is settled (it never changes), H all that is tracked, t the store's addresses -/
/-- a thing of the heap as a thing of the store -/
inductive ObR (K : PySem.W.Frag) (S : Hp) (t : Th) : HO → Ob → Prop
  | lst {vs : List V} {xs : List D} : DRs K S t vs xs → ObR K S t (.lst vs) (.lst xs)
  | ins {C dx : Addr} {c : Str} {vs : List (Str × V)} {fs : List (Str × D)} : cAt K c = some C → FRs K S t vs fs → ObR K S t (.ins C dx vs) (.ins c fs)
theorem ObR.mono {K : PySem.W.Frag} {S S' : Hp} {t t' : Th} {u : HO} {o : Ob} (e : Sub S S') (f : TSub t t') (h : ObR K S t u o) : ObR K S' t' u o := by
  cases h with
  | lst h => exact .lst (h.mono e f)
  | ins c h => exact .ins c (h.mono e f)
structure HI (K : PySem.W.Frag) (S H : Hp) (t : Th) (m : Store) : Prop where
  sub : Sub S H
  stb : ∀ n o, m[n]? = some o → o ≠ .gone → ∃ a u, t n = some a ∧ S a = none ∧ H a = some u ∧ ObR K S t u o
  off : ∀ n a, t n = some a → H a ≠ none
  inj : ∀ n k a, t n = some a → t k = some a → n = k
  out : ∀ n, m.length ≤ n → t n = none
theorem HI.sto {K : PySem.W.Frag} {S H : Hp} {t : Th} {m : Store} (i : HI K S H t m) (n : Nat) (xs : List D) (h : m[n]? = some (.lst xs)) : ∃ a vs, t n = some a ∧ H a = some (.lst vs) ∧ DRs K S t vs xs := by
  obtain ⟨a, u, h1, _, h2, h3⟩ := i.stb n _ h (by simp)
  cases h3 with
  | lst h3 => exact ⟨a, _, h1, h2, h3⟩
theorem HI.sti {K : PySem.W.Frag} {S H : Hp} {t : Th} {m : Store} (i : HI K S H t m) (n : Nat) (c : Str) (fs : List (Str × D)) (h : m[n]? = some (.ins c fs)) :
    ∃ a C dx vs, t n = some a ∧ cAt K c = some C ∧ H a = some (.ins C dx vs) ∧ FRs K S t vs fs := by
  obtain ⟨a, u, h1, _, h2, h3⟩ := i.stb n _ h (by simp)
  cases h3 with
  | ins hc h3 => exact ⟨a, _, _, _, h1, hc, h2, h3⟩
/-- what an expression leaves -/
structure Stp (S H : Hp) (t : Th) (S' H' : Hp) (t' : Th) : Prop where
  keep : ∀ a o, H a = some o → (∀ n, t n ≠ some a) → H' a = some o
  dom : ∀ a, H a ≠ none → H' a ≠ none
  hs : ∀ a, H a ≠ none → S' a = S a
  th : TSub t t'
  thn : ∀ n a, t' n = some a → t n = none → H a = none
section
variable {K : PySem.W.Frag} {S S' S2 H H' H2 : Hp} {t t' t2 : Th} {m m' : Store}
theorem Stp.refl : Stp S H t S H t := ⟨fun _ _ h _ => h, fun _ h => h, fun _ _ => rfl, .refl t, fun _ _ h g => by rw [g] at h; cases h⟩
theorem Stp.trans (a : Stp S H t S' H' t') (b : Stp S' H' t' S2 H2 t2) : Stp S H t S2 H2 t2 := by
  have off : ∀ n x, H x ≠ none → (∀ k, t k ≠ some x) → t' n ≠ some x := fun n x hx hn e => by
    cases q : t n with
    | none => exact hx (a.thn n x e q)
    | some y =>
      have := a.th n y q
      rw [e] at this
      cases this
      exact hn n q
  refine ⟨fun x o h hn => b.keep x o (a.keep x o h hn) fun n => off n x (by rw [h]; simp) hn, fun x h => b.dom x (a.dom x h), fun x h => (b.hs x (a.dom x h)).trans (a.hs x h), a.th.trans b.th, fun n x h g => ?_⟩
  cases q : t' n with
  | none =>
    have z := b.thn n x h q
    cases e : H x with
    | none => rfl
    | some o => exact absurd z (a.dom x (by rw [e]; simp))
  | some y =>
    have := b.th n y q
    rw [h] at this
    cases this
    exact a.thn n x q g
theorem HI.ssub (i : HI K S H t m) (p : Stp S H t S' H' t') : Sub S S' := fun a o h => (p.hs a (by rw [i.sub a o h]; simp)).trans h
theorem DR.stp {v : V} {d : D} (i : HI K S H t m) (p : Stp S H t S' H' t') (h : DR K S t v d) : DR K S' t' v d := h.mono (i.ssub p) p.th
theorem DRs.stp {v : List V} {d : List D} (i : HI K S H t m) (p : Stp S H t S' H' t') (h : DRs K S t v d) : DRs K S' t' v d := h.mono (i.ssub p) p.th
/-- a thing of its own keeps off the store -/
theorem Stp.offs {a : Addr} (p : Stp S H t S' H' t') (h : H a ≠ none) (hn : ∀ n, t n ≠ some a) : ∀ n, t' n ≠ some a := fun n e => by
  cases q : t n with
  | none => exact h (p.thn n a e q)
  | some y =>
    have := p.th n y q
    rw [e] at this
    cases this
    exact hn n q
/-- something new is laid and settled -/
theorem new_hi {p : Addr} {o : HO} (i : HI K S H t m) (h : H p = none) : HI K (upd S p o) (upd H p o) t m ∧ Stp S H t (upd S p o) (upd H p o) t := by
  have hS : S p = none := by
    cases e : S p with
    | none => rfl
    | some o => rw [i.sub p o e] at h; cases h
  have ss : Sub S (upd S p o) := fun a u e => by rw [upd_ne (ne_of_none e hS)]; exact e
  refine ⟨⟨fun a u e => ?_, fun n u e g => ?_, fun n a e => ?_, i.inj, i.out⟩, ⟨fun a u e _ => ?_, fun a e => ?_, fun a e => ?_, .refl t, fun n a e g => by rw [g] at e; cases e⟩⟩
  · by_cases z : a = p
    · subst z; rw [upd_same] at e ⊢; exact e
    · rw [upd_ne z] at e ⊢; exact i.sub a u e
  · obtain ⟨a, v, e1, e2, e3, e4⟩ := i.stb n u e g
    have z := ne_of_none e3 h
    exact ⟨a, v, e1, by rw [upd_ne z]; exact e2, by rw [upd_ne z]; exact e3, e4.mono ss (.refl t)⟩
  · have e2 := i.off n a e
    have z : a ≠ p := fun z => e2 (by rw [z]; exact h)
    rw [upd_ne z]
    exact e2
  · rw [upd_ne (ne_of_none e h)]; exact e
  · have z : a ≠ p := fun z => e (by rw [z]; exact h)
    rw [upd_ne z]; exact e
  · have z : a ≠ p := fun z => e (by rw [z]; exact h)
    rw [upd_ne z]
/-- something new is laid, not settled -/
theorem new_hi0 {p : Addr} {o : HO} (i : HI K S H t m) (h : H p = none) : HI K S (upd H p o) t m ∧ Stp S H t S (upd H p o) t := by
  refine ⟨⟨fun a u e => ?_, fun n u e g => ?_, fun n a e => ?_, i.inj, i.out⟩, ⟨fun a u e _ => ?_, fun a e => ?_, fun a e => rfl, .refl t, fun n a e g => by rw [g] at e; cases e⟩⟩
  · have e' := i.sub a u e
    rw [upd_ne (ne_of_none e' h)]; exact e'
  · obtain ⟨a, v, e1, e2, e3, e4⟩ := i.stb n u e g
    exact ⟨a, v, e1, e2, by rw [upd_ne (ne_of_none e3 h)]; exact e3, e4⟩
  · have e2 := i.off n a e
    have z : a ≠ p := fun z => e2 (by rw [z]; exact h)
    rw [upd_ne z]
    exact e2
  · rw [upd_ne (ne_of_none e h)]; exact e
  · have z : a ≠ p := fun z => e (by rw [z]; exact h)
    rw [upd_ne z]; exact e
/-- a list of one's own is changed -/
theorem own_hi {p : Addr} {o : HO} (i : HI K S H t m) (hS : S p = none) (hp : H p ≠ none) (ht : ∀ n, t n ≠ some p) : HI K S (upd H p o) t m := by
  refine ⟨fun a u e => ?_, fun n u e g => ?_, fun n a e => ?_, i.inj, i.out⟩
  · rw [upd_ne (ne_of_none e hS)]; exact i.sub a u e
  · obtain ⟨a, v, e1, e2, e3, e4⟩ := i.stb n u e g
    exact ⟨a, v, e1, e2, by rw [upd_ne (fun z => ht n (by rw [e1, z]))]; exact e3, e4⟩
  · have e2 := i.off n a e
    rw [upd_ne (fun z => ht n (by rw [e, z]))]
    exact e2
/-- it is settled -/
theorem settle_hi {p : Addr} {o : HO} (i : HI K S H t m) (hS : S p = none) (hp : H p = some o) (ht : ∀ n, t n ≠ some p) : HI K (upd S p o) H t m := by
  have ss : Sub S (upd S p o) := fun a u e => by rw [upd_ne (ne_of_none e hS)]; exact e
  refine ⟨fun a u e => ?_, fun n u e g => ?_, i.off, i.inj, i.out⟩
  · by_cases z : a = p
    · subst z; rw [upd_same] at e; cases e; exact hp
    · rw [upd_ne z] at e; exact i.sub a u e
  · obtain ⟨a, v, e1, e2, e3, e4⟩ := i.stb n u e g
    exact ⟨a, v, e1, by rw [upd_ne (fun z => ht n (by rw [e1, z]))]; exact e2, e3, e4.mono ss (.refl t)⟩
/-- it goes into the store -/
theorem store_ob {p : Addr} {u : HO} {o : Ob} (i : HI K S H t m) (hS : S p = none) (hp : H p = some u) (ht : ∀ n, t n ≠ some p) (hd : ObR K S t u o) :
    HI K S H (fun n => if n = m.length then some p else t n) (m ++ [o]) ∧ TSub t (fun n => if n = m.length then some p else t n) := by
  have ts : TSub t (fun n => if n = m.length then some p else t n) := fun n a e => by
    by_cases z : n = m.length
    · rw [i.out n (by omega)] at e; cases e
    · simp only [z, if_false]; exact e
  refine ⟨⟨i.sub, fun n u' e g => ?_, fun n a e => ?_, fun n k a e g => ?_, fun n e => ?_⟩, ts⟩
  · by_cases z : n < m.length
    · rw [List.getElem?_append_left z] at e
      obtain ⟨a, v, e1, e2, e3, e4⟩ := i.stb n u' e g
      exact ⟨a, v, ts _ _ e1, e2, e3, e4.mono (.refl S) ts⟩
    · by_cases z' : n = m.length
      · subst z'
        simp at e
        subst e
        exact ⟨p, u, by simp, hS, hp, hd.mono (.refl S) ts⟩
      · rw [List.getElem?_eq_none (by simp; omega)] at e; cases e
  · by_cases z : n = m.length
    · simp [z] at e; subst e; rw [hp]; simp
    · simp [z] at e; exact i.off n a e
  · by_cases z : n = m.length <;> by_cases z' : k = m.length
    · omega
    · simp [z] at e; simp [z'] at g; subst e; exact absurd g (ht k)
    · simp [z] at e; simp [z'] at g; subst g; exact absurd e (ht n)
    · simp [z] at e; simp [z'] at g; exact i.inj n k a e g
  · have h1 : m.length + 1 ≤ n := by simpa using e
    have z : n ≠ m.length := by omega
    simp only [z, if_false]
    exact i.out n (by omega)
theorem store_hi {p : Addr} {vs : List V} {xs : List D} (i : HI K S H t m) (hS : S p = none) (hp : H p = some (.lst vs)) (ht : ∀ n, t n ≠ some p) (hd : DRs K S t vs xs) :
    HI K S H (fun n => if n = m.length then some p else t n) (m ++ [.lst xs]) ∧ TSub t (fun n => if n = m.length then some p else t n) := store_ob i hS hp ht (.lst hd)
/-- a thing of the store is changed -/
theorem sto_ob {n : Nat} {p : Addr} {u : HO} {o o' : Ob} (i : HI K S H t m) (ht : t n = some p) (hm : m[n]? = some o') (hg : o' ≠ .gone) (hd : ObR K S t u o) : HI K S (upd H p u) t (m.set n o) ∧ Stp S H t S (upd H p u) t := by
  have hp := i.off n p ht
  have hS : S p = none := by
    obtain ⟨a, v, e1, e2, _⟩ := i.stb n _ hm hg
    rw [ht] at e1
    cases e1
    exact e2
  refine ⟨⟨fun a u e => ?_, fun k u' e g => ?_, fun k a e => ?_, i.inj, fun k e => i.out k (by simpa using e)⟩, ⟨fun a u e hn => ?_, fun a e => ?_, fun a e => rfl, .refl t, fun n a e g => by rw [g] at e; cases e⟩⟩
  · rw [upd_ne (ne_of_none e hS)]; exact i.sub a u e
  · by_cases z : k = n
    · subst z
      by_cases hl : k < m.length
      · rw [List.getElem?_set_self hl] at e
        cases e
        exact ⟨p, u, ht, hS, upd_same, hd⟩
      · rw [List.getElem?_eq_none (by simpa using hl)] at e; cases e
    · rw [List.getElem?_set_ne (Ne.symm z)] at e
      obtain ⟨a, v, e1, e2, e3, e4⟩ := i.stb k u' e g
      exact ⟨a, v, e1, e2, by rw [upd_ne (fun q => z (i.inj k n p (by rw [e1, q]) ht))]; exact e3, e4⟩
  · have e2 := i.off k a e
    by_cases z : a = p
    · subst z; rw [upd_same]; simp
    · rw [upd_ne z]; exact e2
  · rw [upd_ne (fun z => hn n (by rw [ht, z]))]; exact e
  · by_cases z : a = p
    · subst z; rw [upd_same]; simp
    · rw [upd_ne z]; exact e
theorem sto_hi {n : Nat} {p : Addr} {vs : List V} {xs ys : List D} (i : HI K S H t m) (ht : t n = some p) (hm : m[n]? = some (.lst ys)) (hd : DRs K S t vs xs) : HI K S (upd H p (.lst vs)) t (m.set n (.lst xs)) ∧ Stp S H t S (upd H p (.lst vs)) t :=
  sto_ob i ht hm (by simp) (.lst hd)
end

/-! ### the slots -/
/-- a list of one's own, at a -/
structure OwnAt (K : PySem.W.Frag) (S H : Hp) (t : Th) (a : Addr) (d : D) : Prop where
  off : S a = none
  nt : ∀ n, t n ≠ some a
  at_ : ∃ xs vs, d = .lst xs ∧ H a = some (.lst vs) ∧ DRs K S t vs xs
/-- within an except suite: where the error stands, its own dict, its fields' names -/
abbrev Gh := Option (Addr × Addr × List Str)
structure XAt (K : PySem.W.Frag) (x : Gh) (S : Hp) (t : Th) (v : V) (fs : List D) : Prop where
  ex : ∃ a d ns vs, x = some (a, d, ns) ∧ v = .ref a ∧ S d = some (.xd (ns.zip vs)) ∧ DRs K S t vs fs ∧ vs.length = ns.length
structure SI (K : PySem.W.Frag) (x : Gh) (S H : Hp) (t : Th) (m : Store) (σ : St) (e : Env) : Prop where
  hi : HI K S H t m
  len : σ.length = e.length
  dat : ∀ (i : Nat) d, e[i]? = some (.dat d) → ∃ v, σ[i]? = some (some v) ∧ DR K S t v d
  own : ∀ (i : Nat) d, e[i]? = some (.own d) → ∃ a, σ[i]? = some (some (.ref a)) ∧ OwnAt K S H t a d
  apart : ∀ (i j : Nat) d c a, e[i]? = some (.own d) → e[j]? = some (.own c) → σ[i]? = some (some (.ref a)) → σ[j]? = some (some (.ref a)) → i = j
  exn : ∀ (i : Nat) c fs, e[i]? = some (.exn c fs) → ∃ v, σ[i]? = some (some v) ∧ XAt K x S t v fs
section
variable {K : PySem.W.Frag} {x : Gh} {S S' S2 H H' H2 : Hp} {t t' t2 : Th} {m m' : Store} {σ : St} {e : Env}
theorem OwnAt.there {a : Addr} {d : D} (h : OwnAt K S H t a d) : H a ≠ none := by
  obtain ⟨xs, vs, _, e, _⟩ := h.at_
  rw [e]; simp
theorem OwnAt.stp {a : Addr} {d : D} (i : HI K S H t m) (p : Stp S H t S' H' t') (h : OwnAt K S H t a d) : OwnAt K S' H' t' a d := by
  have th := h.there
  obtain ⟨xs, vs, rfl, e, r⟩ := h.at_
  exact ⟨(p.hs a th).trans h.off, p.offs th h.nt, xs, vs, rfl, p.keep a _ e h.nt, r.stp i p⟩
theorem XAt.mono {v : V} {fs : List D} (e : Sub S S') (f : TSub t t') (h : XAt K x S t v fs) : XAt K x S' t' v fs := by
  obtain ⟨a, d, ns, vs, h1, h2, h3, h4, h5⟩ := h.ex
  exact ⟨a, d, ns, vs, h1, h2, e _ _ h3, h4.mono e f, h5⟩
theorem XAt.stp {v : V} {fs : List D} (i : HI K S H t m) (p : Stp S H t S' H' t') (h : XAt K x S t v fs) : XAt K x S' t' v fs := h.mono (i.ssub p) p.th
theorem SI.stp (i : SI K x S H t m σ e) (p : Stp S H t S' H' t') (h : HI K S' H' t' m') : SI K x S' H' t' m' σ e :=
  ⟨h, i.len, fun k d q => let ⟨v, h1, h2⟩ := i.dat k d q; ⟨v, h1, h2.stp i.hi p⟩, fun k d q => let ⟨a, h1, h2⟩ := i.own k d q; ⟨a, h1, h2.stp i.hi p⟩, i.apart, fun k c fs q => let ⟨v, h1, h2⟩ := i.exn k c fs q; ⟨v, h1, h2.stp i.hi p⟩⟩
end
end Dn
/-! What an expression computes, by data. -/
namespace Dn
open PySem L2

/-- K what the top has written; C the defs, by number; X the own errors: where the class stands, its fields -/
structure Cfg where
  K : PySem.W.Frag
  C : Orc
  X : Nat → Option (Addr × List Str)
  x : Gh := none
/-- an error and its own dict -/
def EXR (G : Cfg) (S H : Hp) (t : Th) (c : Nat) (fs : List D) (cls : Value) (dx : Option Addr) : Prop :=
  ∃ C ns d vs, G.X c = some (C, ns) ∧ cls = .ref C ∧ dx = some d ∧ S d = some (.xd (ns.zip vs)) ∧ DRs G.K S t vs fs ∧ vs.length = ns.length
/-- good by W (errors) and P (values) -/
def Gd {α : Type} (G : Cfg) (W : WX) (σ : St) (S H : Hp) (t : Th) (r : R α) (P : Hp → Hp → Th → Store → α → Prop) : Prop := match r with
  | .ok a m' => ∀ S' H' t', Stp S H t S' H' t' → HI G.K S' H' t' m' → P S' H' t' m' a
  | .exc c fs m' => ∀ S' H' t' cls dx, Stp S H t S' H' t' → HI G.K S' H' t' m' → EXR G S' H' t' c fs cls dx → W cls dx σ H'
  | .stuck => False
section
variable {G : Cfg} {W : WX} {σ : St} {S S1 H H1 : Hp} {t t1 : Th} {m m1 : Store} {α β : Type}
theorem Gd.from {r : R α} {P : Hp → Hp → Th → Store → α → Prop} (p : Stp S H t S1 H1 t1) (h : Gd G W σ S H t r P) : Gd G W σ S1 H1 t1 r P := by
  cases r with
  | ok a m' => exact fun S' H' t' q i => h S' H' t' (p.trans q) i
  | exc c fs m' => exact fun S' H' t' cls dx q i x => h S' H' t' cls dx (p.trans q) i x
  | stuck => exact h
theorem Gd.split {r : R α} {f : α → Store → R β} {P : Hp → Hp → Th → Store → β → Prop} (h : Gd G W σ S H t (r.bind f) P) :
    Gd G W σ S H t r (fun S1 H1 t1 m1 a => Stp S H t S1 H1 t1 ∧ HI G.K S1 H1 t1 m1 ∧ Gd G W σ S1 H1 t1 (f a m1) P) := by
  cases r with
  | ok a m' => exact fun S' H' t' q i => ⟨q, i, Gd.from q h⟩
  | exc c fs m' => exact h
  | stuck => exact h
theorem Gd.imp {r : R α} {P P' : Hp → Hp → Th → Store → α → Prop} (h : Gd G W σ S H t r P) (w : ∀ S' H' t' m' a, Stp S H t S' H' t' → HI G.K S' H' t' m' → P S' H' t' m' a → P' S' H' t' m' a) : Gd G W σ S H t r P' := by
  cases r with
  | ok a m' => exact fun S' H' t' q i => w _ _ _ _ _ q i (h S' H' t' q i)
  | exc c fs m' => exact h
  | stuck => exact h
theorem Gd.now {a : α} {P : Hp → Hp → Th → Store → α → Prop} (h : Gd G W σ S H t (.ok a m) P) (i : HI G.K S H t m) : P S H t m a := h S H t .refl i
end

/-- what may be read: settled, or a list of one's own -/
def BR (K : PySem.W.Frag) (S H : Hp) (t : Th) (v : V) (d : D) : Prop := DR K S t v d ∨ ∃ a, v = .ref a ∧ OwnAt K S H t a d
inductive BRs (K : PySem.W.Frag) (S H : Hp) (t : Th) : List V → List D → Prop
  | nil : BRs K S H t [] []
  | cons {v : V} {vs : List V} {d : D} {ds : List D} : BR K S H t v d → BRs K S H t vs ds → BRs K S H t (v :: vs) (d :: ds)
section
variable {K : PySem.W.Frag} {S S' S2 H H' H2 : Hp} {t t' t2 : Th} {m m' : Store}
theorem BR.stp {v : V} {d : D} (i : HI K S H t m) (p : Stp S H t S' H' t') (h : BR K S H t v d) : BR K S' H' t' v d := by
  rcases h with h | ⟨a, e, h⟩
  · exact .inl (h.stp i p)
  · exact .inr ⟨a, e, h.stp i p⟩
theorem BRs.stp {v : List V} {d : List D} (i : HI K S H t m) (p : Stp S H t S' H' t') (h : BRs K S H t v d) : BRs K S' H' t' v d := by
  induction h with
  | nil => exact .nil
  | cons h _ ih => exact .cons (h.stp i p) ih
theorem BRs.of {vs : List V} : ∀ {ds : List D}, DRs K S t vs ds → BRs K S H t vs ds := by
  induction vs with
  | nil => intro ds h; cases h; exact .nil
  | cons v vs ih => intro ds h; cases h with | cons h hs => exact .cons (.inl h) (ih hs)
end

section
variable (G : Cfg) (W : WX)
def semE (f : EvE) : TE := fun σ H Q => ∃ S t m e, SI G.K G.x S H t m σ e ∧ Gd G W σ S H t (f G.C e m) fun S' H' t' _ d => ∀ v, DR G.K S' t' v d → Q v H'
def semB (f : EvE) : TE := fun σ H Q => ∃ S t m e, SI G.K G.x S H t m σ e ∧ Gd G W σ S H t (f G.C e m) fun S' H' t' _ d => ∀ v, BR G.K S' H' t' v d → Q v H'
/-- a new list -/
def semF (f : EvA) : TE := fun σ H Q => ∃ S t m e, SI G.K G.x S H t m σ e ∧ Gd G W σ S H t (f G.C e m) fun S' H' t' _ xs => ∀ p, OwnAt G.K S' H' t' p (.lst xs) → H p = none → Q (.ref p) H'
def semT (f : EvT) : TT := fun σ H Q => ∃ S t m e, SI G.K G.x S H t m σ e ∧ Gd G W σ S H t (f G.C e m) fun _ H' _ _ b => Q b H'
def semA (f : EvA) : TA := fun σ H Q => ∃ S t m e, SI G.K G.x S H t m σ e ∧ Gd G W σ S H t (f G.C e m) fun S' H' t' _ ds => ∀ vs, DRs G.K S' t' vs ds → Q vs H'
def semAB (f : EvA) : TA := fun σ H Q => ∃ S t m e, SI G.K G.x S H t m σ e ∧ Gd G W σ S H t (f G.C e m) fun S' H' t' _ ds => ∀ vs, BRs G.K S' H' t' vs ds → Q vs H'
end

theorem _root_.L2.PE.imp {X : Cx} {e : Expr} {t t' : TE} (h : PE X e t) (w : ∀ σ H Q, t' σ H Q → t σ H Q) : PE X e t' := ⟨fun pins s σ H Q I q => h.run pins s σ H Q I (w σ H Q q)⟩
theorem _root_.L2.PT.imp {X : Cx} {e : Expr} {t t' : TT} (h : PT X e t) (w : ∀ σ H Q, t' σ H Q → t σ H Q) : PT X e t' := ⟨fun pins s σ H Q I q => h.run pins s σ H Q I (w σ H Q q)⟩
theorem _root_.L2.PA.imp {X : Cx} {e : List Expr} {t t' : TA} (h : PA X e t) (w : ∀ σ H Q, t' σ H Q → t σ H Q) : PA X e t' := ⟨fun pos pins s σ H Q I q => h.run pos pins s σ H Q I (w σ H Q q)⟩

/-! ### combinators -/
@[simp] def varE (i : Nat) : EvE := fun _ e m => match e[i]? with
  | some (.dat d) => .ok d m
  | _ => .stuck
@[simp] def brwE (i : Nat) : EvE := fun _ e m => match e[i]? with
  | some (.dat d) => .ok d m
  | some (.own d) => .ok d m
  | _ => .stuck
@[simp] def conE (d : D) : EvE := fun _ _ m => .ok d m
@[simp] def bin (g : Store → D → D → Option D) (a b : EvE) : EvE := fun C e m => (a C e m).bind fun x m1 => (b C e m1).bind fun y m2 => .of (g m2 x y) m2
@[simp] def una (g : Store → D → Option D) (a : EvE) : EvE := fun C e m => (a C e m).bind fun x m1 => .of (g m1 x) m1
@[simp] def nilA : EvA := fun _ _ m => .ok [] m
@[simp] def consA (a : EvE) (r : EvA) : EvA := fun C e m => (a C e m).bind fun x m1 => (r C e m1).bind fun xs m2 => .ok (x :: xs) m2
@[simp] def tupE (a : EvA) : EvE := fun C e m => (a C e m).bind fun xs m1 => .ok (.tup xs) m1
@[simp] def frzE (a : EvA) : EvE := fun C e m => (a C e m).bind fun xs m1 => .ok (.lst xs) m1
@[simp] def fnE (f : Nat) (a : EvA) : EvE := fun C e m => (a C e m).bind fun xs m1 => C f xs m1
@[simp] def bltE (g : Store → List D → Option D) (a : EvA) : EvE := fun C e m => (a C e m).bind fun xs m1 => .of (g m1 xs) m1
@[simp] def bltF (g : Store → List D → Option (List D)) (a : EvA) : EvA := fun C e m => (a C e m).bind fun xs m1 => .of (g m1 xs) m1
@[simp] def binF (g : Store → D → D → Option (List D)) (a b : EvE) : EvA := fun C e m => (a C e m).bind fun x m1 => (b C e m1).bind fun y m2 => .of (g m2 x y) m2
@[simp] def ifE (c : EvT) (a b : EvE) : EvE := fun C e m => (c C e m).bind fun k m1 => if k = true then a C e m1 else b C e m1
@[simp] def andT (a b : EvT) : EvT := fun C e m => (a C e m).bind fun k m1 => if k = true then b C e m1 else .ok false m1
@[simp] def orT (a b : EvT) : EvT := fun C e m => (a C e m).bind fun k m1 => if k = true then .ok true m1 else b C e m1
@[simp] def notT (a : EvT) : EvT := fun C e m => (a C e m).bind fun k m1 => .ok (!k) m1
@[simp] def isB : D → Option Bool
  | .bl b => some b
  | _ => none
/-- a value that is True or False, as a test -/
@[simp] def blT (a : EvE) : EvT := fun C e m => (a C e m).bind fun x m1 => .of (isB x) m1
@[simp] def andE (a b : EvE) : EvE := fun C e m => (a C e m).bind fun x m1 => (R.of (isB x) m1).bind fun k m1 => if k = true then b C e m1 else .ok (.bl false) m1
@[simp] def orE (a b : EvE) : EvE := fun C e m => (a C e m).bind fun x m1 => (R.of (isB x) m1).bind fun k m1 => if k = true then .ok (.bl true) m1 else b C e m1
@[simp] def notE (a : EvE) : EvE := fun C e m => (a C e m).bind fun x m1 => (R.of (isB x) m1).bind fun k m1 => .ok (.bl (!k)) m1
/-- a op b op' c -/
@[simp] def chainE (g g' : Store → D → D → Option D) (a b c : EvE) : EvE := fun C e m => (a C e m).bind fun x m1 => (b C e m1).bind fun y m2 => (R.of (g m2 x y) m2).bind fun z m2 => (R.of (isB z) m2).bind fun k m2 =>
  if k = true then (c C e m2).bind fun w m3 => .of (g' m3 y w) m3 else .ok (.bl false) m2

section
variable {X : Cx} {G : Cfg} {W : WX} {a b c : Expr} {es : List Expr} {fa fb fc : EvE} {fs : EvA} {pos : Pos}
/-! ### names, constants -/
theorem de_sub {e : Expr} {f : EvE} (h : PE X e (semE G W f)) : PE X e (semB G W f) := h.imp fun σ H Q ⟨S, t, m, e, si, g⟩ => ⟨S, t, m, e, si, g.imp fun _ _ _ _ _ _ _ q v r => q v (.inl r)⟩
theorem de_brw {i : Nat} {x : Str} (hN : X.N[i]? = some x) (hv : Vis X.env.scope x) (hd : (x == ("__debug__" : Str)) = false := by decide) (hcd : (x == ("__classdict__" : Str)) = false := by decide) : PE X (.Name x pos) (semB G W (brwE i)) := by
  refine (pe_var (i := i) hN hv hd hcd).imp fun σ H Q ⟨S, t, m, e, si, g⟩ => ?_
  unfold brwE at g
  split at g
  · rename_i d h
    obtain ⟨v, h1, h2⟩ := si.dat i d h
    exact ⟨v, h1, g.now si.hi v (.inl h2)⟩
  · rename_i d h
    obtain ⟨v, h1, h2⟩ := si.own i d h
    exact ⟨_, h1, g.now si.hi _ (.inr ⟨v, rfl, h2⟩)⟩
  · exact g.elim
theorem de_var {i : Nat} {x : Str} (hN : X.N[i]? = some x) (hv : Vis X.env.scope x) (hd : (x == ("__debug__" : Str)) = false := by decide) (hcd : (x == ("__classdict__" : Str)) = false := by decide) : PE X (.Name x pos) (semE G W (varE i)) := by
  refine (pe_var (i := i) hN hv hd hcd).imp fun σ H Q ⟨S, t, m, e, si, g⟩ => ?_
  unfold varE at g
  split at g
  · rename_i d h
    obtain ⟨v, h1, h2⟩ := si.dat i d h
    exact ⟨v, h1, g.now si.hi v h2⟩
  · exact g.elim
theorem de_con {v : V} {d : D} {e : Expr} (h : PE X e (tC v)) (r : ∀ S t, DR G.K S t v d) : PE X e (semE G W (conE d)) :=
  h.imp fun σ H Q ⟨S, t, m, e, si, g⟩ => g.now si.hi v (r S t)
theorem de_int {i j pos} : PE X (.Constant (.int i) j pos) (semE G W (conE (.int i))) := de_con pe_int fun _ _ => .int i
theorem de_bl {b j pos} : PE X (.Constant (.bool b) j pos) (semE G W (conE (.bl b))) := de_con pe_bl fun _ _ => .bl b
theorem de_non {j pos} : PE X (.Constant .none j pos) (semE G W (conE .non)) := de_con pe_non fun _ _ => .non
theorem de_str {x j pos} : PE X (.Constant (.str x) j pos) (semE G W (conE (.str x))) := de_con pe_str fun _ _ => .str x

/-! ### operators -/
/-- an operator by data -/
def OpD (X : Cx) (f : Value → Value → Sem Value) (g : Store → D → D → Option D) : Prop :=
  ∃ r : R2, OpR X f r ∧ ∀ S H t m x y d e z (Q : VK), HI X.K S H t m → BR X.K S H t x d → BR X.K S H t y e → g m d e = some z → (∀ v S' H', Stp S H t S' H' t → HI X.K S' H' t m → DR X.K S' t v z → Q v H') → r x y H Q
def IxD (X : Cx) (g : Store → D → D → Option D) : Prop :=
  ∃ r : R2, IxR X r ∧ ∀ S H t m x y d e z (Q : VK), HI X.K S H t m → BR X.K S H t x d → BR X.K S H t y e → g m d e = some z → (∀ v S' H', Stp S H t S' H' t → HI X.K S' H' t m → DR X.K S' t v z → Q v H') → r x y H Q
def UnD (X : Cx) (f : Value → Sem Value) (g : Store → D → Option D) : Prop :=
  ∃ r : V → Hp → VK → Prop, UnR X f r ∧ ∀ S H t m x d z (Q : VK), HI X.K S H t m → BR X.K S H t x d → g m d = some z → (∀ v S' H', Stp S H t S' H' t → HI X.K S' H' t m → DR X.K S' t v z → Q v H') → r x H Q
/-- .. that makes a new list -/
def OpF (X : Cx) (f : Value → Value → Sem Value) (g : Store → D → D → Option (List D)) : Prop :=
  ∃ r : R2, OpR X f r ∧ ∀ S H t m x y d e zs (Q : VK), HI X.K S H t m → BR X.K S H t x d → BR X.K S H t y e → g m d e = some zs → (∀ p S' H', Stp S H t S' H' t → HI X.K S' H' t m → OwnAt X.K S' H' t p (.lst zs) → H p = none → Q (.ref p) H') → r x y H Q
/-- a call of a built-in by data -/
def CallD (X : Cx) (f : Value) (g : Store → List D → Option D) : Prop :=
  ∃ r : List V → Hp → VK → Prop, CallR X f r ∧ ∀ S H t m xs ds z (Q : VK), HI X.K S H t m → BRs X.K S H t xs ds → g m ds = some z → (∀ v S' H', Stp S H t S' H' t → HI X.K S' H' t m → DR X.K S' t v z → Q v H') → r xs H Q
def CallF (X : Cx) (f : Value) (g : Store → List D → Option (List D)) : Prop :=
  ∃ r : List V → Hp → VK → Prop, CallR X f r ∧ ∀ S H t m xs ds zs (Q : VK), HI X.K S H t m → BRs X.K S H t xs ds → g m ds = some zs → (∀ p S' H', Stp S H t S' H' t → HI X.K S' H' t m → OwnAt X.K S' H' t p (.lst zs) → H p = none → Q (.ref p) H') → r xs H Q
@[simp] def orO {α β γ δ : Type} (g g' : α → β → γ → Option δ) : α → β → γ → Option δ := fun a b c => match g a b c with
  | some z => some z
  | none => g' a b c
theorem OpD.or {f : Value → Value → Sem Value} {g g' : Store → D → D → Option D} (h : OpD X f g) (h' : OpD X f g') : OpD X f (orO g g') := by
  obtain ⟨r, r1, r2⟩ := h
  obtain ⟨r', r1', r2'⟩ := h'
  refine ⟨_, r1.or r1', fun S H t m x y d e z Q i bx b_y hz q => ?_⟩
  unfold orO at hz
  split at hz
  · rename_i w hw
    exact .inl (r2 S H t m x y d e z Q i bx b_y (hw.trans hz) q)
  · exact .inr (r2' S H t m x y d e z Q i bx b_y hz q)
theorem IxD.or {g g' : Store → D → D → Option D} (h : IxD X g) (h' : IxD X g') : IxD X (orO g g') := by
  obtain ⟨r, r1, r2⟩ := h
  obtain ⟨r', r1', r2'⟩ := h'
  refine ⟨_, r1.or r1', fun S H t m x y d e z Q i bx b_y hz q => ?_⟩
  unfold orO at hz
  split at hz
  · rename_i w hw
    exact .inl (r2 S H t m x y d e z Q i bx b_y (hw.trans hz) q)
  · exact .inr (r2' S H t m x y d e z Q i bx b_y hz q)

/-- two operands, then what the operator makes of them -/
theorem sem2 {g : Store → D → D → Option D} {r : R2} {σ : St} {H : Hp} {Q : VK} (hK : X.K = G.K)
    (hr : ∀ S H t m x y d e z (Q : VK), HI X.K S H t m → BR X.K S H t x d → BR X.K S H t y e → g m d e = some z → (∀ v S' H', Stp S H t S' H' t → HI X.K S' H' t m → DR X.K S' t v z → Q v H') → r x y H Q)
    (h : semE G W (bin g fa fb) σ H Q) : tOp r (semB G W fa) (semB G W fb) σ H Q := by
  obtain ⟨S, t, m, e, si, h⟩ := h
  refine ⟨S, t, m, e, si, (Gd.split h).imp fun S1 H1 t1 m1 x p1 i1 ⟨_, _, h1⟩ v rv => ?_⟩
  refine ⟨S1, t1, m1, e, si.stp p1 i1, (Gd.split h1).imp fun S2 H2 t2 m2 y p2 i2 ⟨_, _, h2⟩ w rw' => ?_⟩
  cases hz : g m2 x y with
  | none => rw [hz] at h2; exact h2.elim
  | some z =>
    rw [hz] at h2
    exact hr S2 H2 t2 m2 v w x y z Q (hK ▸ i2) (hK ▸ rv.stp i1 p2) (hK ▸ rw') hz fun u S' H' p i ru => h2 S' H' t2 p (hK ▸ i) u (hK ▸ ru)
theorem de_bin {op : Operator} {g : Store → D → D → Option D} (ho : OpD X (binaryOp op) g) (hK : X.K = G.K) (ha : PE X a (semB G W fa)) (hb : PE X b (semB G W fb)) : PE X (.BinOp a op b pos) (semE G W (bin g fa fb)) := by
  obtain ⟨r, h1, h2⟩ := ho
  exact (pe_op h1 ha hb).imp fun σ H Q h => sem2 hK h2 h
theorem de_cmp {op : CmpOp} {g : Store → D → D → Option D} (ho : OpD X (compareOp op) g) (hK : X.K = G.K) (ha : PE X a (semB G W fa)) (hb : PE X b (semB G W fb)) (hm : behindInMarks op b = false) : PE X (.Compare a [op] [b] pos) (semE G W (bin g fa fb)) := by
  obtain ⟨r, h1, h2⟩ := ho
  exact (pe_cmpR h1 ha hb hm).imp fun σ H Q h => sem2 hK h2 h
theorem de_ix {g : Store → D → D → Option D} (ho : IxD X g) (hK : X.K = G.K) (ha : PE X a (semB G W fa)) (hb : PE X b (semB G W fb)) (hs : PlainIx b) : PE X (.Subscript a b pos) (semE G W (bin g fa fb)) := by
  obtain ⟨r, h1, h2⟩ := ho
  exact (pe_ix h1 ha hb hs).imp fun σ H Q h => sem2 hK h2 h
theorem de_un {op : UnaryOp} {g : Store → D → Option D} (ho : UnD X (unaryOp op) g) (hK : X.K = G.K) (ha : PE X a (semB G W fa)) : PE X (.UnaryOp op a pos) (semE G W (una g fa)) := by
  obtain ⟨r, h1, h2⟩ := ho
  refine (pe_un h1 ha).imp fun σ H Q ⟨S, t, m, e, si, h⟩ => ?_
  refine ⟨S, t, m, e, si, (Gd.split h).imp fun S1 H1 t1 m1 x p1 i1 ⟨_, _, h2'⟩ v rv => ?_⟩
  cases hz : g m1 x with
  | none => rw [hz] at h2'; exact h2'.elim
  | some z =>
    rw [hz] at h2'
    exact h2 S1 H1 t1 m1 v x z Q (hK ▸ i1) (hK ▸ rv) hz fun u S' H' p i ru => h2' S' H' t1 p (hK ▸ i) u (hK ▸ ru)
theorem sem2F {g : Store → D → D → Option (List D)} {r : R2} {σ : St} {H : Hp} {Q : VK} (hK : X.K = G.K)
    (hr : ∀ S H t m x y d e zs (Q : VK), HI X.K S H t m → BR X.K S H t x d → BR X.K S H t y e → g m d e = some zs → (∀ p S' H', Stp S H t S' H' t → HI X.K S' H' t m → OwnAt X.K S' H' t p (.lst zs) → H p = none → Q (.ref p) H') → r x y H Q)
    (h : semF G W (binF g fa fb) σ H Q) : tOp r (semB G W fa) (semB G W fb) σ H Q := by
  obtain ⟨S, t, m, e, si, h⟩ := h
  refine ⟨S, t, m, e, si, (Gd.split h).imp fun S1 H1 t1 m1 x p1 i1 ⟨_, _, h1⟩ v rv => ?_⟩
  refine ⟨S1, t1, m1, e, si.stp p1 i1, (Gd.split h1).imp fun S2 H2 t2 m2 y p2 i2 ⟨_, _, h2⟩ w rw' => ?_⟩
  cases hz : g m2 x y with
  | none => rw [hz] at h2; exact h2.elim
  | some z =>
    rw [hz] at h2
    refine hr S2 H2 t2 m2 v w x y z Q (hK ▸ i2) (hK ▸ rv.stp i1 p2) (hK ▸ rw') hz fun u S' H' p i ru hn => h2 S' H' t2 p (hK ▸ i) u (hK ▸ ru) ?_
    cases q : H u with
    | none => rfl
    | some o => exact absurd hn (p2.dom u (p1.dom u (by rw [q]; simp)))
theorem df_bin {op : Operator} {g : Store → D → D → Option (List D)} (ho : OpF X (binaryOp op) g) (hK : X.K = G.K) (ha : PE X a (semB G W fa)) (hb : PE X b (semB G W fb)) : PE X (.BinOp a op b pos) (semF G W (binF g fa fb)) := by
  obtain ⟨r, h1, h2⟩ := ho
  exact (pe_op h1 ha hb).imp fun σ H Q h => sem2F hK h2 h

/-! ### tests -/
theorem dt_val {e : Expr} {f : EvE} (h : PE X e (semE G W f)) (he : ∀ whole, isTrue e X.env whole = (do let v ← whole; standAt e.pos; holding [v] (truthy v)) := by intro _; rfl) : PT X e (semT G W (blT f)) := by
  refine (pt_val h he).imp fun σ H Q ⟨S, t, m, e, si, g⟩ => ⟨S, t, m, e, si, (Gd.split g).imp fun S1 H1 t1 m1 x p1 i1 ⟨_, _, h2⟩ v rv => ?_⟩
  cases x with
  | bl b => cases rv; exact ⟨b, rfl, Gd.now h2 i1⟩
  | _ => exact h2.elim
theorem dt_cmp {op : CmpOp} {g : Store → D → D → Option D} (ho : OpD X (compareOp op) g) (hK : X.K = G.K) (ha : PE X a (semB G W fa)) (hb : PE X b (semB G W fb)) (hm : behindInMarks op b = false) : PT X (.Compare a [op] [b] pos) (semT G W (blT (bin g fa fb))) := by
  obtain ⟨r, h1, h2⟩ := ho
  refine (pt_cmpR h1 ha hb hm).imp fun σ H Q ⟨S, t, m, e, si, h⟩ => ?_
  refine sem2 (Q := fun x H' => ∃ k, x = .bl k ∧ Q k H') hK h2 ⟨S, t, m, e, si, (Gd.split h).imp fun S1 H1 t1 m1 x p1 i1 ⟨_, _, h2⟩ v rv => ?_⟩
  cases x with
  | bl b => cases rv; exact ⟨b, rfl, Gd.now h2 i1⟩
  | _ => exact h2.elim
variable {ta tb tc : EvT}
theorem dt_not (ha : PT X a (semT G W ta)) : PT X (.UnaryOp .Not a pos) (semT G W (notT ta)) :=
  (pt_not ha).imp fun σ H Q ⟨S, t, m, e, si, g⟩ => ⟨S, t, m, e, si, (Gd.split g).imp fun S1 H1 t1 m1 x p1 i1 ⟨_, _, h2⟩ => h2.now i1⟩
theorem _root_.L2.PW.imp {X : Cx} {e : Expr} {t t' : TT} (h : PW X e t) (w : ∀ σ H Q, t' σ H Q → t σ H Q) : PW X e t' := ⟨fun wh pins s σ H Q I q => h.run wh pins s σ H Q I (w σ H Q q)⟩
theorem dw_and {rest : List Expr} (ha : PT X a (semT G W ta)) (hb : PW X (.BoolOp .And (b :: rest) pos) (semT G W tb)) : PW X (.BoolOp .And (a :: b :: rest) pos) (semT G W (andT ta tb)) := by
  refine (pw_and ha hb).imp fun σ H Q ⟨S, t, m, e, si, g⟩ => ⟨S, t, m, e, si, (Gd.split g).imp fun S1 H1 t1 m1 x p1 i1 ⟨_, _, h2⟩ => ?_⟩
  cases x with
  | true => exact ⟨S1, t1, m1, e, si.stp p1 i1, h2⟩
  | false => exact h2.now i1
theorem dw_or {rest : List Expr} (ha : PT X a (semT G W ta)) (hb : PW X (.BoolOp .Or (b :: rest) pos) (semT G W tb)) : PW X (.BoolOp .Or (a :: b :: rest) pos) (semT G W (orT ta tb)) := by
  refine (pw_or ha hb).imp fun σ H Q ⟨S, t, m, e, si, g⟩ => ⟨S, t, m, e, si, (Gd.split g).imp fun S1 H1 t1 m1 x p1 i1 ⟨_, _, h2⟩ => ?_⟩
  cases x with
  | true => exact h2.now i1
  | false => exact ⟨S1, t1, m1, e, si.stp p1 i1, h2⟩
theorem de_not (ha : PE X a (semE G W fa)) : PE X (.UnaryOp .Not a pos) (semE G W (notE fa)) := by
  refine (pe_not ha).imp fun σ H Q ⟨S, t, m, e, si, g⟩ => ⟨S, t, m, e, si, (Gd.split g).imp fun S1 H1 t1 m1 x p1 i1 ⟨_, _, h2⟩ v rv => ?_⟩
  cases x with
  | bl b => cases rv; exact ⟨b, rfl, Gd.now h2 i1 _ (.bl _)⟩
  | _ => exact h2.elim
theorem de_and {rest : List Expr} (ha : PE X a (semE G W fa)) (hb : PE X (.BoolOp .And (b :: rest) pos) (semE G W fb)) : PE X (.BoolOp .And (a :: b :: rest) pos) (semE G W (andE fa fb)) := by
  refine (pe_and ha hb).imp fun σ H Q ⟨S, t, m, e, si, g⟩ => ⟨S, t, m, e, si, (Gd.split g).imp fun S1 H1 t1 m1 x p1 i1 ⟨_, _, h2⟩ v rv => ?_⟩
  cases x with
  | bl b =>
    cases rv
    refine ⟨b, rfl, ?_⟩
    cases b with
    | true => exact ⟨S1, t1, m1, e, si.stp p1 i1, h2⟩
    | false => exact Gd.now h2 i1 _ (.bl false)
  | _ => exact h2.elim
theorem de_or {rest : List Expr} (ha : PE X a (semE G W fa)) (hb : PE X (.BoolOp .Or (b :: rest) pos) (semE G W fb)) : PE X (.BoolOp .Or (a :: b :: rest) pos) (semE G W (orE fa fb)) := by
  refine (pe_or ha hb).imp fun σ H Q ⟨S, t, m, e, si, g⟩ => ⟨S, t, m, e, si, (Gd.split g).imp fun S1 H1 t1 m1 x p1 i1 ⟨_, _, h2⟩ v rv => ?_⟩
  cases x with
  | bl b =>
    cases rv
    refine ⟨b, rfl, ?_⟩
    cases b with
    | true => exact Gd.now h2 i1 _ (.bl true)
    | false => exact ⟨S1, t1, m1, e, si.stp p1 i1, h2⟩
  | _ => exact h2.elim
theorem de_if (hc : PT X c (semT G W tc)) (ha : PE X a (semE G W fa)) (hb : PE X b (semE G W fb)) : PE X (.IfExp c a b pos) (semE G W (ifE tc fa fb)) := by
  refine (pe_ifExp hc ha hb).imp fun σ H Q ⟨S, t, m, e, si, g⟩ => ⟨S, t, m, e, si, (Gd.split g).imp fun S1 H1 t1 m1 x p1 i1 ⟨_, _, h2⟩ => ?_⟩
  cases x with
  | true => exact ⟨S1, t1, m1, e, si.stp p1 i1, h2⟩
  | false => exact ⟨S1, t1, m1, e, si.stp p1 i1, h2⟩
theorem sem3 {g g' : Store → D → D → Option D} {r r' : R2} {σ : St} {H : Hp} {Q : VK} (hK : X.K = G.K)
    (hr : ∀ S H t m x y d e z (Q : VK), HI X.K S H t m → BR X.K S H t x d → BR X.K S H t y e → g m d e = some z → (∀ v S' H', Stp S H t S' H' t → HI X.K S' H' t m → DR X.K S' t v z → Q v H') → r x y H Q)
    (hr' : ∀ S H t m x y d e z (Q : VK), HI X.K S H t m → BR X.K S H t x d → BR X.K S H t y e → g' m d e = some z → (∀ v S' H', Stp S H t S' H' t → HI X.K S' H' t m → DR X.K S' t v z → Q v H') → r' x y H Q)
    (h : semE G W (chainE g g' fa fb fc) σ H Q) : tChain r r' (semB G W fa) (semB G W fb) (semB G W fc) σ H Q := by
  obtain ⟨S, t, m, e, si, h⟩ := h
  refine ⟨S, t, m, e, si, (Gd.split h).imp fun S1 H1 t1 m1 x p1 i1 ⟨_, _, h1⟩ v rv => ?_⟩
  have si1 := si.stp p1 i1
  refine ⟨S1, t1, m1, e, si1, (Gd.split h1).imp fun S2 H2 t2 m2 y p2 i2 ⟨_, _, h2⟩ w rw' => ?_⟩
  have si2 := si1.stp p2 i2
  cases hz : g m2 x y with
  | none => rw [hz] at h2; exact h2.elim
  | some z =>
    rw [hz] at h2
    refine hr S2 H2 t2 m2 v w x y z _ (hK ▸ i2) (hK ▸ rv.stp i1 p2) (hK ▸ rw') hz fun u S3 H3 p3 i3 ru => ?_
    have i3 : HI G.K S3 H3 t2 m2 := hK ▸ i3
    have si3 := si2.stp p3 i3
    cases z with
    | bl k =>
      cases ru
      refine ⟨k, rfl, ?_⟩
      have h3 := Gd.from p3 h2
      cases k with
      | false => exact Gd.now h3 i3 _ (.bl false)
      | true =>
        have h3 : Gd G W σ S3 H3 t2 ((fc G.C e m2).bind fun w m3 => R.of (g' m3 y w) m3) _ := h3
        refine ⟨S3, t2, m2, e, si3, (Gd.split h3).imp fun S4 H4 t4 m4 c p4 i4 ⟨_, _, h4⟩ c' rc => ?_⟩
        cases hz' : g' m4 y c with
        | none => rw [hz'] at h4; exact h4.elim
        | some z' =>
          rw [hz'] at h4
          exact hr' S4 H4 t4 m4 w c' y c z' Q (hK ▸ i4) (hK ▸ ((rw'.stp i2 p3).stp i3 p4)) (hK ▸ rc) hz' fun u' S' H' p i ru' => h4 S' H' t4 p (hK ▸ i) u' (hK ▸ ru')
    | _ => exact h2.elim
end
end Dn
/-! Arguments, displays, calls. -/
namespace Dn
open PySem L2

section
variable {X : Cx} {G : Cfg} {W : WX} {a b c : Expr} {es : List Expr} {fa fb fc : EvE} {fs : EvA} {pos : Pos}
/-! ### arguments -/
theorem da_nil : PA X [] (semA G W nilA) := (pa_nil (X := X)).imp fun σ H Q ⟨S, t, m, e, si, g⟩ => g.now si.hi [] .nil
theorem da_cons (ha : PE X a (semE G W fa)) (hr : PA X es (semA G W fs)) (hs : starEach (a :: es) X.env = (false, eval a X.env) :: starEach es X.env := by rfl) : PA X (a :: es) (semA G W (consA fa fs)) := by
  refine (pa_cons ha hr hs).imp fun σ H Q ⟨S, t, m, e, si, g⟩ => ⟨S, t, m, e, si, (Gd.split g).imp fun S1 H1 t1 m1 x p1 i1 ⟨_, _, h1⟩ v rv => ?_⟩
  refine ⟨S1, t1, m1, e, si.stp p1 i1, (Gd.split h1).imp fun S2 H2 t2 m2 xs p2 i2 ⟨_, _, h2⟩ vs rs => ?_⟩
  exact Gd.now h2 i2 (v :: vs) (.cons (rv.stp i1 p2) rs)
theorem db_nil : PA X [] (semAB G W nilA) := (pa_nil (X := X)).imp fun σ H Q ⟨S, t, m, e, si, g⟩ => g.now si.hi [] .nil
theorem db_cons (ha : PE X a (semB G W fa)) (hr : PA X es (semAB G W fs)) (hs : starEach (a :: es) X.env = (false, eval a X.env) :: starEach es X.env := by rfl) : PA X (a :: es) (semAB G W (consA fa fs)) := by
  refine (pa_cons ha hr hs).imp fun σ H Q ⟨S, t, m, e, si, g⟩ => ⟨S, t, m, e, si, (Gd.split g).imp fun S1 H1 t1 m1 x p1 i1 ⟨_, _, h1⟩ v rv => ?_⟩
  refine ⟨S1, t1, m1, e, si.stp p1 i1, (Gd.split h1).imp fun S2 H2 t2 m2 xs p2 i2 ⟨_, _, h2⟩ vs rs => ?_⟩
  exact Gd.now h2 i2 (v :: vs) (.cons (rv.stp i1 p2) rs)

/-! ### displays -/
/-- at most this many items are written in a display -/
def short {α : Type} (xs : List α) : Bool := decide (xs.length ≤ 100000)
theorem short_le {α : Type} {xs : List α} (h : short xs = true) : xs.length ≤ sizeLine := by
  have := of_decide_eq_true h
  exact Nat.le_trans this (by decide)
@[simp] def tupG : Store → List D → Option D := fun _ xs => if short xs = true then some (.tup xs) else none
@[simp] def lstG : Store → List D → Option (List D) := fun _ xs => if short xs = true then some xs else none
theorem de_tup {x1} (h : PA X es (semA G W fs)) : PE X (.Tuple es x1 pos) (semE G W (bltE tupG fs)) := by
  refine (pe_tup h).imp fun σ H Q ⟨S, t, m, e, si, g⟩ => ⟨S, t, m, e, si, (Gd.split g).imp fun S1 H1 t1 m1 xs p1 i1 ⟨_, _, h1⟩ vs rs => ?_⟩
  unfold tupG at h1
  by_cases c : short xs = true
  · rw [if_pos c] at h1
    refine ⟨by rw [rs.length]; exact short_le c, fun p hp => ?_⟩
    obtain ⟨i2, p2⟩ := new_hi (o := .tup vs) i1 hp
    exact h1 _ _ _ p2 i2 _ (.tup (SqT.of upd_same) (rs.stp i1 p2))
  · rw [if_neg c] at h1; exact h1.elim
theorem df_lst (h : PA X es (semA G W fs)) : PE X (.List es pos) (semF G W (bltF lstG fs)) := by
  refine (pe_lst h).imp fun σ H Q ⟨S, t, m, e, si, g⟩ => ⟨S, t, m, e, si, (Gd.split g).imp fun S1 H1 t1 m1 xs p1 i1 ⟨_, _, h1⟩ vs rs => ?_⟩
  unfold lstG at h1
  by_cases c : short xs = true
  · rw [if_pos c] at h1
    refine ⟨by rw [rs.length]; exact short_le c, fun p hp => ?_⟩
    obtain ⟨i2, p2⟩ := new_hi0 (o := .lst vs) i1 hp
    have hS : S1 p = none := by
      cases q : S1 p with
      | none => rfl
      | some o => rw [i1.sub p o q] at hp; cases hp
    refine h1 _ _ _ p2 i2 p ⟨hS, fun n q => i1.off n p q hp, xs, vs, rfl, upd_same, rs⟩ ?_
    cases q : H p with
    | none => rfl
    | some o => exact absurd hp (p1.dom p (by rw [q]; simp))
  · rw [if_neg c] at h1; exact h1.elim
/-- a new list, settled at once -/
theorem OwnAt.settle {K : PySem.W.Frag} {S S' H H' : Hp} {t t' : Th} {m : Store} {p : Addr} {xs : List D} (i : HI K S' H' t' m) (q : Stp S H t S' H' t') (ho : OwnAt K S' H' t' p (.lst xs)) (hn : H p = none) :
    ∃ S2, Stp S H t S2 H' t' ∧ HI K S2 H' t' m ∧ DR K S2 t' (.ref p) (.lst xs) := by
  obtain ⟨off, nt, xs', vs, e, hp, r⟩ := ho
  cases e
  refine ⟨upd S' p (.lst vs), ⟨q.keep, q.dom, fun a ha => ?_, q.th, q.thn⟩, settle_hi i off hp nt, .lst upd_same (r.mono (fun a o e => ?_) (.refl t'))⟩
  · rw [upd_ne (fun z => ha (by rw [z]; exact hn))]; exact q.hs a ha
  · rw [upd_ne (ne_of_none e off)]; exact e
theorem de_frz {e : Expr} (h : PE X e (semF G W fs)) : PE X e (semE G W (frzE fs)) := by
  refine h.imp fun σ H Q ⟨S, t, m, e, si, g⟩ => ⟨S, t, m, e, si, ?_⟩
  unfold frzE at g
  revert g
  cases fs G.C e m with
  | ok ys m2 =>
    intro g S' H' t' q i p ho hn
    obtain ⟨S2, q2, i2, r⟩ := ho.settle i q hn
    exact g S2 H' t' q2 i2 _ r
  | exc c fs m' => exact id
  | stuck => exact id

/-! ### built-ins -/
theorem de_blt {id x : Str} {pp : Pos} {f : Value} {g : Store → List D → Option D} (ho : CallD X f g) (hK : X.K = G.K)
    (hp : ∀ r : List V → Hp → VK → Prop, CallR X f r → ∀ t, PA X (a :: es) t → PE X (.Call (.Name x pp) (a :: es) [] pos) (tCB r t)) (ha : PA X (a :: es) (semAB G W fs)) : PE X (.Call (.Name x pp) (a :: es) [] pos) (semE G W (bltE g fs)) := by
  obtain ⟨r, h1, h2⟩ := ho
  refine (hp r h1 _ ha).imp fun σ H Q ⟨S, t, m, e, si, h⟩ => ⟨S, t, m, e, si, (Gd.split h).imp fun S1 H1 t1 m1 xs p1 i1 ⟨_, _, h3⟩ vs rs => ?_⟩
  cases hz : g m1 xs with
  | none => rw [hz] at h3; exact h3.elim
  | some z =>
    rw [hz] at h3
    exact h2 S1 H1 t1 m1 vs xs z Q (hK ▸ i1) (hK ▸ rs) hz fun u S' H' p i ru => h3 S' H' t1 p (hK ▸ i) u (hK ▸ ru)
theorem df_blt {id x : Str} {pp : Pos} {f : Value} {g : Store → List D → Option (List D)} (ho : CallF X f g) (hK : X.K = G.K)
    (hp : ∀ r : List V → Hp → VK → Prop, CallR X f r → ∀ t, PA X (a :: es) t → PE X (.Call (.Name x pp) (a :: es) [] pos) (tCB r t)) (ha : PA X (a :: es) (semAB G W fs)) : PE X (.Call (.Name x pp) (a :: es) [] pos) (semF G W (bltF g fs)) := by
  obtain ⟨r, h1, h2⟩ := ho
  refine (hp r h1 _ ha).imp fun σ H Q ⟨S, t, m, e, si, h⟩ => ⟨S, t, m, e, si, (Gd.split h).imp fun S1 H1 t1 m1 xs p1 i1 ⟨_, _, h3⟩ vs rs => ?_⟩
  cases hz : g m1 xs with
  | none => rw [hz] at h3; exact h3.elim
  | some z =>
    rw [hz] at h3
    refine h2 S1 H1 t1 m1 vs xs z Q (hK ▸ i1) (hK ▸ rs) hz fun u S' H' p i ru hn => h3 S' H' t1 p (hK ▸ i) u (hK ▸ ru) ?_
    cases q : H u with
    | none => rfl
    | some o => exact absurd hn (p1.dom u (by rw [q]; simp))

/-! ### the defs of the program -/
/-- a def's promise -/
def spD (G : Cfg) (f np : Nat) : Sp := fun vs H Q E => vs.length = np ∧ ∃ S t m ds, HI G.K S H t m ∧ DRs G.K S t vs ds ∧ Gd G (fun c d _ H' => E c d H') [] S H t (G.C f ds m) fun S' H' t' _ d => ∀ v, DR G.K S' t' v d → Q v H'
/-- what is known of a def -/
structure Fnc (P : Program) (w : World) (K : PySem.W.Frag) (mg : Str → Option Value) (base : Heap) (G : Cfg) (n f np : Nat) (x : Str) : Prop where
  ok : ∃ (a : Addr) (fd : FuncData) (ps : List Str), FnOk P w K mg base (L2N.CX P w) n a fd ps (spD G f np) ∧ mg x = some (.ref a) ∧ PySem.W.keepIn K (.ref a) = true ∧ Binds K fd ps []
/-- .. and within an except suite -/
structure FncH (P : Program) (w : World) (K : PySem.W.Frag) (mg : Str → Option Value) (base : Heap) (G : Cfg) (n f np : Nat) (x : Str) : Prop where
  ok : ∃ (a : Addr) (fd : FuncData) (ps : List Str), L2H.FnH P w K mg base (L2N.CX P w) n a fd ps (spD G f np) ∧ mg x = some (.ref a) ∧ PySem.W.keepIn K (.ref a) = true ∧ Binds K fd ps []
theorem fn_use {np f : Nat} {σ : St} {H : Hp} {Q : VK} (np_ok : ∀ e m xs m', fs G.C e m = .ok xs m' → xs.length = np) (h : semE G W (fnE f fs) σ H Q) : tCallS (spD G f np) (WE W) (semA G W fs) σ H Q := by
  obtain ⟨S, t, m, e, si, h⟩ := h
  refine ⟨S, t, m, e, si, ?_⟩
  have k := np_ok e m
  unfold fnE at h
  revert h k
  cases fs G.C e m with
  | ok ys m2 =>
    intro h k S1 H1 t1 q i vs rs
    refine ⟨rs.length.trans (k ys m2 rfl), S1, t1, m2, ys, i, rs, ?_⟩
    have h' := Gd.from q h
    revert h'
    show Gd G W σ S1 H1 t1 (G.C f ys m2) _ → _
    cases G.C f ys m2 with
    | ok d m3 => exact id
    | exc c gs m3 => exact id
    | stuck => exact id
  | exc c fs m' => exact fun h _ => h
  | stuck => exact fun h _ => h
/-- f(e, ..), n arguments -/
def lenA (f : EvA) (n : Nat) : Prop := ∀ C e m xs m', f C e m = .ok xs m' → xs.length = n
theorem lenA_nil : lenA nilA 0 := fun C e m xs m' h => by cases h; rfl
theorem lenA_cons {n : Nat} (h : lenA fs n) : lenA (consA fa fs) (n + 1) := fun C e m xs m' q => by
  unfold consA at q
  cases q1 : fa C e m with
  | ok x m1 =>
    rw [q1] at q
    simp only [R.bind_ok] at q
    cases q2 : fs C e m1 with
    | ok ys m2 =>
      rw [q2] at q
      simp only [R.bind_ok] at q
      cases q
      simp [h C e m1 ys _ q2]
    | exc c gs m2 => rw [q2] at q; cases q
    | stuck => rw [q2] at q; cases q
  | exc c gs m2 => rw [q1] at q; cases q
  | stuck => rw [q1] at q; cases q
theorem de_fn {n f np : Nat} {x : Str} {p : Pos} (F : Fnc X.prog X.w X.K X.mg X.base G n f np x) (hr : Room n X.A) (tk : L2N.Takes X W) (hg : Gl X x) (ha : PA X (a :: es) (semA G W fs)) (hn : lenA fs np)
    (hdb : (x == ("__debug__" : Str)) = false := by decide) (he : starEach (a :: es) X.env = (false, eval a X.env) :: starEach es X.env := by rfl) (hpl : (backTo pos (starEach es X.env)).any (·.1) = false := by rfl) :
    PE X (.Call (.Name x p) (a :: es) [] pos) (semE G W (fnE f fs)) := by
  obtain ⟨ad, fd, ps, F, hm, hk, hb⟩ := F.ok
  exact (pe_callS F hr hg hm hk hb (fun σ => L2N.passAt tk σ) ha hdb he hpl).imp fun σ H Q h => fn_use (fun e m xs m' q => hn G.C e m xs m' q) h
/-- f() -/
theorem de_fn0 {n f : Nat} {x : Str} {p : Pos} (F : Fnc X.prog X.w X.K X.mg X.base G n f 0 x) (hr : Room n X.A) (tk : L2N.Takes X W) (hg : Gl X x) (hdb : (x == ("__debug__" : Str)) = false := by decide) :
    PE X (.Call (.Name x p) [] [] pos) (semE G W (fnE f nilA)) := by
  obtain ⟨ad, fd, ps, F, hm, hk, hb⟩ := F.ok
  refine ⟨fun pins s σ H Q I h => ?_⟩
  obtain ⟨S, t, m, e, si, h⟩ := h
  refine wpAny_Call_Name_kw (ld_glob I hg hm ?_ hdb)
  refine PySem.W.callWith_K0 I.kIn hk (run_fnS (E := WE W) (us := []) (vs := []) F hr hb (L2N.passAt tk σ) I .nil ⟨rfl, S, t, m, [], si.hi, .nil, ?_⟩)
  have h' : Gd G W σ S H t (G.C f [] m) _ := h
  revert h'
  cases G.C f [] m with
  | ok d m3 => exact id
  | exc c gs m3 => exact id
  | stuck => exact id
theorem de_fnH {n f np : Nat} {x : Str} {p : Pos} (F : FncH X.prog X.w X.K X.mg X.base G n f np x) (hr : L2H.RoomH n X.A) (hc : L2H.HotC X) (tk : L2N.Takes X W) (hg : Gl X x) (ha : PA X (a :: es) (semA G W fs)) (hn : lenA fs np)
    (hdb : (x == ("__debug__" : Str)) = false := by decide) (he : starEach (a :: es) X.env = (false, eval a X.env) :: starEach es X.env := by rfl) (hpl : (backTo pos (starEach es X.env)).any (·.1) = false := by rfl) :
    PE X (.Call (.Name x p) (a :: es) [] pos) (semE G W (fnE f fs)) := by
  obtain ⟨ad, fd, ps, F, hm, hk, hb⟩ := F.ok
  exact (L2H.pe_callH F hr hc hg hm hk hb (fun σ => L2N.passAt tk σ) ha hdb he hpl).imp fun σ H Q h => fn_use (fun e m xs m' q => hn G.C e m xs m' q) h
end
end Dn
/-! What is walked; targets; comprehensions. -/
namespace PySem
set_option maxHeartbeats 4000000 in
theorem dn_enum_newB {v : Value} {o : Obj} {H : Heap → Prop} (B : Begins v o H) :
    Meets (Builtin.«enumerate.__new__» ⟨[.type "enumerate", v], []⟩) (fun _ R s => H s.heap ∧
      R (.ok (.ret (.ref (s.heap.push o).objs.size))) { s with heap := (s.heap.push o).push { cls := .type "enumerate", data := .fields #[.none, .bool false, .ref s.heap.objs.size, rawInt 0, .none, .none] } }) :=
  .of_wp fun prog w A R s h => by
    obtain ⟨hp, g, d, tk, os⟩ := s; obtain ⟨h1, h⟩ := h
    have hsub := sub_enumerate
    have q1 : ∀ {A' : Around} {E : Value → Shared → Prop} {Q : Value → Shared → Prop}, Q (.ref hp.objs.size) ⟨hp.push o, g, d, tk, os⟩ → wpAny (model prog w) A' (pyIter v) Q E ⟨hp, g, d, tk, os⟩ :=
      fun q => B.iter prog w _ _ ⟨hp, g, d, tk, os⟩ _ h1 q
    wp_walk using q1
    refine wpAny_stack_any fun st => wpAny_pure ?_
    split
    · rename_i c _ _ _ _ _
      cases (c == Value.type "enumerate")
      · wp_walk using q1
        exact ⟨_, rfl, h⟩
      · wp_walk using q1
        exact ⟨_, rfl, h⟩
    · wp_walk using q1
      exact ⟨_, rfl, h⟩
section
variable {prog : Program} {w : World} {A : Around} {E : Value → Shared → Prop} {s : Shared}
theorem dn_call_enum {v : Value} {o : Obj} {H : Heap → Prop} {Q : Value → Shared → Prop} (B : Begins v o H) (h1 : H s.heap)
    (h : ∀ h', IsEnum h' (s.heap.objs.size + 1) s.heap.objs.size 0 .none → h'.get? s.heap.objs.size = some o → h'.objs.size = s.heap.objs.size + 2 →
      (∀ b o, s.heap.get? b = some o → h'.get? b = some o) → Q (.ref (s.heap.objs.size + 1)) { s with heap := h' }) :
    wpAny (model prog w) A (call (.type "enumerate") [v]) Q E s := by
  refine callType_new F.called_enumerate (by decide) (F.typeCall_enumerate_1 _) (F.newCall_enumerate_1 _) (fun obj => F.args_object_init_2 obj _) F.entry_enumerate_new
    (dn_enum_newB B) ⟨h1, ?_⟩
  have hz : (s.heap.push o).objs.size = s.heap.objs.size + 1 := Heap.size_push ..
  show _ ∧ _
  rw [hz]
  have he : IsEnum ((s.heap.push o).push { cls := .type "enumerate", data := .fields #[.none, .bool false, .ref s.heap.objs.size, rawInt 0, .none, .none] }) (s.heap.objs.size + 1) s.heap.objs.size 0 .none := by
    have := Heap.get?_push_size (s.heap.push o) (o := { cls := .type "enumerate", data := .fields #[.none, .bool false, .ref s.heap.objs.size, rawInt 0, .none, .none] }) rfl
    rw [hz] at this; exact this
  refine ⟨⟨_, he, rfl⟩, h _ he (Heap.get?_push_of_some _ (Heap.get?_push_size _ B.free)) (by rw [Heap.size_push, hz]) fun b o x => Heap.get?_push_of_some _ (Heap.get?_push_of_some _ x)⟩
end
end PySem

namespace Dn
open PySem L2
/-- the tuple at a, its items in new pairs with their numbers -/
def IteT (K : PySem.W.Frag) (a : Addr) : It :=
  ⟨fun i H => ∃ xs x, SqT K H a xs ∧ xs[i]? = some x, fun i H v H' => ∃ T x, v = .ref T ∧ H T = none ∧ H' = upd H T (.tup [.int (i : Nat), x]) ∧ ∀ xs, SqT K H a xs → xs[i]? = some x, fun i H => ∃ xs, SqT K H a xs ∧ xs.length ≤ i⟩
theorem turn_enumT {P : Program} {w : World} {K : PySem.W.Frag} {elts : List Expr} {kk : Nat} {tpos : Pos} (a e it : Addr) :
    Turn P w K (.Tuple elts kk tpos) (IteT K a) [e, it] e (fun i h => (∃ old, IsEnum h e it ((i : Nat) : Int) old) ∧ h.IsTupleIter it a i ∧ e ≠ it ∧ e ≠ a ∧ a ≠ it) where
  mem := by simp
  obj := fun i h st b hb => by
    obtain ⟨⟨old, he⟩, ⟨o, ho, hc, hd⟩, _⟩ := st
    have e' : b = e ∨ b = it := by simpa using hb
    rcases e' with z | z
    · rw [z]; exact ⟨_, he, fun v q => nomatch q⟩
    · rw [z]; exact ⟨o, ho, fun v q => by rw [hd] at q; cases q⟩
  keep := fun i h h' st k => let ⟨⟨old, he⟩, hi, hne⟩ := st; ⟨⟨old, k e (by simp) _ he⟩, hi.at fun o q => k it (by simp) o q, hne⟩
  item := by
    intro X hP hw hK hc i pins s σ H E I hf st hg
    subst hP hw hK
    obtain ⟨⟨old, he⟩, hit, hne, hea, hai⟩ := st
    obtain ⟨xs, x, hq, hx⟩ := hg
    obtain ⟨its, rv, p, hz⟩ := I.tuple hq
    obtain ⟨u, hu, ru⟩ := rv.get hx
    have hel : e < s.heap.objs.size := Heap.lt_size he
    have hil : it < s.heap.objs.size := by obtain ⟨_, q, _⟩ := hit; exact Heap.lt_size q
    have pt : s.heap.IsTuple a its.toArray := p
    have hlt : i < its.toArray.size := by
      have := (List.getElem?_eq_some_iff.mp hu).1
      simpa using this
    refine wpAny_pyNext_enum_itemD (Draws.tuple (prog := X.prog) (w := X.w) (A := X.A.in1) (I.ok.hd hc) it a hai its.toArray) he ⟨hit, pt⟩ hlt hne (by simp [hne, hea]) fun x' h' tk hP ho hit' hT hsz hk => ?_
    have hxu : x' = u := by
      have h1 : its.toArray[i]? = some u := by simpa using hu
      have hP' : its.toArray[i]? = some x' := hP
      rw [h1] at hP'; exact (Option.some.inj hP').symm
    subst hxu
    refine ⟨_, rfl, wpAny_letOwnedTupleGo_enum (s := { s with heap := h', toks := tk + 1 }) ho fun h'' he' sb => ?_⟩
    have hT2 : h''.get? s.heap.objs.size = some { cls := .type "tuple", data := .seq #[.int i tk, x'] } := (sb.2 _ (Nat.ne_of_gt hel)).trans hT
    have new : ObjOk X.prog X.w (upd H s.heap.objs.size (.tup [.int (i : Nat), x])) h'' s.heap.objs.size (.tup [.int (i : Nat), x]) :=
      ⟨by show 2 ≤ sizeLine; decide, [.int i tk, x'], .cons ⟨_, rfl⟩ (.cons ru .nil), ⟨_, hT2, rfl, _, rfl⟩⟩
    have I1 : Inv X pins σ (upd H s.heap.objs.size (.tup [.int (i : Nat), x])) { s with heap := h'', toks := tk + 1 } :=
      I.turnedNew (ch := [e, it]) (fun b ob hb q => (sb.2 b (fun z => hb (by simp [z]))).trans (hk b ob (fun z => hb (by simp [z])) (fun z => hb (by simp [z])) q)) hf (Nat.le_refl _) new
    refine ⟨.ref s.heap.objs.size, _, I1, rfl, ⟨_, x, rfl, I.hok.fresh (Nat.le_refl _), rfl, fun ys hy => by rw [I.tuple_inj hy hq]; exact hx⟩, ⟨⟨x', ?_⟩, hit'.1.at fun o q => (sb.2 it (Ne.symm hne)).trans q, hne, hea, hai⟩, fun b hb => ?_⟩
    · have e1 : ((i + 1 : Nat) : Int) = (i : Int) + 1 := by omega
      rw [e1]; exact he'
    · have hb' : b < s.heap.objs.size := by
        have e' : b = e ∨ b = it := by simpa using hb
        rcases e' with z | z
        · rw [z]; exact hel
        · rw [z]; exact hil
      rw [upd_ne (Nat.ne_of_lt hb')]
      exact (hf b hb).1
  done := by
    intro X hP hw hK hc i pins s σ H E I hf st hg
    subst hP hw hK
    obtain ⟨⟨old, he⟩, hit, hne, hea, hai⟩ := st
    obtain ⟨xs, hq, hx⟩ := hg
    obtain ⟨its, rv, p, hz⟩ := I.tuple hq
    obtain ⟨f0, f1, f2, f3, f4, f5⟩ := hf it (by simp)
    have hl := rv.length
    have pt : s.heap.IsTuple a its.toArray := p
    unfold pyNext
    refine wpAny_bind (wpAny_attempt (wpAny_callSpecial?_slot (name := Str.ofString "__next__") ⟨_, he, rfl⟩ F.slot_enumerate_next
      (wpAny_call_entry F.slot_enumerate_next ⟨_, he, rfl⟩ F.entry_enumerate_next ?_ (F.args_enumerate_next_1 _))))
    show wpAny _ _ (field (.ref e) 2 >>= _) _ _ _
    refine wpAny_bind (wpAny_field he rfl (x := .ref it) rfl ?_)
    refine wpAny_bind (wpAny_nextOf_tuple_end (show X.A.in1.handled = none from I.ok.hd hc) hit pt (by simp; omega) fun h' x eb hx' => ?_)
    obtain ⟨o, ho, hc'⟩ := hx'
    refine wpAny_bind (wpAny_isInstance (T := "StopIteration") (b := true) ⟨o, ho, hc'⟩ isSubtype_stop ?_)
    exact wpAny_pure ⟨rfl, I.turned (t' := s.toks) (fun b o hb q => eb b o hb q) f0 f1 f3 f4 f5⟩
  self := fun A i s Q E st h => let ⟨⟨_, he⟩, _⟩ := st; wpAny_pyIter_enum he h
end Dn
/-! What is walked, by data; targets. -/
namespace Dn
open PySem L2

theorem Gd.sp {G : Cfg} {W : WX} {σ : St} {S H : Hp} {t : Th} {α β : Type} {r : R α} {f : α → Store → R β} {P : Hp → Hp → Th → Store → β → Prop} (h : Gd G W σ S H t (r.bind f) P) :
    Gd G W σ S H t r (fun S1 H1 t1 m1 a => Gd G W σ S1 H1 t1 (f a m1) P) := (Gd.split h).imp fun _ _ _ _ _ _ _ q => q.2.2
/-- what J yields are these, from now on -/
structure ItR (K : PySem.W.Frag) (S : Hp) (t : Th) (J : It) (ds : List D) : Prop where
  len : ds.length ≤ sizeLine
  go : ∀ (i : Nat) d S2 H2 t2 m2, ds[i]? = some d → Sub S S2 → TSub t t2 → HI K S2 H2 t2 m2 → J.go i H2 ∧ ∀ x H', J.yld i H2 x H' → ∃ S', Stp S2 H2 t2 S' H' t2 ∧ HI K S' H' t2 m2 ∧ DR K S' t2 x d
  stop : ∀ S2 H2 t2 m2, Sub S S2 → TSub t t2 → HI K S2 H2 t2 m2 → J.stop ds.length H2
def semI (G : Cfg) (W : WX) (f : EvA) : TI := fun σ H R => ∃ S t m e, SI G.K G.x S H t m σ e ∧ Gd G W σ S H t (f G.C e m) fun S' H' t' _ ds => ∀ J, ItR G.K S' t' J ds → R J H'
/-- .. as long as nothing of one's own is changed -/
structure ItR2 (K : PySem.W.Frag) (S H : Hp) (t : Th) (J : It) (ds : List D) : Prop where
  len : ds.length ≤ sizeLine
  go : ∀ (i : Nat) d S2 H2 t2 m2, ds[i]? = some d → Stp S H t S2 H2 t2 → HI K S2 H2 t2 m2 → J.go i H2 ∧ ∀ x H', J.yld i H2 x H' → ∃ S', Stp S2 H2 t2 S' H' t2 ∧ HI K S' H' t2 m2 ∧ DR K S' t2 x d
  stop : ∀ S2 H2 t2 m2, Stp S H t S2 H2 t2 → HI K S2 H2 t2 m2 → J.stop ds.length H2
def semI2 (G : Cfg) (W : WX) (f : EvA) : TI := fun σ H R => ∃ S t m e, SI G.K G.x S H t m σ e ∧ Gd G W σ S H t (f G.C e m) fun S' H' t' _ ds => ∀ J, ItR2 G.K S' H' t' J ds → R J H'
theorem semI2_of {G : Cfg} {W : WX} {f : EvA} {σ : St} {H : Hp} {R : It → Hp → Prop} (h : semI2 G W f σ H R) : semI G W f σ H R := by
  obtain ⟨S, t, m, e, si, g⟩ := h
  exact ⟨S, t, m, e, si, g.imp fun S1 H1 t1 m1 ds p1 i1 q J it => q J ⟨it.len, fun i d S2 H2 t2 m2 hx p i2 => it.go i d S2 H2 t2 m2 hx (i1.ssub p) p.th i2, fun S2 H2 t2 m2 p i2 => it.stop S2 H2 t2 m2 (i1.ssub p) p.th i2⟩⟩
theorem _root_.L2.PI.imp {X : Cx} {tg e : Expr} {t t' : TI} (h : PI X tg e t) (w : ∀ σ H R, t' σ H R → t σ H R) : PI X tg e t' := ⟨fun pins s σ H R I q => h.run pins s σ H R I (w σ H R q)⟩

/-- a list, a tuple or a text -/
def iSeq (K : PySem.W.Frag) (tl : TE) : TI := fun σ H R => tl σ H fun x H1 =>
  (∃ a xs, x = .ref a ∧ SqL K H1 a xs ∧ (xs.length ≤ sizeLine → R (Itl K a) H1)) ∨ (∃ a xs, x = .ref a ∧ SqT K H1 a xs ∧ (xs.length ≤ sizeLine → R (Itt K a) H1)) ∨ ∃ z, x = .str z ∧ R (Its z) H1
theorem pi_seq {X : Cx} {tg l : Expr} {tl : TE} (hl : PE X l tl) : PI X tg l (iSeq X.K tl) := by
  refine ⟨fun pins s σ H R I h => ?_⟩
  refine thn (hl.run pins s σ H _ I h) fun v s1 ⟨x, H1, I1, r1, q1⟩ => ?_
  rcases q1 with ⟨a, xs, e, hq, q⟩ | ⟨a, xs, e, hq, q⟩ | ⟨z, e, q⟩
  · subst e
    cases r1
    obtain ⟨its, rv, p, hz⟩ := I1.list hq
    refine wpAny_pyIter_list p.isList ?_
    refine ⟨s1.heap.objs.size, [s1.heap.objs.size], _, _, H1, rfl, I1.kept (t' := s1.toks) fun b o e => Heap.get?_push_of_some _ e, turn_list a _, ⟨_, Heap.get?_push_size _ rfl, rfl, rfl⟩, fun b hb => ?_, q hz⟩
    have e : b = s1.heap.objs.size := by simpa using hb
    subst e
    exact I1.fpOk (Nat.le_refl _) (I1.hok.fresh (Nat.le_refl _))
  · subst e
    cases r1
    obtain ⟨its, rv, p, hz⟩ := I1.tuple hq
    refine wpAny_pyIter_tuple (show s1.heap.IsTuple a its.toArray from p) ?_
    refine ⟨s1.heap.objs.size, [s1.heap.objs.size], _, _, H1, rfl, I1.kept (t' := s1.toks) fun b o e => Heap.get?_push_of_some _ e, turn_tuple a _, ⟨_, Heap.get?_push_size _ rfl, rfl, rfl⟩, fun b hb => ?_, q hz⟩
    have e : b = s1.heap.objs.size := by simpa using hb
    subst e
    exact I1.fpOk (Nat.le_refl _) (I1.hok.fresh (Nat.le_refl _))
  · subst e
    obtain ⟨t, rfl⟩ := r1
    cases ha : z.cps.all (· < 128)
    · exact wpAny_pyIter_wide ha (pi_one (tk := s1.toks) I1 _ (turn_str _ z t "str_iterator" (.inr rfl)) ⟨_, Heap.get?_push_size _ rfl, rfl, rfl⟩ q)
    · exact wpAny_pyIter_ascii ha (pi_one (tk := s1.toks) I1 _ (turn_str _ z t "str_ascii_iterator" (.inl rfl)) ⟨_, Heap.get?_push_size _ rfl, rfl, rfl⟩ q)

section
variable {K : PySem.W.Frag} {S H : Hp} {t : Th} {m : Store}
theorem itr_list {a : Addr} {vs : List V} {ds : List D} (h : SqL K S a vs) (hd : DRs K S t vs ds) (hl : vs.length ≤ sizeLine) : ItR K S t (Itl K a) ds where
  len := by rw [← hd.length]; exact hl
  go := fun i d S2 H2 t2 m2 e ss ts i2 => by
    obtain ⟨v, h1, h2⟩ := hd.get e
    have q : SqL K H2 a vs := i2.sub.sqL (ss.sqL h)
    refine ⟨⟨vs, v, q, h1⟩, fun x H' ⟨e1, e2⟩ => ?_⟩
    subst e1
    have := e2 vs q
    rw [h1] at this
    cases this
    exact ⟨S2, .refl, i2, h2.mono ss ts⟩
  stop := fun S2 H2 t2 m2 ss ts i2 => ⟨vs, i2.sub.sqL (ss.sqL h), by rw [hd.length]; exact Nat.le_refl _⟩
theorem itr_tup {a : Addr} {vs : List V} {ds : List D} (h : SqT K S a vs) (hd : DRs K S t vs ds) (hl : vs.length ≤ sizeLine) : ItR K S t (Itt K a) ds where
  len := by rw [← hd.length]; exact hl
  go := fun i d S2 H2 t2 m2 e ss ts i2 => by
    obtain ⟨v, h1, h2⟩ := hd.get e
    have q : SqT K H2 a vs := i2.sub.sqT (ss.sqT h)
    refine ⟨⟨vs, v, q, h1⟩, fun x H' ⟨e1, e2⟩ => ?_⟩
    subst e1
    have := e2 vs q
    rw [h1] at this
    cases this
    exact ⟨S2, .refl, i2, h2.mono ss ts⟩
  stop := fun S2 H2 t2 m2 ss ts i2 => ⟨vs, i2.sub.sqT (ss.sqT h), by rw [hd.length]; exact Nat.le_refl _⟩
/-- the signs of a text -/
def signs (z : Str) : List D := z.cps.toList.map fun c => .str ⟨#[c]⟩
theorem itr_str {z : Str} (hl : z.length ≤ sizeLine) : ItR K S t (Its z) (signs z) where
  len := by unfold signs; simpa [Str.length] using hl
  go := fun i d S2 H2 t2 m2 e ss ts i2 => by
    unfold signs at e
    rw [List.getElem?_map] at e
    cases q : z.cps.toList[i]? with
    | none => rw [q] at e; cases e
    | some c =>
      rw [q] at e
      cases e
      have hi : i < z.cps.size := by simpa using (List.getElem?_eq_some_iff.mp q).1
      refine ⟨hi, fun x H' ⟨e1, c', e2, e3⟩ => ?_⟩
      subst e1 e3
      have : c' = c := by
        have q' : z.cps[i]? = some c := by simpa using q
        rw [q'] at e2; exact (Option.some.inj e2).symm
      subst this
      exact ⟨S2, .refl, i2, .str _⟩
  stop := fun S2 H2 t2 m2 ss ts i2 => by
    show z.cps.size ≤ (signs z).length
    unfold signs; simp
def rng (lo : Int) (n : Nat) : List D := (List.range n).map fun i : Nat => .int (lo + i)
theorem itr_range {lo : Int} {n : Nat} (hl : n ≤ sizeLine) : ItR K S t (Itr lo n) (rng lo n) where
  len := by unfold rng; simpa using hl
  go := fun i d S2 H2 t2 m2 e ss ts i2 => by
    unfold rng at e
    rw [List.getElem?_map] at e
    by_cases h : i < n
    · rw [List.getElem?_range h] at e
      cases e
      refine ⟨h, fun x H' ⟨e1, e2⟩ => ?_⟩
      subst e1 e2
      exact ⟨S2, .refl, i2, .int _⟩
    · rw [List.getElem?_eq_none (by simpa using h)] at e; cases e
  stop := fun S2 H2 t2 m2 ss ts i2 => by
    show n ≤ (rng lo n).length
    unfold rng; simp
def rngC (lo c : Int) (n : Nat) : List D := (List.range n).map fun i : Nat => .int (lo + i * c)
theorem itr_rangeC {lo c : Int} {n : Nat} (hl : n ≤ sizeLine) : ItR K S t (Itc lo c n) (rngC lo c n) where
  len := by unfold rngC; simpa using hl
  go := fun i d S2 H2 t2 m2 e ss ts i2 => by
    unfold rngC at e
    rw [List.getElem?_map] at e
    by_cases h : i < n
    · rw [List.getElem?_range h] at e
      cases e
      refine ⟨h, fun x H' ⟨e1, e2⟩ => ?_⟩
      subst e1 e2
      exact ⟨S2, .refl, i2, .int _⟩
    · rw [List.getElem?_eq_none (by simpa using h)] at e; cases e
  stop := fun S2 H2 t2 m2 ss ts i2 => by
    show n ≤ (rngC lo c n).length
    unfold rngC; simp
/-- with their numbers -/
@[simp] def nums : Nat → List D → List D
  | _, [] => []
  | k, d :: ds => .tup [.int (k : Nat), d] :: nums (k + 1) ds
theorem nums_len : ∀ (ds : List D) (k : Nat), (nums k ds).length = ds.length
  | [], _ => rfl
  | d :: ds, k => by simp [nums, nums_len ds (k + 1)]
theorem nums_get : ∀ (ds : List D) (k i : Nat), (nums k ds)[i]? = (ds[i]?).map fun d => .tup [.int ((k + i : Nat) : Int), d]
  | [], _, _ => by simp [nums]
  | d :: ds, k, 0 => by simp [nums]
  | d :: ds, k, i + 1 => by
    simp only [nums, List.getElem?_cons_succ]
    rw [nums_get ds (k + 1) i]
    have : k + 1 + i = k + (i + 1) := by omega
    rw [this]
/-- a new pair -/
theorem new_pair {T : Addr} {x y : V} {d c : D} (i : HI K S H t m) (h : H T = none) (hx : DR K S t x d) (hy : DR K S t y c) :
    Stp S H t (upd S T (.tup [x, y])) (upd H T (.tup [x, y])) t ∧ HI K (upd S T (.tup [x, y])) (upd H T (.tup [x, y])) t m ∧ DR K (upd S T (.tup [x, y])) t (.ref T) (.tup [d, c]) := by
  obtain ⟨i2, p2⟩ := new_hi (o := .tup [x, y]) i h
  exact ⟨p2, i2, .tup (SqT.of upd_same) (.cons (hx.stp i p2) (.cons (hy.stp i p2) .nil))⟩
theorem itr_enumL {a : Addr} {vs : List V} {ds : List D} (h : SqL K S a vs) (hd : DRs K S t vs ds) (hl : vs.length ≤ sizeLine) : ItR K S t (Ite K a) (nums 0 ds) where
  len := by rw [nums_len, ← hd.length]; exact hl
  go := fun i d S2 H2 t2 m2 e ss ts i2 => by
    rw [nums_get] at e
    cases q : ds[i]? with
    | none => rw [q] at e; cases e
    | some c =>
      rw [q] at e
      cases e
      obtain ⟨v, h1, h2⟩ := hd.get q
      have sq : SqL K H2 a vs := i2.sub.sqL (ss.sqL h)
      refine ⟨⟨vs, v, sq, h1⟩, fun x H' ⟨T, y, e1, e2, e3, e4⟩ => ?_⟩
      subst e1 e3
      have := e4 vs sq
      rw [h1] at this
      cases this
      have e0 : ((0 + i : Nat) : Int) = (i : Nat) := by omega
      rw [e0]
      exact ⟨_, new_pair i2 e2 (.int _) (h2.mono ss ts)⟩
  stop := fun S2 H2 t2 m2 ss ts i2 => ⟨vs, i2.sub.sqL (ss.sqL h), by rw [nums_len, hd.length]; exact Nat.le_refl _⟩
theorem itr_enumT {a : Addr} {vs : List V} {ds : List D} (h : SqT K S a vs) (hd : DRs K S t vs ds) (hl : vs.length ≤ sizeLine) : ItR K S t (IteT K a) (nums 0 ds) where
  len := by rw [nums_len, ← hd.length]; exact hl
  go := fun i d S2 H2 t2 m2 e ss ts i2 => by
    rw [nums_get] at e
    cases q : ds[i]? with
    | none => rw [q] at e; cases e
    | some c =>
      rw [q] at e
      cases e
      obtain ⟨v, h1, h2⟩ := hd.get q
      have sq : SqT K H2 a vs := i2.sub.sqT (ss.sqT h)
      refine ⟨⟨vs, v, sq, h1⟩, fun x H' ⟨T, y, e1, e2, e3, e4⟩ => ?_⟩
      subst e1 e3
      have := e4 vs sq
      rw [h1] at this
      cases this
      have e0 : ((0 + i : Nat) : Int) = (i : Nat) := by omega
      rw [e0]
      exact ⟨_, new_pair i2 e2 (.int _) (h2.mono ss ts)⟩
  stop := fun S2 H2 t2 m2 ss ts i2 => ⟨vs, i2.sub.sqT (ss.sqT h), by rw [nums_len, hd.length]; exact Nat.le_refl _⟩
/-- two by two -/
@[simp] def zips : List D → List D → List D
  | d :: ds, c :: cs => .tup [d, c] :: zips ds cs
  | _, _ => []
theorem zips_get : ∀ (ds cs : List D) (i : Nat) z, (zips ds cs)[i]? = some z → ∃ d c, ds[i]? = some d ∧ cs[i]? = some c ∧ z = .tup [d, c]
  | d :: ds, c :: cs, 0, z, h => by simp [zips] at h; exact ⟨d, c, by simp, by simp, h.symm⟩
  | d :: ds, c :: cs, i + 1, z, h => by
    simp only [zips, List.getElem?_cons_succ] at h
    obtain ⟨d', c', h1, h2, h3⟩ := zips_get ds cs i z h
    exact ⟨d', c', by simpa using h1, by simpa using h2, h3⟩
  | [], _, _, _, h => by simp [zips] at h
  | _ :: _, [], _, _, h => by simp [zips] at h
theorem zips_len : ∀ (ds cs : List D), (zips ds cs).length = min ds.length cs.length
  | d :: ds, c :: cs => by simp only [zips, List.length_cons, zips_len ds cs]; omega
  | [], _ => by simp [zips]
  | _ :: _, [] => by simp [zips]
theorem itr_zipL {a b : Addr} {vs ws : List V} {ds cs : List D} (h : SqL K S a vs) (hd : DRs K S t vs ds) (g : SqL K S b ws) (gd : DRs K S t ws cs) (hl : (zips ds cs).length ≤ sizeLine) : ItR K S t (Itz K a b) (zips ds cs) where
  len := hl
  go := fun i d S2 H2 t2 m2 e ss ts i2 => by
    obtain ⟨d1, c1, e1, e2, rfl⟩ := zips_get ds cs i d e
    obtain ⟨v, h1, h2⟩ := hd.get e1
    obtain ⟨w, g1, g2⟩ := gd.get e2
    have sq : SqL K H2 a vs := i2.sub.sqL (ss.sqL h)
    have sq' : SqL K H2 b ws := i2.sub.sqL (ss.sqL g)
    refine ⟨⟨vs, ws, v, w, sq, sq', h1, g1⟩, fun x H' ⟨T, y, y', e3, e4, e5, e6, e7⟩ => ?_⟩
    subst e3 e5
    have := e6 vs sq
    rw [h1] at this
    cases this
    have := e7 ws sq'
    rw [g1] at this
    cases this
    exact ⟨_, new_pair i2 e4 (h2.mono ss ts) (g2.mono ss ts)⟩
  stop := fun S2 H2 t2 m2 ss ts i2 => ⟨vs, ws, i2.sub.sqL (ss.sqL h), i2.sub.sqL (ss.sqL g), by rw [zips_len, hd.length, gd.length]; omega⟩
theorem itr_zipT {a b : Addr} {vs ws : List V} {ds cs : List D} (h : SqT K S a vs) (hd : DRs K S t vs ds) (g : SqT K S b ws) (gd : DRs K S t ws cs) (hl : (zips ds cs).length ≤ sizeLine) : ItR K S t (RZ.ItzT K a b) (zips ds cs) where
  len := hl
  go := fun i d S2 H2 t2 m2 e ss ts i2 => by
    obtain ⟨d1, c1, e1, e2, rfl⟩ := zips_get ds cs i d e
    obtain ⟨v, h1, h2⟩ := hd.get e1
    obtain ⟨w, g1, g2⟩ := gd.get e2
    have sq : SqT K H2 a vs := i2.sub.sqT (ss.sqT h)
    have sq' : SqT K H2 b ws := i2.sub.sqT (ss.sqT g)
    refine ⟨⟨vs, ws, v, w, sq, sq', h1, g1⟩, fun x H' ⟨T, y, y', e3, e4, e5, e6, e7⟩ => ?_⟩
    subst e3 e5
    have := e6 vs sq
    rw [h1] at this
    cases this
    have := e7 ws sq'
    rw [g1] at this
    cases this
    exact ⟨_, new_pair i2 e4 (h2.mono ss ts) (g2.mono ss ts)⟩
  stop := fun S2 H2 t2 m2 ss ts i2 => ⟨vs, ws, i2.sub.sqT (ss.sqT h), i2.sub.sqT (ss.sqT g), by rw [zips_len, hd.length, gd.length]; omega⟩
end

/-! ### the rules -/
@[simp] def itemsOf : D → Option (List D)
  | .lst xs => some xs
  | .tup xs => some xs
  | .frz xs => some xs
  | .str z => if short z.cps.toList = true then some (signs z) else none
  | _ => none
@[simp] def seqI (f : EvE) : EvA := fun C e m => (f C e m).bind fun d m1 => .of (itemsOf d) m1
def bdI (i : Int) : Bool := decide (-(2 ^ 62) ≤ i) && decide (i < 2 ^ 62)
@[simp] def rng1 : List D → Option (List D)
  | [.int n] => if (bdI n && decide (n.toNat ≤ 100000)) = true then some (rng 0 n.toNat) else none
  | _ => none
@[simp] def rng2 : List D → Option (List D)
  | [.int i, .int j] => if (bdI i && bdI j && decide ((j - i).toNat ≤ 100000)) = true then some (rng i (j - i).toNat) else none
  | _ => none
def rng3 : List D → Option (List D)
  | [.int i, .int j, .int c] => if (bdI i && bdI j && decide (c = -1) && decide ((i - j).toNat ≤ 100000)) = true then some (rngC i (-1) (i - j).toNat) else none
  | _ => none
@[simp] def enumG : List D → Option (List D)
  | [.lst xs] => some (nums 0 xs)
  | [.tup xs] => some (nums 0 xs)
  | _ => none
@[simp] def zipG : List D → Option (List D)
  | [.lst xs, .lst ys] => if short (zips xs ys) = true then some (zips xs ys) else none
  | [.tup xs, .tup ys] => if short (zips xs ys) = true then some (zips xs ys) else none
  | _ => none
@[simp] def argI (g : List D → Option (List D)) (f : EvA) : EvA := fun C e m => (f C e m).bind fun ds m1 => .of (g ds) m1
theorem size1e5 {n : Nat} (h : n ≤ 100000) : n ≤ sizeLine := Nat.le_trans h (by decide)
theorem bdI_lo {i : Int} (h : bdI i = true) : -(2 ^ 62) ≤ i ∧ i < 2 ^ 62 := by
  unfold bdI at h
  simp only [Bool.and_eq_true, decide_eq_true_eq] at h
  exact h
section
variable {X : Cx} {G : Cfg} {W : WX} {tg a b c : Expr} {es : List Expr} {fa : EvE} {fs : EvA} {pos p : Pos}
theorem di_seq (hK : X.K = G.K) (ha : PE X a (semE G W fa)) : PI X tg a (semI G W (seqI fa)) := by
  refine (pi_seq ha).imp fun σ H R ⟨S, t, m, e, si, g⟩ => ⟨S, t, m, e, si, (Gd.sp g).imp fun S1 H1 t1 m1 d p1 i1 h1 v rv => ?_⟩
  rw [hK]
  cases rv with
  | lst h hs => exact .inl ⟨_, _, rfl, .of (i1.sub _ _ h), fun hl => Gd.now h1 i1 _ (itr_list (.of h) hs hl)⟩
  | frz h hs => exact .inl ⟨_, _, rfl, i1.sub.sqL h, fun hl => Gd.now h1 i1 _ (itr_list h hs hl)⟩
  | tup h hs => exact .inr (.inl ⟨_, _, rfl, i1.sub.sqT h, fun hl => Gd.now h1 i1 _ (itr_tup h hs hl)⟩)
  | str z =>
    refine .inr (.inr ⟨z, rfl, ?_⟩)
    have h1 : Gd G W σ S1 H1 t1 (Dn.R.of (if short z.cps.toList = true then some (signs z) else none) m1) _ := h1
    by_cases c : short z.cps.toList = true
    · rw [if_pos c] at h1
      exact Gd.now h1 i1 _ (itr_str (by have := short_le c; simpa [Str.length] using this))
    · rw [if_neg c] at h1; exact h1.elim
  | non => exact h1.elim
  | bl b => exact h1.elim
  | int b => exact h1.elim
  | ref b => exact h1.elim
  | ins _ _ _ => exact h1.elim
theorem di_rng1 (hg : Gl X "range") (hm : X.mg "range" = none) (ha : PA X [a] (semA G W fs)) (hs : starEach [a] X.env = [(false, eval a X.env)] := by rfl) : PI X tg (.Call (.Name "range" p) [a] [] pos) (semI G W (argI rng1 fs)) := by
  refine (pi_range1 hg hm ha hs).imp fun σ H R ⟨S, t, m, e, si, g⟩ => ⟨S, t, m, e, si, (Gd.sp g).imp fun S1 H1 t1 m1 ds p1 i1 h1 vs rs => ?_⟩
  unfold rng1 at h1
  split at h1
  · rename_i n
    cases rs with
    | cons r1 r2 =>
      cases r2
      cases r1
      split at h1
      · rename_i hc
        simp only [Bool.and_eq_true, decide_eq_true_eq] at hc
        obtain ⟨b1, b2⟩ := bdI_lo hc.1
        exact ⟨n, rfl, b1, b2, Gd.now h1 i1 _ (itr_range (size1e5 hc.2))⟩
      · exact h1.elim
  · exact h1.elim
theorem di_rng2 (hg : Gl X "range") (hm : X.mg "range" = none) (ha : PA X [a, b] (semA G W fs)) (hs : starEach [a, b] X.env = [(false, eval a X.env), (false, eval b X.env)] := by rfl) (hs2 : starEach [b] X.env = [(false, eval b X.env)] := by rfl) :
    PI X tg (.Call (.Name "range" p) [a, b] [] pos) (semI G W (argI rng2 fs)) := by
  refine (pi_range2 hg hm ha hs hs2).imp fun σ H R ⟨S, t, m, e, si, g⟩ => ⟨S, t, m, e, si, (Gd.sp g).imp fun S1 H1 t1 m1 ds p1 i1 h1 vs rs => ?_⟩
  unfold rng2 at h1
  split at h1
  · rename_i i j
    cases rs with
    | cons r1 r2 =>
      cases r2 with
      | cons r2 r3 =>
        cases r3
        cases r1
        cases r2
        split at h1
        · rename_i hc
          simp only [Bool.and_eq_true, decide_eq_true_eq] at hc
          obtain ⟨b1, b2⟩ := bdI_lo hc.1.1
          obtain ⟨b3, b4⟩ := bdI_lo hc.1.2
          exact ⟨i, j, rfl, ⟨b1, b2, b3, b4⟩, Gd.now h1 i1 _ (itr_range (size1e5 hc.2))⟩
        · exact h1.elim
  · exact h1.elim
theorem di_rng3 (hg : Gl X "range") (hm : X.mg "range" = none) (ha : PA X [a, b, c] (semA G W fs)) (hq : PI X tg (.Call (.Name "range" p) [a, b, c] [] pos) (iRng3 (semA G W fs))) : PI X tg (.Call (.Name "range" p) [a, b, c] [] pos) (semI G W (argI rng3 fs)) := by
  refine hq.imp fun σ H R ⟨S, t, m, e, si, g⟩ => ⟨S, t, m, e, si, (Gd.sp g).imp fun S1 H1 t1 m1 ds p1 i1 h1 vs rs => ?_⟩
  unfold rng3 at h1
  split at h1
  · rename_i i j c
    cases rs with
    | cons r1 r2 =>
      cases r2 with
      | cons r2 r3 =>
        cases r3 with
        | cons r3 r4 =>
        cases r4
        cases r1
        cases r2
        cases r3
        split at h1
        · rename_i hc
          simp only [Bool.and_eq_true, decide_eq_true_eq] at hc
          obtain ⟨b1, b2⟩ := bdI_lo hc.1.1.1
          obtain ⟨b3, b4⟩ := bdI_lo hc.1.1.2
          obtain rfl := hc.1.2
          exact ⟨i, j, -1, _, rfl, RgC.neg b1 b2 b3 b4, Gd.now h1 i1 _ (itr_rangeC (size1e5 hc.2))⟩
        · exact h1.elim
  · exact h1.elim
/-- enumerate of a list or a tuple -/
def iEnumA (K : PySem.W.Frag) (ta : TA) : TI := fun σ H R => ta σ H fun vs H1 => ∃ a xs, vs = [.ref a] ∧ ((SqL K H1 a xs ∧ (xs.length ≤ sizeLine → R (Ite K a) H1)) ∨ (SqT K H1 a xs ∧ (xs.length ≤ sizeLine → R (IteT K a) H1)))
theorem pi_enumA {X : Cx} {e : Expr} {ta : TA} {p pos tpos : Pos} {elts : List Expr} {kk : Nat} (hg : Gl X "enumerate") (hm : X.mg "enumerate" = none) (ha : PA X [e] ta) (hs : starEach [e] X.env = [(false, eval e X.env)] := by rfl) :
    PI X (.Tuple elts kk tpos) (.Call (.Name "enumerate" p) [e] [] pos) (iEnumA X.K ta) := by
  refine ⟨fun pins s σ H R I h => ?_⟩
  refine PyProof.Rows.Call_ (ld_blt I hg hm PyProof.Rows.boot_enumerate (PyProof.Rows.callWith_type1 (thn (ha.run pos pins s σ H _ I h) fun us s1 ⟨vs, H1, I1, r1, q1⟩ => ?_) hs rfl))
  obtain ⟨a, xs, ex, q1⟩ := q1
  subst ex
  cases r1 with
  | cons r rr =>
    cases rr
    cases r
    rcases q1 with ⟨hq, q⟩ | ⟨hq, q⟩
    · obtain ⟨its, rv, p', hz⟩ := I1.list hq
      refine call_enumerate_list p'.isList fun h' he hit hsz hk => wpAny_pyIter_enum he ?_
      have I2 : Inv X pins σ H1 { s1 with heap := h' } := I1.kept (t' := s1.toks) hk
      refine ⟨s1.heap.objs.size + 1, [s1.heap.objs.size + 1, s1.heap.objs.size], _, _, H1, rfl, I2, turn_enum a (s1.heap.objs.size + 1) s1.heap.objs.size, ⟨⟨.none, he⟩, hit, Nat.succ_ne_self _⟩, fun b hb => ?_, q hz⟩
      have e' : b = s1.heap.objs.size + 1 ∨ b = s1.heap.objs.size := by simpa using hb
      have hle : s1.heap.objs.size ≤ b := by
        rcases e' with z | z
        · rw [z]; exact Nat.le_add_right _ _
        · rw [z]; exact Nat.le_refl _
      exact I1.fpOk hle (I1.hok.fresh hle)
    · obtain ⟨its, rv, p', hz⟩ := I1.tuple hq
      have hal : a < s1.heap.objs.size := by obtain ⟨o, q', _⟩ := id p'; exact Heap.lt_size q'
      refine dn_call_enum (begins_tuple a its.toArray) p' fun h' he hit hsz hk => wpAny_pyIter_enum he ?_
      have I2 : Inv X pins σ H1 { s1 with heap := h' } := I1.kept (t' := s1.toks) hk
      refine ⟨s1.heap.objs.size + 1, [s1.heap.objs.size + 1, s1.heap.objs.size], _, _, H1, rfl, I2, turn_enumT a (s1.heap.objs.size + 1) s1.heap.objs.size, ⟨⟨.none, he⟩, ⟨_, hit, rfl, rfl⟩, Nat.succ_ne_self _, Nat.ne_of_gt (Nat.lt_succ_of_lt hal), Nat.ne_of_lt hal⟩, fun b hb => ?_, q hz⟩
      have e' : b = s1.heap.objs.size + 1 ∨ b = s1.heap.objs.size := by simpa using hb
      have hle : s1.heap.objs.size ≤ b := by
        rcases e' with z | z
        · rw [z]; exact Nat.le_add_right _ _
        · rw [z]; exact Nat.le_refl _
      exact I1.fpOk hle (I1.hok.fresh hle)
theorem di_enum {tpos : Pos} {elts : List Expr} {kk : Nat} (hK : X.K = G.K) (hg : Gl X "enumerate") (hm : X.mg "enumerate" = none) (ha : PA X [a] (semA G W fs)) (hs : starEach [a] X.env = [(false, eval a X.env)] := by rfl) :
    PI X (.Tuple elts kk tpos) (.Call (.Name "enumerate" p) [a] [] pos) (semI G W (argI enumG fs)) := by
  refine (pi_enumA hg hm ha hs).imp fun σ H R ⟨S, t, m, e, si, g⟩ => ⟨S, t, m, e, si, (Gd.sp g).imp fun S1 H1 t1 m1 ds p1 i1 h1 vs rs => ?_⟩
  rw [hK]
  unfold enumG at h1
  split at h1
  · cases rs with
    | cons r1 r2 =>
      cases r2
      cases r1 with
      | lst h hs => exact ⟨_, _, rfl, .inl ⟨.of (i1.sub _ _ h), fun hl => Gd.now h1 i1 _ (itr_enumL (.of h) hs hl)⟩⟩
  · cases rs with
    | cons r1 r2 =>
      cases r2
      cases r1 with
      | tup h hs => exact ⟨_, _, rfl, .inr ⟨i1.sub.sqT h, fun hl => Gd.now h1 i1 _ (itr_enumT h hs hl)⟩⟩
  · exact h1.elim
theorem di_zip {tpos : Pos} {elts : List Expr} {kk : Nat} (hK : X.K = G.K) (hg : Gl X "zip") (hm : X.mg "zip" = none) (ha : PA X [a, b] (semA G W fs)) (hs : starEach [a, b] X.env = (false, eval a X.env) :: starEach [b] X.env := by rfl) (hpl : (backTo pos (starEach [b] X.env)).any (·.1) = false := by rfl) :
    PI X (.Tuple elts kk tpos) (.Call (.Name "zip" p) [a, b] [] pos) (semI G W (argI zipG fs)) := by
  refine (RZ.pi_zipA hg hm ha hs hpl).imp fun σ H R ⟨S, t, m, e, si, g⟩ => ⟨S, t, m, e, si, (Gd.sp g).imp fun S1 H1 t1 m1 ds p1 i1 h1 vs rs => ?_⟩
  rw [hK]
  unfold zipG at h1
  split at h1
  · cases rs with
    | cons r1 r2 =>
      cases r2 with
      | cons r2 r3 =>
        cases r3
        split at h1
        · rename_i hc
          cases r1 with
          | lst h hs =>
            cases r2 with
            | lst g gs => exact ⟨_, _, _, _, rfl, .inl ⟨.of (i1.sub _ _ h), .of (i1.sub _ _ g), Gd.now h1 i1 _ (itr_zipL (.of h) hs (.of g) gs (short_le hc))⟩⟩
        · exact h1.elim
  · cases rs with
    | cons r1 r2 =>
      cases r2 with
      | cons r2 r3 =>
        cases r3
        split at h1
        · rename_i hc
          cases r1 with
          | tup h hs =>
            cases r2 with
            | tup g gs => exact ⟨_, _, _, _, rfl, .inr ⟨i1.sub.sqT h, i1.sub.sqT g, Gd.now h1 i1 _ (itr_zipT h hs g gs (short_le hc))⟩⟩
        · exact h1.elim
  · exact h1.elim
end
end Dn
/-! Targets, comprehensions. -/
namespace Dn
open PySem L2

inductive Tg where
  | nm (i : Nat) | tp (ts : List Tg)
mutual
@[simp] def asg : Tg → D → Env → Option Env
  | .nm i, d, e => if i < e.length then some (e.set i (.dat d)) else none
  | .tp ts, .tup ds, e => asgs ts ds e
  | .tp _, _, _ => none
@[simp] def asgs : List Tg → List D → Env → Option Env
  | [], [], e => some e
  | t :: ts, d :: ds, e => (asg t d e).bind fun e1 => asgs ts ds e1
  | _, _, _ => none
end
mutual
theorem asg_len : ∀ (g : Tg) (d : D) (e e' : Env), asg g d e = some e' → e'.length = e.length
  | .nm i, d, e, e', h => by
    unfold asg at h
    split at h
    · cases h; simp
    · cases h
  | .tp ts, .tup ds, e, e', h => by unfold asg at h; exact asgs_len ts ds e e' h
  | .tp _, .non, _, _, h => by unfold asg at h; cases h
  | .tp _, .bl _, _, _, h => by unfold asg at h; cases h
  | .tp _, .int _, _, _, h => by unfold asg at h; cases h
  | .tp _, .str _, _, _, h => by unfold asg at h; cases h
  | .tp _, .lst _, _, _, h => by unfold asg at h; cases h
  | .tp _, .frz _, _, _, h => by unfold asg at h; cases h
  | .tp _, .dct _, _, _, h => by unfold asg at h; cases h
  | .tp _, .ins _ _, _, _, h => by unfold asg at h; cases h
  | .tp _, .ref _, _, _, h => by unfold asg at h; cases h
theorem asgs_len : ∀ (gs : List Tg) (ds : List D) (e e' : Env), asgs gs ds e = some e' → e'.length = e.length
  | [], [], e, e', h => by unfold asgs at h; cases h; rfl
  | t :: ts, d :: ds, e, e', h => by
    unfold asgs at h
    cases h' : asg t d e with
    | none => rw [h'] at h; cases h
    | some e1 => rw [h'] at h; exact (asgs_len ts ds e1 e' h).trans (asg_len t d e e1 h')
  | [], _ :: _, _, _, h => by unfold asgs at h; cases h
  | _ :: _, [], _, _, h => by unfold asgs at h; cases h
end
mutual
def tslots : Tg → List Nat
  | .nm i => [i]
  | .tp ts => tslotss ts
def tslotss : List Tg → List Nat
  | [] => []
  | t :: ts => tslots t ++ tslotss ts
end
/-- but at js the slots are as they were -/
def OutSame (js : List Nat) (σ σ' : St) : Prop := ∀ j, j ∉ js → σ'[j]? = σ[j]?
/-- own lists are those that were -/
def OwnSub (σ : St) (e : Env) (σ' : St) (e' : Env) : Prop := ∀ (i : Nat) d, e'[i]? = some (.own d) → e[i]? = some (.own d) ∧ σ'[i]? = σ[i]?
theorem OwnSub.refl {σ : St} {e : Env} : OwnSub σ e σ e := fun _ _ h => ⟨h, rfl⟩
theorem OwnSub.trans {σ σ1 σ2 : St} {e e1 e2 : Env} (a : OwnSub σ e σ1 e1) (b : OwnSub σ1 e1 σ2 e2) : OwnSub σ e σ2 e2 := fun i d h =>
  let ⟨h1, q1⟩ := b i d h
  let ⟨h2, q2⟩ := a i d h1
  ⟨h2, q1.trans q2⟩
section
variable {K : PySem.W.Frag} {x : Gh} {S H : Hp} {t : Th} {m : Store} {σ : St} {e : Env}
/-- a slot gets a value -/
theorem SI.set (i : SI K x S H t m σ e) {j : Nat} {v : V} {d : D} (hj : j < e.length) (r : DR K S t v d) : SI K x S H t m (σ.set j (some v)) (e.set j (.dat d)) ∧ OwnSub σ e (σ.set j (some v)) (e.set j (.dat d)) := by
  have ow : OwnSub σ e (σ.set j (some v)) (e.set j (.dat d)) := fun k c h => by
    by_cases z : k = j
    · subst z; rw [List.getElem?_set_self hj] at h; cases h
    · rw [List.getElem?_set_ne (Ne.symm z)] at h ⊢; exact ⟨h, rfl⟩
  refine ⟨⟨i.hi, by simp [i.len], fun k c h => ?_, fun k c h => ?_, fun k l c c' a h1 h2 h3 h4 => ?_, fun k c fs h => ?_⟩, ow⟩
  · by_cases z : k = j
    · subst z
      rw [List.getElem?_set_self hj] at h
      cases h
      exact ⟨v, List.getElem?_set_self (by rw [i.len]; exact hj), r⟩
    · rw [List.getElem?_set_ne (Ne.symm z)] at h ⊢; exact i.dat k c h
  · obtain ⟨h1, h2⟩ := ow k c h
    rw [h2]; exact i.own k c h1
  · obtain ⟨a1, a2⟩ := ow k c h1
    obtain ⟨b1, b2⟩ := ow l c' h2
    rw [a2] at h3; rw [b2] at h4
    exact i.apart k l c c' a a1 b1 h3 h4
  · by_cases z : k = j
    · subst z; rw [List.getElem?_set_self hj] at h; cases h
    · rw [List.getElem?_set_ne (Ne.symm z)] at h ⊢; exact i.exn k c fs h
end
/-- a target's promise -/
def semG (K : PySem.W.Frag) (x : Gh) (g : Tg) : TG := fun v σ H Q => ∃ S t m e d e', SI K x S H t m σ e ∧ DR K S t v d ∧ asg g d e = some e' ∧ ∀ σ', SI K x S H t m σ' e' → OwnSub σ e σ' e' → OutSame (tslots g) σ σ' → Q σ' H
def semGs (K : PySem.W.Frag) (x : Gh) (gs : List Tg) : TGs := fun vs σ H Q => ∃ S t m e ds e', SI K x S H t m σ e ∧ DRs K S t vs ds ∧ asgs gs ds e = some e' ∧ ∀ σ', SI K x S H t m σ' e' → OwnSub σ e σ' e' → OutSame (tslotss gs) σ σ' → Q σ' H
section
variable {X : Cx} {K : PySem.W.Frag} {x : Gh} {pos : Pos}
theorem _root_.L2.PG.imp {X : Cx} {e : Expr} {t t' : TG} (h : PG X e t) (w : ∀ v σ H Q, t' v σ H Q → t v σ H Q) : PG X e t' := ⟨fun pins s σ H v u Q I r q => h.run pins s σ H v u Q I r (w v σ H Q q)⟩
theorem _root_.L2.PGs.imp {X : Cx} {e : List Expr} {t t' : TGs} (h : PGs X e t) (w : ∀ v σ H Q, t' v σ H Q → t v σ H Q) : PGs X e t' := ⟨fun pins s σ H v u Q I r q => h.run pins s σ H v u Q I r (w v σ H Q q)⟩
theorem dg_name {i : Nat} {y : Str} (hN : X.N.Nodup) (hi : X.N[i]? = some y) (hx : Loc X.env.scope y) (hf : X.fn y = true ∨ X.env.scope.names.lookup y = some .local) : PG X (.Name y pos) (semG K x (.nm i)) := by
  refine (pg_name hN hi hx hf).imp fun v σ H Q ⟨S, t, m, e, d, e', si, r, h, q⟩ => ?_
  unfold asg at h
  split at h
  · rename_i hj
    cases h
    obtain ⟨a, b⟩ := si.set hj r
    exact q _ a b fun j hj => List.getElem?_set_ne fun z => hj (by unfold tslots; simp [z])
  · cases h
theorem dgs_nil : PGs X [] (semGs K x []) := by
  refine pgs_nil.imp fun vs σ H Q ⟨S, t, m, e, ds, e', si, r, h, q⟩ => ?_
  cases r with
  | nil =>
    unfold asgs at h
    cases h
    exact ⟨rfl, q σ si .refl fun _ _ => rfl⟩
  | cons r rs => unfold asgs at h; cases h
theorem dgs_cons {a : Expr} {es : List Expr} {g : Tg} {gs : List Tg} (h1 : PG X a (semG K x g)) (h2 : PGs X es (semGs K x gs)) (hs : (assignEach (a :: es) X.env).map (·.2) = assign a X.env :: (assignEach es X.env).map (·.2) := by rfl) : PGs X (a :: es) (semGs K x (g :: gs)) := by
  refine (pgs_cons h1 h2 hs).imp fun vs σ H Q ⟨S, t, m, e, ds, e', si, r, h, q⟩ => ?_
  cases r with
  | nil => unfold asgs at h; cases h
  | @cons v vs d ds r rs =>
    unfold asgs at h
    cases h' : asg g d e with
    | none => rw [h'] at h; cases h
    | some e1 =>
      rw [h'] at h
      refine ⟨v, vs, rfl, S, t, m, e, d, e1, si, r, h', fun σ1 si1 o1 c1 => ⟨S, t, m, e1, ds, e', si1, rs, h, fun σ' si' o' c' => q σ' si' (o1.trans o') fun j hj => ?_⟩⟩
      unfold tslotss at hj
      rw [List.mem_append, not_or] at hj
      exact (c' j hj.2).trans (c1 j hj.1)
theorem dg_tup {es : List Expr} {k : Nat} {gs : List Tg} (hK : X.K = K) (hc : X.calm = true) (h : PGs X es (semGs K x gs)) (hn : (assignEach es X.env).length = gs.length := by rfl) (hst : (assignEach es X.env).findIdx? (·.1) = none := by rfl) :
    PG X (.Tuple es k pos) (semG K x (.tp gs)) := by
  refine (pg_tup (n := gs.length) hc h hn hst).imp fun v σ H Q ⟨S, t, m, e, d, e', si, r, h, q⟩ => ?_
  rw [hK]
  cases r with
  | @tup a vs ds hs rs =>
    unfold asg at h
    refine ⟨a, vs, rfl, si.hi.sub.sqT hs, ?_, S, t, m, e, ds, e', si, rs, h, fun σ' a b c => q σ' a b (by unfold tslots; exact c)⟩
    rw [rs.length]
    revert h
    have lem : ∀ (gs : List Tg) (ds : List D) (e e' : Env), asgs gs ds e = some e' → ds.length = gs.length := by
      intro gs
      induction gs with
      | nil => intro ds e e' h; cases ds with
        | nil => rfl
        | cons d ds => unfold asgs at h; cases h
      | cons g gs ih => intro ds e e' h; cases ds with
        | nil => unfold asgs at h; cases h
        | cons d ds =>
          unfold asgs at h
          cases h' : asg g d e with
          | none => rw [h'] at h; cases h
          | some e1 =>
            rw [h'] at h
            have := ih ds e1 e' h
            simp [this]
    exact lem gs ds e e'
  | _ => unfold asg at h; cases h
end

/-! ### comprehensions -/
def noX {α : Type} : R α → R α
  | .ok a m => .ok a m
  | _ => .stuck
@[simp] theorem noX_ok {α : Type} (a : α) (m : Store) : noX (R.ok a m) = .ok a m := rfl
/-- the comprehension's own names forgotten -/
@[simp] def wipeE (e : Env) : List Nat → Env
  | [] => e
  | v :: vs => (wipeE e vs).set v .em
def lcL (C : Orc) (g : Tg) (tt : EvT) (te : EvE) (e : Env) : List D → Store → R (List D)
  | [], m => .ok [] m
  | d :: ds, m => match asg g d e with
    | none => .stuck
    | some e1 => (noX (tt C e1 m)).bind fun b m1 => if b = true then (noX (te C e1 m1)).bind fun x m2 => (lcL C g tt te e ds m2).bind fun xs m3 => .ok (x :: xs) m3 else lcL C g tt te e ds m1
@[simp] def lcF (it : EvA) (g : Tg) (tt : EvT) (te : EvE) (vs : List Nat) : EvA := fun C e m => (it C e m).bind fun ds m1 => lcL C g tt te (wipeE e vs) ds m1
@[simp] def yesT : EvT := fun _ _ m => .ok true m
/-- no error is wished for -/
abbrev W0 : WX := fun _ _ _ _ => False
section
variable {K : PySem.W.Frag} {x : Gh} {S H : Hp} {t : Th} {m : Store} {σ : St} {e : Env}
theorem SI.drop (i : SI K x S H t m σ e) (j : Nat) : SI K x S H t m (σ.set j none) (e.set j .em) := by
  have el : ∀ (k : Nat) c, (e.set j .em)[k]? = some c → c ≠ .em → e[k]? = some c ∧ (σ.set j none)[k]? = σ[k]? := fun k c h hc => by
    by_cases z : k = j
    · subst z
      by_cases hk : k < e.length
      · rw [List.getElem?_set_self hk] at h; cases h; exact absurd rfl hc
      · rw [List.getElem?_eq_none (by simpa using hk)] at h; cases h
    · rw [List.getElem?_set_ne (Ne.symm z)] at h ⊢; exact ⟨h, rfl⟩
  refine ⟨i.hi, by simp [i.len], fun k c h => ?_, fun k c h => ?_, fun k l c c' a h1 h2 h3 h4 => ?_, fun k c fs h => ?_⟩
  · obtain ⟨h1, h2⟩ := el k _ h (by simp)
    rw [h2]; exact i.dat k c h1
  · obtain ⟨h1, h2⟩ := el k _ h (by simp)
    rw [h2]; exact i.own k c h1
  · obtain ⟨a1, a2⟩ := el k _ h1 (by simp)
    obtain ⟨b1, b2⟩ := el l _ h2 (by simp)
    rw [a2] at h3; rw [b2] at h4
    exact i.apart k l c c' a a1 b1 h3 h4
  · obtain ⟨h1, h2⟩ := el k _ h (by simp)
    rw [h2]; exact i.exn k c fs h1
theorem SI.wipe (i : SI K x S H t m σ e) : ∀ vs : List Nat, SI K x S H t m (wipe σ vs) (wipeE e vs)
  | [] => i
  | v :: vs => (SI.wipe i vs).drop v
theorem Gd.nox {G : Cfg} {W : WX} {α : Type} {r : R α} {P : Hp → Hp → Th → Store → α → Prop} (h : Gd G W σ S H t (noX r) P) : Gd G W0 σ S H t r P := by
  cases r with
  | ok a m' => exact h
  | exc c fs m' => exact h.elim
  | stuck => exact h.elim
end
section
variable {X : Cx} {G : Cfg} {W : WX}
theorem wipe_in {σ : St} {j : Nat} : ∀ {vs : List Nat}, j ∈ vs → j < σ.length → (wipe σ vs)[j]? = some none
  | v :: vs, h, hl => by
    unfold L2.wipe
    by_cases z : v = j
    · subst z
      rw [List.getElem?_set_self (by rw [wipe_length]; exact hl)]
    · rw [List.getElem?_set_ne z]
      exact wipe_in ((List.mem_cons.mp h).resolve_left (Ne.symm z)) hl
theorem wipe_un {σ : St} {j : Nat} : ∀ {vs : List Nat}, j ∉ vs → (wipe σ vs)[j]? = σ[j]?
  | [], _ => rfl
  | v :: vs, h => by
    unfold L2.wipe
    rw [List.getElem?_set_ne (fun z => h (by simp [z])), wipe_un (fun z => h (List.mem_cons_of_mem _ z))]
theorem wipe_same {σ σ2 : St} {vs : List Nat} (hl : σ2.length = σ.length) (h : OutSame vs (wipe σ vs) σ2) : wipe σ2 vs = wipe σ vs := by
  apply List.ext_getElem?
  intro j
  by_cases z : j ∈ vs
  · by_cases hj : j < σ.length
    · rw [wipe_in z hj, wipe_in z (by rw [hl]; exact hj)]
    · rw [List.getElem?_eq_none (by rw [wipe_length]; omega), List.getElem?_eq_none (by rw [wipe_length]; omega)]
  · rw [wipe_un z]
    exact h j z
theorem lc_ws {g : Tg} {vs : List Nat} (hv : (tslots g).all (fun j => vs.contains j) = true) (v : V) (σ : St) (H : Hp) (Q : St → Hp → Prop) (h : semG G.K G.x g v (wipe σ vs) H Q) : semG G.K G.x g v (wipe σ vs) H fun σ2 H2 => wipe σ2 vs = wipe σ vs ∧ Q σ2 H2 := by
  obtain ⟨S, t, m, e, d, e', si, r, ha, q⟩ := h
  have hlen : ∀ (g : Tg) (d : D) (e e' : Env), asg g d e = some e' → e'.length = e.length := asg_len
  refine ⟨S, t, m, e, d, e', si, r, ha, fun σ' si' o' c' => ⟨wipe_same ?_ fun j hj => c' j fun z => hj ?_, q σ' si' o' c'⟩⟩
  · rw [si'.len, hlen _ _ _ _ ha, ← si.len, wipe_length]
  · have := List.all_eq_true.mp hv j z
    simpa using this
theorem sem_lc2 {fi : EvA} {g : Tg} {tt : EvT} {te : EvE} {vs : List Nat} {σ : St} {H : Hp} {Q : VK}
    (hws : ∀ v σ H Q, semG G.K G.x g v (wipe σ vs) H Q → semG G.K G.x g v (wipe σ vs) H fun σ2 H2 => wipe σ2 vs = wipe σ vs ∧ Q σ2 H2)
    (h : semF G W (lcF fi g tt te vs) σ H Q) : tLc (semI2 G W fi) (semG G.K G.x g) (semT G W0 tt) (semE G W0 te) vs σ H Q := by
  obtain ⟨S, t, m, e, si, h⟩ := h
  unfold lcF at h
  refine ⟨S, t, m, e, si, ?_⟩
  cases hi : fi G.C e m with
  | exc c fs m' => rw [hi] at h; exact h
  | stuck => rw [hi] at h; exact h
  | ok ds m1 =>
  rw [hi] at h
  intro S1 H1 t1 p1 i1 J it D hD
  have h : Gd G W σ S H t (lcL G.C g tt te (wipeE e vs) ds m1) _ := h
  have nH : H D = none := by
    cases q : H D with
    | none => rfl
    | some o => exact absurd hD (p1.dom D (by rw [q]; simp))
  -- the loop
  refine ⟨fun i k H2 => k = ds.length - i ∧ i ≤ ds.length ∧ ∃ S2 t2 m2 acc xs, HI G.K S2 H2 t2 m2 ∧ Stp S H t S2 H2 t2 ∧ Stp S1 H1 t1 S2 H2 t2 ∧ S2 D = none ∧ (∀ n, t2 n ≠ some D) ∧ H2 D = some (.lst acc) ∧ DRs G.K S2 t2 acc xs ∧ acc.length ≤ i ∧
    Gd G W σ S H t ((lcL G.C g tt te (wipeE e vs) (ds.drop i) m2).bind fun ys m3 => .ok (xs ++ ys) m3) (fun S' H' t' _ zs => ∀ p, OwnAt G.K S' H' t' p (.lst zs) → H p = none → Q (.ref p) H'), ⟨ds.length, by simp, Nat.zero_le _, ?_⟩, ?_⟩
  · obtain ⟨i2, p2⟩ := new_hi0 (o := .lst []) i1 hD
    have hS : S1 D = none := by
      cases q : S1 D with
      | none => rfl
      | some o => rw [i1.sub D o q] at hD; cases hD
    refine ⟨S1, t1, m1, [], [], i2, p1.trans p2, p2, hS, fun n q => i1.off n D q hD, upd_same, .nil, Nat.le_refl _, ?_⟩
    rw [List.drop_zero]
    revert h
    cases lcL G.C g tt te (wipeE e vs) ds m1 with
    | ok ys m3 => exact id
    | exc c fs m3 => exact id
    | stuck => exact id
  · rintro i k H2 ⟨rfl, hi, S2, t2, m2, acc, xs, i2, p2, q2, hS, ht, hH, hd, hl, h2⟩
    by_cases hlt : i < ds.length
    · right
      have hx : ds[i]? = some ds[i] := List.getElem?_eq_getElem hlt
      obtain ⟨hgo, hy⟩ := it.go i _ S2 H2 t2 m2 hx q2 i2
      refine ⟨hgo, _, fun H' q => ⟨ds.length - (i + 1), by omega, q⟩, fun x H3 y => ?_⟩
      obtain ⟨S3, p3, i3, r3⟩ := hy x H3 y
      rw [List.drop_eq_getElem_cons hlt] at h2
      unfold lcL at h2
      cases ha : asg g ds[i] (wipeE e vs) with
      | none => rw [ha] at h2; exact h2.elim
      | some e1 =>
        rw [ha] at h2
        dsimp only at h2
        have nD3 : H3 D = some (.lst acc) := p3.keep D _ hH ht
        have siw : SI G.K G.x S3 H3 t2 m2 (wipe σ vs) (wipeE e vs) := SI.wipe ((si.stp p2 i2).stp p3 i3) vs
        refine hws x σ H3 _ ⟨S3, t2, m2, _, _, e1, siw, r3, ha, fun σ2 si2 o2 _ => ?_⟩
        refine ⟨S3, t2, m2, e1, si2, ?_⟩
        cases hb : tt G.C e1 m2 with
        | exc c fs m' => rw [hb] at h2; exact h2.elim
        | stuck => rw [hb] at h2; exact h2.elim
        | ok b m4 =>
        rw [hb] at h2
        simp only [noX_ok, R.bind_ok] at h2
        intro S4 H4 t4 p4 i4
        have keep4 : H4 D = some (.lst acc) := p4.keep D _ nD3 ht
        have ht4 := p4.offs (by rw [nD3]; simp) ht
        have hS3 : S3 D = none := (p3.hs D (by rw [hH]; simp)).trans hS
        have hS4 : S4 D = none := (p4.hs D (by rw [nD3]; simp)).trans hS3
        have hd4 : DRs G.K S4 t4 acc xs := (hd.stp i2 p3).stp i3 p4
        have q4 := (q2.trans p3).trans p4
        cases b with
        | false =>
          exact ⟨rfl, hlt, S4, t4, m4, acc, xs, i4, (p2.trans p3).trans p4, q4, hS4, ht4, keep4, hd4, by omega, h2⟩
        | true =>
          refine ⟨S4, t4, m4, e1, si2.stp p4 i4, ?_⟩
          rw [if_pos rfl] at h2
          cases hz : te G.C e1 m4 with
          | exc c fs m' => rw [hz] at h2; exact h2.elim
          | stuck => rw [hz] at h2; exact h2.elim
          | ok x5 m5 =>
          rw [hz] at h2
          simp only [noX_ok, R.bind_ok] at h2
          intro S5 H5 t5 p5 i5 v5 r5
          have keep5 : H5 D = some (.lst acc) := p5.keep D _ keep4 ht4
          have ht5 := p5.offs (by rw [keep4]; simp) ht4
          have hS5 : S5 D = none := (p5.hs D (by rw [keep4]; simp)).trans hS4
          have hd5 : DRs G.K S5 t5 acc xs := hd4.stp i4 p5
          have hl5 : acc.length < sizeLine := Nat.lt_of_le_of_lt hl (Nat.lt_of_lt_of_le hlt it.len)
          have i6 := own_hi (o := .lst (acc ++ [v5])) i5 hS5 (by rw [keep5]; simp) ht5
          have p6 : Stp S H t S5 (upd H5 D (.lst (acc ++ [v5]))) t5 := by
            have q := ((p2.trans p3).trans p4).trans p5
            refine ⟨fun a o ha hn => ?_, fun a ha => ?_, q.hs, q.th, q.thn⟩
            · rw [upd_ne (ne_of_none ha nH)]; exact q.keep a o ha hn
            · rw [upd_ne (fun z => ha (by rw [z]; exact nH))]; exact q.dom a ha
          have q6 : Stp S1 H1 t1 S5 (upd H5 D (.lst (acc ++ [v5]))) t5 := by
            have q := q4.trans p5
            refine ⟨fun a o ha hn => ?_, fun a ha => ?_, q.hs, q.th, q.thn⟩
            · rw [upd_ne (ne_of_none ha hD)]; exact q.keep a o ha hn
            · rw [upd_ne (fun z => ha (by rw [z]; exact hD))]; exact q.dom a ha
          refine ⟨acc, keep5, hl5, rfl, hlt, S5, t5, m5, acc ++ [v5], xs ++ [x5], i6, p6, q6, hS5, ht5, upd_same, hd5.append (.cons r5 .nil), by rw [List.length_append, List.length_singleton]; omega, ?_⟩
          revert h2
          cases lcL G.C g tt te (wipeE e vs) (ds.drop (i + 1)) m5 with
          | ok a m' =>
            show Gd G W σ S H t (R.ok (xs ++ x5 :: a) m') _ → Gd G W σ S H t (R.ok ((xs ++ [x5]) ++ a) m') _
            rw [List.append_assoc]
            exact id
          | exc c fs m' => exact id
          | stuck => exact id
    · left
      have e0 : i = ds.length := by omega
      subst e0
      refine ⟨it.stop S2 H2 t2 m2 q2 i2, ?_⟩
      rw [List.drop_length] at h2
      have h3 : Gd G W σ S H t (.ok (xs ++ []) m2) (fun S' H' t' _ zs => ∀ p, OwnAt G.K S' H' t' p (.lst zs) → H p = none → Q (.ref p) H') := h2
      rw [List.append_nil] at h3
      exact h3 S2 H2 t2 p2 i2 D ⟨hS, ht, xs, acc, rfl, hH, hd⟩ nH
theorem sem_lc {fi : EvA} {g : Tg} {tt : EvT} {te : EvE} {vs : List Nat} {σ : St} {H : Hp} {Q : VK}
    (hws : ∀ v σ H Q, semG G.K G.x g v (wipe σ vs) H Q → semG G.K G.x g v (wipe σ vs) H fun σ2 H2 => wipe σ2 vs = wipe σ vs ∧ Q σ2 H2)
    (h : semF G W (lcF fi g tt te vs) σ H Q) : tLc (semI G W fi) (semG G.K G.x g) (semT G W0 tt) (semE G W0 te) vs σ H Q := semI2_of (sem_lc2 hws h)
/-- [elt for tg in iter if ..] -/
theorem df_lc2 {elt tg iter : Expr} {ifs : List Expr} {scope : Scope} {own : List (Str × Nat)} {ws : List Nat} {pos : Pos} {fi : EvA} {g : Tg} {tt : EvT} {te : EvE} (hc : X.calm = true) (hN : X.N.Nodup) (ok : BlkOk X.N X.env.scope scope own) (hw : own.map (·.2) = ws) (hi : PI X tg iter (semI2 G W fi))
    (hv : (tslots g).all (fun j => ws.contains j) = true)
    (hg : ∀ (s : Shared) (H : Hp) (C : Addr) (cl : List (Str × Addr)) (fp : List Addr), PG (X.blk s H scope (compEnvC scope cl C X.env) fp) tg (semG G.K G.x g)) (ht : ∀ (s : Shared) (H : Hp) (C : Addr) (cl : List (Str × Addr)) (fp : List Addr), PTs (X.blk s H scope (compEnvC scope cl C X.env) fp) ifs (semT G W0 tt))
    (he : ∀ (s : Shared) (H : Hp) (C : Addr) (cl : List (Str × Addr)) (fp : List Addr), PE (X.blk s H scope (compEnvC scope cl C X.env) fp) elt (semE G W0 te)) (hs : ∀ x, foldedSetIterable iter X.env x = pure x := by intro _; rfl) :
    PE X (.ListComp elt [⟨tg, iter, ifs, 0⟩] scope pos) (semF G W (lcF fi g tt te ws)) := by
  subst hw
  exact (pe_lc hc hN hi ok hg ht he hs).imp fun σ H Q h => sem_lc2 (lc_ws hv) h
/-- a list of one's own is walked -/
@[simp] def ownI (i : Nat) : EvA := fun _ e m => match e[i]? with
  | some (.own (.lst xs)) => .ok xs m
  | _ => .stuck
theorem di_own {tg : Expr} {i : Nat} {x : Str} {pos : Pos} (hK : X.K = G.K) (hN : X.N[i]? = some x) (hv : Vis X.env.scope x) (hd : (x == ("__debug__" : Str)) = false := by decide) (hcd : (x == ("__classdict__" : Str)) = false := by decide) : PI X tg (.Name x pos) (semI2 G W (ownI i)) := by
  refine (pi_seq (pe_var (i := i) hN hv hd hcd)).imp fun σ H R ⟨S, t, m, e, si, g⟩ => ?_
  unfold ownI at g
  split at g
  · rename_i xs h
    obtain ⟨a, h1, h2⟩ := si.own i _ h
    refine ⟨_, h1, ?_⟩
    obtain ⟨off, nt, ys, vs, e1, hH, hd⟩ := h2
    cases e1
    refine .inl ⟨a, vs, rfl, .of hH, fun hl => Gd.now g si.hi _ ?_⟩
    have hS : Sub S S := .refl S
    refine ⟨by rw [← hd.length]; exact hl, fun j d S2 H2 t2 m2 hj q2 i2 => ?_, fun S2 H2 t2 m2 q2 i2 => ?_⟩
    · obtain ⟨v, hv, rv⟩ := hd.get hj
      have hH2 : H2 a = some (.lst vs) := q2.keep a _ hH nt
      rw [hK]
      refine ⟨⟨vs, v, .of hH2, hv⟩, fun x H' ⟨e1, e2⟩ => ?_⟩
      subst e1
      have := e2 vs (.of hH2)
      rw [hv] at this
      cases this
      exact ⟨S2, .refl, i2, rv.stp si.hi q2⟩
    · rw [hK]
      exact ⟨vs, .of (q2.keep a _ hH nt), by rw [hd.length]; exact Nat.le_refl _⟩
  · exact g.elim
/-- [elt for tg in iter if ..] -/
theorem df_lc {elt tg iter : Expr} {ifs : List Expr} {scope : Scope} {own : List (Str × Nat)} {pos : Pos} {fi : EvA} {g : Tg} {tt : EvT} {te : EvE} (hc : X.calm = true) (hN : X.N.Nodup) (hi : PI X tg iter (semI G W fi)) (ok : BlkOk X.N X.env.scope scope own)
    (hv : (tslots g).all (fun j => (own.map (·.2)).contains j) = true)
    (hg : ∀ (s : Shared) (H : Hp) (C : Addr) (cl : List (Str × Addr)) (fp : List Addr), PG (X.blk s H scope (compEnvC scope cl C X.env) fp) tg (semG G.K G.x g)) (ht : ∀ (s : Shared) (H : Hp) (C : Addr) (cl : List (Str × Addr)) (fp : List Addr), PTs (X.blk s H scope (compEnvC scope cl C X.env) fp) ifs (semT G W0 tt))
    (he : ∀ (s : Shared) (H : Hp) (C : Addr) (cl : List (Str × Addr)) (fp : List Addr), PE (X.blk s H scope (compEnvC scope cl C X.env) fp) elt (semE G W0 te)) (hs : ∀ x, foldedSetIterable iter X.env x = pure x := by intro _; rfl) :
    PE X (.ListComp elt [⟨tg, iter, ifs, 0⟩] scope pos) (semF G W (lcF fi g tt te (own.map (·.2)))) :=
  (pe_lc hc hN hi ok hg ht he hs).imp fun σ H Q h => sem_lc (lc_ws hv) h
theorem dts_nil : PTs X [] (semT G W yesT) := ⟨fun pins s σ H Q I ⟨S, t, m, e, si, g⟩ => pts_nil.run pins s σ H Q I (g.now si.hi)⟩
theorem dts_one {c : Expr} {t : EvT} (h : PT X c (semT G W t)) : PTs X [c] (semT G W t) := pts_one h
end
end Dn
/-! What a statement does, by data. -/
namespace Dn
open PySem L2

/-- the state at a def's entry -/
structure Snap where
  S : Hp
  H : Hp
  t : Th
def Own0 (H0 : Hp) (σ : St) (e : Env) : Prop := ∀ (i : Nat) d a, e[i]? = some (.own d) → σ[i]? = some (some (.ref a)) → H0 a = none
theorem Own0.sub {H0 : Hp} {σ σ' : St} {e e' : Env} (h : Own0 H0 σ e) (o : OwnSub σ e σ' e') : Own0 H0 σ' e' := fun i d a h1 h2 => by
  obtain ⟨q1, q2⟩ := o i d h1
  exact h i d a q1 (q2.symm.trans h2)
/-- the state between two statements -/
structure SF (G : Cfg) (E : Snap) (S H : Hp) (t : Th) (m : Store) (σ : St) (e : Env) : Prop where
  si : SI G.K G.x S H t m σ e
  fr : Stp E.S E.H E.t S H t
  ow : Own0 E.H σ e
def GS (G : Cfg) (W : WX) (E : Snap) (D : Ends) (r : SR) : Prop := match r with
  | .nx e m => ∀ S H t σ, SF G E S H t m σ e → D.nx σ H
  | .ret d m => ∀ S H t v, HI G.K S H t m → Stp E.S E.H E.t S H t → DR G.K S t v d → D.rt v H
  | .brk e m => ∀ S H t σ, SF G E S H t m σ e → D.bk σ H
  | .ct e m => ∀ S H t σ, SF G E S H t m σ e → D.ct σ H
  | .exc c fs e m => ∀ S H t σ cls dx, SF G E S H t m σ e → EXR G S H t c fs cls dx → W cls dx σ H
  | .stuck => False
def semS (G : Cfg) (W : WX) (E : Snap) (f : EvS) : TS := fun D σ H => ∃ S t m e, SF G E S H t m σ e ∧ GS G W E D (f G.C e m)
def liftS {α : Type} (r : R α) (e : Env) (k : α → Store → SR) : SR := match r with
  | .ok a m => k a m
  | .exc c fs m => .exc c fs e m
  | .stuck => .stuck
@[simp] theorem liftS_ok {α : Type} (a : α) (m : Store) (e : Env) (k : α → Store → SR) : liftS (R.ok a m) e k = k a m := rfl
@[simp] theorem liftS_exc {α : Type} (c : Nat) (fs : List D) (m : Store) (e : Env) (k : α → Store → SR) : liftS (R.exc c fs m) e k = .exc c fs e m := rfl
@[simp] theorem liftS_stuck {α : Type} (e : Env) (k : α → Store → SR) : liftS (R.stuck : R α) e k = .stuck := rfl
def SR.bind (r : SR) (f : Env → Store → SR) : SR := match r with
  | .nx e m => f e m
  | .ret d m => .ret d m
  | .brk e m => .brk e m
  | .ct e m => .ct e m
  | .exc c fs e m => .exc c fs e m
  | .stuck => .stuck
@[simp] theorem SR.bind_nx (e : Env) (m : Store) (f : Env → Store → SR) : (SR.nx e m).bind f = f e m := rfl
@[simp] theorem SR.bind_ret (d : D) (m : Store) (f : Env → Store → SR) : (SR.ret d m).bind f = .ret d m := rfl
@[simp] theorem SR.bind_brk (e : Env) (m : Store) (f : Env → Store → SR) : (SR.brk e m).bind f = .brk e m := rfl
@[simp] theorem SR.bind_ct (e : Env) (m : Store) (f : Env → Store → SR) : (SR.ct e m).bind f = .ct e m := rfl
@[simp] theorem SR.bind_exc (c : Nat) (fs : List D) (e : Env) (m : Store) (f : Env → Store → SR) : (SR.exc c fs e m).bind f = .exc c fs e m := rfl
@[simp] theorem SR.bind_stuck (f : Env → Store → SR) : SR.stuck.bind f = .stuck := rfl
section
variable {G : Cfg} {W : WX} {E : Snap} {S S' H H' : Hp} {t t' : Th} {m m' : Store} {σ : St} {e : Env} {D : Ends}
theorem SF.stp (h : SF G E S H t m σ e) (p : Stp S H t S' H' t') (i : HI G.K S' H' t' m') : SF G E S' H' t' m' σ e := ⟨h.si.stp p i, h.fr.trans p, h.ow⟩
/-- an expression within a statement -/
theorem GS.lift {α : Type} {r : R α} {k : α → Store → SR} (sf : SF G E S H t m σ e) (h : GS G W E D (liftS r e k)) : Gd G W σ S H t r (fun S' H' t' m' a => GS G W E D (k a m')) := by
  cases r with
  | ok a m' => exact fun _ _ _ _ _ => h
  | exc c fs m' => exact fun S' H' t' cls dx p i x => h S' H' t' σ cls dx (sf.stp p i) x
  | stuck => exact h
/-- what is asked behind may be asked of more -/
theorem GS.bind {r : SR} {f : Env → Store → SR} (h : GS G W E D (r.bind f)) : GS G W E { D with nx := fun σ H => ∃ S t m e, SF G E S H t m σ e ∧ GS G W E D (f e m) } r := by
  cases r with
  | nx e m => exact fun S H t σ sf => ⟨S, t, m, e, sf, h⟩
  | ret d m => exact h
  | brk e m => exact h
  | ct e m => exact h
  | exc c fs e m => exact h
  | stuck => exact h
end

theorem _root_.L2.PS.imp {X : Cx} {st : Stmt} {t t' : TS} (h : PS X st t) (w : ∀ D σ H, t' D σ H → t D σ H) : PS X st t' := ⟨fun pins s σ H D I q => h.run pins s σ H D I (w D σ H q)⟩
theorem _root_.L2.PSs.imp {X : Cx} {st : List Stmt} {t t' : TS} (h : PSs X st t) (w : ∀ D σ H, t' D σ H → t D σ H) : PSs X st t' := ⟨fun pins s σ H D I q => h.run pins s σ H D I (w D σ H q)⟩

/-! ### combinators -/
@[simp] def nxS : EvS := fun _ e m => .nx e m
@[simp] def seqS (f g : EvS) : EvS := fun C e m => (f C e m).bind fun e1 m1 => g C e1 m1
@[simp] def retS (f : EvE) : EvS := fun C e m => liftS (f C e m) e fun d m1 => .ret d m1
@[simp] def dropS (f : EvE) : EvS := fun C e m => liftS (f C e m) e fun _ m1 => .nx e m1
@[simp] def brkS : EvS := fun _ e m => .brk e m
@[simp] def ctS : EvS := fun _ e m => .ct e m
@[simp] def ifS (c : EvT) (a b : EvS) : EvS := fun C e m => liftS (c C e m) e fun k m1 => if k = true then a C e m1 else b C e m1
def SR.of (o : Option Env) (m : Store) : SR := match o with
  | some e => .nx e m
  | none => .stuck
@[simp] theorem SR.of_some (e : Env) (m : Store) : SR.of (some e) m = .nx e m := rfl
@[simp] theorem SR.of_none (m : Store) : SR.of none m = .stuck := rfl
@[simp] def asgS (g : Tg) (f : EvE) : EvS := fun C e m => liftS (f C e m) e fun d m1 => .of (asg g d e) m1
/-- slot i a list of its own -/
@[simp] def ownO (i : Nat) (xs : List D) (e : Env) : Option Env := if i < e.length then some (e.set i (.own (.lst xs))) else none
@[simp] def ownS (i : Nat) (f : EvA) : EvS := fun C e m => liftS (f C e m) e fun xs m1 => .of (ownO i xs e) m1
/-- slot i's own list is settled -/
@[simp] def frzO (i : Nat) (e : Env) : Option Env := match e[i]? with
  | some (.own d) => some (e.set i (.dat d))
  | some (.dat _) => some e
  | _ => none
@[simp] def frzS (i : Nat) : EvS := fun _ e m => .of (frzO i e) m
/-- slot i's own list goes into the store -/
@[simp] def stoS (i : Nat) : EvS := fun _ e m => match e[i]? with
  | some (.own (.lst xs)) => .nx (e.set i (.dat (.ref m.length))) (m ++ [.lst xs])
  | _ => .stuck

section
variable {X : Cx} {G : Cfg} {W : WX} {E : Snap} {a b c : Expr} {st : Stmt} {rest : List Stmt} {fa fb : EvE} {fs : EvA} {tc : EvT} {f g : EvS} {pos : Pos}
theorem dss_nil : PSs X [] (semS G W E nxS) := pss_nil.imp fun D σ H ⟨S, t, m, e, sf, h⟩ => h S H t σ sf
theorem dss_cons (h1 : PS X st (semS G W E f)) (h2 : PSs X rest (semS G W E g)) : PSs X (st :: rest) (semS G W E (seqS f g)) :=
  (pss_cons h1 h2).imp fun D σ H ⟨S, t, m, e, sf, h⟩ => ⟨S, t, m, e, sf, GS.bind h⟩
theorem dss_one (h1 : PS X st (semS G W E f)) : PSs X [st] (semS G W E f) := pss_one h1
theorem ds_pass : PS X (.Pass pos) (semS G W E nxS) := ps_pass.imp fun D σ H ⟨S, t, m, e, sf, h⟩ => h S H t σ sf
theorem ds_doc {x j pos pos'} : PS X (.Expr (.Constant (.str x) j pos) pos') (semS G W E nxS) := ps_doc.imp fun D σ H ⟨S, t, m, e, sf, h⟩ => h S H t σ sf
theorem ds_break : PS X (.Break pos) (semS G W E brkS) := ps_break.imp fun D σ H ⟨S, t, m, e, sf, h⟩ => h S H t σ sf
theorem ds_continue : PS X (.Continue pos) (semS G W E ctS) := ps_continue.imp fun D σ H ⟨S, t, m, e, sf, h⟩ => h S H t σ sf
theorem ds_ret (ha : PE X a (semE G W fa)) : PS X (.Return (some a) pos) (semS G W E (retS fa)) :=
  (ps_ret ha).imp fun D σ H ⟨S, t, m, e, sf, h⟩ => ⟨S, t, m, e, sf.si, (GS.lift sf h).imp fun S1 H1 t1 m1 d p1 i1 h1 v rv => h1 S1 H1 t1 v i1 (sf.fr.trans p1) rv⟩
theorem ds_retN : PS X (.Return none pos) (semS G W E (retS (conE .non))) :=
  ps_retN.imp fun D σ H ⟨S, t, m, e, sf, h⟩ => h S H t .non sf.si.hi sf.fr .non
theorem ds_expr (ha : PE X a (semE G W fa)) (hs : swapsWith a none pos.line X.env = pure false := by rfl) : PS X (.Expr a pos) (semS G W E (dropS fa)) :=
  (ps_expr ha hs).imp fun D σ H ⟨S, t, m, e, sf, h⟩ => ⟨S, t, m, e, sf.si, (GS.lift sf h).imp fun S1 H1 t1 m1 d p1 i1 h1 v rv => h1 S1 H1 t1 σ (sf.stp p1 i1)⟩
theorem ds_if {ss rs : List Stmt} (hc : PT X c (semT G W tc)) (ha : PSs X ss (semS G W E f)) (hb : PSs X rs (semS G W E g)) : PS X (.If c ss rs pos) (semS G W E (ifS tc f g)) := by
  refine (ps_if hc ha hb).imp fun D σ H ⟨S, t, m, e, sf, h⟩ => ⟨S, t, m, e, sf.si, (GS.lift sf h).imp fun S1 H1 t1 m1 k p1 i1 h1 => ?_⟩
  cases k with
  | true => exact ⟨S1, t1, m1, e, sf.stp p1 i1, h1⟩
  | false => exact ⟨S1, t1, m1, e, sf.stp p1 i1, h1⟩
theorem sem_asg {g : Tg} {D : Ends} {σ : St} {H : Hp} (h : semS G W E (asgS g fa) D σ H) : tAsg (semE G W fa) (semG G.K G.x g) D σ H := by
  obtain ⟨S, t, m, e, sf, h⟩ := h
  refine ⟨S, t, m, e, sf.si, (GS.lift sf h).imp fun S1 H1 t1 m1 d p1 i1 h1 v rv => ?_⟩
  cases ha : asg g d e with
  | none => rw [ha] at h1; exact h1.elim
  | some e' =>
    rw [ha] at h1
    have sf1 := sf.stp p1 i1
    exact ⟨S1, t1, m1, e, d, e', sf1.si, rv, ha, fun σ' si' o' _ => h1 S1 H1 t1 σ' ⟨si', sf1.fr, sf1.ow.sub o'⟩⟩
theorem ds_asg {tg : Expr} {g : Tg} (ha : PE X a (semE G W fa)) (hg : PG X tg (semG G.K G.x g)) (hs : swapsWithSole [tg] a pos.line X.env = pure false := by rfl) (hw : swappedStores [tg] a X.env = pure none := by rfl)
    (h1 : (assignEach [tg] X.env).map (·.2) = [assign tg X.env] := by rfl) : PS X (.Assign [tg] a pos) (semS G W E (asgS g fa)) := (ps_asg ha hg hs hw h1).imp fun D σ H h => sem_asg h
theorem sem_set {i : Nat} {D : Ends} {σ : St} {H : Hp} (h : semS G W E (asgS (.nm i) fa) D σ H) : tAsg (semE G W fa) (gName i) D σ H := by
  obtain ⟨S, t, m, e, sf, h⟩ := h
  refine ⟨S, t, m, e, sf.si, (GS.lift sf h).imp fun S1 H1 t1 m1 d p1 i1 h1 v rv => ?_⟩
  unfold asg at h1
  split at h1
  · rename_i hj
    have sf1 := sf.stp p1 i1
    obtain ⟨a, b⟩ := sf1.si.set hj rv
    exact h1 S1 H1 t1 _ ⟨a, sf1.fr, sf1.ow.sub b⟩
  · exact h1.elim
theorem ds_set {i : Nat} {x : Str} {pos' : Pos} (hN : X.N.Nodup) (hi : X.N[i]? = some x) (hx : Loc X.env.scope x) (ha : PE X a (semE G W fa)) (hf : X.fn x = true ∨ X.env.scope.names.lookup x = some .local) (hs : swapsWith a (some (.Name x pos')) pos.line X.env = pure false := by rfl) :
    PS X (.Assign [.Name x pos'] a pos) (semS G W E (asgS (.nm i) fa)) := (ps_set hN hi hx ha hs hf).imp fun D σ H h => sem_set h
end

/-! ### lists of one's own -/
section
variable {K : PySem.W.Frag} {x : Gh} {G : Cfg} {W : WX} {E : Snap} {S H : Hp} {t : Th} {m : Store} {σ : St} {e : Env}
/-- slot j gets a list of its own, at p -/
theorem SI.setOwn (i : SI K x S H t m σ e) {j : Nat} {p : Addr} {d : D} (hj : j < e.length) (r : OwnAt K S H t p d) (hp : ∀ (k : Nat) c, k ≠ j → e[k]? = some (.own c) → σ[k]? ≠ some (some (.ref p))) : SI K x S H t m (σ.set j (some (.ref p))) (e.set j (.own d)) := by
  have hs : j < σ.length := by rw [i.len]; exact hj
  refine ⟨i.hi, by simp [i.len], fun k c h => ?_, fun k c h => ?_, fun k l c c' a h1 h2 h3 h4 => ?_, fun k c fs h => ?_⟩
  · by_cases z : k = j
    · subst z; rw [List.getElem?_set_self hj] at h; cases h
    · rw [List.getElem?_set_ne (Ne.symm z)] at h ⊢; exact i.dat k c h
  · by_cases z : k = j
    · subst z
      rw [List.getElem?_set_self hj] at h
      cases h
      exact ⟨p, List.getElem?_set_self hs, r⟩
    · rw [List.getElem?_set_ne (Ne.symm z)] at h ⊢; exact i.own k c h
  · by_cases z : k = j <;> by_cases z' : l = j
    · omega
    · subst z
      rw [List.getElem?_set_self hs] at h3
      cases h3
      rw [List.getElem?_set_ne (Ne.symm z')] at h2 h4
      exact absurd h4 (hp l c' z' h2)
    · subst z'
      rw [List.getElem?_set_self hs] at h4
      cases h4
      rw [List.getElem?_set_ne (Ne.symm z)] at h1 h3
      exact absurd h3 (hp k c z h1)
    · rw [List.getElem?_set_ne (Ne.symm z)] at h1 h3
      rw [List.getElem?_set_ne (Ne.symm z')] at h2 h4
      exact i.apart k l c c' a h1 h2 h3 h4
  · by_cases z : k = j
    · subst z; rw [List.getElem?_set_self hj] at h; cases h
    · rw [List.getElem?_set_ne (Ne.symm z)] at h ⊢; exact i.exn k c fs h
theorem SF.setOwn (h : SF G E S H t m σ e) {j : Nat} {p : Addr} {d : D} (hj : j < e.length) (r : OwnAt G.K S H t p d) (hp : ∀ (k : Nat) c, k ≠ j → e[k]? = some (.own c) → σ[k]? ≠ some (some (.ref p))) (h0 : E.H p = none) : SF G E S H t m (σ.set j (some (.ref p))) (e.set j (.own d)) := by
  refine ⟨h.si.setOwn hj r hp, h.fr, fun k c a h1 h2 => ?_⟩
  by_cases z : k = j
  · subst z
    rw [List.getElem?_set_self (by rw [h.si.len]; exact hj)] at h2
    cases h2
    exact h0
  · rw [List.getElem?_set_ne (Ne.symm z)] at h1 h2
    exact h.ow k c a h1 h2
/-- a new address is nobody's -/
theorem SF.newOwn (h : SF G E S H t m σ e) {p : Addr} (hn : H p = none) : (∀ (k : Nat) c, e[k]? = some (.own c) → σ[k]? ≠ some (some (.ref p))) ∧ E.H p = none := by
  refine ⟨fun k c h1 h2 => ?_, ?_⟩
  · obtain ⟨a, h3, h4⟩ := h.si.own k c h1
    rw [h2] at h3
    cases h3
    exact h4.there hn
  · cases q : E.H p with
    | none => rfl
    | some o => exact absurd hn (h.fr.dom p (by rw [q]; simp))
/-- a list of one's own is written -/
theorem SF.write (h : SF G E S H t m σ e) {j : Nat} {p : Addr} {vs : List V} {xs ys : List D} (hj : e[j]? = some (.own (.lst xs))) (hp : σ[j]? = some (some (.ref p))) (hd : DRs G.K S t vs ys) : SF G E S (upd H p (.lst vs)) t m σ (e.set j (.own (.lst ys))) := by
  obtain ⟨a, h1, ho⟩ := h.si.own j _ hj
  rw [hp] at h1
  cases h1
  have hl : j < e.length := (List.getElem?_eq_some_iff.mp hj).1
  have i2 := own_hi (o := .lst vs) h.si.hi ho.off ho.there ho.nt
  have h0 := h.ow j _ p hj hp
  refine ⟨⟨i2, by simp [h.si.len], fun k c q => ?_, fun k c q => ?_, fun k l c c' a h1 h2 h3 h4 => ?_, fun k c fs q => ?_⟩, ⟨fun a o ha hn => ?_, fun a ha => ?_, h.fr.hs, h.fr.th, h.fr.thn⟩, fun k c a h1 h2 => ?_⟩
  · by_cases z : k = j
    · subst z; rw [List.getElem?_set_self hl] at q; cases q
    · rw [List.getElem?_set_ne (Ne.symm z)] at q; exact h.si.dat k c q
  · by_cases z : k = j
    · subst z
      rw [List.getElem?_set_self hl] at q
      cases q
      exact ⟨p, hp, ho.off, ho.nt, ys, vs, rfl, upd_same, hd⟩
    · rw [List.getElem?_set_ne (Ne.symm z)] at q
      obtain ⟨b, h1, h2⟩ := h.si.own k c q
      refine ⟨b, h1, h2.off, h2.nt, ?_⟩
      obtain ⟨xs', vs', e1, e2, e3⟩ := h2.at_
      refine ⟨xs', vs', e1, ?_, e3⟩
      rw [upd_ne fun w => z (h.si.apart k j c _ p q hj (by rw [h1, w]) hp)]
      exact e2
  · have el : ∀ (k : Nat) c, (e.set j (.own (.lst ys)))[k]? = some (.own c) → ∃ c', e[k]? = some (.own c') := fun k c q => by
      by_cases z : k = j
      · subst z; exact ⟨_, hj⟩
      · rw [List.getElem?_set_ne (Ne.symm z)] at q; exact ⟨c, q⟩
    obtain ⟨c1, q1⟩ := el k c h1
    obtain ⟨c2, q2⟩ := el l c' h2
    exact h.si.apart k l c1 c2 a q1 q2 h3 h4
  · by_cases z : k = j
    · subst z; rw [List.getElem?_set_self hl] at q; cases q
    · rw [List.getElem?_set_ne (Ne.symm z)] at q; exact h.si.exn k c fs q
  · rw [upd_ne (ne_of_none ha h0)]; exact h.fr.keep a o ha hn
  · rw [upd_ne (fun z => ha (by rw [z]; exact h0))]; exact h.fr.dom a ha
  · by_cases z : k = j
    · subst z; rw [hp] at h2; cases h2; exact h0
    · rw [List.getElem?_set_ne (Ne.symm z)] at h1
      exact h.ow k c a h1 h2
/-- .. settled -/
theorem SF.settle (h : SF G E S H t m σ e) {j : Nat} {d : D} (hj : e[j]? = some (.own d)) : ∃ S', SF G E S' H t m σ (e.set j (.dat d)) := by
  obtain ⟨p, hp, ho⟩ := h.si.own j _ hj
  obtain ⟨xs, vs, rfl, hH, hd⟩ := ho.at_
  have hl : j < e.length := (List.getElem?_eq_some_iff.mp hj).1
  have i2 := settle_hi h.si.hi ho.off hH ho.nt
  have h0 := h.ow j _ p hj hp
  have ss : Sub S (upd S p (.lst vs)) := fun a u q => by rw [upd_ne (ne_of_none q ho.off)]; exact q
  have el : ∀ (k : Nat) c, (e.set j (.dat (.lst xs)))[k]? = some (.own c) → k ≠ j ∧ e[k]? = some (.own c) := fun k c q => by
    by_cases z : k = j
    · subst z; rw [List.getElem?_set_self hl] at q; cases q
    · rw [List.getElem?_set_ne (Ne.symm z)] at q; exact ⟨z, q⟩
  refine ⟨upd S p (.lst vs), ⟨i2, by simp [h.si.len], fun k c q => ?_, fun k c q => ?_, fun k l c c' a h1 h2 h3 h4 => ?_, fun k c fs q => ?_⟩, ⟨h.fr.keep, h.fr.dom, fun a ha => ?_, h.fr.th, h.fr.thn⟩, fun k c a h1 h2 => ?_⟩
  · by_cases z : k = j
    · subst z
      rw [List.getElem?_set_self hl] at q
      cases q
      exact ⟨_, hp, .lst upd_same (hd.mono ss (.refl t))⟩
    · rw [List.getElem?_set_ne (Ne.symm z)] at q
      obtain ⟨v, h1, h2⟩ := h.si.dat k c q
      exact ⟨v, h1, h2.mono ss (.refl t)⟩
  · obtain ⟨z, q⟩ := el k c q
    obtain ⟨b, h1, h2⟩ := h.si.own k c q
    have nb : b ≠ p := fun w => z (h.si.apart k j c _ p q hj (by rw [h1, w]) hp)
    obtain ⟨xs', vs', e1, e2, e3⟩ := h2.at_
    exact ⟨b, h1, by rw [upd_ne nb]; exact h2.off, h2.nt, xs', vs', e1, e2, e3.mono ss (.refl t)⟩
  · exact h.si.apart k l c c' a (el k c h1).2 (el l c' h2).2 h3 h4
  · by_cases z : k = j
    · subst z; rw [List.getElem?_set_self hl] at q; cases q
    · rw [List.getElem?_set_ne (Ne.symm z)] at q
      obtain ⟨v, h1, h2⟩ := h.si.exn k c fs q
      exact ⟨v, h1, h2.mono ss (.refl t)⟩
  · rw [upd_ne (fun z => ha (by rw [z]; exact h0))]; exact h.fr.hs a ha
  · exact h.ow k c a (el k c h1).2 h2
/-- .. put into the store -/
theorem SF.store (h : SF G E S H t m σ e) {j : Nat} {xs : List D} (hj : e[j]? = some (.own (.lst xs))) : ∃ t', SF G E S H t' (m ++ [.lst xs]) σ (e.set j (.dat (.ref m.length))) := by
  obtain ⟨p, hp, ho⟩ := h.si.own j _ hj
  obtain ⟨xs', vs, e0, hH, hd⟩ := ho.at_
  cases e0
  have hl : j < e.length := (List.getElem?_eq_some_iff.mp hj).1
  obtain ⟨i2, ts⟩ := store_hi h.si.hi ho.off hH ho.nt hd
  have h0 := h.ow j _ p hj hp
  have el : ∀ (k : Nat) c, (e.set j (.dat (.ref m.length)))[k]? = some (.own c) → k ≠ j ∧ e[k]? = some (.own c) := fun k c q => by
    by_cases z : k = j
    · subst z; rw [List.getElem?_set_self hl] at q; cases q
    · rw [List.getElem?_set_ne (Ne.symm z)] at q; exact ⟨z, q⟩
  refine ⟨_, ⟨i2, by simp [h.si.len], fun k c q => ?_, fun k c q => ?_, fun k l c c' a h1 h2 h3 h4 => ?_, fun k c fs q => ?_⟩, ⟨h.fr.keep, h.fr.dom, h.fr.hs, h.fr.th.trans ts, fun n a q g => ?_⟩, fun k c a h1 h2 => ?_⟩
  · by_cases z : k = j
    · subst z
      rw [List.getElem?_set_self hl] at q
      cases q
      exact ⟨_, hp, .ref (by simp)⟩
    · rw [List.getElem?_set_ne (Ne.symm z)] at q
      obtain ⟨v, h1, h2⟩ := h.si.dat k c q
      exact ⟨v, h1, h2.mono (.refl S) ts⟩
  · obtain ⟨z, q⟩ := el k c q
    obtain ⟨b, h1, h2⟩ := h.si.own k c q
    have nb : b ≠ p := fun w => z (h.si.apart k j c _ p q hj (by rw [h1, w]) hp)
    obtain ⟨xs', vs', e1, e2, e3⟩ := h2.at_
    refine ⟨b, h1, h2.off, fun n w => ?_, xs', vs', e1, e2, e3.mono (.refl S) ts⟩
    by_cases z : n = m.length
    · simp [z] at w; exact nb w.symm
    · simp [z] at w; exact h2.nt n w
  · exact h.si.apart k l c c' a (el k c h1).2 (el l c' h2).2 h3 h4
  · by_cases z : k = j
    · subst z; rw [List.getElem?_set_self hl] at q; cases q
    · rw [List.getElem?_set_ne (Ne.symm z)] at q
      obtain ⟨v, h1, h2⟩ := h.si.exn k c fs q
      exact ⟨v, h1, h2.mono (.refl S) ts⟩
  · by_cases z : n = m.length
    · simp [z] at q; subst q; exact h0
    · simp [z] at q; exact h.fr.thn n a q g
  · exact h.ow k c a (el k c h1).2 h2
end
section
variable {X : Cx} {G : Cfg} {W : WX} {E : Snap} {a b c : Expr} {st : Stmt} {rest : List Stmt} {fa fb : EvE} {fs : EvA} {tc : EvT} {f g : EvS} {pos : Pos}
theorem sem_own {i : Nat} {D : Ends} {σ : St} {H : Hp} (h : semS G W E (ownS i fs) D σ H) : tAsg (semF G W fs) (gName i) D σ H := by
  obtain ⟨S, t, m, e, sf, h⟩ := h
  refine ⟨S, t, m, e, sf.si, (GS.lift sf h).imp fun S1 H1 t1 m1 xs p1 i1 h1 p ho hn => ?_⟩
  unfold ownO at h1
  split at h1
  · rename_i hj
    have sf1 := sf.stp p1 i1
    obtain ⟨q1, q2⟩ := sf.newOwn hn
    exact h1 S1 H1 t1 _ (sf1.setOwn hj ho (fun k c _ => q1 k c) q2)
  · exact h1.elim
theorem ds_own {i : Nat} {x : Str} {pos' : Pos} (hN : X.N.Nodup) (hi : X.N[i]? = some x) (hx : Loc X.env.scope x) (ha : PE X a (semF G W fs)) (hf : X.fn x = true ∨ X.env.scope.names.lookup x = some .local) (hs : swapsWith a (some (.Name x pos')) pos.line X.env = pure false := by rfl) :
    PS X (.Assign [.Name x pos'] a pos) (semS G W E (ownS i fs)) := (ps_set hN hi hx ha hs hf).imp fun D σ H h => sem_own h
theorem dss_frz {i : Nat} (h : PSs X rest (semS G W E f)) : PSs X rest (semS G W E (seqS (frzS i) f)) := by
  refine h.imp fun D σ H ⟨S, t, m, e, sf, h⟩ => ?_
  unfold seqS frzS frzO at h
  split at h
  · rename_i d hj
    obtain ⟨S', sf'⟩ := sf.settle hj
    exact ⟨S', t, m, _, sf', h⟩
  · exact ⟨S, t, m, e, sf, h⟩
  · exact h.elim
theorem dss_sto {i : Nat} (h : PSs X rest (semS G W E f)) : PSs X rest (semS G W E (seqS (stoS i) f)) := by
  refine h.imp fun D σ H ⟨S, t, m, e, sf, h⟩ => ?_
  unfold seqS stoS at h
  split at h
  · rename_i d hj
    obtain ⟨t', sf'⟩ := sf.store hj
    exact ⟨S, t', _, _, sf', h⟩
  · exact h.elim
end
end Dn
/-! More statements: lists that change, loops. -/
namespace Dn
open PySem L2

/-- lists stay below this -/
def LIM : Nat := 1000000
theorem lim_lt {n : Nat} (h : n < LIM) : n < sizeLine := Nat.lt_of_lt_of_le h (by decide)
theorem lim_le {n : Nat} (h : n ≤ LIM) : n ≤ sizeLine := Nat.le_trans h (by decide)
@[simp] def appS (i : Nat) (f : EvE) : EvS := fun C e m => match e[i]? with
  | some (.own (.lst xs)) => liftS (f C e m) e fun d m1 => if xs.length < LIM then .nx (e.set i (.own (.lst (xs ++ [d])))) m1 else .stuck
  | _ => .stuck
@[simp] def extS (i : Nat) (f : EvE) : EvS := fun C e m => match e[i]? with
  | some (.own (.lst xs)) => liftS (f C e m) e fun d m1 => match d with
    | .lst ys => if xs.length + ys.length ≤ LIM then .nx (e.set i (.own (.lst (xs ++ ys)))) m1 else .stuck
    | _ => .stuck
  | _ => .stuck
@[simp] def augS (g : Store → D → D → Option D) (i : Nat) (f : EvE) : EvS := fun C e m => match e[i]? with
  | some (.dat x) => liftS (f C e m) e fun d m1 => match g m1 x d with
    | some z => .nx (e.set i (.dat z)) m1
    | none => .stuck
  | _ => .stuck
@[simp] def setS (i : Nat) (fk f : EvE) : EvS := fun C e m => match e[i]? with
  | some (.own (.lst xs)) => liftS (f C e m) e fun d m1 => liftS (fk C e m1) e fun k m2 => match k with
    | .int k => match ixN xs.length k with
      | some j => .nx (e.set i (.own (.lst (xs.set j d)))) m2
      | none => .stuck
    | _ => .stuck
  | _ => .stuck
/-- a list of the store, an item of it op= e -/
def stoGet (m : Store) (o k : D) : Option (Nat × List D × Nat × D) := match o, k with
  | .ref n, .int k => match m[n]? with
    | some (.lst xs) => if 0 ≤ k ∧ k < (xs.length : Int) ∧ xs.length ≤ LIM then (xs[k.toNat]?).map fun x => (n, xs, k.toNat, x) else none
    | _ => none
  | _, _ => none
@[simp] def stoAug (g : Store → D → D → Option D) (fo fk f : EvE) : EvS := fun C e m => liftS (fo C e m) e fun o m1 => liftS (fk C e m1) e fun k m2 => match stoGet m2 o k with
  | some (_, _, _, x) => liftS (f C e m2) e fun d m3 => match stoGet m3 o k with
    | some (n, xs, j, _) => match g m3 x d with
      | some z => .nx e (m3.set n (.lst (xs.set j z)))
      | none => .stuck
    | none => .stuck
  | none => .stuck

section
variable {X : Cx} {G : Cfg} {W : WX} {E : Snap} {a b c : Expr} {es : List Expr} {st : Stmt} {rest : List Stmt} {fa fb fk fo : EvE} {fs : EvA} {tc : EvT} {f g : EvS} {pos : Pos}
/-- x.append(e) -/
theorem ds_app {i : Nat} {x : Str} {px apos cpos : Pos} (hK : X.K = G.K) (hN : X.N[i]? = some x) (hv : Vis X.env.scope x) (ha : PE X a (semE G W fa)) (hd : (x == ("__debug__" : Str)) = false := by decide) (hcd : (x == ("__classdict__" : Str)) = false := by decide)
    (hbase : attributeBase (.Name x px) "append" X.env (eval (.Name x px) X.env) = eval (.Name x px) X.env := by rfl)
    (hfew : ((backTo cpos (starEach [a] X.env)).all (fun x => !x.1) && (backToKw cpos (keywordEach [] X.env)).all (fun x => x.1.isSome)
      && decide ([a].length + ([] : List Keyword).length + (if ([] : List Keyword).isEmpty then 0 else 1) < 30)) = true := by rfl)
    (hline : (apos.endLine == cpos.line) = true := by rfl) (he : starEach [a] X.env = (false, eval a X.env) :: starEach [] X.env := by rfl) (hplain : (backTo cpos (starEach [] X.env)).any (·.1) = false := by rfl)
    (hs : swapsWith (.Call (.Attribute (.Name x px) "append" apos) [a] [] cpos) none pos.line X.env = pure false := by rfl) :
    PS X (.Expr (.Call (.Attribute (.Name x px) "append" apos) [a] [] cpos) pos) (semS G W E (appS i fa)) := by
  refine (ps_expr (pe_bm PySem.F.plainAttrs_list PySem.F.slot_list_append PySem.F.type_list_append mt_append (pe_var (i := i) hN hv hd hcd) (pa_cons ha pa_nil he) hbase hfew hline he hplain) hs).imp fun D σ H ⟨S, t, m, e, sf, h⟩ => ?_
  unfold appS at h
  split at h
  · rename_i xs hi
    obtain ⟨p, hp, ho⟩ := sf.si.own i _ hi
    obtain ⟨xs', vs, e0, hH, hd'⟩ := ho.at_
    cases e0
    refine ⟨_, hp, .inl ⟨rfl, _, .inl (.inl hH)⟩, S, t, m, e, sf.si, (GS.lift sf h).imp fun S1 H1 t1 m1 d p1 i1 h1 v rv => ?_⟩
    split at h1
    · rename_i hl
      have k1 := p1.keep p _ hH ho.nt
      have sf1 := sf.stp p1 i1
      exact ⟨p, vs, v, rfl, rfl, k1, by rw [hd'.length]; exact lim_lt hl, h1 _ _ _ σ (sf1.write hi hp ((hd'.stp sf.si.hi p1).append (.cons rv .nil)))⟩
    · exact h1.elim
  · exact h.elim
/-- x += [..] -/
theorem ds_ext {i : Nat} {x : Str} {pos' : Pos} (hN : X.N.Nodup) (hi : X.N[i]? = some x) (hx : Loc X.env.scope x) (ha : PE X a (semE G W fa)) (hf : X.fn x = true ∨ X.env.scope.names.lookup x = some .local) :
    PS X (.AugAssign (.Name x pos') .Add a pos) (semS G W E (extS i fa)) := by
  refine (ps_aug (ti := rExt2) hN hi hx ha iop_ext hf).imp fun D σ H ⟨S, t, m, e, sf, h⟩ => ?_
  unfold extS at h
  split at h
  · rename_i xs hi
    obtain ⟨p, hp, ho⟩ := sf.si.own i _ hi
    obtain ⟨xs', vs, e0, hH, hd'⟩ := ho.at_
    cases e0
    refine ⟨_, hp, S, t, m, e, sf.si, (GS.lift sf h).imp fun S1 H1 t1 m1 d p1 i1 h1 v rv => ?_⟩
    cases rv with
    | @lst b ws ys hb hy =>
      dsimp only at h1
      split at h1
      · rename_i hl
        have k1 := p1.keep p _ hH ho.nt
        have sf1 := sf.stp p1 i1
        refine ⟨p, b, vs, ws, rfl, rfl, k1, i1.sub _ _ hb, by rw [hd'.length, hy.length]; exact lim_le hl, ?_⟩
        have q := h1 _ _ _ σ (sf1.write hi hp ((hd'.stp sf.si.hi p1).append hy))
        have e1 : σ.set i (some (.ref p)) = σ := by
          obtain ⟨hl', e2⟩ := List.getElem?_eq_some_iff.mp hp
          rw [← e2]; exact List.set_getElem_self hl'
        show D.nx (σ.set i (some (.ref p))) _
        rw [e1]
        exact q
      · exact h1.elim
    | _ => exact h1.elim
  · exact h.elim
/-- x op= e -/
theorem ds_aug {op : Operator} {gg : Store → D → D → Option D} {i : Nat} {x : Str} {pos' : Pos} (ho : OpD X (inplaceOp op) gg) (hK : X.K = G.K) (hN : X.N.Nodup) (hi : X.N[i]? = some x) (hx : Loc X.env.scope x) (ha : PE X a (semE G W fa)) (hf : X.fn x = true ∨ X.env.scope.names.lookup x = some .local) :
    PS X (.AugAssign (.Name x pos') op a pos) (semS G W E (augS gg i fa)) := by
  obtain ⟨r, r1, r2⟩ := ho
  refine (ps_aug (ti := r) hN hi hx ha r1 hf).imp fun D σ H ⟨S, t, m, e, sf, h⟩ => ?_
  unfold augS at h
  split at h
  · rename_i x hi
    obtain ⟨v, hv, rv⟩ := sf.si.dat i x hi
    refine ⟨_, hv, S, t, m, e, sf.si, (GS.lift sf h).imp fun S1 H1 t1 m1 d p1 i1 h1 w rw' => ?_⟩
    split at h1
    · rename_i z hz
      refine r2 S1 H1 t1 m1 v w x d z _ (hK ▸ i1) (hK ▸ .inl (rv.stp sf.si.hi p1)) (hK ▸ .inl rw') hz fun u S' H' p' i' ru => ?_
      have i' : HI G.K S' H' t1 m1 := hK ▸ i'
      have sf1 := (sf.stp p1 i1).stp p' i'
      obtain ⟨q1, q2⟩ := sf1.si.set (List.getElem?_eq_some_iff.mp hi).1 (hK ▸ ru)
      exact h1 S' H' t1 _ ⟨q1, sf1.fr, sf1.ow.sub q2⟩
    · exact h1.elim
  · exact h.elim
/-- x[k] = e -/
theorem ds_setI {i : Nat} {x : Str} {px spos : Pos} (hN : X.N[i]? = some x) (hv : Vis X.env.scope x) (hk : PE X b (semE G W fk)) (ha : PE X a (semE G W fa)) (hd : (x == ("__debug__" : Str)) = false := by decide) (hcd : (x == ("__classdict__" : Str)) = false := by decide)
    (hasg : ∀ v, assign (.Subscript (.Name x px) b spos) X.env v = (do
      let ov ← holding [v] (eval (.Name x px) X.env)
      let iv ← holding [v, ov] (eval b X.env)
      standAt spos
      holding [v, ov, iv] (setItem ov iv v)
      release [v, ov, iv] []) := by intro _; rfl)
    (hs : swapsWithSole [.Subscript (.Name x px) b spos] a pos.line X.env = pure false := by rfl) (hw : swappedStores [.Subscript (.Name x px) b spos] a X.env = pure none := by rfl)
    (h1 : (assignEach [.Subscript (.Name x px) b spos] X.env).map (·.2) = [assign (.Subscript (.Name x px) b spos) X.env] := by rfl) :
    PS X (.Assign [.Subscript (.Name x px) b spos] a pos) (semS G W E (setS i fk fa)) := by
  refine (ps_asg ha (pg_sub (pe_var (i := i) hN hv hd hcd) hk set_list hasg) hs hw h1).imp fun D σ H ⟨S, t, m, e, sf, h⟩ => ?_
  unfold setS at h
  split at h
  · rename_i xs hi
    obtain ⟨p, hp, ho⟩ := sf.si.own i _ hi
    obtain ⟨xs', vs, e0, hH, hd'⟩ := ho.at_
    cases e0
    refine ⟨S, t, m, e, sf.si, (GS.lift sf h).imp fun S1 H1 t1 m1 d p1 i1 h1 v rv => ?_⟩
    have sf1 := sf.stp p1 i1
    refine ⟨_, hp, S1, t1, m1, e, sf1.si, (GS.lift sf1 h1).imp fun S2 H2 t2 m2 k p2 i2 h2 w rw' => ?_⟩
    have sf2 := sf1.stp p2 i2
    cases rw' with
    | int k =>
      dsimp only at h2
      split at h2
      · rename_i j hj
        have k2 := (p1.trans p2).keep p _ hH ho.nt
        refine ⟨p, vs, k, j, rfl, rfl, k2, by rw [hd'.length]; exact hj, ?_⟩
        exact h2 _ _ _ σ (sf2.write hi hp (((hd'.stp sf.si.hi p1).stp i1 p2).set j (rv.stp i1 p2)))
      · exact h2.elim
    | _ => exact h2.elim
  · exact h.elim
end

/-! ### while -/
def turnW (C : Orc) (c : EvT) (b : EvS) (e : Env) (m : Store) : (Env × Store) ⊕ SR := match c C e m with
  | .ok true m1 => match b C e m1 with
    | .nx e2 m2 => .inl (e2, m2)
    | .ct e2 m2 => .inl (e2, m2)
    | .brk e2 m2 => .inr (.nx e2 m2)
    | r => .inr r
  | .ok false m1 => .inr (.nx e m1)
  | .exc k fs m1 => .inr (.exc k fs e m1)
  | .stuck => .inr .stuck
def runW (C : Orc) (c : EvT) (b : EvS) : Nat → Env → Store → Option SR
  | 0, _, _ => none
  | n + 1, e, m => match turnW C c b e m with
    | .inl (e2, m2) => runW C c b n e2 m2
    | .inr r => some r
theorem runW_more {C : Orc} {c : EvT} {b : EvS} : ∀ (n : Nat) (e : Env) (m : Store) (r : SR), runW C c b n e m = some r → runW C c b (n + 1) e m = some r
  | 0, _, _, _, h => by cases h
  | n + 1, e, m, r, h => by
    unfold runW at h ⊢
    cases q : turnW C c b e m with
    | inl z =>
      obtain ⟨e2, m2⟩ := z
      rw [q] at h
      exact runW_more n e2 m2 r h
    | inr z => rw [q] at h; exact h
theorem runW_le {C : Orc} {c : EvT} {b : EvS} {n k : Nat} {e : Env} {m : Store} {r : SR} (h : runW C c b n e m = some r) (hk : n ≤ k) : runW C c b k e m = some r := by
  induction hk with
  | refl => exact h
  | step _ ih => exact runW_more _ _ _ _ ih
theorem runW_one {C : Orc} {c : EvT} {b : EvS} {n k : Nat} {e : Env} {m : Store} {r r' : SR} (h : runW C c b n e m = some r) (h' : runW C c b k e m = some r') : r = r' := by
  have a := runW_le h (Nat.le_max_left n k)
  have b := runW_le h' (Nat.le_max_right n k)
  rw [a] at b; exact Option.some.inj b
open Classical in
noncomputable def whileS (c : EvT) (b : EvS) : EvS := fun C e m => if h : ∃ n r, runW C c b n e m = some r then h.choose_spec.choose else .stuck
theorem whileS_run {C : Orc} {c : EvT} {b : EvS} {n : Nat} {e : Env} {m : Store} {r : SR} (h : runW C c b n e m = some r) : whileS c b C e m = r := by
  have hx : ∃ n r, runW C c b n e m = some r := ⟨n, r, h⟩
  unfold whileS
  rw [dif_pos hx]
  exact runW_one hx.choose_spec.choose_spec h
theorem whileS_eq (C : Orc) (c : EvT) (b : EvS) (e : Env) (m : Store) : whileS c b C e m = match turnW C c b e m with
    | .inl (e2, m2) => whileS c b C e2 m2
    | .inr r => r := by
  cases q : turnW C c b e m with
  | inr r => exact whileS_run (n := 1) (by unfold runW; rw [q])
  | inl z =>
    obtain ⟨e2, m2⟩ := z
    show whileS c b C e m = whileS c b C e2 m2
    by_cases h : ∃ n r, runW C c b n e2 m2 = some r
    · obtain ⟨n, r, h⟩ := h
      rw [whileS_run h]
      exact whileS_run (n := n + 1) (by unfold runW; rw [q]; exact h)
    · have h' : ¬ ∃ n r, runW C c b n e m = some r := fun ⟨n, r, g⟩ => h (by
        cases n with
        | zero => cases g
        | succ n => unfold runW at g; rw [q] at g; exact ⟨n, r, g⟩)
      unfold whileS
      rw [dif_neg h, dif_neg h']

/-! ### for -/
def forL (C : Orc) (g : Tg) (b : EvS) : List D → Env → Store → SR
  | [], e, m => .nx e m
  | d :: ds, e, m => match asg g d e with
    | none => .stuck
    | some e1 => match b C e1 m with
      | .nx e2 m2 => forL C g b ds e2 m2
      | .ct e2 m2 => forL C g b ds e2 m2
      | .brk e2 m2 => .nx e2 m2
      | r => r
@[simp] def forS (it : EvA) (g : Tg) (b : EvS) : EvS := fun C e m => liftS (it C e m) e fun ds m1 => forL C g b ds e m1

/-! ### a loop's own ground: all that stands there but its own lists -/
open Classical in
noncomputable def ground (H : Hp) (σ : St) (e : Env) : Hp := fun a => if ∃ (i : Nat) (d : D), e[i]? = some (.own d) ∧ σ[i]? = some (some (.ref a)) then none else H a
section
variable {G : Cfg} {W : WX} {E : Snap} {S S' H H' : Hp} {t t' : Th} {m m' : Store} {σ σ' : St} {e e' : Env}
theorem ground_own {a : Addr} {i : Nat} {d : D} (h1 : e[i]? = some (.own d)) (h2 : σ[i]? = some (some (.ref a))) : ground H σ e a = none := by
  unfold ground; rw [if_pos ⟨i, d, h1, h2⟩]
theorem ground_not {a : Addr} (h : ¬ ∃ (i : Nat) (d : D), e[i]? = some (.own d) ∧ σ[i]? = some (some (.ref a))) : ground H σ e a = H a := by
  unfold ground; rw [if_neg h]
theorem ground_le {a : Addr} {o : HO} (h : ground H σ e a = some o) : H a = some o := by
  by_cases z : ∃ (i : Nat) (d : D), e[i]? = some (.own d) ∧ σ[i]? = some (some (.ref a))
  · unfold ground at h; rw [if_pos z] at h; cases h
  · rw [ground_not z] at h; exact h
noncomputable abbrev Snap.at (S H : Hp) (t : Th) (σ : St) (e : Env) : Snap := ⟨S, ground H σ e, t⟩
theorem SF.on (h : SF G E S H t m σ e) : SF G (Snap.at S H t σ e) S H t m σ e := by
  refine ⟨h.si, ⟨fun a o q _ => ground_le q, fun a q => ?_, fun _ _ => rfl, .refl t, fun n a q g => by rw [show t n = none from g] at q; cases q⟩, fun i d a h1 h2 => ground_own h1 h2⟩
  cases q' : ground H σ e a with
  | none => exact absurd q' q
  | some o => rw [ground_le q']; simp
theorem SF.below (h : SF G E S H t m σ e) : Stp E.S E.H E.t S (ground H σ e) t := by
  have no : ∀ a, E.H a ≠ none → ground H σ e a = H a := fun a ha => ground_not fun ⟨i, d, h1, h2⟩ => ha (h.ow i d a h1 h2)
  exact ⟨fun a o q hn => by rw [no a (by rw [q]; simp)]; exact h.fr.keep a o q hn, fun a q => by rw [no a q]; exact h.fr.dom a q, h.fr.hs, h.fr.th, h.fr.thn⟩
theorem SF.off (h : SF G E S H t m σ e) (h' : SF G (Snap.at S H t σ e) S' H' t' m' σ' e') : SF G E S' H' t' m' σ' e' :=
  ⟨h'.si, h.below.trans h'.fr, fun i d a h1 h2 => by
    have q := h'.ow i d a h1 h2
    cases q' : E.H a with
    | none => rfl
    | some o => exact absurd q (h.below.dom a (by rw [q']; simp))⟩
theorem SF.onSub (h : SF G E S H t m σ e) (h' : Stp S (ground H σ e) t S' H' t') : Sub S S' := fun a o q => by
  have z : ground H σ e a = H a := ground_not fun ⟨i, d, h1, h2⟩ => by
    obtain ⟨b, h3, h4⟩ := h.si.own i d h1
    rw [h2] at h3
    cases h3
    rw [h4.off] at q; cases q
  exact (h'.hs a (by rw [z, h.si.hi.sub a o q]; simp)).trans q
end
section
variable {X : Cx} {G : Cfg} {W : WX} {E : Snap} {a b c : Expr} {fs : EvA} {tc : EvT} {f g : EvS} {pos : Pos}
theorem ds_while {body : List Stmt} (hp : PassesOwn (model X.prog X.w) X.A X.env X.xe) (hc : PT X c (semT G W tc)) (hb : PSs X body (semS G W E f)) : PS X (.While c body [] pos) (semS G W E (whileS tc f)) := by
  refine (ps_while hp hc hb).imp fun D σ H ⟨S, t, m, e, sf, h⟩ => ?_
  by_cases hx : ∃ n r, runW G.C tc f n e m = some r
  · obtain ⟨n, r, hr⟩ := hx
    rw [whileS_run hr] at h
    refine ⟨fun k σ H => ∃ S t m e r, SF G E S H t m σ e ∧ runW G.C tc f k e m = some r ∧ GS G W E D r, ⟨n, S, t, m, e, r, sf, hr, h⟩, ?_⟩
    rintro k σ H ⟨S, t, m, e, r, sf, hr, h⟩
    cases k with
    | zero => cases hr
    | succ k =>
    unfold runW turnW at hr
    refine ⟨S, t, m, e, sf.si, ?_⟩
    cases hc' : tc G.C e m with
    | stuck =>
      rw [hc'] at hr
      cases hr
      exact h
    | exc k' fs' m1 =>
      rw [hc'] at hr
      cases hr
      exact fun S' H' t' cls dx p i x => h S' H' t' σ cls dx (sf.stp p i) x
    | ok kb m1 =>
      rw [hc'] at hr
      intro S1 H1 t1 p1 i1
      have sf1 := sf.stp p1 i1
      cases kb with
      | false =>
        dsimp only at hr
        cases hr
        exact h S1 H1 t1 σ sf1
      | true =>
        dsimp only at hr
        refine ⟨fun σ' H' => ∃ S t m e r, SF G E S H' t m σ' e ∧ runW G.C tc f k e m = some r ∧ GS G W E D r, fun σ' H' q => ⟨k, Nat.lt_succ_self k, q⟩, S1, t1, m1, e, sf1, ?_⟩
        cases hb' : f G.C e m1 with
        | nx e2 m2 => rw [hb'] at hr; exact fun S' H' t' σ' sf' => ⟨S', t', m2, e2, r, sf', hr, h⟩
        | ct e2 m2 => rw [hb'] at hr; exact fun S' H' t' σ' sf' => ⟨S', t', m2, e2, r, sf', hr, h⟩
        | brk e2 m2 => rw [hb'] at hr; cases hr; exact h
        | ret d m2 => rw [hb'] at hr; cases hr; exact h
        | exc k' fs' e2 m2 => rw [hb'] at hr; cases hr; exact h
        | stuck => rw [hb'] at hr; cases hr; exact h
  · unfold whileS at h
    rw [dif_neg hx] at h
    exact h.elim
theorem ds_for {tg iter : Expr} {body : List Stmt} {gg : Tg} (hp : PassesOwn (model X.prog X.w) X.A X.env X.xe) (hc : X.calm = true) (hi : PI X tg iter (semI G W fs)) (hg : PG X tg (semG G.K G.x gg)) (hb : ∀ E, PSs X body (semS G W E f))
    (hs : ∀ x, foldedSetIterable iter X.env x = pure x := by intro _; rfl) : PS X (.For tg iter body [] pos) (semS G W E (forS fs gg f)) := by
  have hb' : PSs X body (fun D σ H => ∃ E, semS G W E f D σ H) := ⟨fun pins s σ H D I ⟨E, h⟩ => (hb E).run pins s σ H D I h⟩
  refine (ps_for hp hc hi hg hb' hs).imp fun D σ H ⟨S, t, m, e, sf, h⟩ => ⟨S, t, m, e, sf.si, (GS.lift sf h).imp fun S1 H1 t1 m1 ds p1 i1 h1 J it => ?_⟩
  have sf1 := sf.stp p1 i1
  refine ⟨fun i k σ H => k = ds.length - i ∧ i ≤ ds.length ∧ ∃ S2 t2 m2 e2, SF G E S2 H t2 m2 σ e2 ∧ Sub S1 S2 ∧ TSub t1 t2 ∧ GS G W E D (forL G.C gg f (ds.drop i) e2 m2), ⟨ds.length, by simp, Nat.zero_le _, S1, t1, m1, e, sf1, .refl _, .refl _, h1⟩, ?_⟩
  rintro i k σ2 H2 ⟨rfl, hi', S2, t2, m2, e2, sf2, ss, ts, h2⟩
  by_cases hlt : i < ds.length
  · right
    have hx : ds[i]? = some ds[i] := List.getElem?_eq_getElem hlt
    obtain ⟨hgo, hy⟩ := it.go i _ S2 H2 t2 m2 hx ss ts sf2.si.hi
    refine ⟨hgo, fun σ' H' => i + 1 ≤ ds.length ∧ ∃ S2 t2 m2 e2, SF G E S2 H' t2 m2 σ' e2 ∧ Sub S1 S2 ∧ TSub t1 t2 ∧ GS G W E D (forL G.C gg f (ds.drop (i + 1)) e2 m2), fun σ' H' q => ⟨ds.length - (i + 1), by omega, rfl, q⟩, fun x H3 y => ?_⟩
    obtain ⟨S3, p3, i3, r3⟩ := hy x H3 y
    have sf3 := sf2.stp p3 i3
    rw [List.drop_eq_getElem_cons hlt] at h2
    unfold forL at h2
    cases ha : asg gg ds[i] e2 with
    | none => rw [ha] at h2; exact h2.elim
    | some e3 =>
      rw [ha] at h2
      dsimp only at h2
      refine ⟨S3, t2, m2, e2, _, e3, sf3.si, r3, ha, fun σ' si' o' _ => ?_⟩
      have sf4 : SF G E S3 H3 t2 m2 σ' e3 := ⟨si', sf3.fr, sf3.ow.sub o'⟩
      have ss3 : Sub S1 S3 := ss.trans (sf2.si.hi.ssub p3)
      refine ⟨Snap.at S3 H3 t2 σ' e3, S3, t2, m2, e3, sf4.on, ?_⟩
      cases hr : f G.C e3 m2 with
      | nx e4 m4 =>
        rw [hr] at h2
        exact fun S' H' t' σ4 sf' => ⟨hlt, S', t', m4, e4, sf4.off sf', ss3.trans (sf4.onSub sf'.fr), ts.trans sf'.fr.th, h2⟩
      | ct e4 m4 =>
        rw [hr] at h2
        exact fun S' H' t' σ4 sf' => ⟨hlt, S', t', m4, e4, sf4.off sf', ss3.trans (sf4.onSub sf'.fr), ts.trans sf'.fr.th, h2⟩
      | brk e4 m4 => rw [hr] at h2; exact fun S' H' t' σ4 sf' => h2 S' H' t' σ4 (sf4.off sf')
      | ret d m4 => rw [hr] at h2; exact fun S' H' t' v i p r => h2 S' H' t' v i (sf4.below.trans p) r
      | exc k' fs' e4 m4 => rw [hr] at h2; exact fun S' H' t' σ4 cls dx sf' x => h2 S' H' t' σ4 cls dx (sf4.off sf') x
      | stuck => rw [hr] at h2; exact h2.elim
  · left
    have e0 : i = ds.length := by omega
    subst e0
    rw [List.drop_length] at h2
    exact ⟨it.stop S2 H2 t2 m2 ss ts sf2.si.hi, h2 S2 H2 t2 σ2 sf2⟩
end
end Dn
/-! Several names at once, comprehensions given to a name, the store's items, errors. -/
namespace Dn
open PySem L2

/-! ### a, b = x, y -/
abbrev EvM := Orc → Env → Store → R (List (Bool × D))
inductive MRs (K : PySem.W.Frag) (S H : Hp) (t : Th) : List V → List (Bool × D) → List Addr → Prop
  | nil : MRs K S H t [] [] []
  | dat {v : V} {d : D} {vs : List V} {ds : List (Bool × D)} {as : List Addr} : DR K S t v d → MRs K S H t vs ds as → MRs K S H t (v :: vs) ((false, d) :: ds) as
  | own {p : Addr} {d : D} {vs : List V} {ds : List (Bool × D)} {as : List Addr} : OwnAt K S H t p d → p ∉ as → MRs K S H t vs ds as → MRs K S H t (.ref p :: vs) ((true, d) :: ds) (p :: as)
@[simp] def nilM : EvM := fun _ _ m => .ok [] m
@[simp] def consM (a : EvE) (r : EvM) : EvM := fun C e m => (a C e m).bind fun x m1 => (r C e m1).bind fun xs m2 => .ok ((false, x) :: xs) m2
@[simp] def newM (a : EvA) (r : EvM) : EvM := fun C e m => (a C e m).bind fun x m1 => (r C e m1).bind fun xs m2 => .ok ((true, .lst x) :: xs) m2
def semM (G : Cfg) (W : WX) (f : EvM) : TA := fun σ H Q => ∃ S t m e, SI G.K G.x S H t m σ e ∧ Gd G W σ S H t (f G.C e m) fun S' H' t' _ ds => ∀ vs as, MRs G.K S' H' t' vs ds as → (∀ q, q ∈ as → H q = none) → Q vs H'
@[simp] def parO : List Nat → List (Bool × D) → Env → Option Env
  | [], [], e => some e
  | i :: is, (b, d) :: ds, e => if i < e.length then parO is ds (e.set i (if b = true then .own d else .dat d)) else none
  | _, _, _ => none
@[simp] def parS (is : List Nat) (f : EvM) : EvS := fun C e m => liftS (f C e m) e fun ds m1 => .of (parO is ds e) m1
theorem parO_len : ∀ (is : List Nat) (ds : List (Bool × D)) (e e' : Env), parO is ds e = some e' → ds.length = is.length
  | [], [], _, _, _ => rfl
  | [], _ :: _, _, _, h => by unfold parO at h; cases h
  | _ :: _, [], _, _, h => by unfold parO at h; cases h
  | i :: is, (b, d) :: ds, e, e', h => by
    unfold parO at h
    split at h
    · have := parO_len is ds _ e' h
      simp [this]
    · cases h
def setAll : St → List Nat → List V → St
  | σ, i :: is, v :: vs => setAll (σ.set i (some v)) is vs
  | σ, _, _ => σ
section
variable {K : PySem.W.Frag} {G : Cfg} {W : WX} {E : Snap} {S H S' H' : Hp} {t t' : Th} {m : Store}
theorem MRs.stp {vs : List V} {ds : List (Bool × D)} {as : List Addr} (i : HI K S H t m) (p : Stp S H t S' H' t') (h : MRs K S H t vs ds as) : MRs K S' H' t' vs ds as := by
  induction h with
  | nil => exact .nil
  | dat r _ ih => exact .dat (r.stp i p) ih
  | own o n _ ih => exact .own (o.stp i p) n ih
theorem SF.all {is : List Nat} : ∀ {σ : St} {e e' : Env} {vs : List V} {ds : List (Bool × D)} {as : List Addr}, SF G E S H t m σ e → MRs G.K S H t vs ds as → (∀ q, q ∈ as → E.H q = none ∧ ∀ (k : Nat) c, e[k]? = some (.own c) → σ[k]? ≠ some (some (.ref q))) → parO is ds e = some e' → SF G E S H t m (setAll σ is vs) e' := by
  induction is with
  | nil =>
    intro σ e e' vs ds as sf r n h
    cases r with
    | nil => unfold parO at h; cases h; exact sf
    | dat => unfold parO at h; cases h
    | own => unfold parO at h; cases h
  | cons i is ih =>
    intro σ e e' vs ds as sf r n h
    cases r with
    | nil => unfold parO at h; cases h
    | dat r rs =>
      unfold parO at h
      split at h
      · rename_i hi
        obtain ⟨q1, q2⟩ := sf.si.set hi r
        refine ih ⟨q1, sf.fr, sf.ow.sub q2⟩ rs (fun q hq => ⟨(n q hq).1, fun k c h1 h2 => ?_⟩) h
        obtain ⟨q3, q4⟩ := q2 k c h1
        rw [q4] at h2
        exact (n q hq).2 k c q3 h2
      · cases h
    | @own p d vs ds as o no rs =>
      unfold parO at h
      split at h
      · rename_i hi
        obtain ⟨n1, n2⟩ := n p List.mem_cons_self
        refine ih (sf.setOwn hi o (fun k c _ => n2 k c) n1) rs (fun q hq => ⟨(n q (List.mem_cons_of_mem _ hq)).1, fun k c h1 h2 => ?_⟩) h
        by_cases z : k = i
        · subst z
          rw [List.getElem?_set_self (by rw [sf.si.len]; exact hi)] at h2
          cases h2
          exact no hq
        · have h1' : (e.set i (.own d))[k]? = some (.own c) := h1
          rw [List.getElem?_set_ne (Ne.symm z)] at h1' h2
          exact (n q (List.mem_cons_of_mem _ hq)).2 k c h1' h2
      · cases h
end
section
variable {X : Cx} {G : Cfg} {W : WX} {E : Snap} {a b c : Expr} {es : List Expr} {fa fb fk fo : EvE} {fs : EvA} {fm : EvM} {tc : EvT} {f g : EvS} {pos : Pos}
theorem dm_nil : PA X [] (semM G W nilM) := (pa_nil (X := X)).imp fun σ H Q ⟨S, t, m, e, si, g⟩ => g.now si.hi [] [] .nil fun _ h => nomatch h
theorem dm_cons (ha : PE X a (semE G W fa)) (hr : PA X es (semM G W fm)) (hs : starEach (a :: es) X.env = (false, eval a X.env) :: starEach es X.env := by rfl) : PA X (a :: es) (semM G W (consM fa fm)) := by
  refine (pa_cons ha hr hs).imp fun σ H Q ⟨S, t, m, e, si, g⟩ => ⟨S, t, m, e, si, (Gd.sp g).imp fun S1 H1 t1 m1 x p1 i1 h1 v rv => ?_⟩
  refine ⟨S1, t1, m1, e, si.stp p1 i1, (Gd.sp h1).imp fun S2 H2 t2 m2 xs p2 i2 h2 vs as rs n => ?_⟩
  refine Gd.now h2 i2 (v :: vs) as (.dat (rv.stp i1 p2) rs) fun q hq => ?_
  cases z : H q with
  | none => rfl
  | some o => exact absurd (n q hq) (p1.dom q (by rw [z]; simp))
theorem dm_new (ha : PE X a (semF G W fs)) (hr : PA X es (semM G W fm)) (hs : starEach (a :: es) X.env = (false, eval a X.env) :: starEach es X.env := by rfl) : PA X (a :: es) (semM G W (newM fs fm)) := by
  refine (pa_cons ha hr hs).imp fun σ H Q ⟨S, t, m, e, si, g⟩ => ⟨S, t, m, e, si, (Gd.sp g).imp fun S1 H1 t1 m1 x p1 i1 h1 p ho hn => ?_⟩
  refine ⟨S1, t1, m1, e, si.stp p1 i1, (Gd.sp h1).imp fun S2 H2 t2 m2 xs p2 i2 h2 vs as rs n => ?_⟩
  refine Gd.now h2 i2 (.ref p :: vs) (p :: as) (.own (ho.stp i1 p2) (fun z => ho.there (n p z)) rs) fun q hq => ?_
  rcases List.mem_cons.mp hq with e | hq
  · rw [e]; exact hn
  · cases z : H q with
    | none => rfl
    | some o => exact absurd (n q hq) (p1.dom q (by rw [z]; simp))
theorem sem_par {is : List Nat} {D : Ends} {σ : St} {H : Hp} (h : semS G W E (parS is fm) D σ H) : semM G W fm σ H fun vs H1 => vs.length = is.length ∧ D.nx (setAll σ is vs) H1 := by
  obtain ⟨S, t, m, e, sf, h⟩ := h
  refine ⟨S, t, m, e, sf.si, (GS.lift sf h).imp fun S1 H1 t1 m1 ds p1 i1 h1 vs as rs n => ?_⟩
  cases ho : parO is ds e with
  | none => rw [ho] at h1; exact h1.elim
  | some e' =>
    rw [ho] at h1
    have sf1 := sf.stp p1 i1
    refine ⟨?_, h1 S1 H1 t1 _ (sf1.all rs (fun q hq => ?_) ho)⟩
    · have lem := parO_len is ds e e' ho
      have l2 : vs.length = ds.length := by
        clear h1 ho n lem
        induction rs with
        | nil => rfl
        | dat _ _ ih => simp [ih]
        | own _ _ _ ih => simp [ih]
      rw [l2]; exact lem
    · have hq' := n q hq
      obtain ⟨q1, q2⟩ := sf.newOwn hq'
      exact ⟨q2, q1⟩
theorem ds_par2 {i j : Nat} {x y : Str} {px py pt : Pos} {kt k2 pt2} (hc : X.calm = true) (hN : X.N.Nodup) (hi : X.N[i]? = some x) (hj : X.N[j]? = some y) (hij : i ≠ j)
    (hx : X.env.scope.names.lookup x = some .local) (hy : X.env.scope.names.lookup y = some .local) (ha : PA X [a, b] (semM G W fm))
    (hw : swappedStores [.Tuple [.Name x px, .Name y py] kt pt] (.Tuple [a, b] k2 pt2) X.env = pure (some [x, y]))
    (hs : swapsWithSole [.Tuple [.Name x px, .Name y py] kt pt] (.Tuple [a, b] k2 pt2) pos.line X.env = pure false := by rfl) :
    PS X (.Assign [.Tuple [.Name x px, .Name y py] kt pt] (.Tuple [a, b] k2 pt2) pos) (semS G W E (parS [i, j] fm)) := by
  refine (ps_par hc hN hi hj hij hx hy ha hw hs).imp fun D σ H h => ?_
  obtain ⟨S, t, m, e, si, g⟩ := sem_par h
  refine ⟨S, t, m, e, si, g.imp fun S' H' t' m' ds p i q vs as rs n => ?_⟩
  obtain ⟨l, q⟩ := q vs as rs n
  match vs, l with
  | [v, w], _ => exact ⟨v, w, rfl, q⟩
theorem ds_par3 {i j l : Nat} {x y z : Str} {px py pz pt : Pos} {kt k2 pt2} (hc : X.calm = true) (hN : X.N.Nodup) (hi : X.N[i]? = some x) (hj : X.N[j]? = some y) (hl : X.N[l]? = some z) (hij : i ≠ j) (hil : i ≠ l) (hjl : j ≠ l)
    (hx : X.env.scope.names.lookup x = some .local) (hy : X.env.scope.names.lookup y = some .local) (hz : X.env.scope.names.lookup z = some .local) (ha : PA X [a, b, c] (semM G W fm))
    (hw : swappedStores [.Tuple [.Name x px, .Name y py, .Name z pz] kt pt] (.Tuple [a, b, c] k2 pt2) X.env = pure (some [x, y, z]))
    (hs : swapsWithSole [.Tuple [.Name x px, .Name y py, .Name z pz] kt pt] (.Tuple [a, b, c] k2 pt2) pos.line X.env = pure false := by rfl) :
    PS X (.Assign [.Tuple [.Name x px, .Name y py, .Name z pz] kt pt] (.Tuple [a, b, c] k2 pt2) pos) (semS G W E (parS [i, j, l] fm)) := by
  refine (ps_par3 hc hN hi hj hl hij hil hjl hx hy hz ha hw hs).imp fun D σ H h => ?_
  obtain ⟨S, t, m, e, si, g⟩ := sem_par h
  refine ⟨S, t, m, e, si, g.imp fun S' H' t' m' ds p i q vs as rs n => ?_⟩
  obtain ⟨l, q⟩ := q vs as rs n
  match vs, l with
  | [v, w, u], _ => exact ⟨v, w, u, rfl, q⟩

/-! ### name = [..] -/
theorem ds_ownLc {i : Nat} {y : Str} {py : Pos} {elt tg iter : Expr} {ifs : List Expr} {scope : Scope} {own : List (Str × Nat)} {lpos spos : Pos} {fi : EvA} {g : Tg} {tt : EvT} {te : EvE} (hc : X.calm = true) (hN : X.N.Nodup) (hy : X.N[i]? = some y) (hyl : X.env.scope.names.lookup y = some .local)
    (hsw : swapsWith (.ListComp elt [⟨tg, iter, ifs, 0⟩] scope lpos) (some (.Name y py)) spos.line X.env = pure true) (hi : PI X tg iter (semI G W fi)) (ok : BlkOk X.N X.env.scope scope own) (hv : (tslots g).all (fun j => (own.map (·.2)).contains j) = true)
    (hg : ∀ (s : Shared) (H : Hp) (C : Addr) (cl : List (Str × Addr)) (fp : List Addr), PG (X.blk s H scope (compEnvC scope cl C X.env) fp) tg (semG G.K G.x g)) (ht : ∀ (s : Shared) (H : Hp) (C : Addr) (cl : List (Str × Addr)) (fp : List Addr), PTs (X.blk s H scope (compEnvC scope cl C X.env) fp) ifs (semT G W0 tt))
    (he : ∀ (s : Shared) (H : Hp) (C : Addr) (cl : List (Str × Addr)) (fp : List Addr), PE (X.blk s H scope (compEnvC scope cl C X.env) fp) elt (semE G W0 te)) (hs : ∀ x, foldedSetIterable iter X.env x = pure x := by intro _; rfl) :
    PS X (.Assign [.Name y py] (.ListComp elt [⟨tg, iter, ifs, 0⟩] scope lpos) spos) (semS G W E (ownS i (lcF fi g tt te (own.map (·.2))))) :=
  (ps_setLc hc hN hy hyl hsw hi ok hg ht he hs).imp fun D σ H h => sem_lc (lc_ws hv) (sem_own h)
theorem ds_setLc {i : Nat} {y : Str} {py : Pos} {elt tg iter : Expr} {ifs : List Expr} {scope : Scope} {own : List (Str × Nat)} {lpos spos : Pos} {fi : EvA} {g : Tg} {tt : EvT} {te : EvE} (hc : X.calm = true) (hN : X.N.Nodup) (hy : X.N[i]? = some y) (hyl : X.env.scope.names.lookup y = some .local)
    (hsw : swapsWith (.ListComp elt [⟨tg, iter, ifs, 0⟩] scope lpos) (some (.Name y py)) spos.line X.env = pure true) (hi : PI X tg iter (semI G W fi)) (ok : BlkOk X.N X.env.scope scope own) (hv : (tslots g).all (fun j => (own.map (·.2)).contains j) = true)
    (hg : ∀ (s : Shared) (H : Hp) (C : Addr) (cl : List (Str × Addr)) (fp : List Addr), PG (X.blk s H scope (compEnvC scope cl C X.env) fp) tg (semG G.K G.x g)) (ht : ∀ (s : Shared) (H : Hp) (C : Addr) (cl : List (Str × Addr)) (fp : List Addr), PTs (X.blk s H scope (compEnvC scope cl C X.env) fp) ifs (semT G W0 tt))
    (he : ∀ (s : Shared) (H : Hp) (C : Addr) (cl : List (Str × Addr)) (fp : List Addr), PE (X.blk s H scope (compEnvC scope cl C X.env) fp) elt (semE G W0 te)) (hs : ∀ x, foldedSetIterable iter X.env x = pure x := by intro _; rfl) :
    PS X (.Assign [.Name y py] (.ListComp elt [⟨tg, iter, ifs, 0⟩] scope lpos) spos) (semS G W E (asgS (.nm i) (frzE (lcF fi g tt te (own.map (·.2)))))) := by
  refine (ps_setLc hc hN hy hyl hsw hi ok hg ht he hs).imp fun D σ H h => sem_lc (lc_ws hv) ?_
  have h1 := sem_set h
  obtain ⟨S, t, m, e, si, g⟩ := h1
  refine ⟨S, t, m, e, si, ?_⟩
  unfold frzE at g
  revert g
  cases lcF fi g tt te (own.map (·.2)) G.C e m with
  | ok ys m2 =>
    intro g S' H' t' q i p ho hn
    obtain ⟨S2, q2, i2, r⟩ := ho.settle i q hn
    exact g S2 H' t' q2 i2 _ r
  | exc c fs m' => exact id
  | stuck => exact id

/-! ### an item of a list of the store op= e -/
def rGetS : V → V → Hp → VK → Prop := fun x y H Q => ∃ p xs k v, x = .ref p ∧ y = .int k ∧ H p = some (.lst xs) ∧ 0 ≤ k ∧ k < (xs.length : Int) ∧ xs[k.toNat]? = some v ∧ Q v H
theorem pg_get {X : Cx} : PGet X rGetS := by
  intro pins s σ H o i ov iv Q I ro ri h
  obtain ⟨p, xs, k, v, rfl, rfl, hH, h0, h1, hx, q⟩ := h
  cases ro
  obtain ⟨t, rfl⟩ := ri
  obtain ⟨its, r, pl, hz⟩ := I.list (.of hH)
  obtain ⟨u, hu, ru⟩ := r.get hx
  have hl := r.length
  have hn := line63
  refine wpAny_getItem_list pl.isList h0 (by omega) (x := u) (by simpa using hu) ⟨v, H, I, ru, q⟩
theorem ds_stoAug {op : Operator} {gg : Store → D → D → Option D} {tpos : Pos} (hp : OpD X (inplaceOp op) gg) (hK : X.K = G.K) (ho : PE X b (semE G W fo)) (hk : PE X c (semE G W fk)) (ha : PE X a (semE G W fa))
    (hst : ∀ ov iv new, augStore c ov iv new = (do holding [new, ov, iv] (setItem ov iv new); release [new, ov, iv] []; pure .next) := by intros; rfl) : PS X (.AugAssign (.Subscript b c tpos) op a pos) (semS G W E (stoAug gg fo fk fa)) := by
  obtain ⟨r, r1, r2⟩ := hp
  refine (ps_augS (tip := r) ho hk pg_get ha r1 set_list hst).imp fun D σ H ⟨S, t, m, e, sf, h⟩ => ⟨S, t, m, e, sf.si, (GS.lift sf h).imp fun S1 H1 t1 m1 o p1 i1 h1 v rv => ?_⟩
  have sf1 := sf.stp p1 i1
  refine ⟨S1, t1, m1, e, sf1.si, (GS.lift sf1 h1).imp fun S2 H2 t2 m2 k p2 i2 h2 w rw' => ?_⟩
  have sf2 := sf1.stp p2 i2
  have get : ∀ {S H t m}, HI G.K S H t m → DR G.K S t v o → DR G.K S t w k → ∀ {n xs j x}, stoGet m o k = some (n, xs, j, x) → ∃ p vs kk u, v = .ref p ∧ w = .int kk ∧ t n = some p ∧ H p = some (.lst vs) ∧ DRs G.K S t vs xs ∧ 0 ≤ kk ∧ kk < (vs.length : Int) ∧ kk.toNat = j ∧ vs[kk.toNat]? = some u ∧ DR G.K S t u x ∧ m[n]? = some (.lst xs) := by
    intro S H t m hi hv hw n xs j x hg
    cases hv with
    | @ref n' a' hn =>
      cases hw with
      | int kk =>
        unfold stoGet at hg
        dsimp only at hg
        cases hm : m[n']? with
        | none => rw [hm] at hg; cases hg
        | some ob =>
          rw [hm] at hg
          cases ob with
          | gone => cases hg
          | ins _ _ => cases hg
          | lst ys =>
            dsimp only at hg
            split at hg
            · rename_i hc
              obtain ⟨c1, c2, c3⟩ := hc
              cases hx : ys[kk.toNat]? with
              | none => rw [hx] at hg; cases hg
              | some x' =>
                rw [hx] at hg
                cases hg
                obtain ⟨p, vs, e1, e2, e3⟩ := hi.sto _ _ hm
                rw [hn] at e1
                cases e1
                obtain ⟨u, u1, u2⟩ := e3.get hx
                exact ⟨a', vs, kk, u, rfl, rfl, hn, e2, e3, c1, by rw [e3.length]; exact c2, rfl, u1, u2, hm⟩
            · cases hg
      | _ => cases hg
    | _ => cases hg
  split at h2
  · rename_i n xs j x hg
    obtain ⟨p, vs, kk, u, rfl, rfl, ht, hH, hd, c1, c2, c3, u1, u2, hm⟩ := get i2 (rv.stp i1 p2) rw' hg
    refine ⟨p, vs, kk, u, rfl, rfl, hH, c1, c2, u1, S2, t2, m2, e, sf2.si, (GS.lift sf2 h2).imp fun S3 H3 t3 m3 d p3 i3 h3 z rz => ?_⟩
    have sf3 := sf2.stp p3 i3
    split at h3
    · rename_i n' xs' j' x' hg'
      obtain ⟨p', vs', kk', u', e1, e2, ht', hH', hd', c1', c2', c3', u1', u2', hm'⟩ := get i3 ((rv.stp i1 p2).stp i2 p3) (rw'.stp i2 p3) hg'
      cases e1
      cases e2
      split at h3
      · rename_i zz hz
        refine r2 S3 H3 t3 m3 u z x d zz _ (hK ▸ i3) (hK ▸ .inl (u2.stp i2 p3)) (hK ▸ .inl rz) hz fun y S4 H4 p4 i4 ry => ?_
        have i4 : HI G.K S4 H4 t3 m3 := hK ▸ i4
        have sf4 := sf3.stp p4 i4
        obtain ⟨p'', vs'', kk'', u'', e1, e2, ht'', hH'', hd'', c1'', c2'', c3'', u1'', u2'', hm''⟩ := get i4 (((rv.stp i1 p2).stp i2 p3).stp i3 p4) ((rw'.stp i2 p3).stp i3 p4) hg'
        cases e1
        cases e2
        have hix : ixN vs''.length kk = some kk.toNat := by
          unfold ixN
          rw [if_pos c1, if_pos c2'']
        refine ⟨p, vs'', kk, kk.toNat, rfl, rfl, hH'', hix, ?_⟩
        obtain ⟨i5, p5⟩ := sto_hi i4 ht'' hm'' (hd''.set kk.toNat (hK ▸ ry))
        have sf5 := sf4.stp p5 i5
        subst c3''
        exact h3 _ _ _ _ sf5
      · exact h3.elim
    · exact h3.elim
  · exact h2.elim
end
end Dn
/-! Errors: raise, try. -/
namespace Dn
open PySem L2

/-- an expression that makes an error of the class c with these fields -/
def semX (G : Cfg) (W : WX) (c : Nat) (f : EvA) : L2.St → Hp → XK → Prop := fun σ H Q => ∃ S t m e, SI G.K G.x S H t m σ e ∧ Gd G W σ S H t (f G.C e m) fun S' H' t' m' ds => ∀ S2 H2 cls dx, Stp S' H' t' S2 H2 t' → HI G.K S2 H2 t' m' → EXR G S2 H2 t' c ds cls dx → Q cls dx H2
@[simp] def raiseS (c : Nat) (f : EvA) : EvS := fun C e m => liftS (f C e m) e fun ds m1 => .exc c ds e m1
@[simp] def plainC : Cell → Bool
  | .exn _ _ => false
  | _ => true
/-- behind an except suite -/
@[simp] def behind (i : Nat) (r : SR) : SR := match r with
  | .nx e m => if (e.set i .em).all plainC = true then .nx (e.set i .em) m else .stuck
  | .ct e m => if (e.set i .em).all plainC = true then .ct (e.set i .em) m else .stuck
  | .brk e m => if (e.set i .em).all plainC = true then .brk (e.set i .em) m else .stuck
  | .ret d m => .ret d m
  | _ => .stuck
@[simp] def tryS (c i : Nat) (b s : EvS) : EvS := fun C e m => match b C e m with
  | .exc c' fs e1 m1 => if c' = c then (if i < e1.length then behind i (s C (e1.set i (.exn c fs)) m1) else .stuck) else .exc c' fs e1 m1
  | r => r
/-- n.f, n the error that is handled -/
@[simp] def xfE (i j : Nat) : EvE := fun _ e m => match e[i]? with
  | some (.exn _ fs) => match fs[j]? with
    | some d => .ok d m
    | none => .stuck
  | _ => .stuck

section
variable {X : Cx} {G : Cfg} {W : WX} {E : Snap} {a b c : Expr} {es : List Expr} {fa fb : EvE} {fs : EvA} {f g : EvS} {pos : Pos}
theorem ds_raise {c : Nat} {e : Expr} (hc : X.calm = true) (tk : L2N.Takes X W) (he : L2N.PMk X e (semX G W c fs)) : PS X (.Raise (some e) none pos) (semS G W E (raiseS c fs)) := by
  refine (L2N.ps_raise hc tk he).imp fun D σ H ⟨S, t, m, e, sf, h⟩ => ⟨S, t, m, e, sf.si, (GS.lift sf h).imp fun S1 H1 t1 m1 ds p1 i1 h1 S2 H2 cls dx p2 i2 x => ?_⟩
  exact h1 S2 H2 t1 σ cls dx ((sf.stp p1 i1).stp p2 i2) x
theorem SI.noExn {K : PySem.W.Frag} {S H : Hp} {t : Th} {m : Store} {σ : L2.St} {e : Env} (h : SI K none S H t m σ e) (i : Nat) (c : Nat) (fs : List D) : e[i]? ≠ some (.exn c fs) := fun q => by
  obtain ⟨v, _, x⟩ := h.exn i c fs q
  obtain ⟨_, _, _, _, z, _⟩ := x.ex
  cases z
/-- the slot of the error's name -/
theorem SF.bindX {E : Snap} {S H : Hp} {t : Th} {m : Store} {σ : L2.St} {e : Env} {i a d c : Nat} {ns : List Str} {vs : List V} {fs : List D} (hx : G.x = none) (h : SF G E S H t m σ e) (hi : i < e.length) (hd : S d = some (.xd (ns.zip vs))) (hf : DRs G.K S t vs fs) (hl : vs.length = ns.length) :
    SF { G with x := some (a, d, ns) } E S H t m (σ.set i (some (.ref a))) (e.set i (.exn c fs)) := by
  have hs : i < σ.length := by rw [h.si.len]; exact hi
  have si := h.si
  rw [hx] at si
  have el : ∀ (k : Nat) q, (e.set i (.exn c fs))[k]? = some q → (∀ c fs, q ≠ .exn c fs) → e[k]? = some q ∧ (σ.set i (some (.ref a)))[k]? = σ[k]? := fun k q h1 h2 => by
    by_cases z : k = i
    · subst z; rw [List.getElem?_set_self hi] at h1; cases h1; exact absurd rfl (h2 _ _)
    · rw [List.getElem?_set_ne (Ne.symm z)] at h1 ⊢; exact ⟨h1, rfl⟩
  refine ⟨⟨si.hi, by simp [si.len], fun k q h1 => ?_, fun k q h1 => ?_, fun k l q q' b h1 h2 h3 h4 => ?_, fun k q gs h1 => ?_⟩, h.fr, fun k q b h1 h2 => ?_⟩
  · obtain ⟨q1, q2⟩ := el k _ h1 (by intros; simp)
    rw [q2]; exact si.dat k q q1
  · obtain ⟨q1, q2⟩ := el k _ h1 (by intros; simp)
    rw [q2]; exact si.own k q q1
  · obtain ⟨q1, q2⟩ := el k _ h1 (by intros; simp)
    obtain ⟨q3, q4⟩ := el l _ h2 (by intros; simp)
    rw [q2] at h3; rw [q4] at h4
    exact si.apart k l q q' b q1 q3 h3 h4
  · by_cases z : k = i
    · subst z
      rw [List.getElem?_set_self hi] at h1
      cases h1
      exact ⟨_, List.getElem?_set_self hs, a, d, ns, vs, rfl, rfl, hd, hf, hl⟩
    · rw [List.getElem?_set_ne (Ne.symm z)] at h1
      exact absurd h1 (si.noExn k q gs)
  · obtain ⟨q1, q2⟩ := el k _ h1 (by intros; simp)
    rw [q2] at h2
    exact h.ow k q b q1 h2
theorem SF.unbindX {E : Snap} {S H : Hp} {t : Th} {m : Store} {σ : L2.St} {e : Env} {i : Nat} {x : Gh} (hx : G.x = none) (h : SF { G with x := x } E S H t m σ e) (hp : (e.set i .em).all plainC = true) : SF G E S H t m (σ.set i none) (e.set i .em) := by
  have q := h.si.drop i
  refine ⟨⟨q.hi, q.len, q.dat, q.own, q.apart, fun k c fs z => ?_⟩, h.fr, fun k c b h1 h2 => ?_⟩
  · have := List.all_eq_true.mp hp _ (List.mem_of_getElem? z)
    cases this
  · by_cases z : k = i
    · subst z
      by_cases hk : k < e.length
      · rw [List.getElem?_set_self hk] at h1; cases h1
      · rw [List.getElem?_eq_none (by simpa using hk)] at h1; cases h1
    · rw [List.getElem?_set_ne (Ne.symm z)] at h1 h2
      exact h.ow k c b h1 h2
theorem ds_try {x n : Str} {C : Addr} {ns : List Str} {c i : Nat} {body suite : List Stmt} {b₀ : Stmt} {np pos pos' : Pos} {fb fsu : EvS} (hs : X.stack = X.env :: X.outer) (hf : X.env.frame = some X.env.locals) (hN : X.N.Nodup) (hi : X.N[i]? = some n) (hln : X.env.kindOf n = some .local)
    (hc : Names X x (.ref C)) (tk : L2N.Takes X W) (hK : X.K = G.K) (hx : G.x = none) (hX : G.X c = some (C, ns)) (hm : ∀ c' C' ns', G.X c' = some (C', ns') → PySem.W.exmOne X.K (.ref C') (.ref C) = some (decide (c' = c)))
    (hb : ∀ (W : WX) (E : Snap) (pn : List (Addr × Obj)) (xe : Value → Shared → Prop), L2N.Takes (X.tr pn xe) W → PassesOwn (model X.prog X.w) X.A X.env xe → PSs (X.tr pn xe) body (semS G W E fb))
    (hsu : ∀ (E : Snap) (a d : Addr) (oe : Obj) (pn : List (Addr × Obj)), L2N.Zn (.ref C) (some d) oe → (∃ vs, oe.data = .fields vs) → PSs (X.suite a ((a, oe) :: pn)) (b₀ :: suite) (semS { G with x := some (a, d, ns) } W0 E fsu)) :
    PS X (.Try body [.ExceptHandler (some (.Name x np)) (some n) (b₀ :: suite) pos'] [] [] pos) (semS G W E (tryS c i fb fsu)) := by
  refine (L2N.ps_try_as (c := .ref C) (i := i) (Wout := W) (tb := fun W' D σ H => semS G W' E fb D σ H)
    (ts := fun a cls dx D σ H => ∃ d, cls = .ref C ∧ dx = some d ∧ semS { G with x := some (a, d, ns) } W0 E fsu D σ H) hs hf hN hi hln hc tk (fun W' pn xe tk' po => hb W' E pn xe tk' po)
    (fun a oe cls dx pn hz ho => ⟨fun pins s σ H D I ⟨d, e1, e2, h⟩ => by subst e1 e2; exact (hsu E a d oe pn hz ho).run pins s σ H D I h⟩)).imp fun D σ H ⟨S, t, m, e, sf, h⟩ => ⟨S, t, m, e, sf, ?_⟩
  unfold tryS at h
  cases hr : fb G.C e m with
  | nx e' m' => rw [hr] at h; exact h
  | ct e' m' => rw [hr] at h; exact h
  | brk e' m' => rw [hr] at h; exact h
  | ret d m' => rw [hr] at h; exact h
  | stuck => rw [hr] at h; exact h
  | exc c' fs e1 m1 =>
    rw [hr] at h
    dsimp only at h
    intro S1 H1 t1 σ1 cls dx sf1 xr
    obtain ⟨C', ns', d, vs, hX', rfl, rfl, hd, hds, hl⟩ := id xr
    refine ⟨_, hm c' C' ns' hX', fun hb a ha => ?_, fun hb => ?_⟩
    · have hcc : c' = c := of_decide_eq_true hb
      subst hcc
      rw [hX] at hX'
      cases hX'
      rw [if_pos rfl] at h
      split at h
      · rename_i hlt
        refine ⟨d, rfl, rfl, S1, t1, m1, e1.set i (.exn c' fs), sf1.bindX hx hlt hd hds hl, ?_⟩
        show GS { G with x := some (a, d, ns) } W0 E _ (fsu G.C (e1.set i (.exn c' fs)) m1)
        unfold behind at h
        cases hs' : fsu G.C (e1.set i (.exn c' fs)) m1 with
        | nx e2 m2 =>
          rw [hs'] at h
          dsimp only at h
          split at h
          · rename_i hp
            exact fun S2 H2 t2 σ2 sf2 => h S2 H2 t2 _ (sf2.unbindX hx hp)
          · exact h.elim
        | ct e2 m2 =>
          rw [hs'] at h
          dsimp only at h
          split at h
          · rename_i hp
            exact fun S2 H2 t2 σ2 sf2 => h S2 H2 t2 _ (sf2.unbindX hx hp)
          · exact h.elim
        | brk e2 m2 =>
          rw [hs'] at h
          dsimp only at h
          split at h
          · rename_i hp
            exact fun S2 H2 t2 σ2 sf2 => h S2 H2 t2 _ (sf2.unbindX hx hp)
          · exact h.elim
        | ret d' m2 => rw [hs'] at h; exact h
        | exc c2 f2 e2 m2 => rw [hs'] at h; exact h.elim
        | stuck => rw [hs'] at h; exact h.elim
      · exact h.elim
    · have hcc : c' ≠ c := of_decide_eq_false hb
      rw [if_neg hcc] at h
      exact h S1 H1 t1 σ1 _ _ sf1 xr
/-- n.f -/
theorem de_xf {i j a d : Nat} {C : Addr} {oe : Obj} {pn : List (Addr × Obj)} {x f : Str} {p1 pos : Pos} {ns : List Str} (T : XfC X.K C) (hno : PySem.W.findIn X.K (.ref C) f = some none) (hz : L2N.Zn (.ref C) (some d) oe) (ho : ∃ vs, oe.data = .fields vs)
    (hN : X.N[i]? = some x) (hv : Vis X.env.scope x) (hj : ∀ vs : List V, vs.length = ns.length → (ns.zip vs).lookup f = vs[j]?) (hx : G.x = some (a, d, ns)) (hdb : (x == ("__debug__" : Str)) = false := by decide) (hcd : (x == ("__classdict__" : Str)) = false := by decide)
    (hb : attributeBase (.Name x p1) f X.env (eval (.Name x p1) X.env) = eval (.Name x p1) X.env := by rfl) : PE (X.suite a ((a, oe) :: pn)) (.Attribute (.Name x p1) f pos) (semE G W (xfE i j)) := by
  refine (pe_xf (n := f) T hno hz.zc ho (pe_var (X := X.suite a ((a, oe) :: pn)) (i := i) hN hv hdb hcd) hb).imp fun σ H Q ⟨S, t, m, e, si, g⟩ => ?_
  unfold xfE at g
  split at g
  · rename_i c fs hi
    split at g
    · rename_i dd hj'
      obtain ⟨v, h1, h2⟩ := si.exn i c fs hi
      obtain ⟨a', d', ns', vs, e1, e2, e3, e4, e5⟩ := h2.ex
      rw [hx] at e1
      cases e1
      subst e2
      obtain ⟨w, w1, w2⟩ := e4.get hj'
      refine ⟨_, h1, rfl, rfl, d, _, w, rfl, si.hi.sub _ _ e3, ?_, g.now si.hi w w2⟩
      rw [hj vs e5]; exact w1
    · exact g.elim
  · exact g.elim
end
end Dn
/-! Operators by data. -/
namespace Dn
open PySem L2

section
variable {K : PySem.W.Frag} {S H : Hp} {t : Th} {m : Store} {v : V}
theorem BR.dat {d : D} (h : BR K S H t v d) (n : ∀ xs, d ≠ .lst xs) : DR K S t v d := by
  rcases h with h | ⟨a, e, o⟩
  · exact h
  · obtain ⟨xs, vs, e, _⟩ := o.at_
    exact absurd e (n xs)
theorem BR.int {i : Int} (h : BR K S H t v (.int i)) : v = .int i := by
  have := h.dat (by intro xs z; cases z)
  cases this; rfl
theorem BR.str {i : Str} (h : BR K S H t v (.str i)) : v = .str i := by
  have := h.dat (by intro xs z; cases z)
  cases this; rfl
theorem BR.bl {i : Bool} (h : BR K S H t v (.bl i)) : v = .bl i := by
  have := h.dat (by intro xs z; cases z)
  cases this; rfl
theorem BR.non (h : BR K S H t v .non) : v = .non := by
  have := h.dat (by intro xs z; cases z)
  cases this; rfl
theorem BR.tup {xs : List D} (hi : HI K S H t m) (h : BR K S H t v (.tup xs)) : ∃ a vs, v = .ref a ∧ SqT K S a vs ∧ SqT K H a vs ∧ DRs K S t vs xs := by
  have := h.dat (by intro xs z; cases z)
  cases this with
  | tup h1 h2 => exact ⟨_, _, rfl, h1, hi.sub.sqT h1, h2⟩
theorem BR.frz {xs : List D} (hi : HI K S H t m) (h : BR K S H t v (.frz xs)) : ∃ a vs, v = .ref a ∧ SqL K H a vs ∧ DRs K S t vs xs := by
  have := h.dat (by intro xs z; cases z)
  cases this with
  | frz h1 h2 => exact ⟨_, _, rfl, hi.sub.sqL h1, h2⟩
theorem BR.lst {xs : List D} (hi : HI K S H t m) (h : BR K S H t v (.lst xs)) : ∃ a vs, v = .ref a ∧ H a = some (.lst vs) ∧ DRs K S t vs xs := by
  rcases h with h | ⟨a, e, o⟩
  · cases h with
    | lst h1 h2 => exact ⟨_, _, rfl, hi.sub _ _ h1, h2⟩
  · obtain ⟨xs', vs, e', h1, h2⟩ := o.at_
    cases e'
    exact ⟨a, vs, e, h1, h2⟩
/-- a list of the store -/
theorem BR.ref {n : Nat} {xs : List D} (hi : HI K S H t m) (h : BR K S H t v (.ref n)) (hm : m[n]? = some (.lst xs)) : ∃ a vs, v = .ref a ∧ H a = some (.lst vs) ∧ DRs K S t vs xs := by
  have := h.dat (by intro xs z; cases z)
  cases this with
  | ref h1 =>
    obtain ⟨a, vs, e1, e2, e3⟩ := hi.sto _ _ hm
    rw [h1] at e1
    cases e1
    exact ⟨_, vs, rfl, e2, e3⟩
end

/-! ### adding -/
@[simp] def addG : Store → D → D → Option D := fun _ x y => match x, y with
  | .int i, .int j => some (.int (i + j))
  | .str a, .str b => if a.length + b.length ≤ LIM then some (.str (a ++ b)) else none
  | .tup xs, .tup ys => if xs.length + ys.length ≤ LIM then some (.tup (xs ++ ys)) else none
  | _, _ => none
@[simp] def catF : Store → D → D → Option (List D) := fun _ x y => match x, y with
  | .lst xs, .lst ys => if xs.length + ys.length ≤ LIM then some (xs ++ ys) else none
  | _, _ => none
@[simp] def subG : Store → D → D → Option D := fun _ x y => match x, y with
  | .int i, .int j => some (.int (i - j))
  | _, _ => none
def mulB (i j : Int) : Bool := (decide (-(2 ^ 64) < i) && decide (i < 2 ^ 64)) || (decide (-(2 ^ 64) < j) && decide (j < 2 ^ 64))
@[simp] def mulG : Store → D → D → Option D := fun _ x y => match x, y with
  | .int i, .int j => if mulB i j = true then some (.int (i * j)) else none
  | _, _ => none
@[simp] def fdivG : Store → D → D → Option D := fun _ x y => match x, y with
  | .int i, .int j => if 0 < j ∧ j < 1073741824 then some (.int (i / j)) else none
  | _, _ => none
@[simp] def modG : Store → D → D → Option D := fun _ x y => match x, y with
  | .int i, .int j => if 0 < j then some (.int (i % j)) else none
  | _, _ => none
@[simp] def powG : Store → D → D → Option D := fun _ x y => match x, y with
  | .int i, .int j => if 0 ≤ j ∧ j ≤ 1000000 ∧ i.natAbs < 2 ^ 64 then some (.int (i ^ j.toNat)) else none
  | _, _ => none
@[simp] def negG : Store → D → Option D := fun _ x => match x with
  | .int i => some (.int (-i))
  | _ => none
section
variable {X : Cx}
theorem new_tup {K : PySem.W.Frag} {S H : Hp} {t : Th} {m : Store} {p : Addr} {vs : List V} {ds : List D} (i : HI K S H t m) (h : H p = none) (hd : DRs K S t vs ds) :
    Stp S H t (upd S p (.tup vs)) (upd H p (.tup vs)) t ∧ HI K (upd S p (.tup vs)) (upd H p (.tup vs)) t m ∧ DR K (upd S p (.tup vs)) t (.ref p) (.tup ds) := by
  obtain ⟨i2, p2⟩ := new_hi (o := .tup vs) i h
  exact ⟨p2, i2, .tup (SqT.of upd_same) (hd.stp i p2)⟩
theorem new_own {K : PySem.W.Frag} {S H : Hp} {t : Th} {m : Store} {p : Addr} {vs : List V} {ds : List D} (i : HI K S H t m) (h : H p = none) (hd : DRs K S t vs ds) :
    Stp S H t S (upd H p (.lst vs)) t ∧ HI K S (upd H p (.lst vs)) t m ∧ OwnAt K S (upd H p (.lst vs)) t p (.lst ds) := by
  obtain ⟨i2, p2⟩ := new_hi0 (o := .lst vs) i h
  have hS : S p = none := by
    cases q : S p with
    | none => rfl
    | some o => rw [i.sub p o q] at h; cases h
  exact ⟨p2, i2, hS, fun n q => i.off n p q h, ds, vs, rfl, upd_same, hd⟩
theorem nil_iff' {K : PySem.W.Frag} {S : Hp} {t : Th} {vs : List V} {ds : List D} (h : DRs K S t vs ds) : vs = [] ↔ ds = [] := by
  cases h with
  | nil => simp
  | cons _ _ => simp
theorem od_add : OpD X (binaryOp .Add) addG := by
  refine ⟨_, op_add.or (op_add_str.or op_catA), fun S H t m x y d e z Q i bx b_y hz q => ?_⟩
  unfold addG at hz
  split at hz
  · cases hz; exact .inl ⟨_, _, bx.int, b_y.int, q _ _ _ .refl i (.int _)⟩
  · split at hz
    · rename_i hl
      cases hz
      exact .inr (.inl ⟨_, _, bx.str, b_y.str, lim_le hl, q _ _ _ .refl i (.str _)⟩)
    · cases hz
  · split at hz
    · rename_i hl
      cases hz
      obtain ⟨a, vs, rfl, a1, a2, a3⟩ := bx.tup i
      obtain ⟨b, ws, rfl, b1, b2, b3⟩ := b_y.tup i
      refine .inr (.inr ⟨a, b, vs, ws, rfl, rfl, a2, b2, by rw [a3.length, b3.length]; exact lim_le hl, fun e => ?_, fun _ e => ?_, fun _ _ p hp => ?_⟩)
      · have e' := (nil_iff' a3).mp e
        subst e'
        exact q _ _ _ .refl i (.tup b1 b3)
      · have e' := (nil_iff' b3).mp e
        subst e'
        rw [List.append_nil] at q
        exact q _ _ _ .refl i (.tup a1 a3)
      · obtain ⟨p2, i2, r⟩ := new_tup i hp (a3.append b3)
        exact q _ _ _ p2 i2 r
    · cases hz
  · cases hz
theorem of_cat : OpF X (binaryOp .Add) catF := by
  refine ⟨_, op_cat, fun S H t m x y d e z Q i bx b_y hz q => ?_⟩
  unfold catF at hz
  split at hz
  · split at hz
    · rename_i hl
      cases hz
      obtain ⟨a, vs, rfl, a2, a3⟩ := bx.lst i
      obtain ⟨b, ws, rfl, b2, b3⟩ := b_y.lst i
      refine ⟨a, b, vs, ws, rfl, rfl, a2, b2, by rw [a3.length, b3.length]; exact lim_le hl, fun p hp => ?_⟩
      obtain ⟨p2, i2, r⟩ := new_own i hp (a3.append b3)
      exact q _ _ _ p2 i2 r hp
    · cases hz
  · cases hz
theorem od_sub : OpD X (binaryOp .Sub) subG := by
  refine ⟨_, op_sub, fun S H t m x y d e z Q i bx b_y hz q => ?_⟩
  unfold subG at hz
  split at hz
  · cases hz; exact ⟨_, _, bx.int, b_y.int, q _ _ _ .refl i (.int _)⟩
  · cases hz
theorem mulB_ok {i j : Int} (h : mulB i j = true) : CMul i j := by
  unfold mulB at h
  simp only [Bool.or_eq_true, Bool.and_eq_true, decide_eq_true_eq] at h
  exact h
theorem od_mul : OpD X (binaryOp .Mult) mulG := by
  refine ⟨_, op_mul, fun S H t m x y d e z Q i bx b_y hz q => ?_⟩
  unfold mulG at hz
  split at hz
  · split at hz
    · rename_i hc
      cases hz; exact ⟨_, _, bx.int, b_y.int, mulB_ok hc, q _ _ _ .refl i (.int _)⟩
    · cases hz
  · cases hz
theorem od_fdiv : OpD X (binaryOp .FloorDiv) fdivG := by
  refine ⟨_, op_fdiv, fun S H t m x y d e z Q i bx b_y hz q => ?_⟩
  unfold fdivG at hz
  split at hz
  · split at hz
    · rename_i hc
      cases hz; exact ⟨_, _, bx.int, b_y.int, hc, q _ _ _ .refl i (.int _)⟩
    · cases hz
  · cases hz
theorem od_mod : OpD X (binaryOp .Mod) modG := by
  refine ⟨_, op_mod, fun S H t m x y d e z Q i bx b_y hz q => ?_⟩
  unfold modG at hz
  split at hz
  · split at hz
    · rename_i hc
      cases hz; exact ⟨_, _, bx.int, b_y.int, hc, q _ _ _ .refl i (.int _)⟩
    · cases hz
  · cases hz
theorem od_pow : OpD X (binaryOp .Pow) powG := by
  refine ⟨_, op_pow, fun S H t m x y d e z Q i bx b_y hz q => ?_⟩
  unfold powG at hz
  split at hz
  · split at hz
    · rename_i hc
      cases hz; exact ⟨_, _, bx.int, b_y.int, hc, q _ _ _ .refl i (.int _)⟩
    · cases hz
  · cases hz
theorem ud_neg : UnD X (unaryOp .USub) negG := by
  refine ⟨_, un_neg, fun S H t m x d z Q i bx hz q => ?_⟩
  unfold negG at hz
  split at hz
  · cases hz; exact ⟨_, bx.int, q _ _ _ .refl i (.int _)⟩
  · cases hz
/-! in place -/
@[simp] def addI : Store → D → D → Option D := fun _ x y => match x, y with
  | .int i, .int j => some (.int (i + j))
  | _, _ => none
theorem oi_add : OpD X (inplaceOp .Add) addI := by
  refine ⟨_, iop_add, fun S H t m x y d e z Q i bx b_y hz q => ?_⟩
  unfold addI at hz
  split at hz
  · cases hz; exact ⟨_, _, bx.int, b_y.int, q _ _ _ .refl i (.int _)⟩
  · cases hz
theorem oi_sub : OpD X (inplaceOp .Sub) subG := by
  refine ⟨_, iop_sub, fun S H t m x y d e z Q i bx b_y hz q => ?_⟩
  unfold subG at hz
  split at hz
  · cases hz; exact ⟨_, _, bx.int, b_y.int, q _ _ _ .refl i (.int _)⟩
  · cases hz

/-! ### order -/
@[simp] def ltG : Store → D → D → Option D := fun _ x y => match x, y with
  | .int i, .int j => some (.bl (decide (i < j)))
  | .str a, .str b => some (.bl (decide (a.cps.toList < b.cps.toList)))
  | _, _ => none
@[simp] def leG : Store → D → D → Option D := fun _ x y => match x, y with
  | .int i, .int j => some (.bl (decide (i ≤ j)))
  | .str a, .str b => some (.bl (!decide (b.cps.toList < a.cps.toList)))
  | _, _ => none
@[simp] def gtG : Store → D → D → Option D := fun _ x y => match x, y with
  | .int i, .int j => some (.bl (decide (i > j)))
  | .str a, .str b => some (.bl (decide (b.cps.toList < a.cps.toList)))
  | _, _ => none
@[simp] def geG : Store → D → D → Option D := fun _ x y => match x, y with
  | .int i, .int j => some (.bl (decide (i ≥ j)))
  | .str a, .str b => some (.bl (!decide (a.cps.toList < b.cps.toList)))
  | _, _ => none
theorem od_lt : OpD X (compareOp .Lt) ltG := by
  refine ⟨_, op_lt.or op_lt_str, fun S H t m x y d e z Q i bx b_y hz q => ?_⟩
  unfold ltG at hz
  split at hz
  · cases hz; exact .inl ⟨_, _, bx.int, b_y.int, q _ _ _ .refl i (.bl _)⟩
  · cases hz; exact .inr ⟨_, _, bx.str, b_y.str, q _ _ _ .refl i (.bl _)⟩
  · cases hz
theorem od_le : OpD X (compareOp .LtE) leG := by
  refine ⟨_, op_le.or op_le_str, fun S H t m x y d e z Q i bx b_y hz q => ?_⟩
  unfold leG at hz
  split at hz
  · cases hz; exact .inl ⟨_, _, bx.int, b_y.int, q _ _ _ .refl i (.bl _)⟩
  · cases hz; exact .inr ⟨_, _, bx.str, b_y.str, q _ _ _ .refl i (.bl _)⟩
  · cases hz
theorem od_gt : OpD X (compareOp .Gt) gtG := by
  refine ⟨_, op_gt.or op_gt_str, fun S H t m x y d e z Q i bx b_y hz q => ?_⟩
  unfold gtG at hz
  split at hz
  · cases hz; exact .inl ⟨_, _, bx.int, b_y.int, q _ _ _ .refl i (.bl _)⟩
  · cases hz; exact .inr ⟨_, _, bx.str, b_y.str, q _ _ _ .refl i (.bl _)⟩
  · cases hz
theorem od_ge : OpD X (compareOp .GtE) geG := by
  refine ⟨_, op_ge.or op_ge_str, fun S H t m x y d e z Q i bx b_y hz q => ?_⟩
  unfold geG at hz
  split at hz
  · cases hz; exact .inl ⟨_, _, bx.int, b_y.int, q _ _ _ .refl i (.bl _)⟩
  · cases hz; exact .inr ⟨_, _, bx.str, b_y.str, q _ _ _ .refl i (.bl _)⟩
  · cases hz
end

/-! ### data as the model knows them -/
mutual
def toP : D → Option PyData
  | .non => some .none
  | .bl b => some (.bool b)
  | .int i => some (.int i)
  | .str x => some (.str x)
  | .tup xs => (toPs xs).map .tuple
  | .lst xs => (toPs xs).map .list
  | .frz xs => (toPs xs).map .list
  | .dct _ => none
  | .ins _ _ => none
  | .ref _ => none
def toPs : List D → Option (List PyData)
  | [] => some []
  | d :: ds => (toP d).bind fun p => (toPs ds).map fun ps => p :: ps
end
section
variable {K : PySem.W.Frag} {S H : Hp} {t : Th} {m : Store}
mutual
theorem toP_dp (ss : Sub S H) : ∀ (d : D) (v : V) (p : PyData), DR K S t v d → toP d = some p → Dp K H v p
  | .non, _, _, .non, h => by unfold toP at h; cases h; exact .non
  | .bl b, _, _, .bl _, h => by unfold toP at h; cases h; exact .bl b
  | .int b, _, _, .int _, h => by unfold toP at h; cases h; exact .int b
  | .str b, _, _, .str _, h => by unfold toP at h; cases h; exact .str b
  | .tup xs, _, _, .tup h1 h2, h => by
    unfold toP at h
    cases q : toPs xs with
    | none => rw [q] at h; cases h
    | some ps =>
      rw [q] at h
      cases h
      exact .tup (ss.sqT h1) (toPs_dp ss xs _ ps h2 q)
  | .lst xs, _, _, .lst h1 h2, h => by
    unfold toP at h
    cases q : toPs xs with
    | none => rw [q] at h; cases h
    | some ps =>
      rw [q] at h
      cases h
      exact .lst (.of (ss _ _ h1)) (toPs_dp ss xs _ ps h2 q)
  | .frz xs, _, _, .frz h1 h2, h => by
    unfold toP at h
    cases q : toPs xs with
    | none => rw [q] at h; cases h
    | some ps =>
      rw [q] at h
      cases h
      exact .lst (ss.sqL h1) (toPs_dp ss xs _ ps h2 q)
  | .dct _, _, _, _, h => by unfold toP at h; cases h
  | .ins _ _, _, _, _, h => by unfold toP at h; cases h
  | .ref _, _, _, _, h => by unfold toP at h; cases h
theorem toPs_dp (ss : Sub S H) : ∀ (ds : List D) (vs : List V) (ps : List PyData), DRs K S t vs ds → toPs ds = some ps → DpAll K H vs ps
  | [], _, _, .nil, h => by unfold toPs at h; cases h; exact .nil
  | d :: ds, _, _, .cons h1 h2, h => by
    unfold toPs at h
    cases q : toP d with
    | none => rw [q] at h; cases h
    | some p =>
      rw [q] at h
      cases q' : toPs ds with
      | none => simp [q'] at h
      | some ps =>
        simp [q'] at h
        subst h
        exact .cons (toP_dp ss d _ p h1 q) (toPs_dp ss ds _ ps h2 q')
end
theorem BR.dp {v : V} {d : D} {p : PyData} (i : HI K S H t m) (h : BR K S H t v d) (e : toP d = some p) : Dp K H v p := by
  rcases h with h | ⟨a, rfl, o⟩
  · exact toP_dp i.sub d v p h e
  · obtain ⟨xs, vs, rfl, h1, h2⟩ := o.at_
    unfold toP at e
    cases q : toPs xs with
    | none => rw [q] at e; cases e
    | some ps =>
      rw [q] at e
      cases e
      exact .lst (.of h1) (toPs_dp i.sub xs vs ps h2 q)
end
/-- two data, both plain -/
def twoP (d e : D) : Option (PyData × PyData) := match toP d, toP e with
  | some p, some q => if (SeqAt.shaped p && SeqAt.shaped q) = true then some (p, q) else none
  | _, _ => none
theorem twoP_ok {d e : D} {p q : PyData} (h : twoP d e = some (p, q)) : toP d = some p ∧ toP e = some q ∧ SeqAt.shaped p = true ∧ SeqAt.shaped q = true := by
  unfold twoP at h
  split at h
  · rename_i p' q' h1 h2
    split at h
    · rename_i hc
      cases h
      rw [Bool.and_eq_true] at hc
      exact ⟨h1, h2, hc.1, hc.2⟩
    · cases h
  · cases h
def eqG : Store → D → D → Option D := fun _ x y => (twoP x y).map fun z => .bl (PyData.eqv z.1 z.2)
def neG : Store → D → D → Option D := fun _ x y => (twoP x y).map fun z => .bl (!PyData.eqv z.1 z.2)
def inL (p q : PyData) : Option Bool := match q with
  | .list ds => some (ds.any fun z => PyData.eqv z p)
  | .tuple ds => some (ds.any fun z => PyData.eqv z p)
  | _ => none
def oneSign (a : Str) : Option Nat := match a.cps.toList with
  | [c] => some c
  | _ => none
theorem oneSign_ok {a : Str} {c : Nat} (h : oneSign a = some c) : a = ⟨#[c]⟩ := by
  unfold oneSign at h
  split at h
  · rename_i c' e
    cases h
    obtain ⟨⟨l⟩⟩ := a
    simp at e
    subst e
    rfl
  · cases h
def inG : Store → D → D → Option D := fun _ x y => match x, y with
  | .str a, .str b => (oneSign a).map fun c => .bl (decide (c ∈ b.cps.toList))
  | x, y => (twoP x y).bind fun z => (inL z.1 z.2).map .bl
def notInG : Store → D → D → Option D := fun _ x y => match x, y with
  | .str a, .str b => (oneSign a).map fun c => .bl (!decide (c ∈ b.cps.toList))
  | x, y => (twoP x y).bind fun z => (inL z.1 z.2).map fun b => .bl (!b)
section
variable {X : Cx}
def rInT (K : PySem.W.Frag) : R2 := fun x y H Q => ∃ d ds, Dp K H x d ∧ Dp K H y (.tuple ds) ∧ SeqAt.shaped d = true ∧ SeqAt.shaped (.tuple ds) = true ∧ Q (.bl (ds.any fun z => PyData.eqv z d)) H
def rNotInT (K : PySem.W.Frag) : R2 := fun x y H Q => ∃ d ds, Dp K H x d ∧ Dp K H y (.tuple ds) ∧ SeqAt.shaped d = true ∧ SeqAt.shaped (.tuple ds) = true ∧ Q (.bl (!ds.any fun z => PyData.eqv z d)) H
theorem op_inT (hu : X.A.units + 65 < cLine) : OpR X (compareOp .In) (rInT X.K) := by
  intro pins s σ H x y v u Q I rx ry h
  obtain ⟨d, ds, hd, he, sd, se, q⟩ := h
  obtain ⟨as, r1⟩ := Dp.reads I d x v hd rx
  obtain ⟨bs, r2⟩ := Dp.reads I (.tuple ds) y u he ry
  exact SeqAt.in_tuple_reads r2 r1 (SeqAt.canLay_of_shaped se) (SeqAt.canLay_of_shaped sd) (PyProof.Rows.room_in_shaped sd hu) ⟨.bl _, H, I, rfl, q⟩
theorem op_notInT (hu : X.A.units + 65 < cLine) : OpR X (compareOp .NotIn) (rNotInT X.K) := by
  intro pins s σ H x y v u Q I rx ry h
  obtain ⟨d, ds, hd, he, sd, se, q⟩ := h
  obtain ⟨as, r1⟩ := Dp.reads I d x v hd rx
  obtain ⟨bs, r2⟩ := Dp.reads I (.tuple ds) y u he ry
  exact SeqAt.notIn_tuple_reads r2 r1 (SeqAt.canLay_of_shaped se) (SeqAt.canLay_of_shaped sd) (PyProof.Rows.room_in_shaped sd hu) ⟨.bl _, H, I, rfl, q⟩
theorem od_eq (hu : X.A.units + 65 < cLine) : OpD X (compareOp .Eq) eqG := by
  refine ⟨_, op_eqD (by omega), fun S H t m x y d e z Q i bx b_y hz q => ?_⟩
  unfold eqG at hz
  cases h : twoP d e with
  | none => rw [h] at hz; cases hz
  | some w =>
    obtain ⟨p1, p2⟩ := w
    rw [h] at hz
    cases hz
    obtain ⟨h1, h2, h3, h4⟩ := twoP_ok h
    exact ⟨p1, p2, bx.dp i h1, b_y.dp i h2, h3, h4, q _ _ _ .refl i (.bl _)⟩
theorem od_ne (hu : X.A.units + 65 < cLine) : OpD X (compareOp .NotEq) neG := by
  refine ⟨_, op_neD (by omega), fun S H t m x y d e z Q i bx b_y hz q => ?_⟩
  unfold neG at hz
  cases h : twoP d e with
  | none => rw [h] at hz; cases hz
  | some w =>
    obtain ⟨p1, p2⟩ := w
    rw [h] at hz
    cases hz
    obtain ⟨h1, h2, h3, h4⟩ := twoP_ok h
    exact ⟨p1, p2, bx.dp i h1, b_y.dp i h2, h3, h4, q _ _ _ .refl i (.bl _)⟩
theorem od_in (hu : X.A.units + 65 < cLine) : OpD X (compareOp .In) inG := by
  refine ⟨_, op_in_sign.or ((op_inD hu).or (op_inT hu)), fun S H t m x y d e z Q i bx b_y hz q => ?_⟩
  unfold inG at hz
  split at hz
  · rename_i a b
    cases h : oneSign a with
    | none => rw [h] at hz; cases hz
    | some c =>
      rw [h] at hz
      cases hz
      have := oneSign_ok h
      subst this
      exact .inl ⟨c, b, bx.str, b_y.str, q _ _ _ .refl i (.bl _)⟩
  · cases h : twoP d e with
    | none => rw [h] at hz; cases hz
    | some w =>
      obtain ⟨p1, p2⟩ := w
      rw [h] at hz
      obtain ⟨h1, h2, h3, h4⟩ := twoP_ok h
      cases p2 with
      | list ds => cases hz; exact .inr (.inl ⟨p1, ds, bx.dp i h1, b_y.dp i h2, h3, h4, q _ _ _ .refl i (.bl _)⟩)
      | tuple ds => cases hz; exact .inr (.inr ⟨p1, ds, bx.dp i h1, b_y.dp i h2, h3, h4, q _ _ _ .refl i (.bl _)⟩)
      | _ => cases hz
theorem od_notIn (hu : X.A.units + 65 < cLine) : OpD X (compareOp .NotIn) notInG := by
  refine ⟨_, op_notIn_sign.or ((op_notInD hu).or (op_notInT hu)), fun S H t m x y d e z Q i bx b_y hz q => ?_⟩
  unfold notInG at hz
  split at hz
  · rename_i a b
    cases h : oneSign a with
    | none => rw [h] at hz; cases hz
    | some c =>
      rw [h] at hz
      cases hz
      have := oneSign_ok h
      subst this
      exact .inl ⟨c, b, bx.str, b_y.str, q _ _ _ .refl i (.bl _)⟩
  · cases h : twoP d e with
    | none => rw [h] at hz; cases hz
    | some w =>
      obtain ⟨p1, p2⟩ := w
      rw [h] at hz
      obtain ⟨h1, h2, h3, h4⟩ := twoP_ok h
      cases p2 with
      | list ds => cases hz; exact .inr (.inl ⟨p1, ds, bx.dp i h1, b_y.dp i h2, h3, h4, q _ _ _ .refl i (.bl _)⟩)
      | tuple ds => cases hz; exact .inr (.inr ⟨p1, ds, bx.dp i h1, b_y.dp i h2, h3, h4, q _ _ _ .refl i (.bl _)⟩)
      | _ => cases hz
/-! ### is None -/
def isNon : D → Bool
  | .non => true
  | _ => false
@[simp] def isG : Store → D → D → Option D := fun _ x y => match x, y with
  | x, .non => some (.bl (isNon x))
  | .bl a, .bl b => some (.bl (decide (a = b)))
  | _, _ => none
@[simp] def isNotG : Store → D → D → Option D := fun _ x y => match x, y with
  | x, .non => some (.bl (!isNon x))
  | .bl a, .bl b => some (.bl (!decide (a = b)))
  | _, _ => none
theorem isNon_v {K : PySem.W.Frag} {S H : Hp} {t : Th} {v : V} {d : D} (h : BR K S H t v d) : decide (v = V.non) = isNon d := by
  rcases h with h | ⟨a, rfl, o⟩
  · cases h <;> simp [isNon]
  · obtain ⟨xs, vs, rfl, _⟩ := o.at_
    simp [isNon]
theorem od_is : OpD X (compareOp .Is) isG := by
  refine ⟨_, op_isN.or op_is_bl, fun S H t m x y d e z Q i bx b_y hz q => ?_⟩
  unfold isG at hz
  split at hz
  · cases hz; exact .inl ⟨b_y.non, by rw [isNon_v bx]; exact q _ _ _ .refl i (.bl _)⟩
  · cases hz; exact .inr ⟨_, _, bx.bl, b_y.bl, q _ _ _ .refl i (.bl _)⟩
  · cases hz
theorem od_isNot : OpD X (compareOp .IsNot) isNotG := by
  refine ⟨_, op_notN.or op_isnot_bl, fun S H t m x y d e z Q i bx b_y hz q => ?_⟩
  unfold isNotG at hz
  split at hz
  · cases hz; exact .inl ⟨b_y.non, by rw [isNon_v bx]; exact q _ _ _ .refl i (.bl _)⟩
  · cases hz; exact .inr ⟨_, _, bx.bl, b_y.bl, q _ _ _ .refl i (.bl _)⟩
  · cases hz
/-! ### a[i] -/
@[simp] def ixG : Store → D → D → Option D := fun m x y => match x, y with
  | .lst xs, .int i => atI xs i
  | .frz xs, .int i => atI xs i
  | .tup xs, .int i => atI xs i
  | .str z, .int i => if short z.cps.toList = true then (atI z.cps.toList i).map fun c => .str ⟨#[c]⟩ else none
  | .ref n, .int i => match m[n]? with
    | some (.lst xs) => atI xs i
    | _ => none
  | _, _ => none
theorem atI_dr {K : PySem.W.Frag} {S : Hp} {t : Th} {vs : List V} {ds : List D} {i : Int} {z : D} (h : DRs K S t vs ds) (e : atI ds i = some z) : ∃ v, atI vs i = some v ∧ DR K S t v z := by
  unfold atI at e ⊢
  rw [h.length]
  cases q : ixN ds.length i with
  | none => rw [q] at e; cases e
  | some j =>
    rw [q] at e
    exact h.get e
theorem id_ix : IxD X ixG := by
  refine ⟨_, ix_seq, fun S H t m x y d e z Q i bx b_y hz q => ?_⟩
  unfold ixG at hz
  split at hz
  · obtain ⟨a, vs, rfl, a2, a3⟩ := bx.lst i
    obtain ⟨v, v1, v2⟩ := atI_dr a3 hz
    exact .inl ⟨a, vs, _, v, rfl, b_y.int, .of a2, v1, q _ _ _ .refl i v2⟩
  · obtain ⟨a, vs, rfl, a2, a3⟩ := bx.frz i
    obtain ⟨v, v1, v2⟩ := atI_dr a3 hz
    exact .inl ⟨a, vs, _, v, rfl, b_y.int, a2, v1, q _ _ _ .refl i v2⟩
  · obtain ⟨a, vs, rfl, _, a2, a3⟩ := bx.tup i
    obtain ⟨v, v1, v2⟩ := atI_dr a3 hz
    exact .inr (.inl ⟨a, vs, _, v, rfl, b_y.int, a2, v1, q _ _ _ .refl i v2⟩)
  · rename_i z' i'
    split at hz
    · rename_i hs
      cases h : atI z'.cps.toList i' with
      | none => rw [h] at hz; cases hz
      | some c =>
        rw [h] at hz
        cases hz
        exact .inr (.inr ⟨z', i', c, bx.str, b_y.int, by have := short_le hs; simpa [Str.length] using this, h, q _ _ _ .refl i (.str _)⟩)
    · cases hz
  · split at hz
    · rename_i xs hm
      obtain ⟨a, vs, rfl, a2, a3⟩ := bx.ref i hm
      obtain ⟨v, v1, v2⟩ := atI_dr a3 hz
      exact .inl ⟨a, vs, _, v, rfl, b_y.int, .of a2, v1, q _ _ _ .refl i v2⟩
    · cases hz
  · cases hz
end
end Dn
/-! Sorting, by data. -/
namespace PySem.W
open PySem PySem.Calls PyProof.Rows
section
variable {prog : Program} {w : World} {A : Around} {E : Value → Shared → Prop} {s : Shared} {β : Type} {vs : List Value} {bs : List β} {enc : β → PyData} {R : Value → β → Prop}
/-- sorted of a list or a tuple -/
theorem dn_sorted {x : Addr} {T : String} {o : Obj} {n : Nat} {Q : Value → Shared → Prop} (hT : T = "list" ∨ T = "tuple") (ho : s.heap.get? x = some o) (hc : o.cls = .type T) (hd : o.data = .seq vs.toArray n)
    (e : EachIs R vs bs) (er : EachIs (fun v b => ∃ as, Reads s.heap v (enc b) as) vs bs) (hal : AllAlike (bs.map enc)) (hk : Sortable (bs.map enc)) (hL : bs.length ≤ sizeLine) (hu : ∀ b, b ∈ bs → A.units + 2 + (enc b).depth < cLine)
    (h : ∀ (h1 h2 : Heap) out c, (∀ b o, s.heap.get? b = some o → h1.get? b = some o) → (∀ b o, h1.get? b = some o → h2.get? b = some o) → h2.get? h1.objs.size = some (seqObj "list" (List.toArray out) c) → out.length = bs.length → EachIs R out (bs.mergeSort (dataLe false enc)) → Q (.ref h1.objs.size) { s with heap := h2 }) :
    wpAny (model prog w) A (call (.builtin "sorted") [.ref x]) Q E s := by
  have hvs : vs.length ≤ sizeLine := by rw [e.length]; exact hL
  refine call_function_entry_kw kind_sorted plain_sorted entry_sorted (args_sorted1 _) ?_
  unfold Builtin.«sorted»
  refine wpAny_bind (m := checkCount "sorted" 1 1 _) (wpAny_pure ?_)
  refine wpAny_bind (wpAny_collect_seq x hT ho hc hd (fun h1 hk1 => ?_) (by simpa using hvs))
  refine wpAny_bind (wpAny_newList ?_ (by simpa using hvs))
  have e0 : vs.toArray.toList = vs := by simp
  rw [e0]
  have at1 : (h1.push (seqObj "list" vs.toArray 0)).get? h1.objs.size = some (seqObj "list" vs.toArray 0) := Heap.get?_push_size _ rfl
  have old1 : ∀ b o, h1.get? b = some o → b ≠ h1.objs.size ∧ (h1.push (seqObj "list" vs.toArray 0)).get? b = some o := fun b o q => ⟨Nat.ne_of_lt (Heap.lt_size q), Heap.get?_push_of_some _ q⟩
  show wpAny _ _ _ _ _ { s with heap := h1.push (seqObj "list" vs.toArray 0) }
  have er1 : EachIs (fun v b => ∃ as, Reads (sortingHeap (h1.push (seqObj "list" vs.toArray 0)) h1.objs.size vs) v (enc b) as) vs bs := er.mono fun _ _ ⟨as, r⟩ => ⟨as, PyProof.Rows.Reads.keeps (fun b o q => by
    obtain ⟨q1, q2⟩ := old1 b o (hk1 b o q)
    exact sortingHeap_old q1 q2) r⟩
  refine wpAny_bind (wpAny_holding (wpAny_call_entry_kw slot_list_sort ⟨_, at1, rfl⟩ entry_list_sort ?body (args_list_sort _)))
  case body =>
    show wpAny (model prog w) A.in1.in1 (Builtin.«list.sort» ⟨[.ref h1.objs.size], []⟩) _ _ _
    refine wpAny_mono (Q := fun f s' => f = .done (.ret .none) ∧ s' = { s with heap := sortedHeap (h1.push (seqObj "list" vs.toArray 0)) h1.objs.size vs (sortVals (dataKind (sortingHeap (h1.push (seqObj "list" vs.toArray 0)) h1.objs.size vs) (bs.map enc)) false vs vs).toArray })
      (list_sort_vals (s := { s with heap := h1.push (seqObj "list" vs.toArray 0) }) at1 (SortsAt.data (s := { s with heap := sortingHeap (h1.push (seqObj "list" vs.toArray 0)) h1.objs.size vs }) (each_map (R := fun v d => ∃ as, Reads (sortingHeap (h1.push (seqObj "list" vs.toArray 0)) h1.objs.size vs) v d as) enc er1) hal hk (bound_map hu)) hvs ⟨rfl, rfl⟩) (fun f s' hf => ?_) fun _ _ e => e
    obtain ⟨rfl, rfl⟩ := hf
    refine ⟨_, rfl, wpAny_pure ⟨_, rfl, ?_⟩⟩
    obtain ⟨c, hc2⟩ := sortedHeap_at (vs := vs) (out := (sortVals (dataKind (sortingHeap (h1.push (seqObj "list" vs.toArray 0)) h1.objs.size vs) (bs.map enc)) false vs vs).toArray) at1
    refine h h1 _ _ c hk1 (fun b o q => ?_) hc2 (by rw [sortVals_length false rfl]; exact e.length) (sortVals_data false e er1 hal)
    obtain ⟨q1, q2⟩ := old1 b o q
    rw [sortedHeap_old q1 (Heap.lt_size q2)]
    exact q2
end
end PySem.W

namespace Dn
open PySem L2
def encD (d : D) : PyData := (toP d).getD .none
def leD : D → D → Bool := PySem.W.dataLe false encD
def sortedD (ds : List D) : List D := ds.mergeSort leD
def isTup1 : PyData → Bool
  | .tuple (_ :: _) => true
  | _ => false
def noTup : PyData → Bool
  | .tuple _ => false
  | .none => false
  | _ => true
def sortOk (ds : List D) : Bool :=
  decide (ds.length ≤ LIM) && ds.all (fun d => (toP d).isSome && decide ((encD d).depth ≤ 60)) && ds.all (fun a => ds.all fun b => PySem.W.alike (encD a) (encD b)) && (ds.all (fun d => isTup1 (encD d)) || ds.all (fun d => noTup (encD d)))
@[simp] def sortF : Store → List D → Option (List D) := fun _ xs => match xs with
  | [.lst ds] => if sortOk ds = true then some (sortedD ds) else none
  | [.tup ds] => if sortOk ds = true then some (sortedD ds) else none
  | _ => none
section
variable {X : Cx}
theorem each_of {K : PySem.W.Frag} {S : Hp} {t : Th} {vs : List V} {ds : List D} {us : List Value} (h : DRs K S t vs ds) (r : Vals vs us) : PySem.W.EachIs (fun u d => ∃ v, RelV v u ∧ DR K S t v d) us ds := by
  induction r generalizing ds with
  | nil => cases h; exact .nil
  | cons r _ ih => cases h with | cons h hs => exact .cons ⟨_, r, h⟩ (ih hs)
theorem each_back {K : PySem.W.Frag} {S : Hp} {t : Th} {ds : List D} {us : List Value} (h : PySem.W.EachIs (fun u d => ∃ v, RelV v u ∧ DR K S t v d) us ds) : ∃ vs, Vals vs us ∧ DRs K S t vs ds := by
  induction h with
  | nil => exact ⟨[], .nil, .nil⟩
  | cons h _ ih =>
    obtain ⟨v, r, d⟩ := h
    obtain ⟨vs, rs, ds⟩ := ih
    exact ⟨v :: vs, .cons r rs, .cons d ds⟩
theorem sortOk_ok {ds : List D} (h : sortOk ds = true) : ds.length ≤ LIM ∧ (∀ d ∈ ds, toP d = some (encD d) ∧ (encD d).depth ≤ 60) ∧ PySem.W.AllAlike (ds.map encD) ∧ PySem.W.Sortable (ds.map encD) := by
  unfold sortOk at h
  simp only [Bool.and_eq_true, Bool.or_eq_true, List.all_eq_true, decide_eq_true_eq] at h
  obtain ⟨⟨⟨h1, h2⟩, h3⟩, h4⟩ := h
  refine ⟨h1, fun d hd => ?_, fun d hd d' hd' => ?_, ?_⟩
  · obtain ⟨q1, q2⟩ := h2 d hd
    refine ⟨?_, q2⟩
    obtain ⟨p, hp⟩ := Option.isSome_iff_exists.mp q1
    unfold encD
    rw [hp]; rfl
  · obtain ⟨a, ha, rfl⟩ := List.mem_map.mp hd
    obtain ⟨b, hb, rfl⟩ := List.mem_map.mp hd'
    exact h3 a ha b hb
  · rcases h4 with h4 | h4
    · refine .inl fun d hd => ?_
      obtain ⟨a, ha, rfl⟩ := List.mem_map.mp hd
      have := h4 a ha
      revert this
      cases encD a with
      | tuple xs =>
        cases xs with
        | nil => intro z; exact absurd z (by decide)
        | cons x r => intro _; exact ⟨x, r, rfl⟩
      | _ => intro z; cases z
    · refine .inr fun d hd => ?_
      obtain ⟨a, ha, rfl⟩ := List.mem_map.mp hd
      have := h4 a ha
      revert this
      cases encD a with
      | tuple xs => intro z; cases z
      | none => intro z; cases z
      | _ => intro _; exact ⟨(fun z => nomatch z), (fun xs z => nomatch z)⟩
theorem each_reads {pins : List (Addr × Obj)} {σ : St} {H S : Hp} {t : Th} {s : Shared} (I : Inv X pins σ H s) (ss : Sub S H) {ds : List D} {us : List Value} (h : PySem.W.EachIs (fun u d => ∃ v, RelV v u ∧ DR X.K S t v d) us ds) (hp : ∀ d ∈ ds, toP d = some (encD d)) :
    PySem.W.EachIs (fun u d => ∃ as, Reads s.heap u (encD d) as) us ds := by
  induction h with
  | nil => exact .nil
  | cons h _ ih =>
    obtain ⟨v, r, hd⟩ := h
    exact .cons (Dp.reads I _ _ _ (toP_dp ss _ _ _ hd (hp _ List.mem_cons_self)) r) (ih fun d hd => hp d (List.mem_cons_of_mem _ hd))
theorem mergeSort_len (ds : List D) : (sortedD ds).length = ds.length := List.length_mergeSort ds
def rSortD (K : PySem.W.Frag) : List V → Hp → VK → Prop := fun xs H Q => ∃ S t m a ds vs, HI K S H t m ∧ xs = [V.ref a] ∧ (SqL K H a vs ∨ SqT K H a vs) ∧ DRs K S t vs ds ∧ sortOk ds = true ∧ ∀ p ws, H p = none → DRs K S t ws (sortedD ds) → Q (.ref p) (upd H p (.lst ws))
theorem cr_sortD (hu : X.A.units + 65 < cLine) : CallR X (.builtin "sorted") (rSortD X.K) := by
  intro pins s σ H xs us Q I r h
  obtain ⟨S, t, m, a, ds, vs, hi, rfl, hs, hd, ok, q⟩ := h
  obtain ⟨u, rfl, ru⟩ := vals1 r
  obtain rfl : u = Value.ref a := ru
  obtain ⟨hl, hp, hal, hk⟩ := sortOk_ok ok
  have main : ∀ (T : String) (o : Obj) (its : List Value) (n : Nat), (T = "list" ∨ T = "tuple") → s.heap.get? a = some o → o.cls = .type T → o.data = .seq its.toArray n → Vals vs its → wpAny (model X.prog X.w) X.A (call (.builtin "sorted") [.ref a]) (EP X pins σ Q) X.xe s := by
    intro T o its n hT ho hc hdt rv
    have e1 := each_of hd rv
    refine PySem.W.dn_sorted hT ho hc hdt e1 (each_reads I hi.sub e1 fun d hd => (hp d hd).1) hal hk (lim_le hl) (fun b hb => ?_) fun h1 h2 out c k1 k2 at2 ol eo => ?_
    · have := (hp b hb).2
      omega
    · obtain ⟨ws, rw', dw⟩ := each_back eo
      have I1 : Inv X pins σ H { s with heap := h1 } := I.kept (t' := s.toks) k1
      refine ⟨.ref h1.objs.size, upd H h1.objs.size (.lst ws), I1.laid (t' := s.toks) k2 (Nat.le_refl _) ⟨?_, out, c, rw', at2⟩, rfl, q _ ws (I1.hok.fresh (Nat.le_refl _)) dw⟩
      have : ws.length = (sortedD ds).length := dw.length
      rw [this, mergeSort_len]
      exact lim_le hl
  rcases hs with hs | hs
  · obtain ⟨its, rv, pl, hz⟩ := I.list hs
    obtain ⟨o, ho, hc, n, hdt⟩ := pl.isList
    exact main "list" o its n (.inl rfl) ho hc hdt rv
  · obtain ⟨its, rv, ⟨o, ho, hc, n, hdt⟩, hz⟩ := I.tuple hs
    exact main "tuple" o its n (.inr rfl) ho hc hdt rv
theorem cf_sort (hu : X.A.units + 65 < cLine) : CallF X (.builtin "sorted") sortF := by
  refine ⟨_, cr_sortD hu, fun S H t m xs ds zs Q i bs hz q => ?_⟩
  have fin : ∀ a vs es, (SqL X.K H a vs ∨ SqT X.K H a vs) → xs = [V.ref a] → DRs X.K S t vs es → (if sortOk es = true then some (sortedD es) else none) = some zs → rSortD X.K xs H Q := by
    intro a vs es hs hx hd hz
    split at hz
    · rename_i ok
      cases hz
      refine ⟨S, t, m, a, es, vs, i, hx, hs, hd, ok, fun p ws hp dw => ?_⟩
      obtain ⟨p2, i2, r⟩ := new_own i hp dw
      exact q _ _ _ p2 i2 r hp
    · cases hz
  unfold sortF at hz
  split at hz
  · cases bs with
    | cons b1 b2 =>
      cases b2
      obtain ⟨a, vs, rfl, a2, a3⟩ := b1.lst i
      exact fin a vs _ (.inl (.of a2)) rfl a3 hz
  · cases bs with
    | cons b1 b2 =>
      cases b2
      obtain ⟨a, vs, rfl, _, a2, a3⟩ := b1.tup i
      exact fin a vs _ (.inr a2) rfl a3 hz
  · cases hz
end
end Dn
/-! Chains, starred items, slices, built-ins. -/
namespace Dn
open PySem L2

section
variable {X : Cx} {G : Cfg} {W : WX} {a b c : Expr} {es : List Expr} {fa fb fc : EvE} {fs : EvA} {pos p : Pos}
/-! ### a op b op' c -/
theorem de_chain {op op' : CmpOp} {g g' : Store → D → D → Option D} (ho : OpD X (compareOp op) g) (ho' : OpD X (compareOp op') g') (hK : X.K = G.K) (ha : PE X a (semB G W fa)) (hb : PE X b (semB G W fb)) (hc : PE X c (semB G W fc))
    (hm : lastMarks [op, op'] [b, c] = false := by with_unfolding_all rfl) : PE X (.Compare a [op, op'] [b, c] pos) (semE G W (chainE g g' fa fb fc)) := by
  obtain ⟨r, r1, r2⟩ := ho
  obtain ⟨r', r1', r2'⟩ := ho'
  exact (pe_chain r1 r1' ha hb hc hm).imp fun σ H Q h => sem3 hK r2 r2' h
theorem dt_chain {op op' : CmpOp} {g g' : Store → D → D → Option D} (ho : OpD X (compareOp op) g) (ho' : OpD X (compareOp op') g') (hK : X.K = G.K) (ha : PE X a (semB G W fa)) (hb : PE X b (semB G W fb)) (hc : PE X c (semB G W fc))
    (hm : lastMarks [op, op'] [b, c] = false := by with_unfolding_all rfl) : PT X (.Compare a [op, op'] [b, c] pos) (semT G W (blT (chainE g g' fa fb fc))) := by
  obtain ⟨r, r1, r2⟩ := ho
  obtain ⟨r', r1', r2'⟩ := ho'
  refine (pt_chain r1 r1' ha hb hc hm).imp fun σ H Q ⟨S, t, m, e, si, h⟩ => ?_
  refine sem3 (Q := fun x H' => ∃ k, x = .bl k ∧ Q k H') hK r2 r2' ⟨S, t, m, e, si, (Gd.sp h).imp fun S1 H1 t1 m1 x p1 i1 h2 v rv => ?_⟩
  cases x with
  | bl b => cases rv; exact ⟨b, rfl, Gd.now h2 i1⟩
  | _ => exact h2.elim
/-! ### *e among items -/
@[simp] def starA (f : EvE) (r : EvA) : EvA := fun C e m => (f C e m).bind fun d m1 => (R.of (itemsOf d) m1).bind fun xs m1 => (r C e m1).bind fun ys m2 => .ok (xs ++ ys) m2
@[simp] def noStr : D → Bool
  | .str _ => false
  | _ => true
@[simp] def seqOnly (f : EvE) : EvE := fun C e m => (f C e m).bind fun d m1 => if noStr d = true then .ok d m1 else .stuck
theorem da_star {sp : Pos} (hK : X.K = G.K) (ha : PE X a (semE G W fa)) (hr : PA X es (semA G W fs)) (hs : starEach (.Starred a sp :: es) X.env = (true, eval a X.env) :: starEach es X.env := by rfl) : PA X (.Starred a sp :: es) (semA G W (starA (seqOnly fa) fs)) := by
  refine (StX.pa_star ha hr hs).imp fun σ H Q ⟨S, t, m, e, si, g⟩ => ⟨S, t, m, e, si, ?_⟩
  unfold starA seqOnly at g
  refine (Gd.sp (Gd.sp g)).imp fun S1 H1 t1 m1 d p1 i1 h1 v rv => ?_
  rw [hK]
  by_cases hn : noStr d = true
  · rw [if_pos hn] at h1
    have h1 := Gd.now h1 i1
    cases rv with
    | lst h hs =>
      have h1 : Gd G W σ S1 H1 t1 ((fs G.C e m1).bind fun ys m2 => .ok (_ ++ ys) m2) _ := h1
      refine ⟨_, _, rfl, .inr (.of (i1.sub _ _ h)), S1, t1, m1, e, si.stp p1 i1, (Gd.sp h1).imp fun S2 H2 t2 m2 ys p2 i2 h2 ws rs => ?_⟩
      exact Gd.now h2 i2 _ ((hs.stp i1 p2).append rs)
    | frz h hs =>
      have h1 : Gd G W σ S1 H1 t1 ((fs G.C e m1).bind fun ys m2 => .ok (_ ++ ys) m2) _ := h1
      refine ⟨_, _, rfl, .inr (i1.sub.sqL h), S1, t1, m1, e, si.stp p1 i1, (Gd.sp h1).imp fun S2 H2 t2 m2 ys p2 i2 h2 ws rs => ?_⟩
      exact Gd.now h2 i2 _ ((hs.stp i1 p2).append rs)
    | tup h hs =>
      have h1 : Gd G W σ S1 H1 t1 ((fs G.C e m1).bind fun ys m2 => .ok (_ ++ ys) m2) _ := h1
      refine ⟨_, _, rfl, .inl (i1.sub.sqT h), S1, t1, m1, e, si.stp p1 i1, (Gd.sp h1).imp fun S2 H2 t2 m2 ys p2 i2 h2 ws rs => ?_⟩
      exact Gd.now h2 i2 _ ((hs.stp i1 p2).append rs)
    | str z => cases hn
    | non => exact h1.elim
    | bl b => exact h1.elim
    | int b => exact h1.elim
    | ref b => exact h1.elim
    | ins _ _ _ => exact h1.elim
  · rw [if_neg hn] at h1; exact h1.elim
end

/-! ### slices -/
abbrev EvO := Orc → Env → Store → R (Option Int)
@[simp] def noO : EvO := fun _ _ m => .ok none m
@[simp] def isI : D → Option (Option Int)
  | .int i => some (some i)
  | _ => none
@[simp] def intO (f : EvE) : EvO := fun C e m => (f C e m).bind fun d m1 => .of (isI d) m1
def semO (G : Cfg) (W : WX) (f : EvO) : TO := fun σ H Q => ∃ S t m e, SI G.K G.x S H t m σ e ∧ Gd G W σ S H t (f G.C e m) fun _ H' _ _ o => Q o H'
def cutD (xs : List D) (lo hi : Option Int) : List D := (xs.drop (HT.sIx xs.length 0 lo)).take (HT.sIx xs.length xs.length hi - HT.sIx xs.length 0 lo)
def cutG : D → Option Int → Option Int → Option D
  | .tup xs, lo, hi => some (.tup (cutD xs lo hi))
  | .str z, lo, hi => if short z.cps.toList = true then some (.str (cutS z lo hi)) else none
  | _, _, _ => none
def cutF : D → Option Int → Option Int → Option (List D)
  | .lst xs, lo, hi => some (cutD xs lo hi)
  | .frz xs, lo, hi => some (cutD xs lo hi)
  | _, _, _ => none
@[simp] def slE (f : EvE) (l h : EvO) : EvE := fun C e m => (f C e m).bind fun d m1 => (l C e m1).bind fun lo m2 => (h C e m2).bind fun hi m3 => .of (cutG d lo hi) m3
@[simp] def slF (f : EvE) (l h : EvO) : EvA := fun C e m => (f C e m).bind fun d m1 => (l C e m1).bind fun lo m2 => (h C e m2).bind fun hi m3 => .of (cutF d lo hi) m3
@[simp] def revG : D → Option (List D)
  | .lst xs => some xs.reverse
  | .frz xs => some xs.reverse
  | _ => none
@[simp] def revF (f : EvE) : EvA := fun C e m => (f C e m).bind fun d m1 => .of (revG d) m1
theorem _root_.L2.PO.imp {X : Cx} {e : Option Expr} {t t' : TO} (h : PO X e t) (w : ∀ σ H Q, t' σ H Q → t σ H Q) : PO X e t' := ⟨fun pins s σ H Q I q => h.run pins s σ H Q I (w σ H Q q)⟩
section
variable {X : Cx} {G : Cfg} {W : WX} {a b c : Expr} {lo hi : Option Expr} {es : List Expr} {fa fb fc : EvE} {fl fh : EvO} {fs : EvA} {pos p p2 : Pos}
theorem do_none : PO X none (semO G W noO) := po_none.imp fun σ H Q ⟨S, t, m, e, si, g⟩ => g.now si.hi
theorem do_some (h : PE X a (semE G W fa)) : PO X (some a) (semO G W (intO fa)) := by
  refine (po_some h).imp fun σ H Q ⟨S, t, m, e, si, g⟩ => ⟨S, t, m, e, si, (Gd.sp g).imp fun S1 H1 t1 m1 d p1 i1 h1 v rv => ?_⟩
  cases d with
  | int i => cases rv; exact ⟨i, rfl, Gd.now h1 i1⟩
  | _ => exact h1.elim
theorem drs_cut {K : PySem.W.Frag} {S : Hp} {t : Th} {vs : List V} {ds : List D} (h : DRs K S t vs ds) (lo hi : Option Int) : DRs K S t (cutV vs lo hi) (cutD ds lo hi) := by
  unfold cutV cutD
  rw [h.length]
  exact (h.drop _).take _
theorem de_sl (hK : X.K = G.K) (ha : PE X a (semB G W fa)) (hl : PO X lo (semO G W fl)) (hh : PO X hi (semO G W fh)) : PE X (.Subscript a (.Slice lo hi none p2) pos) (semE G W (slE fa fl fh)) := by
  refine (pe_slice (sl_tupA.or sl_str) ha hl hh).imp fun σ H Q ⟨S, t, m, e, si, g⟩ => ⟨S, t, m, e, si, (Gd.sp g).imp fun S1 H1 t1 m1 d p1 i1 h1 v rv => ?_⟩
  refine ⟨S1, t1, m1, e, si.stp p1 i1, (Gd.sp h1).imp fun S2 H2 t2 m2 l p2 i2 h2 => ⟨S2, t2, m2, e, (si.stp p1 i1).stp p2 i2, (Gd.sp h2).imp fun S3 H3 t3 m3 h p3 i3 h3 => ?_⟩⟩
  have rv3 := (rv.stp i1 p2).stp i2 p3
  rw [hK]
  cases d with
  | tup xs =>
    obtain ⟨q, vs, rfl, a1, a2, a3⟩ := rv3.tup i3
    refine .inl ⟨q, vs, rfl, a2, fun hw => ?_, fun hw q' hq => ?_⟩
    · have e1 : cutD xs l h = xs := by
        unfold cutD
        rw [a3.length] at hw
        rw [hw.1, hw.2]
        simp
      have h3 : Gd G W σ S3 H3 t3 (R.ok (D.tup (cutD xs l h)) m3) _ := h3
      rw [e1] at h3
      exact Gd.now h3 i3 _ (DR.tup a1 a3)
    · obtain ⟨p4, i4, r⟩ := new_tup i3 hq (drs_cut a3 l h)
      exact h3 _ _ _ p4 i4 _ r
  | str z =>
    have := rv3.str
    subst this
    have h3 : Gd G W σ S3 H3 t3 (R.of (if short z.cps.toList = true then some (D.str (cutS z l h)) else none) m3) _ := h3
    by_cases hs : short z.cps.toList = true
    · rw [if_pos hs] at h3
      exact .inr ⟨z, rfl, by have := short_le hs; simpa [Str.length] using this, Gd.now h3 i3 _ (DR.str _)⟩
    · rw [if_neg hs] at h3; exact h3.elim
  | _ => exact h3.elim
theorem df_sl (hK : X.K = G.K) (ha : PE X a (semB G W fa)) (hl : PO X lo (semO G W fl)) (hh : PO X hi (semO G W fh)) : PE X (.Subscript a (.Slice lo hi none p2) pos) (semF G W (slF fa fl fh)) := by
  refine (pe_slice sl_list ha hl hh).imp fun σ H Q ⟨S, t, m, e, si, g⟩ => ⟨S, t, m, e, si, (Gd.sp g).imp fun S1 H1 t1 m1 d p1 i1 h1 v rv => ?_⟩
  refine ⟨S1, t1, m1, e, si.stp p1 i1, (Gd.sp h1).imp fun S2 H2 t2 m2 l p2 i2 h2 => ⟨S2, t2, m2, e, (si.stp p1 i1).stp p2 i2, (Gd.sp h2).imp fun S3 H3 t3 m3 h p3 i3 h3 => ?_⟩⟩
  have rv3 := (rv.stp i1 p2).stp i2 p3
  rw [hK]
  have up : ∀ q, H3 q = none → H q = none := fun q hq => by
    cases z : H q with
    | none => rfl
    | some o => exact absurd hq (p3.dom q (p2.dom q (p1.dom q (by rw [z]; simp))))
  cases d with
  | lst xs =>
    obtain ⟨q, vs, rfl, a2, a3⟩ := rv3.lst i3
    refine ⟨q, vs, rfl, .of a2, fun q' hq => ?_⟩
    obtain ⟨p4, i4, r⟩ := new_own i3 hq (drs_cut a3 l h)
    exact h3 _ _ _ p4 i4 _ r (up _ hq)
  | frz xs =>
    obtain ⟨q, vs, rfl, a2, a3⟩ := rv3.frz i3
    refine ⟨q, vs, rfl, a2, fun q' hq => ?_⟩
    obtain ⟨p4, i4, r⟩ := new_own i3 hq (drs_cut a3 l h)
    exact h3 _ _ _ p4 i4 _ r (up _ hq)
  | _ => exact h3.elim
theorem df_rev {k : Nat} {p1 p2 p3 : Pos} (hK : X.K = G.K) (ha : PE X a (semB G W fa)) : PE X (.Subscript a (.Slice none none (some (.UnaryOp .USub (.Constant (.int 1) k p1) p2)) p3) pos) (semF G W (revF fa)) := by
  refine (pe_revL ha).imp fun σ H Q ⟨S, t, m, e, si, g⟩ => ⟨S, t, m, e, si, (Gd.sp g).imp fun S3 H3 t3 m3 d p3 i3 h3 v rv3 => ?_⟩
  rw [hK]
  have up : ∀ q, H3 q = none → H q = none := fun q hq => by
    cases z : H q with
    | none => rfl
    | some o => exact absurd hq (p3.dom q (by rw [z]; simp))
  cases d with
  | lst xs =>
    obtain ⟨q, vs, rfl, a2, a3⟩ := rv3.lst i3
    refine ⟨q, vs, rfl, .of a2, fun q' hq => ?_⟩
    obtain ⟨p4, i4, r⟩ := new_own i3 hq a3.reverse
    exact h3 _ _ _ p4 i4 _ r (up _ hq)
  | frz xs =>
    obtain ⟨q, vs, rfl, a2, a3⟩ := rv3.frz i3
    refine ⟨q, vs, rfl, a2, fun q' hq => ?_⟩
    obtain ⟨p4, i4, r⟩ := new_own i3 hq a3.reverse
    exact h3 _ _ _ p4 i4 _ r (up _ hq)
  | _ => exact h3.elim
end

/-! ### built-ins -/
@[simp] def lenG : Store → List D → Option D := fun m xs => match xs with
  | [.lst ds] => some (.int ds.length)
  | [.frz ds] => some (.int ds.length)
  | [.tup ds] => some (.int ds.length)
  | [.str z] => if short z.cps.toList = true then some (.int z.length) else none
  | [.ref n] => match m[n]? with
    | some (.lst ds) => some (.int ds.length)
    | _ => none
  | _ => none
@[simp] def absG : Store → List D → Option D := fun _ xs => match xs with
  | [.int i] => some (.int (if i < 0 then -i else i))
  | _ => none
@[simp] def maxG : Store → List D → Option D := fun _ xs => match xs with
  | [.int i, .int j] => some (.int (if j > i then j else i))
  | _ => none
@[simp] def minG : Store → List D → Option D := fun _ xs => match xs with
  | [.int i, .int j] => some (.int (if j < i then j else i))
  | _ => none
@[simp] def intG : Store → List D → Option D := fun _ xs => match xs with
  | [.int i] => some (.int i)
  | [.bl k] => some (.int (if k then 1 else 0))
  | _ => none
@[simp] def toInts : List D → Option (List Int)
  | [] => some []
  | .int i :: ds => (toInts ds).map fun is => i :: is
  | _ :: _ => none
@[simp] def toBls : List D → Option (List Bool)
  | [] => some []
  | .bl i :: ds => (toBls ds).map fun is => i :: is
  | _ :: _ => none
@[simp] def sumG : Store → List D → Option D := fun _ xs => match xs with
  | [.lst ds] => (toInts ds).map fun is => .int is.sum
  | _ => none
@[simp] def allG : Store → List D → Option D := fun _ xs => match xs with
  | [.lst ds] => (toBls ds).map fun is => .bl (is.all id)
  | _ => none
@[simp] def anyG : Store → List D → Option D := fun _ xs => match xs with
  | [.lst ds] => (toBls ds).map fun is => .bl (is.any id)
  | _ => none
@[simp] def tupleG : Store → List D → Option D := fun m xs => match xs with
  | [.lst ds] => some (.tup ds)
  | [.frz ds] => some (.tup ds)
  | [.tup ds] => some (.tup ds)
  | [.ref n] => match m[n]? with
    | some (.lst ds) => some (.tup ds)
    | _ => none
  | _ => none
@[simp] def listF : Store → List D → Option (List D) := fun m xs => match xs with
  | [.lst ds] => some ds
  | [.frz ds] => some ds
  | [.tup ds] => some ds
  | [.ref n] => match m[n]? with
    | some (.lst ds) => some ds
    | _ => none
  | _ => none
@[simp] def boolG : Store → List D → Option D := fun m xs => match xs with
  | [.int i] => some (.bl (i != 0))
  | [.bl k] => some (.bl k)
  | [.lst ds] => some (.bl (!ds.isEmpty))
  | _ => none
section
variable {X : Cx}
theorem BRs.one {K : PySem.W.Frag} {S H : Hp} {t : Th} {xs : List V} {d : D} (h : BRs K S H t xs [d]) : ∃ v, xs = [v] ∧ BR K S H t v d := by
  cases h with
  | cons h1 h2 => cases h2; exact ⟨_, rfl, h1⟩
theorem BRs.two {K : PySem.W.Frag} {S H : Hp} {t : Th} {xs : List V} {d c : D} (h : BRs K S H t xs [d, c]) : ∃ v w, xs = [v, w] ∧ BR K S H t v d ∧ BR K S H t w c := by
  cases h with
  | cons h1 h2 =>
    obtain ⟨w, rfl, h3⟩ := h2.one
    exact ⟨_, w, rfl, h1, h3⟩
theorem cb_len : CallD X (.builtin "len") lenG := by
  refine ⟨fun xs H Q => (∃ p ys, xs = [.ref p] ∧ (SqL X.K H p ys ∨ SqT X.K H p ys) ∧ Q (.int ys.length) H) ∨ ∃ z, xs = [.str z] ∧ z.length ≤ sizeLine ∧ Q (.int z.length) H, fun pins s σ H xs us Q I r h => ?_, fun S H t m xs ds z Q i bs hz q => ?_⟩
  · rcases h with h | h
    · exact call_len_seq pins s σ H xs us Q I r h
    · exact call_len_str pins s σ H xs us Q I r h
  · unfold lenG at hz
    split at hz
    · obtain ⟨v, rfl, b⟩ := bs.one
      cases hz
      obtain ⟨a, vs, rfl, a2, a3⟩ := b.lst i
      exact .inl ⟨a, vs, rfl, .inl (.of a2), by rw [a3.length]; exact q _ _ _ .refl i (.int _)⟩
    · obtain ⟨v, rfl, b⟩ := bs.one
      cases hz
      obtain ⟨a, vs, rfl, a2, a3⟩ := b.frz i
      exact .inl ⟨a, vs, rfl, .inl a2, by rw [a3.length]; exact q _ _ _ .refl i (.int _)⟩
    · obtain ⟨v, rfl, b⟩ := bs.one
      cases hz
      obtain ⟨a, vs, rfl, _, a2, a3⟩ := b.tup i
      exact .inl ⟨a, vs, rfl, .inr a2, by rw [a3.length]; exact q _ _ _ .refl i (.int _)⟩
    · obtain ⟨v, rfl, b⟩ := bs.one
      split at hz
      · rename_i hs
        cases hz
        have := b.str
        subst this
        exact .inr ⟨_, rfl, by have := short_le hs; simpa [Str.length] using this, q _ _ _ .refl i (.int _)⟩
      · cases hz
    · obtain ⟨v, rfl, b⟩ := bs.one
      split at hz
      · rename_i hm
        cases hz
        obtain ⟨a, vs, rfl, a2, a3⟩ := b.ref i hm
        exact .inl ⟨a, vs, rfl, .inl (.of a2), by rw [a3.length]; exact q _ _ _ .refl i (.int _)⟩
      · cases hz
    · cases hz
theorem cb_abs : CallD X (.builtin "abs") absG := by
  refine ⟨_, call_abs, fun S H t m xs ds z Q i bs hz q => ?_⟩
  unfold absG at hz
  split at hz
  · obtain ⟨v, rfl, b⟩ := bs.one
    cases hz
    exact ⟨_, by rw [b.int], q _ _ _ .refl i (.int _)⟩
  · cases hz
theorem cb_max (hc : X.calm = true) : CallD X (.builtin "max") maxG := by
  refine ⟨_, call_max2 hc, fun S H t m xs ds z Q i bs hz q => ?_⟩
  unfold maxG at hz
  split at hz
  · obtain ⟨v, w, rfl, b, b'⟩ := bs.two
    cases hz
    exact ⟨_, _, by rw [b.int, b'.int], q _ _ _ .refl i (.int _)⟩
  · cases hz
theorem cb_min (hc : X.calm = true) : CallD X (.builtin "min") minG := by
  refine ⟨_, call_min2 hc, fun S H t m xs ds z Q i bs hz q => ?_⟩
  unfold minG at hz
  split at hz
  · obtain ⟨v, w, rfl, b, b'⟩ := bs.two
    cases hz
    exact ⟨_, _, by rw [b.int, b'.int], q _ _ _ .refl i (.int _)⟩
  · cases hz
theorem cb_int : CallD X (.type "int") intG := by
  refine ⟨_, call_int1, fun S H t m xs ds z Q i bs hz q => ?_⟩
  unfold intG at hz
  split at hz
  · obtain ⟨v, rfl, b⟩ := bs.one
    cases hz
    exact .inl ⟨_, by rw [b.int], q _ _ _ .refl i (.int _)⟩
  · obtain ⟨v, rfl, b⟩ := bs.one
    cases hz
    exact .inr ⟨_, by rw [b.bl], q _ _ _ .refl i (.int _)⟩
  · cases hz
theorem toInts_v {K : PySem.W.Frag} {S : Hp} {t : Th} : ∀ {ds : List D} {vs : List V} {is : List Int}, DRs K S t vs ds → toInts ds = some is → vs = is.map V.int
  | [], _, _, h, e => by cases h; unfold toInts at e; cases e; rfl
  | .int i :: ds, _, _, .cons (.int _) h2, e => by
    unfold toInts at e
    cases q : toInts ds with
    | none => rw [q] at e; cases e
    | some js =>
      rw [q] at e
      cases e
      rw [List.map_cons, toInts_v h2 q]
  | .non :: _, _, _, _, e => by unfold toInts at e; cases e
  | .bl _ :: _, _, _, _, e => by unfold toInts at e; cases e
  | .str _ :: _, _, _, _, e => by unfold toInts at e; cases e
  | .tup _ :: _, _, _, _, e => by unfold toInts at e; cases e
  | .lst _ :: _, _, _, _, e => by unfold toInts at e; cases e
  | .frz _ :: _, _, _, _, e => by unfold toInts at e; cases e
  | .dct _ :: _, _, _, _, e => by unfold toInts at e; cases e
  | .ins _ _ :: _, _, _, _, e => by unfold toInts at e; cases e
  | .ref _ :: _, _, _, _, e => by unfold toInts at e; cases e
theorem toBls_v {K : PySem.W.Frag} {S : Hp} {t : Th} : ∀ {ds : List D} {vs : List V} {is : List Bool}, DRs K S t vs ds → toBls ds = some is → vs = is.map V.bl
  | [], _, _, h, e => by cases h; unfold toBls at e; cases e; rfl
  | .bl i :: ds, _, _, .cons (.bl _) h2, e => by
    unfold toBls at e
    cases q : toBls ds with
    | none => rw [q] at e; cases e
    | some js =>
      rw [q] at e
      cases e
      rw [List.map_cons, toBls_v h2 q]
  | .non :: _, _, _, _, e => by unfold toBls at e; cases e
  | .int _ :: _, _, _, _, e => by unfold toBls at e; cases e
  | .str _ :: _, _, _, _, e => by unfold toBls at e; cases e
  | .tup _ :: _, _, _, _, e => by unfold toBls at e; cases e
  | .lst _ :: _, _, _, _, e => by unfold toBls at e; cases e
  | .frz _ :: _, _, _, _, e => by unfold toBls at e; cases e
  | .dct _ :: _, _, _, _, e => by unfold toBls at e; cases e
  | .ins _ _ :: _, _, _, _, e => by unfold toBls at e; cases e
  | .ref _ :: _, _, _, _, e => by unfold toBls at e; cases e
theorem cb_sum (hc : X.calm = true) : CallD X (.builtin "sum") sumG := by
  refine ⟨_, cr_sum hc, fun S H t m xs ds z Q i bs hz q => ?_⟩
  unfold sumG at hz
  split at hz
  · rename_i es
    obtain ⟨v, rfl, b⟩ := bs.one
    obtain ⟨a, vs, rfl, a2, a3⟩ := b.lst i
    cases h : toInts es with
    | none => rw [h] at hz; cases hz
    | some is =>
      rw [h] at hz
      cases hz
      have := toInts_v a3 h
      subst this
      exact ⟨a, is, rfl, .of a2, q _ _ _ .refl i (.int _)⟩
  · cases hz
theorem cb_all (hc : X.calm = true) : CallD X (.builtin "all") allG := by
  refine ⟨_, cr_all hc, fun S H t m xs ds z Q i bs hz q => ?_⟩
  unfold allG at hz
  split at hz
  · rename_i es
    obtain ⟨v, rfl, b⟩ := bs.one
    obtain ⟨a, vs, rfl, a2, a3⟩ := b.lst i
    cases h : toBls es with
    | none => rw [h] at hz; cases hz
    | some is =>
      rw [h] at hz
      cases hz
      have := toBls_v a3 h
      subst this
      exact ⟨a, is, rfl, .of a2, q _ _ _ .refl i (.bl _)⟩
  · cases hz
theorem cb_any (hc : X.calm = true) : CallD X (.builtin "any") anyG := by
  refine ⟨_, cr_any hc, fun S H t m xs ds z Q i bs hz q => ?_⟩
  unfold anyG at hz
  split at hz
  · rename_i es
    obtain ⟨v, rfl, b⟩ := bs.one
    obtain ⟨a, vs, rfl, a2, a3⟩ := b.lst i
    cases h : toBls es with
    | none => rw [h] at hz; cases hz
    | some is =>
      rw [h] at hz
      cases hz
      have := toBls_v a3 h
      subst this
      exact ⟨a, is, rfl, .of a2, q _ _ _ .refl i (.bl _)⟩
  · cases hz
theorem cb_tuple : CallD X (.type "tuple") tupleG := by
  refine ⟨_, call_tuple_of, fun S H t m xs ds z Q i bs hz q => ?_⟩
  have fin : ∀ a vs es, SqL X.K H a vs → DRs X.K S t vs es → z = .tup es → xs = [V.ref a] → ∃ p ys, xs = [.ref p] ∧ ((SqL X.K H p ys ∧ ∀ l, H l = none → Q (.ref l) (upd H l (.tup ys))) ∨ (SqT X.K H p ys ∧ Q (.ref p) H)) := by
    intro a vs es ha hd ez ex
    subst ez
    refine ⟨a, vs, ex, .inl ⟨ha, fun l hl => ?_⟩⟩
    obtain ⟨p2, i2, r⟩ := new_tup i hl hd
    exact q _ _ _ p2 i2 r
  unfold tupleG at hz
  split at hz
  · obtain ⟨v, rfl, b⟩ := bs.one
    cases hz
    obtain ⟨a, vs, rfl, a2, a3⟩ := b.lst i
    exact fin a vs _ (.of a2) a3 rfl rfl
  · obtain ⟨v, rfl, b⟩ := bs.one
    cases hz
    obtain ⟨a, vs, rfl, a2, a3⟩ := b.frz i
    exact fin a vs _ a2 a3 rfl rfl
  · obtain ⟨v, rfl, b⟩ := bs.one
    cases hz
    obtain ⟨a, vs, rfl, a1, a2, a3⟩ := b.tup i
    exact ⟨a, vs, rfl, .inr ⟨a2, q _ _ _ .refl i (.tup a1 a3)⟩⟩
  · obtain ⟨v, rfl, b⟩ := bs.one
    split at hz
    · rename_i hm
      cases hz
      obtain ⟨a, vs, rfl, a2, a3⟩ := b.ref i hm
      exact fin a vs _ (.of a2) a3 rfl rfl
    · cases hz
  · cases hz
theorem cf_list : CallF X (.type "list") listF := by
  refine ⟨_, call_list_of, fun S H t m xs ds zs Q i bs hz q => ?_⟩
  have fin : ∀ a vs, (SqL X.K H a vs ∨ SqT X.K H a vs) → DRs X.K S t vs zs → xs = [V.ref a] → ∃ p ys, xs = [.ref p] ∧ (SqL X.K H p ys ∨ SqT X.K H p ys) ∧ ∀ l, H l = none → Q (.ref l) (upd H l (.lst ys)) := by
    intro a vs ha hd ex
    refine ⟨a, vs, ex, ha, fun l hl => ?_⟩
    obtain ⟨p2, i2, r⟩ := new_own i hl hd
    exact q _ _ _ p2 i2 r hl
  unfold listF at hz
  split at hz
  · obtain ⟨v, rfl, b⟩ := bs.one
    cases hz
    obtain ⟨a, vs, rfl, a2, a3⟩ := b.lst i
    exact fin a vs (.inl (.of a2)) a3 rfl
  · obtain ⟨v, rfl, b⟩ := bs.one
    cases hz
    obtain ⟨a, vs, rfl, a2, a3⟩ := b.frz i
    exact fin a vs (.inl a2) a3 rfl
  · obtain ⟨v, rfl, b⟩ := bs.one
    cases hz
    obtain ⟨a, vs, rfl, _, a2, a3⟩ := b.tup i
    exact fin a vs (.inr a2) a3 rfl
  · obtain ⟨v, rfl, b⟩ := bs.one
    split at hz
    · rename_i hm
      cases hz
      obtain ⟨a, vs, rfl, a2, a3⟩ := b.ref i hm
      exact fin a vs (.inl (.of a2)) a3 rfl
    · cases hz
  · cases hz
theorem cb_bool : CallD X (.type "bool") boolG := by
  refine ⟨fun xs H Q => ((∃ i, xs = [.int i] ∧ Q (.bl (i != 0)) H) ∨ ∃ k, xs = [.bl k] ∧ Q (.bl k) H) ∨ ∃ (a : Addr) (zs : List V), xs = [.ref a] ∧ SqL X.K H a zs ∧ Q (.bl (!zs.isEmpty)) H, fun pins s σ H xs us Q I r h => ?_, fun S H t m xs ds z Q i bs hz q => ?_⟩
  · rcases h with h | h
    · exact call_bool1 pins s σ H xs us Q I r h
    · exact call_boolL pins s σ H xs us Q I r h
  · unfold boolG at hz
    split at hz
    · obtain ⟨v, rfl, b⟩ := bs.one
      cases hz
      exact .inl (.inl ⟨_, by rw [b.int], q _ _ _ .refl i (.bl _)⟩)
    · obtain ⟨v, rfl, b⟩ := bs.one
      cases hz
      exact .inl (.inr ⟨_, by rw [b.bl], q _ _ _ .refl i (.bl _)⟩)
    · obtain ⟨v, rfl, b⟩ := bs.one
      cases hz
      obtain ⟨a, vs, rfl, a2, a3⟩ := b.lst i
      refine .inr ⟨a, vs, rfl, .of a2, ?_⟩
      cases a3 with
      | nil => exact q _ _ _ .refl i (.bl _)
      | cons _ _ => exact q _ _ _ .refl i (.bl _)
    · cases hz
end
end Dn
/-! isinstance; the table of defs. -/
namespace Dn
open PySem L2

/-! ### isinstance -/
@[simp] def tyD (m : Store) : D → Option String
  | .non => some "NoneType"
  | .bl _ => some "bool"
  | .int _ => some "int"
  | .str _ => some "str"
  | .tup _ => some "tuple"
  | .lst _ => some "list"
  | .frz _ => some "list"
  | .ref n => match m[n]? with
    | some (.lst _) => some "list"
    | _ => none
  | _ => none
@[simp] def isTy (T : String) (m : Store) (d : D) : Option Bool := (tyD m d).bind fun s => kitB s T
@[simp] def isE (T : String) (f : EvE) : EvE := fun C e m => (f C e m).bind fun d m1 => (R.of (isTy T m1 d) m1).bind fun b m1 => .ok (.bl b) m1
section
variable {X : Cx} {G : Cfg} {W : WX} {a b c : Expr} {es : List Expr} {fa fb fc : EvE} {fs : EvA} {pos p p2 : Pos}
theorem tyX_of {K : PySem.W.Frag} {S H : Hp} {t : Th} {m : Store} {v : V} {d : D} {s : String} (i : HI K S H t m) (h : BR K S H t v d) (e : tyD m d = some s) : TyX K H v (.type s) := by
  cases d with
  | non => cases e; rw [h.non]; exact .base .non
  | bl x => cases e; rw [h.bl]; exact .base (.bl _)
  | int x => cases e; rw [h.int]; exact .base (.int _)
  | str x => cases e; rw [h.str]; exact .base (.str _)
  | tup xs =>
    cases e
    obtain ⟨a, vs, rfl, _, q, _⟩ := h.tup i
    rcases q with (q | ⟨o, q⟩) | ⟨o, its, n, q1, q2, _⟩
    · exact .base (.tup q)
    · exact .fTuple q
    · exact .kTuple q1 q2
  | lst xs =>
    cases e
    obtain ⟨a, vs, rfl, q, _⟩ := h.lst i
    exact .base (.lst q)
  | frz xs =>
    cases e
    obtain ⟨a, vs, rfl, q, _⟩ := h.frz i
    rcases q with (q | ⟨o, q⟩) | ⟨o, its, n, q1, q2, _⟩
    · exact .base (.lst q)
    · exact .base (.frz q)
    · exact .kList q1 q2
  | ref n =>
    have e : (match m[n]? with | some (Ob.lst _) => some "list" | _ => none) = some s := e
    cases hm : m[n]? with
    | none => rw [hm] at e; cases e
    | some ob =>
      rw [hm] at e
      cases ob with
      | lst xs =>
        cases e
        obtain ⟨a, vs, rfl, q, _⟩ := h.ref i hm
        exact .base (.lst q)
      | gone => cases e
      | ins _ _ => cases e
  | dct _ => cases e
  | ins _ _ => cases e
theorem de_isi {T : String} {y : Str} {py : Pos} (hK : X.K = G.K) (hg : Gl X "isinstance") (hm : X.mg "isinstance" = none) (hgy : Gl X y) (hmy : X.mg y = none) (hvy : bootBuiltins y = some (.type T)) (ha : PE X a (semB G W fa))
    (hny : y ≠ "__name__" := by decide) (hdy : (y == ("__debug__" : Str)) = false := by decide) (h1 : starEach [a, .Name y py] X.env = (false, eval a X.env) :: starEach [.Name y py] X.env := by rfl) (h2 : starEach [.Name y py] X.env = (false, eval (.Name y py) X.env) :: starEach [] X.env := by rfl)
    (hpl : (backTo pos (starEach [.Name y py] X.env)).any (·.1) = false := by rfl) :
    PE X (.Call (.Name "isinstance" p) [a, .Name y py] [] pos) (semE G W (isE T fa)) := by
  refine (pe_callB call_isi hg hm PyProof.Rows.boot_isinstance (pa_cons ha (pa_cons (pe_bltn (v := .ty T) hgy hmy hvy rfl hny hdy) pa_nil h2) h1) (by decide) (by decide) h1 hpl).imp fun σ H Q ⟨S, t, m, e, si, g⟩ => ⟨S, t, m, e, si, (Gd.sp g).imp fun S1 H1 t1 m1 d p1 i1 h1 v rv => ?_⟩
  rw [hK]
  unfold isTy at h1
  cases hs : tyD m1 d with
  | none => rw [hs] at h1; exact h1.elim
  | some s =>
    rw [hs] at h1
    cases hb : kitB s T with
    | none => simp [hb] at h1; exact h1.elim
    | some r =>
      simp [hb] at h1
      exact ⟨v, .ty T, .type s, .type T, r, rfl, .ty T, tyX_of i1 rv hs, kit_ty hb, Gd.now h1 i1 _ (DR.bl _)⟩
end

/-! ### the table -/
/-- a def: how many parameters, how many names, its body -/
structure Df where
  np : Nat
  nn : Nat
  body : EvS
abbrev Tab := Nat → Option Df
@[simp] def endS : SR → R D
  | .nx _ m => .ok .non m
  | .ret d m => .ok d m
  | .exc c fs _ m => .exc c fs m
  | _ => .stuck
@[simp] theorem endS_nx (e : Env) (m : Store) : endS (.nx e m) = .ok .non m := rfl
@[simp] theorem endS_ret (d : D) (m : Store) : endS (.ret d m) = .ok d m := rfl
@[simp] theorem endS_exc (c : Nat) (fs : List D) (e : Env) (m : Store) : endS (.exc c fs e m) = .exc c fs m := rfl
@[simp] def env0 (nn : Nat) (ds : List D) : Env := ds.map .dat ++ List.replicate (nn - ds.length) .em
def run (T : Tab) : Nat → Orc
  | 0, _, _, _ => .stuck
  | n + 1, f, ds, m => match T f with
    | some d => if ds.length = d.np ∧ d.np ≤ d.nn then endS (d.body (run T n) (env0 d.nn ds) m) else .stuck
    | none => .stuck
theorem si_start {K : PySem.W.Frag} {x : Gh} {S H : Hp} {t : Th} {m : Store} {N : List Str} {vs : List V} {ds : List D} (hi : HI K S H t m) (hd : DRs K S t vs ds) : SI K x S H t m (L2.start N vs) (env0 N.length ds) := by
  have hl := hd.length
  have shape : ∀ (i : Nat) c, (env0 N.length ds)[i]? = some c → (∃ d, c = .dat d ∧ ds[i]? = some d) ∨ c = .em := fun i c h => by
    unfold env0 at h
    by_cases hlt : i < ds.length
    · rw [List.getElem?_append_left (by simpa using hlt), List.getElem?_map] at h
      cases q : ds[i]? with
      | none => rw [q] at h; cases h
      | some d => rw [q] at h; cases h; exact .inl ⟨d, rfl, rfl⟩
    · rw [List.getElem?_append_right (by simp; omega), List.getElem?_replicate] at h
      split at h
      · cases h; exact .inr rfl
      · cases h
  refine ⟨hi, ?_, fun i d h => ?_, fun i d h => ?_, fun i j d c a h _ _ _ => ?_, fun i c fs h => ?_⟩
  · unfold L2.start env0; simp [hl]
  · rcases shape i _ h with ⟨d', e, q⟩ | e
    · cases e
      obtain ⟨v, q1, q2⟩ := hd.get q
      refine ⟨v, ?_, q2⟩
      have hlt := (List.getElem?_eq_some_iff.mp q1).1
      unfold L2.start
      rw [List.getElem?_append_left (by simpa using hlt), List.getElem?_map, q1]; rfl
    · cases e
  · rcases shape i _ h with ⟨d', e, q⟩ | e
    · cases e
    · cases e
  · rcases shape i _ h with ⟨d', e, q⟩ | e
    · cases e
    · cases e
  · rcases shape i _ h with ⟨d', e, q⟩ | e
    · cases e
    · cases e
/-- the context of a def's body -/
abbrev cxG (P : Program) (w : World) (K : PySem.W.Frag) (mg : Str → Option Value) (base : Heap) (N : List Str) (qual : Str) (scope : Scope) (f : Addr) (cd : Value) (A : Around) (outer : List PySem.Env) (s : Shared) (H : Hp) (E : XK) (cb : Bool) (pn : List (Addr × Obj)) : Cx :=
  { cxOf (L2N.CX P w) P w K mg base N qual scope f cd A outer s H E with calm := cb, pn := pn }
section
variable {P : Program} {w : World} {K : PySem.W.Frag} {mg : Str → Option Value} {base : Heap}
theorem spD_len {G : Cfg} {f np : Nat} : ∀ vs H Q E, spD G f np vs H Q E → vs.length = np := fun _ _ _ _ h => h.1
/-- nothing is promised of depth 0 -/
theorem fn_zero {T : Tab} {Xs : Nat → Option (Addr × List Str)} {a : Addr} {fd : FuncData} {ps : List Str} {f np : Nat} (hl : ps.length = np) : FnOk P w K mg base (L2N.CX P w) 0 a fd ps (spD ⟨K, run T 0, Xs, none⟩ f np) :=
  ⟨fun vs H Q E h => h.1.trans hl.symm, fun A outer s H args us vs Q E hr e0 hb r hsp => by
    obtain ⟨_, S, t, m, ds, _, _, g⟩ := hsp
    exact g.elim⟩
theorem fn_step {T : Tab} {Xs : Nat → Option (Addr × List Str)} {n f : Nat} {d : Df} {x qual : Str} {st : Stmt} {a : Addr} {fd : FuncData} {N ps : List Str} (F : Fun K x qual st a fd) (Sc : FnScope N ps (defScope st)) (hT : T f = some d) (hp : ps.length = d.np) (hn : N.length = d.nn)
    (hbody : ∀ (cdv : Value) (A : Around) (outer : List PySem.Env) (s : Shared) (H : Hp) (E : XK), Room n (A.deeper (PyProof.Rows.envOfC qual (defScope st) s.heap.objs.size a cdv)) → ∀ Sn,
      PSs (cxG P w K mg base N qual (defScope st) a cdv A outer s H E true []) (defBody st) (semS ⟨K, run T n, Xs, none⟩ (fun c d _ H' => E c d H') Sn d.body)) :
    FnOk P w K mg base (L2N.CX P w) (n + 1) a fd ps (spD ⟨K, run T (n + 1), Xs, none⟩ f d.np) := by
  obtain ⟨oc, od, kV, doc, pm, an, cdv, ct, osl, rfl, lk, hcd⟩ := F.ex
  refine fn_of lk hcd Sc (fun vs H Q E h => h.1.trans hp.symm) fun A outer s H vs Q E hr ⟨hlen, S, t, m, ds, hi, hd, g⟩ => ?_
  refine ⟨_, hbody cdv A outer s H E hr ⟨S, H, t⟩, S, t, m, env0 N.length ds, ⟨si_start hi hd, .refl, fun i c b h1 h2 => ?_⟩, ?_⟩
  · exfalso
    have e := h1
    unfold env0 at e
    by_cases hlt : i < ds.length
    · rw [List.getElem?_append_left (by simpa using hlt), List.getElem?_map] at e
      cases q : ds[i]? with
      | none => rw [q] at e; cases e
      | some d => rw [q] at e; cases e
    · rw [List.getElem?_append_right (by simp; omega), List.getElem?_replicate] at e
      split at e
      · cases e
      · cases e
  · have g : Gd _ _ _ S H t (match T f with
      | some d => if ds.length = d.np ∧ d.np ≤ d.nn then endS (d.body (run T n) (env0 d.nn ds) m) else .stuck
      | none => .stuck) _ := g
    rw [hT] at g
    dsimp only at g
    have hpn : d.np ≤ d.nn := by
      have := congrArg List.length Sc.pre
      rw [List.length_take] at this
      omega
    rw [if_pos ⟨hd.length.symm.trans hlen, hpn⟩] at g
    rw [hn]
    revert g
    cases d.body (run T n) (env0 d.nn ds) m with
    | nx e m1 => exact fun g S' H' t' σ sf => g S' H' t' sf.fr sf.si.hi _ .non
    | ret d m1 => exact fun g S' H' t' v i p r => g S' H' t' p i v r
    | brk e m1 => exact fun g => g.elim
    | ct e m1 => exact fun g => g.elim
    | exc c fs e m1 => exact fun g S' H' t' σ cls dx sf x => g S' H' t' cls dx sf.fr sf.si.hi x
    | stuck => exact fun g => g.elim
theorem fn_zeroH {T : Tab} {Xs : Nat → Option (Addr × List Str)} {a : Addr} {fd : FuncData} {ps : List Str} {f np : Nat} (hl : ps.length = np) : L2H.FnH P w K mg base (L2N.CX P w) 0 a fd ps (spD ⟨K, run T 0, Xs, none⟩ f np) :=
  ⟨fun vs H Q E h => h.1.trans hl.symm, fun A outer s H args us vs Q E p hr hot hpin e0 hb r hsp => by
    obtain ⟨_, S, t, m, ds, _, _, g⟩ := hsp
    exact g.elim⟩
theorem fn_stepH {T : Tab} {Xs : Nat → Option (Addr × List Str)} {n f : Nat} {d : Df} {x qual : Str} {st : Stmt} {a : Addr} {fd : FuncData} {N ps : List Str} (F : Fun K x qual st a fd) (Sc : FnScope N ps (defScope st)) (hT : T f = some d) (hp : ps.length = d.np) (hn : N.length = d.nn)
    (hbody : ∀ (cdv : Value) (A : Around) (outer : List PySem.Env) (s : Shared) (H : Hp) (E : XK) (p : Addr × Obj), L2H.Hot1 A p → L2H.RoomH n (A.deeper (PyProof.Rows.envOfC qual (defScope st) s.heap.objs.size a cdv)) → ∀ Sn,
      PSs (cxG P w K mg base N qual (defScope st) a cdv A outer s H E false [p]) (defBody st) (semS ⟨K, run T n, Xs, none⟩ (fun c d _ H' => E c d H') Sn d.body)) :
    L2H.FnH P w K mg base (L2N.CX P w) (n + 1) a fd ps (spD ⟨K, run T (n + 1), Xs, none⟩ f d.np) := by
  obtain ⟨oc, od, kV, doc, pm, an, cdv, ct, osl, rfl, lk, hcd⟩ := F.ex
  refine L2H.fn_ofH lk hcd Sc (fun vs H Q E h => h.1.trans hp.symm) fun A outer s H vs Q E p hot hr ⟨hlen, S, t, m, ds, hi, hd, g⟩ => ?_
  refine ⟨_, hbody cdv A outer s H E p hot hr ⟨S, H, t⟩, S, t, m, env0 N.length ds, ⟨si_start hi hd, .refl, fun i c b h1 h2 => ?_⟩, ?_⟩
  · exfalso
    have e := h1
    unfold env0 at e
    by_cases hlt : i < ds.length
    · rw [List.getElem?_append_left (by simpa using hlt), List.getElem?_map] at e
      cases q : ds[i]? with
      | none => rw [q] at e; cases e
      | some d => rw [q] at e; cases e
    · rw [List.getElem?_append_right (by simp; omega), List.getElem?_replicate] at e
      split at e
      · cases e
      · cases e
  · have g : Gd _ _ _ S H t (match T f with
      | some d => if ds.length = d.np ∧ d.np ≤ d.nn then endS (d.body (run T n) (env0 d.nn ds) m) else .stuck
      | none => .stuck) _ := g
    rw [hT] at g
    dsimp only at g
    have hpn : d.np ≤ d.nn := by
      have := congrArg List.length Sc.pre
      rw [List.length_take] at this
      omega
    rw [if_pos ⟨hd.length.symm.trans hlen, hpn⟩] at g
    rw [hn]
    revert g
    cases d.body (run T n) (env0 d.nn ds) m with
    | nx e m1 => exact fun g S' H' t' σ sf => g S' H' t' sf.fr sf.si.hi _ .non
    | ret d m1 => exact fun g S' H' t' v i p r => g S' H' t' p i v r
    | brk e m1 => exact fun g => g.elim
    | ct e m1 => exact fun g => g.elim
    | exc c fs e m1 => exact fun g S' H' t' σ cls dx sf x => g S' H' t' cls dx sf.fr sf.si.hi x
    | stuck => exact fun g => g.elim
/-- errors leave the frame -/
theorem takesG {N : List Str} {qual : Str} {scope : Scope} {f : Addr} {cd : Value} {A : Around} {outer : List PySem.Env} {s : Shared} {H : Hp} {E : XK} {cb : Bool} {pn : List (Addr × Obj)} :
    L2N.Takes (cxG P w K mg base N qual scope f cd A outer s H E cb pn) (fun c d _ H' => E c d H') := L2N.takes_of rfl rfl rfl rfl
theorem passesG {N : List Str} {qual : Str} {scope : Scope} {f : Addr} {cd : Value} {A : Around} {outer : List PySem.Env} {s : Shared} {H : Hp} {E : XK} {cb : Bool} {pn : List (Addr × Obj)} :
    PassesOwn (model P w) (cxG P w K mg base N qual scope f cd A outer s H E cb pn).A (cxG P w K mg base N qual scope f cd A outer s H E cb pn).env (cxG P w K mg base N qual scope f cd A outer s H E cb pn).xe :=
  passes_of (X := cxG P w K mg base N qual scope f cd A outer s H E cb pn) rfl
theorem takes0 {X : Cx} : L2N.Takes X W0 := fun _ _ x => by
  obtain ⟨_, _, _, _, _, _, _, _, _, _, _, _, _, _, _, _, z⟩ := x
  exact z.elim
end
end Dn
/-! New lists at once settled; what is never reached; what the top holds. -/
namespace Dn
open PySem L2
section
variable {X : Cx}
theorem OpF.settle {f : Value → Value → Sem Value} {g : Store → D → D → Option (List D)} (h : OpF X f g) : OpD X f (fun m x y => (g m x y).map .lst) := by
  obtain ⟨r, r1, r2⟩ := h
  refine ⟨r, r1, fun S H t m x y d e z Q i bx b_y hz q => ?_⟩
  dsimp only at hz
  cases hg : g m d e with
  | none => rw [hg] at hz; cases hz
  | some zs =>
    rw [hg] at hz
    cases hz
    refine r2 S H t m x y d e zs Q i bx b_y hg fun p S' H' p' i' o hn => ?_
    obtain ⟨S2, q2, i2, rr⟩ := o.settle i' p' hn
    exact q _ _ _ q2 i2 rr
theorem CallF.settle {f : Value} {g : Store → List D → Option (List D)} (h : CallF X f g) : CallD X f (fun m xs => (g m xs).map .lst) := by
  obtain ⟨r, r1, r2⟩ := h
  refine ⟨r, r1, fun S H t m xs ds z Q i bs hz q => ?_⟩
  dsimp only at hz
  cases hg : g m ds with
  | none => rw [hg] at hz; cases hz
  | some zs =>
    rw [hg] at hz
    cases hz
    refine r2 S H t m xs ds zs Q i bs hg fun p S' H' p' i' o hn => ?_
    obtain ⟨S2, q2, i2, rr⟩ := o.settle i' p' hn
    exact q _ _ _ q2 i2 rr
@[simp] def addA : Store → D → D → Option D := orO addG (fun m x y => (catF m x y).map .lst)
theorem od_addA : OpD X (binaryOp .Add) addA := od_add.or of_cat.settle
end
/-! ### what is never reached -/
def stuckE : EvE := fun _ _ _ => .stuck
def stuckS : EvS := fun _ _ _ => .stuck
section
variable {X : Cx} {G : Cfg} {W : WX} {E : Snap} {a b c : Expr} {es : List Expr} {fa fb fc : EvE} {fs : EvA} {pos p p2 : Pos}
theorem de_any {e : Expr} : PE X e (semE G W stuckE) := ⟨fun _ _ _ _ _ _ ⟨_, _, _, _, _, g⟩ => g.elim⟩
theorem ds_any {st : Stmt} : PS X st (semS G W E stuckS) := ⟨fun _ _ _ _ _ _ ⟨_, _, _, _, _, g⟩ => (show False from g).elim⟩
theorem dss_any {st : List Stmt} : PSs X st (semS G W E stuckS) := ⟨fun _ _ _ _ _ _ ⟨_, _, _, _, _, g⟩ => (show False from g).elim⟩
theorem de_glob {x : Str} {v : V} {u : Value} {d : D} (hg : Gl X x) (hm : X.mg x = some u) (r : RelV v u) (hd : ∀ S t, DR G.K S t v d) (hdb : (x == ("__debug__" : Str)) = false := by decide) : PE X (.Name x pos) (semE G W (conE d)) := de_con (pe_glob hg hm r hdb) hd
theorem de_one {op} (h : PE X a (semE G W fa)) : PE X (.BoolOp op [a] pos) (semE G W fa) := pe_one h
theorem dt_and1 {t : EvT} (h : PT X a (semT G W t)) : PW X (.BoolOp .And [a] pos) (semT G W t) := pw_and1 h
theorem dt_or1 {t : EvT} (h : PT X a (semT G W t)) : PW X (.BoolOp .Or [a] pos) (semT G W t) := pw_or1 h
/-- slices, a list's at once settled -/
def cutA : D → Option Int → Option Int → Option D := fun d lo hi => match cutG d lo hi with
  | some z => some z
  | none => (cutF d lo hi).map .lst
@[simp] def slA (f : EvE) (l h : EvO) : EvE := fun C e m => (f C e m).bind fun d m1 => (l C e m1).bind fun lo m2 => (h C e m2).bind fun hi m3 => .of (cutA d lo hi) m3
theorem new_lst {K : PySem.W.Frag} {S H : Hp} {t : Th} {m : Store} {p : Addr} {vs : List V} {ds : List D} (i : HI K S H t m) (h : H p = none) (hd : DRs K S t vs ds) :
    Stp S H t (upd S p (.lst vs)) (upd H p (.lst vs)) t ∧ HI K (upd S p (.lst vs)) (upd H p (.lst vs)) t m ∧ DR K (upd S p (.lst vs)) t (.ref p) (.lst ds) := by
  obtain ⟨i2, p2⟩ := new_hi (o := .lst vs) i h
  exact ⟨p2, i2, .lst upd_same (hd.stp i p2)⟩
theorem de_slA {lo hi : Option Expr} {fl fh : EvO} (hK : X.K = G.K) (ha : PE X a (semB G W fa)) (hl : PO X lo (semO G W fl)) (hh : PO X hi (semO G W fh)) : PE X (.Subscript a (.Slice lo hi none p2) pos) (semE G W (slA fa fl fh)) := by
  refine (pe_slice (sl_list.or (sl_tupA.or sl_str)) ha hl hh).imp fun σ H Q ⟨S, t, m, e, si, g⟩ => ⟨S, t, m, e, si, (Gd.sp g).imp fun S1 H1 t1 m1 d p1 i1 h1 v rv => ?_⟩
  refine ⟨S1, t1, m1, e, si.stp p1 i1, (Gd.sp h1).imp fun S2 H2 t2 m2 l p2 i2 h2 => ⟨S2, t2, m2, e, (si.stp p1 i1).stp p2 i2, (Gd.sp h2).imp fun S3 H3 t3 m3 h p3 i3 h3 => ?_⟩⟩
  have rv3 := (rv.stp i1 p2).stp i2 p3
  rw [hK]
  cases d with
  | lst xs =>
    obtain ⟨q, vs, rfl, a2, a3⟩ := rv3.lst i3
    refine .inl ⟨q, vs, rfl, .of a2, fun q' hq => ?_⟩
    obtain ⟨p4, i4, r⟩ := new_lst i3 hq (drs_cut a3 l h)
    exact h3 _ _ _ p4 i4 _ r
  | frz xs =>
    obtain ⟨q, vs, rfl, a2, a3⟩ := rv3.frz i3
    refine .inl ⟨q, vs, rfl, a2, fun q' hq => ?_⟩
    obtain ⟨p4, i4, r⟩ := new_lst i3 hq (drs_cut a3 l h)
    exact h3 _ _ _ p4 i4 _ r
  | tup xs =>
    obtain ⟨q, vs, rfl, a1, a2, a3⟩ := rv3.tup i3
    refine .inr (.inl ⟨q, vs, rfl, a2, fun hw => ?_, fun hw q' hq => ?_⟩)
    · have e1 : cutD xs l h = xs := by
        unfold cutD
        rw [a3.length] at hw
        rw [hw.1, hw.2]
        simp
      have h3 : Gd G W σ S3 H3 t3 (R.ok (D.tup (cutD xs l h)) m3) _ := h3
      rw [e1] at h3
      exact Gd.now h3 i3 _ (DR.tup a1 a3)
    · obtain ⟨p4, i4, r⟩ := new_tup i3 hq (drs_cut a3 l h)
      exact h3 _ _ _ p4 i4 _ r
  | str z =>
    have := rv3.str
    subst this
    have h3 : Gd G W σ S3 H3 t3 (R.of (cutA (.str z) l h) m3) _ := h3
    unfold cutA cutG at h3
    dsimp only at h3
    by_cases hs : short z.cps.toList = true
    · rw [if_pos hs] at h3
      exact .inr (.inr ⟨z, rfl, by have := short_le hs; simpa [Str.length] using this, Gd.now h3 i3 _ (DR.str _)⟩)
    · rw [if_neg hs] at h3; exact h3.elim
  | _ => exact h3.elim
/-- a list's truth, a text's, a number's -/
def truD : Store → D → Option Bool := fun m d => match d with
  | .non => some false
  | .bl b => some b
  | .int i => some (i != 0)
  | .lst xs => some (!xs.isEmpty)
  | .frz xs => some (!xs.isEmpty)
  | .tup xs => some (!xs.isEmpty)
  | .str y => if short y.cps.toList = true then some ((y.length : Int) != 0) else none
  | _ => none
end
end Dn
/-! Rules in the form that the printer uses. -/
namespace Dn
open PySem L2
theorem hu65 {n : Nat} {A : Around} (r : Room n A) : A.units + 65 < cLine := by have := r.un; omega
theorem hu65H {n : Nat} {A : Around} (r : L2H.RoomH n A) : A.units + 65 < cLine := by have := r.un; omega
theorem roomS {n : Nat} {A : Around} (r : Room n A) {h : Option Value} : L2H.RoomH n (A.mark h) := ⟨r.dp, r.un⟩
theorem hotS {X : Cx} {a : Addr} {oe : Obj} {pn : List (Addr × Obj)} {cls : Value} {d : Option Addr} (hz : L2N.Zn cls d oe) (ho : ∃ vs, oe.data = .fields vs) : L2H.HotC (X.suite a ((a, oe) :: pn)) := by
  obtain ⟨vs, hd⟩ := ho
  exact ⟨(a, oe), ⟨rfl, vs, hd, hz.2.2 vs hd⟩, List.mem_cons_self⟩
section
variable {X : Cx} {G : Cfg} {W : WX} {E : Snap} {a b c : Expr} {es : List Expr} {fa fb fc : EvE} {fs : EvA} {pos p p2 : Pos}
theorem de_bb {id : String} {x : Str} {g : Store → List D → Option D} (ho : CallD X (.builtin id) g) (hK : X.K = G.K) (hg : Gl X x) (hm : X.mg x = none) (hv : bootBuiltins x = some (.builtin id)) (ha : PA X (a :: es) (semAB G W fs)) (hn : x ≠ "__name__" := by decide) (hdb : (x == ("__debug__" : Str)) = false := by decide)
    (he : starEach (a :: es) X.env = (false, eval a X.env) :: starEach es X.env := by rfl) (hpl : (backTo pos (starEach es X.env)).any (·.1) = false := by rfl) : PE X (.Call (.Name x p) (a :: es) [] pos) (semE G W (bltE g fs)) :=
  de_blt (id := x) ho hK (fun r h t ht => pe_callB h hg hm hv ht hn hdb he hpl) ha
theorem de_bt {id : String} {x : Str} {g : Store → List D → Option D} (ho : CallD X (.type id) g) (hK : X.K = G.K) (hg : Gl X x) (hm : X.mg x = none) (hv : bootBuiltins x = some (.type id)) (ha : PA X (a :: es) (semAB G W fs)) (hn : x ≠ "__name__" := by decide) (hdb : (x == ("__debug__" : Str)) = false := by decide)
    (he : starEach (a :: es) X.env = (false, eval a X.env) :: starEach es X.env := by rfl) (hpl : (backTo pos (starEach es X.env)).any (·.1) = false := by rfl) : PE X (.Call (.Name x p) (a :: es) [] pos) (semE G W (bltE g fs)) :=
  de_blt (id := x) ho hK (fun r h t ht => pe_callTy h hg hm hv ht hn hdb he hpl) ha
theorem df_bb {id : String} {x : Str} {g : Store → List D → Option (List D)} (ho : CallF X (.builtin id) g) (hK : X.K = G.K) (hg : Gl X x) (hm : X.mg x = none) (hv : bootBuiltins x = some (.builtin id)) (ha : PA X (a :: es) (semAB G W fs)) (hn : x ≠ "__name__" := by decide) (hdb : (x == ("__debug__" : Str)) = false := by decide)
    (he : starEach (a :: es) X.env = (false, eval a X.env) :: starEach es X.env := by rfl) (hpl : (backTo pos (starEach es X.env)).any (·.1) = false := by rfl) : PE X (.Call (.Name x p) (a :: es) [] pos) (semF G W (bltF g fs)) :=
  df_blt (id := x) ho hK (fun r h t ht => pe_callB h hg hm hv ht hn hdb he hpl) ha
theorem df_bt {id : String} {x : Str} {g : Store → List D → Option (List D)} (ho : CallF X (.type id) g) (hK : X.K = G.K) (hg : Gl X x) (hm : X.mg x = none) (hv : bootBuiltins x = some (.type id)) (ha : PA X (a :: es) (semAB G W fs)) (hn : x ≠ "__name__" := by decide) (hdb : (x == ("__debug__" : Str)) = false := by decide)
    (he : starEach (a :: es) X.env = (false, eval a X.env) :: starEach es X.env := by rfl) (hpl : (backTo pos (starEach es X.env)).any (·.1) = false := by rfl) : PE X (.Call (.Name x p) (a :: es) [] pos) (semF G W (bltF g fs)) :=
  df_blt (id := x) ho hK (fun r h t ht => pe_callTy h hg hm hv ht hn hdb he hpl) ha
theorem de_globX {x : Str} {v : V} {d : D} (hg : Gl X x) (hm : ∃ u, X.mg x = some u ∧ RelV v u) (hd : ∀ S t, DR G.K S t v d) (hdb : (x == ("__debug__" : Str)) = false := by decide) : PE X (.Name x pos) (semE G W (conE d)) := by
  obtain ⟨u, h1, h2⟩ := hm
  exact de_glob hg h1 h2 hd hdb
/-! list(range(..)) -/
@[simp] def rg1 : D → Option (List D)
  | .int n => if (bdI n && decide (n.toNat ≤ 100000)) = true then some (rng 0 n.toNat) else none
  | _ => none
@[simp] def rg2 : D → D → Option (List D)
  | .int i, .int j => if (bdI i && bdI j && decide ((j - i).toNat ≤ 100000)) = true then some (rng i (j - i).toNat) else none
  | _, _ => none
@[simp] def listRg1 (f : EvE) : EvE := fun C e m => (f C e m).bind fun d m1 => .of ((rg1 d).map .lst) m1
@[simp] def listRg2 (f g : EvE) : EvE := fun C e m => (f C e m).bind fun d m1 => (g C e m1).bind fun d2 m2 => .of ((rg2 d d2).map .lst) m2
theorem rng_v {K : PySem.W.Frag} {S : Hp} {t : Th} (a b : Int) : DRs K S t (rgV a b) (rng a (b - a).toNat) := by
  unfold rgV rng
  generalize List.range (b - a).toNat = l
  induction l with
  | nil => exact .nil
  | cons x l ih => exact .cons (.int _) ih
theorem rg_ok {i j : Int} (h1 : bdI i = true) (h2 : bdI j = true) (h3 : (j - i).toNat ≤ 100000) : RgOk i j := by
  obtain ⟨a1, a2⟩ := bdI_lo h1
  obtain ⟨b1, b2⟩ := bdI_lo h2
  exact ⟨a1, a2, b1, b2, Nat.le_trans h3 (by decide)⟩
theorem de_listRg1 {q : Pos} {p3 : Pos} (hc : X.calm = true) (hg : Gl X "list") (hm : X.mg "list" = none) (hg2 : Gl X "range") (hm2 : X.mg "range" = none) (ha : PE X a (semE G W fa))
    (na : starEach [a] X.env = (false, eval a X.env) :: starEach [] X.env := by rfl) (nb : starEach [.Call (.Name "range" p3) [a] [] q] X.env = (false, eval (.Call (.Name "range" p3) [a] [] q) X.env) :: starEach [] X.env := by rfl) :
    PE X (.Call (.Name "list" p) [.Call (.Name "range" p3) [a] [] q] [] pos) (semE G W (listRg1 fa)) := by
  refine (pe_listRg hc hg hm (prg_1 hg2 hm2 ha na) nb).imp fun σ H Q ⟨S, t, m, e, si, g⟩ => ⟨S, t, m, e, si, (Gd.sp g).imp fun S1 H1 t1 m1 d p1 i1 h1 v rv => ?_⟩
  cases d with
  | int n =>
    cases rv
    have h1 : Gd G W σ S1 H1 t1 (R.of ((if (bdI n && decide (n.toNat ≤ 100000)) = true then some (rng 0 n.toNat) else none).map D.lst) m1) _ := h1
    by_cases hb : (bdI n && decide (n.toNat ≤ 100000)) = true
    · rw [if_pos hb] at h1
      simp only [Bool.and_eq_true, decide_eq_true_eq] at hb
      refine ⟨n, rfl, rg_ok (by decide) hb.1 (by simpa using hb.2), fun q' hq => ?_⟩
      have hd := rng_v (K := G.K) (S := S1) (t := t1) 0 n
      have e0 : (n - 0 : Int) = n := by omega
      rw [e0] at hd
      obtain ⟨p4, i4, r⟩ := new_lst i1 hq hd
      exact h1 _ _ _ p4 i4 _ r
    · rw [if_neg hb] at h1; exact h1.elim
  | _ => exact h1.elim
theorem de_listRg2 {q : Pos} {p3 : Pos} (hc : X.calm = true) (hg : Gl X "list") (hm : X.mg "list" = none) (hg2 : Gl X "range") (hm2 : X.mg "range" = none) (ha : PE X a (semE G W fa)) (hb : PE X b (semE G W fb))
    (na : starEach [a, b] X.env = (false, eval a X.env) :: starEach [b] X.env := by rfl) (nb : starEach [b] X.env = (false, eval b X.env) :: starEach [] X.env := by rfl) (hp : (backTo q (starEach [b] X.env)).any (·.1) = false := by rfl)
    (nc : starEach [.Call (.Name "range" p3) [a, b] [] q] X.env = (false, eval (.Call (.Name "range" p3) [a, b] [] q) X.env) :: starEach [] X.env := by rfl) :
    PE X (.Call (.Name "list" p) [.Call (.Name "range" p3) [a, b] [] q] [] pos) (semE G W (listRg2 fa fb)) := by
  refine (pe_listRg hc hg hm (prg_2 hg2 hm2 ha hb na nb hp) nc).imp fun σ H Q ⟨S, t, m, e, si, g⟩ => ⟨S, t, m, e, si, (Gd.sp g).imp fun S1 H1 t1 m1 d p1 i1 h1 v rv => ?_⟩
  refine ⟨S1, t1, m1, e, si.stp p1 i1, (Gd.sp h1).imp fun S2 H2 t2 m2 d2 p2 i2 h2 w rw' => ?_⟩
  cases d with
  | int i =>
    cases rv
    cases d2 with
    | int j =>
      cases rw'
      have h2 : Gd G W σ S2 H2 t2 (R.of ((if (bdI i && bdI j && decide ((j - i).toNat ≤ 100000)) = true then some (rng i (j - i).toNat) else none).map D.lst) m2) _ := h2
      by_cases hb : (bdI i && bdI j && decide ((j - i).toNat ≤ 100000)) = true
      · rw [if_pos hb] at h2
        simp only [Bool.and_eq_true, decide_eq_true_eq] at hb
        refine ⟨i, j, rfl, rfl, rg_ok hb.1.1 hb.1.2 hb.2, fun q' hq => ?_⟩
        obtain ⟨p4, i4, r⟩ := new_lst i2 hq (rng_v (K := G.K) (S := S2) (t := t2) i j)
        exact h2 _ _ _ p4 i4 _ r
      · rw [if_neg hb] at h2; exact h2.elim
    | _ => exact h2.elim
  | _ =>
    exfalso
    cases d2 <;> exact h2
end
/-! the law's own call -/
theorem only_hi {K : PySem.W.Frag} {H : Hp} : HI K H H (fun _ => none) [] := ⟨.refl H, (fun n xs h => by simp at h), (fun n a h => by cases h), (fun n k a h => by cases h), fun _ _ => rfl⟩
theorem frz_v {K : PySem.W.Frag} {S : Hp} {t : Th} {a : Addr} {ns : List Int} (h : SqL K S a (ns.map V.int)) : DR K S t (.ref a) (.frz (ns.map D.int)) := by
  refine .frz h ?_
  induction ns with
  | nil => exact .nil
  | cons n ns ih => exact .cons (.int n) (by
      clear ih h
      induction ns with
      | nil => exact .nil
      | cons n ns ih => exact .cons (.int n) ih)
theorem law_sp {T : Tab} {K : PySem.W.Frag} {Xs : Nat → Option (Addr × List Str)} {n f : Nat} {H : Hp} {a : Addr} {ns : List Int} {m' : Store} (hs : SqL K H a (ns.map V.int)) (h : run T n f [.frz (ns.map D.int)] [] = .ok (.bl true) m') :
    spD ⟨K, run T n, Xs, none⟩ f 1 [.ref a] H (fun v _ => v = .bl true) fun _ _ _ => False := by
  refine ⟨rfl, H, fun _ => none, [], [.frz (ns.map D.int)], only_hi, .cons (frz_v hs) .nil, ?_⟩
  show Gd _ _ _ H H _ (run T n f [.frz (ns.map D.int)] []) _
  rw [h]
  intro S' H' t' p i v r
  cases r
  rfl
end Dn
namespace Dn
open PySem L2
@[simp] def listG : Store → List D → Option D := fun m xs => (listF m xs).map .lst
@[simp] def sortG : Store → List D → Option D := fun m xs => (sortF m xs).map .lst
theorem cb_list {X : Cx} : CallD X (.type "list") listG := cf_list.settle
theorem cb_sort {X : Cx} (hu : X.A.units + 65 < cLine) : CallD X (.builtin "sorted") sortG := (cf_sort hu).settle
theorem FncH.suite {P : Program} {w : World} {K : PySem.W.Frag} {mg : Str → Option Value} {base : Heap} {G : Cfg} {n f np : Nat} {x : Str} {y : Gh} (h : FncH P w K mg base G n f np x) : FncH P w K mg base { G with x := y } n f np x := ⟨h.ok⟩
end Dn

namespace Dn
open PySem L2
section
variable {X : Cx} {G : Cfg} {W : WX} {E : Snap}
theorem df_lcV {elt tg iter : Expr} {ifs : List Expr} {scope : Scope} {own : List (Str × Nat)} {ws : List Nat} {pos : Pos} {fi : EvA} {g : Tg} {tt : EvT} {te : EvE} (hc : X.calm = true) (hN : X.N.Nodup) (ok : BlkOk X.N X.env.scope scope own) (hws : own.map (·.2) = ws) (hi : PI X tg iter (semI G W fi))
    (hv : (tslots g).all (fun j => ws.contains j) = true)
    (hg : ∀ (s : Shared) (H : Hp) (C : Addr) (cl : List (Str × Addr)) (fp : List Addr), PG (X.blk s H scope (compEnvC scope cl C X.env) fp) tg (semG G.K G.x g)) (ht : ∀ (s : Shared) (H : Hp) (C : Addr) (cl : List (Str × Addr)) (fp : List Addr), PTs (X.blk s H scope (compEnvC scope cl C X.env) fp) ifs (semT G W0 tt))
    (he : ∀ (s : Shared) (H : Hp) (C : Addr) (cl : List (Str × Addr)) (fp : List Addr), PE (X.blk s H scope (compEnvC scope cl C X.env) fp) elt (semE G W0 te)) (hs : ∀ x, foldedSetIterable iter X.env x = pure x := by intro _; rfl) :
    PE X (.ListComp elt [⟨tg, iter, ifs, 0⟩] scope pos) (semF G W (lcF fi g tt te ws)) := by
  subst hws
  exact df_lc hc hN hi ok hv hg ht he hs
theorem ds_ownLcV {i : Nat} {y : Str} {py : Pos} {elt tg iter : Expr} {ifs : List Expr} {scope : Scope} {own : List (Str × Nat)} {ws : List Nat} {lpos spos : Pos} {fi : EvA} {g : Tg} {tt : EvT} {te : EvE} (hc : X.calm = true) (hN : X.N.Nodup) (hy : X.N[i]? = some y) (hyl : X.env.scope.names.lookup y = some .local)
    (hsw : swapsWith (.ListComp elt [⟨tg, iter, ifs, 0⟩] scope lpos) (some (.Name y py)) spos.line X.env = pure true) (ok : BlkOk X.N X.env.scope scope own) (hws : own.map (·.2) = ws) (hi : PI X tg iter (semI G W fi)) (hv : (tslots g).all (fun j => ws.contains j) = true)
    (hg : ∀ (s : Shared) (H : Hp) (C : Addr) (cl : List (Str × Addr)) (fp : List Addr), PG (X.blk s H scope (compEnvC scope cl C X.env) fp) tg (semG G.K G.x g)) (ht : ∀ (s : Shared) (H : Hp) (C : Addr) (cl : List (Str × Addr)) (fp : List Addr), PTs (X.blk s H scope (compEnvC scope cl C X.env) fp) ifs (semT G W0 tt))
    (he : ∀ (s : Shared) (H : Hp) (C : Addr) (cl : List (Str × Addr)) (fp : List Addr), PE (X.blk s H scope (compEnvC scope cl C X.env) fp) elt (semE G W0 te)) (hs : ∀ x, foldedSetIterable iter X.env x = pure x := by intro _; rfl) :
    PS X (.Assign [.Name y py] (.ListComp elt [⟨tg, iter, ifs, 0⟩] scope lpos) spos) (semS G W E (ownS i (lcF fi g tt te ws))) := by
  subst hws
  exact ds_ownLc hc hN hy hyl hsw hi ok hv hg ht he hs
theorem ds_setLcV {i : Nat} {y : Str} {py : Pos} {elt tg iter : Expr} {ifs : List Expr} {scope : Scope} {own : List (Str × Nat)} {ws : List Nat} {lpos spos : Pos} {fi : EvA} {g : Tg} {tt : EvT} {te : EvE} (hc : X.calm = true) (hN : X.N.Nodup) (hy : X.N[i]? = some y) (hyl : X.env.scope.names.lookup y = some .local)
    (hsw : swapsWith (.ListComp elt [⟨tg, iter, ifs, 0⟩] scope lpos) (some (.Name y py)) spos.line X.env = pure true) (ok : BlkOk X.N X.env.scope scope own) (hws : own.map (·.2) = ws) (hi : PI X tg iter (semI G W fi)) (hv : (tslots g).all (fun j => ws.contains j) = true)
    (hg : ∀ (s : Shared) (H : Hp) (C : Addr) (cl : List (Str × Addr)) (fp : List Addr), PG (X.blk s H scope (compEnvC scope cl C X.env) fp) tg (semG G.K G.x g)) (ht : ∀ (s : Shared) (H : Hp) (C : Addr) (cl : List (Str × Addr)) (fp : List Addr), PTs (X.blk s H scope (compEnvC scope cl C X.env) fp) ifs (semT G W0 tt))
    (he : ∀ (s : Shared) (H : Hp) (C : Addr) (cl : List (Str × Addr)) (fp : List Addr), PE (X.blk s H scope (compEnvC scope cl C X.env) fp) elt (semE G W0 te)) (hs : ∀ x, foldedSetIterable iter X.env x = pure x := by intro _; rfl) :
    PS X (.Assign [.Name y py] (.ListComp elt [⟨tg, iter, ifs, 0⟩] scope lpos) spos) (semS G W E (asgS (.nm i) (frzE (lcF fi g tt te ws)))) := by
  subst hws
  exact ds_setLc hc hN hy hyl hsw hi ok hv hg ht he hs
end
end Dn
/-! An own error of the second level: its __init__ says super().__init__("..") and keeps one field. -/
namespace PySem
namespace DnX
open PySem.W PySem.Calls PyProof.Rows PySem.HandSPX PySem.ESX
abbrev exT2 (O : Addr) : List Value := .ref O :: exTail
def iA (f : Str) (p1 p2 : Pos) : Arguments := { posonlyargs := [], args := [{ arg := "self", annotation := none, pos := p1 }, { arg := f, annotation := none, pos := p2 }], vararg := none, kwonlyargs := [], kw_defaults := [], kwarg := none, defaults := [] }
def iB (f msg : Str) (j : Nat) (q1 q2 q3 q4 q5 q6 q7 q8 q9 q10 : Pos) : List Stmt :=
  [.Expr (.Call (.Attribute (.Call (.Name "super" q1) [] [] q2) "__init__" q3) [.Constant (.str msg) j q4] [] q5) q6, .Assign [.Attribute (.Name "self" q7) f q8] (.Name f q9) q10]
def iS (f : Str) : Scope := { kind := .function, names := [(PySem.Str.ofString "self", .local), (f, .local), (PySem.Str.ofString "__class__", .free), (PySem.Str.ofString "super", .globalImplicit)], isGenerator := false, isCoroutine := false, more := [] }
theorem mro_has2 {K : W.Frag} {C O : Addr} {cd : ClassData} (hcd : W.clsIn K C = some cd) (hm : cd.mro = .ref C :: exT2 O) {b : Value} (hb : (Value.ref C :: exT2 O).contains b = true) : W.mroIn K C b = some true := by
  unfold W.mroIn
  rw [hcd, Option.bind_some, hm, if_neg (show ¬ (List.isEmpty (Value.ref C :: exT2 O) = true) from Bool.false_ne_true), hb]
theorem tail2 {C O : Addr} (X : String) (hX : exTail.contains (.type X) = true) : (Value.ref C :: exT2 O).contains (.type X) = true := by
  rw [List.contains_cons, List.contains_cons, hX, Bool.or_true, Bool.or_true]
theorem cont2 {O : Addr} (X : String) : (exT2 O).contains (.type X) = exTail.contains (.type X) := by
  rw [List.contains_cons]
  have : (Value.type X == Value.ref O) = false := by simp
  rw [this, Bool.false_or]
section
open Builtin Builtin.ObjectAttr
variable {prog : Program} {w : World} {A : Around} {E : Value → Shared → Prop} {R : Result → Shared → Prop} {hp : Heap} {g : Array GenState} {d : Drawn} {t : Nat} {os : OsState}
theorem osa2 {K : W.Frag} {name : Str} {tk : Tok} {v : Value} {x C O : Addr} {ox : Obj} {od : Option Obj} {cd : ClassData}
    (X : K.In hp) (I : W.InstAt hp x ox C od) (hcd : W.clsIn K C = some cd) (hm : cd.mro = .ref C :: exT2 O) (ha : W.findIn K (.ref C) name = some none)
    (hq : wpAny (model prog w) A.in1 (storeInOwnDict (.ref x) (.ref C) (.str name tk) name v false)
      (fun fin s' => match fin with | .done f => R (.ok f) s' | .again c' => c'.quiet = true ∧ codeAny (model prog w) A c' R s') (fun e s' => R (.error e) s') ⟨hp, g, d, t, os⟩) :
    codeAny (model prog w) A (.call (.builtin "object.__setattr__") ⟨[.ref x, .str name tk, v], []⟩) R ⟨hp, g, d, t, os⟩ := by
  have SF := F.store_object
  have sub : W.Looks (model prog w) hp (isInstance (.ref x) (.type "object")) true := I.type.andThen (W.looks_mroIn X (mro_has2 hcd hm (tail2 "object" (by decide +kernel))))
  refine codeAny_call_builtin SF.slot.plain SF.entry (@W.check_slot (model prog w) _ _ ⟨hp, g, d, t, os⟩ "object.__setattr__" "object" "__setattr__" (.ref x) [.str name tk, v] [] _ SF.kind SF.split sub (SF.args (.ref x) (.str name tk) v) ?_)
  have hmr : W.Looks (model prog w) hp (mroOf (.ref C)) cd.mro := (W.looks_clsIn X hcd).andThen .now
  have L3 : W.Looks (model prog w) hp (storeTaker? none) none := .now
  have hpass : refuseLoop (.ref x) "__setattr__" cd.mro = pure () := by
    rw [hm, refuseLoop_ref, refuseLoop_ref]
    exact F.store_Exception.passes _
  rw [W.osa_eq, refuse_eq]
  refine wpAny_bind (wpAny_bind (I.type.at (wpAny_bind (hmr.at ?_))))
  rw [hpass]
  refine wpAny_pure (wpAny_bind (I.type.at (wpAny_bind ((W.looks_findIn X ha).at (wpAny_bind (L3.at ?_))))))
  exact hq
theorem osa2_new {K : W.Frag} {name : Str} {tk : Tok} {v : Value} {x C O : Addr} {fv : Array Value} {cd : ClassData}
    (X : K.In hp) (hx : hp.get? x = some { cls := .ref C, data := .fields fv }) (hcd : W.clsIn K C = some cd) (hm : cd.mro = .ref C :: exT2 O) (hh : cd.hasDict = true) (ha : W.findIn K (.ref C) name = some none)
    (hq : ∀ h' tk' dx, (∀ b o, b ≠ x → hp.get? b = some o → h'.get? b = some o) → hp.objs.size ≤ dx → dx ≠ x → h'.get? x = some { cls := .ref C, dict := some dx, data := .fields fv } →
      h'.Ns1 dx (fun y => if y = name then some v else none) → R (.ok (.ret .none)) ⟨h', g, d, tk', os⟩) :
    codeAny (model prog w) A (.call (.builtin "object.__setattr__") ⟨[.ref x, .str name tk, v], []⟩) R ⟨hp, g, d, t, os⟩ := by
  have I : W.InstAt hp x { cls := .ref C, data := .fields fv } C none := ⟨hx, rfl, rfl, trivial⟩
  have hxs : x ≠ hp.objs.size := Nat.ne_of_lt (Heap.lt_size hx)
  refine osa2 X I hcd hm ha ?_
  have hcls : W.Looks (model prog w) hp (classData C) cd := W.looks_clsIn X hcd
  obtain ⟨nm, bs, mro, ns, qn, hd, sn, sb, ab, col, del⟩ := cd
  dsimp only at hh
  subst hh
  unfold storeInOwnDict ownDictForStores
  repeat (first | with_reducible refine HandSPX.store_in_new ?_ ?_ | with_reducible refine wpAny_loadPart_at hx ?_ | with_reducible refine hcls.at ?_ | wp_step)
  · exact ⟨_, #[], _, (Heap.get?_update_ne _ _ _ _ hxs.symm).trans (Heap.get?_push_at rfl rfl), rfl, fun e he => absurd he (by simp), fun _ => rfl⟩
  · intro h' tk' hn' hs
    have hx₁ : (hp.push { cls := .type "dict", data := .dict #[] }).get? x = some { cls := .ref C, data := .fields fv } := Heap.get?_push_of_some _ hx
    refine hq h' tk' hp.objs.size (fun b o hb ho => ?_) (Nat.le_refl _) hxs.symm ?_ hn'
    · exact (hs.2 b (Nat.ne_of_lt (Heap.lt_size ho))).trans ((Heap.get?_update_ne _ _ _ _ hb).trans (Heap.get?_push_of_some _ ho))
    · exact (hs.2 x hxs).trans (Heap.get?_update_self _ hx₁ rfl)
end
/-- what the written part says of such a class, at C, of its __init__, at fI -/
structure ErrTxt (prog : Program) (K : Frag) (mg : Str → Option Value) (x f : Str) (C : Addr) : Prop where
  gC : mg x = some (.ref C)
  cls : ∃ O nm q N bs sn sub ab col dd k0 k1 k2 k3 k5, K.lookup C = some (excClassObj nm q C N bs (exT2 O) true sn sub ab col dd k0 k1 k2 k3 k5 "Exception.__new__")
  sa : findIn K (.ref C) "__setattr__" = some (some (.builtin "object.__setattr__"))
  noN : findIn K (.ref C) f = some none
  sup : ks_superIn K C C "__init__" = some (some (.builtin "Exception.__init__"))
  opq : nsIn K cStatics "thirdparty.any" = some none
  kC : keepIn K (.ref C) = true
  exC : subIn K (.ref C) (.type "BaseException") = some true
  tyC : typeIn K (.ref C) = some (.type "type")
  fn : ∃ (fI cc cda : Addr) (qual msg : Str) (j : Nat) (oc doc pm ct cl ccl : Value) (od an cld cdd : Option Addr) (osl csl ccs : Array (Option Value)) (vs : Array Value) (file : Str) (tf : Tok) (p1 p2 q1 q2 q3 q4 q5 q6 q7 q8 q9 q10 : Pos),
    findIn K (.ref C) "__init__" = some (some (.ref fI)) ∧ typeIn K (.ref fI) = some (.type "function") ∧
    K.lookup fI = some ⟨oc, od, .func (ksFn "__init__" qual (iA f p1 p2) (iB f msg j q1 q2 q3 q4 q5 q6 q7 q8 q9 q10) (iS f) .none .none doc pm an (.ref cda) ct cc), osl⟩ ∧ codeIn K (.ref cda) qual = true ∧
    K.lookup cda = some ⟨ccl, cdd, .fields vs, ccs⟩ ∧ vs[2]? = some (.str file tf) ∧ ((prog.main.file : Str) == file) = true ∧ K.lookup cc = some ⟨cl, cld, .cell (some (.ref C)), csl⟩ ∧ (q3.endLine == q5.line) = true
  nm : mg "super" = none
  top : (prog.main.scope.names.lookup ("super" : Str)).isSome = false
  fs : f ≠ "self" ∧ f ≠ "__class__" ∧ f ≠ "super" ∧ (f == ("__debug__" : Str)) = false
  bnd : ∀ (body : List Stmt) (qual : Str) (doc pm cdv ct : Value) (an : Option Addr) (cc : Addr) (p1 p2 : Pos) (e v : Value), bindArgs (ksFn "__init__" qual (iA f p1 p2) body (iS f) .none .none doc pm an cdv ct cc) ⟨[e, v], []⟩ = pure [((PySem.Str.ofString "self" : Str), e), (f, v)]
  sw : ∀ (env : Env) (q7 q8 q9 : Pos) (n : Nat), swapsWith (.Name f q9) (some (.Attribute (.Name "self" q7) f q8)) n env = pure false
/-- what __init__ leaves of a fresh exception at x -/
structure InitEnd (h h' : Heap) (x C dx : Addr) (f : Str) (v : Value) : Prop where
  keep : ∀ b o, b ≠ x → h.get? b = some o → h'.get? b = some o
  obj : ∃ t1, h'.get? x = some { cls := .ref C, dict := some dx, data := .fields #[.ref t1, .none, .none, .none, .bool false, .none] }
  dbig : h.objs.size ≤ dx
  dne : dx ≠ x
  ns : h'.Ns1 dx (fun y => if y = f then some v else none)
section
variable {prog : Program} {w : World} {A : Around} {E : Value → Shared → Prop} {R : Result → Shared → Prop} {s : Shared} {K : Frag} {mg : Str → Option Value} {C : Addr} {x f : Str}
theorem cls_of {O : Addr} {nm q : Str} {N : Addr} {bs : List Value} {sn : List Str} {sub : List Value} {ab : Bool} {col : Option Bool} {dd : Option Addr} {k0 k1 k2 k3 k5 : Option Value} (hC : K.lookup C = some (excClassObj nm q C N bs (exT2 O) true sn sub ab col dd k0 k1 k2 k3 k5 "Exception.__new__")) :
    ∃ cd, clsIn K C = some cd ∧ cd.mro = .ref C :: exT2 O ∧ cd.hasDict = true := by
  refine ⟨{ name := nm, bases := bs, mro := .ref C :: exT2 O, ns := N, qualname := q, hasDict := true, slotNames := sn, subclasses := sub, abstract := ab, collection := col, hasDel := false }, ?_, rfl, rfl⟩
  unfold clsIn; rw [hC] <;> rfl
theorem ev_super {o : Expr} {m : Str} {apos pos : Pos} {a : Expr} {env : Env} (hl : (apos.endLine == pos.line) = true) (hf : methodCallForm ([a].length + ([] : List Keyword).length) (backTo pos (starEach [a] env)) (backToKw pos (keywordEach [] env)) = true) :
    eval (.Call (.Attribute o m apos) [a] [] pos) env = (do
      let ov ← attributeBase o m env (eval o env)
      standAt apos.atName
      let (f, first) ← holding [ov] (getMethod ov m (L2.plainOf o env))
      callWith pos f first (backTo pos (starEach [a] env)) []) := by
  rw [arm_eval_Call]
  exact congrArg (bind _) (funext fun ov => congrArg (bind _) (funext fun _ => L2.mcall_line hf hl))
theorem err_init (T : ErrTxt prog K mg x f C) {fI e t0 : Addr} {v : Value} {mb : Str → Option Value} (hfI : findIn K (.ref C) "__init__" = some (some (.ref fI))) (X : K.In s.heap) (hlim : s.heap.NoLimit) (hG : s.heap.Ns mainGlobals mg) (hB : s.heap.Ns builtinsNs mb) (hb : mb "super" = bootBuiltins "super")
    (hx : s.heap.get? e = some (excO C t0)) (hnx : K.lookup e = none) (hroom : A.depth < recursionLimit)
    (hq : ∀ h' tk dx, InitEnd s.heap h' e C dx f v → R (.ok (.ret .none)) { s with heap := h', toks := tk }) :
    codeAny (model prog w) A (.call (.ref fI) ⟨[.ref e, v], []⟩) R s := by
  obtain ⟨fI', cc, cda, qual, msg, j, oc, doc, pm, ct, cl, ccl, od, an, cld, cdd, osl, csl, ccs, vs, file, tf, p1, p2, q1, q2, q3, q4, q5, q6, q7, q8, q9, q10, hi, hti, ho, hcd, hcda, hvs, hfile, hcc, hline⟩ := T.fn
  rw [hfI] at hi
  cases hi
  obtain ⟨O, nm, q, N, bs, sn, sub, ab, col, dd, k0, k1, k2, k3, k5, hC⟩ := T.cls
  obtain ⟨cd, hcl, hm, hh⟩ := cls_of hC
  obtain ⟨f1, f2, f3, f4⟩ := T.fs
  have ff1 : (f == PySem.Str.ofString "self") = false := beq_false_of_ne f1
  have e1 : (iS f).names.lookup f = some .local := by
    unfold iS
    simp [List.lookup, ff1]
  have ff2 : (PySem.Str.ofString "__class__" == f) = false := beq_false_of_ne (Ne.symm f2)
  have ff3 : (PySem.Str.ofString "super" == f) = false := beq_false_of_ne (Ne.symm f3)
  have e2 : (iS f).names.lookup (PySem.Str.ofString "__class__") = some .free := by
    unfold iS
    have z : (PySem.Str.ofString "__class__" == PySem.Str.ofString "self") = false := by decide
    simp [List.lookup, ff2, z]
  have e3 : (iS f).names.lookup (PySem.Str.ofString "super") = some .globalImplicit := by
    unfold iS
    have z : (PySem.Str.ofString "super" == PySem.Str.ofString "self") = false := by decide
    have z2 : (PySem.Str.ofString "super" == PySem.Str.ofString "__class__") = false := by decide
    simp [List.lookup, ff3, z, z2]
  refine ks_codeAny_call_defAt (fd := ksFn "__init__" qual (iA f p1 p2) (iB f msg j q1 q2 q3 q4 q5 q6 q7 q8 q9 q10) (iS f) .none .none doc pm an (.ref cda) ct cc) (body := iB f msg j q1 q2 q3 q4 q5 q6 q7 q8 q9 q10) (binds := [("self", .ref e), (f, v)]) hroom (X _ _ ho) rfl hlim (codeRec_of X hcd) rfl ?hbind ?hcell ?hloc (fun h₁ hns k => ?_)
  case hbind => exact BindsTo.of_eq (T.bnd _ _ _ _ _ _ _ _ _ _ _ _)
  case hcell =>
    intro y hy
    have hy' : y ∈ [(PySem.Str.ofString "self", NameKind.local), (f, .local), (PySem.Str.ofString "__class__", .free), (PySem.Str.ofString "super", .globalImplicit)] := hy
    simp only [List.mem_cons, List.not_mem_nil, or_false] at hy'
    rcases hy' with rfl | rfl | rfl | rfl <;> exact fun z => nomatch z
  case hloc =>
    intro y hy
    simp only [List.mem_cons, List.not_mem_nil, or_false] at hy
    rcases hy with rfl | rfl
    · rfl
    · exact e1
  have X₁ : K.In h₁ := X.keeps k
  have hx₁ := k _ _ hx
  have hG₁ := hG.keeps k
  have hB₁ := hB.keeps k
  have ns_self : ([((PySem.Str.ofString "self" : Str), Value.ref e), (f, v)] : List (Str × Value)).reverse.lookup (PySem.Str.ofString "self") = some (Value.ref e) := by
    have : ((PySem.Str.ofString "self" : Str) == f) = false := beq_false_of_ne (Ne.symm f1)
    simp [List.lookup, this]
  have ns_f : ([((PySem.Str.ofString "self" : Str), Value.ref e), (f, v)] : List (Str × Value)).reverse.lookup f = some v := by
    simp [List.lookup]
  have hcat : ∀ {h : Heap} {ox : Obj} {odx : Option Obj}, K.In h → InstAt h e ox C odx → e ≠ C := fun Y I => ks_ne Y I hcl
  have I₁ : InstAt h₁ e (excO C t0) C none := ⟨hx₁, rfl, rfl, trivial⟩
  have hne := hcat X₁ I₁
  obtain ⟨hp, g, d, t, os⟩ := s
  dsimp only at *
  -- super().__init__(msg)
  refine ks_wpAt_execs_cons (ks_wpAt_Expr_any (ks_wpAt_MethodCall (pl := _) (ks_wpAt_super_base e3 e2 rfl rfl (X₁ _ _ ho) rfl rfl rfl (X₁ _ _ hcda) rfl hvs hfile T.top ?_) (ev_super hline rfl)))
  refine ks_loadName_global rfl e3 (loadGlobal_builtin hG₁ T.nm hB₁ (hb.trans (by decide +kernel)) ⟨rfl, ?_⟩)
  refine wpAny_loadName_free rfl e2 rfl ⟨_, X₁ _ _ hcc, rfl⟩ ?_
  refine wpAny_loadName_local rfl rfl hns ns_self ?_
  obtain ⟨oD, hD1, hD2⟩ : ∃ oD, h₁.get? C = some oD ∧ oD.data = .cls cd := by
    unfold clsIn at hcl
    split at hcl
    · rename_i c d' cd' sl ho'
      cases hcl
      exact ⟨_, X₁ _ _ ho', rfl⟩
    · cases hcl
  refine ks_wpAny_isType_cls hD1 hD2 ⟨rfl, ?_⟩
  refine ks_wpAny_call_super hD1 hD2 hx₁ rfl (fun c z => by cases z) (looks_mroIn X₁ (mro_has2 hcl hm (by rw [List.contains_cons]; simp))) (fun h₂ hso k₂ => ?_)
  have X₂ : K.In h₂ := X₁.keeps k₂
  have hx₂ := k₂ _ _ hx₁
  have I₂ : InstAt h₂ e (excO C t0) C none := ⟨hx₂, rfl, rfl, trivial⟩
  have hsup : alongIn K "__init__" (exT2 O) = some (some (.builtin "Exception.__init__")) := by
    have z := T.sup
    unfold ks_superIn at z
    rw [hcl, Option.bind_some, hm, drop_own] at z
    exact z
  refine getMethod_super hso (looks_opaque X₂ T.opq) (l₀ := .ref C :: exT2 O) ?_ (drop_own C _) X₂ hsup hne rfl ?_ ?_
  · have : Looks (model prog w) h₂ (mroOf (.ref C)) cd.mro := (looks_clsIn X₂ hcl).andThen .now
    rw [hm] at this
    exact this
  · exact I₂.type.andThen (looks_mroIn X₂ (mro_has2 hcl hm (tail2 "Exception" (by decide +kernel))))
  have k₃ : ∀ b o, h₂.get? b = some o → (h₂.push (bw e)).get? b = some o := fun b o q => Heap.get?_push_of_some _ q
  have X₃ : K.In (h₂.push (bw e)) := X₂.keeps k₃
  refine callWith_bound (x := e) (args_cons (Constant_str (args_nil ⟨Heap.get?_push_size _ rfl, ?_⟩)))
  refine call_bw (X₃ _ _ hC) (k₃ _ _ hx₂) (Heap.get?_push_size _ rfl) (by rw [sizeLine_eq]; exact (by decide : 1 ≤ 16777216)) (fun h₄ t1 k₄ hx₄ => ?_)
  have X₄ : K.In h₄ := fun a o q => k₄ a o (fun z => by rw [z, hnx] at q; cases q) (X₃ a o q)
  have k14 : ∀ b o, b ≠ e → h₁.get? b = some o → h₄.get? b = some o := fun b o hb q => k₄ b o hb (k₃ b o (k₂ b o q))
  have hns₄ : h₄.Ns hp.objs.size (fun y => ([((PySem.Str.ofString "self" : Str), Value.ref e), (f, v)] : List (Str × Value)).reverse.lookup y) := by
    have hee : hp.objs.size ≠ e := Nat.ne_of_gt (Heap.lt_size hx)
    obtain ⟨oL, es, ep, hL, r⟩ := hns
    exact ⟨oL, es, ep, k14 _ _ hee hL, r⟩
  -- self.f = f
  refine ks_wpAt_execs_cons (ks_wpAt_Assign_Attr (wpAt_of_wpAny (wpAny_Name (wpAny_loadName_local rfl e1 hns₄ ns_f ?_) f4)) (T.sw _ _ _ _ _))
  refine wpAny_Name (wpAny_loadName_local rfl rfl hns₄ ns_self ?_) (by decide)
  refine set_plain X₄ (ox := excO C t1) (od := none) ⟨hx₄, rfl, rfl, trivial⟩ T.sa ?_
  refine osa2_new X₄ hx₄ hcl hm hh T.noN (fun h₅ tk₅ dx k₅ dn dne hx₅ hn₅ => ?_)
  refine wpAt_of_wpAny (wpAny_execs_nil (hq h₅ tk₅ dx ⟨fun b o hb q => k₅ b o hb (k14 b o hb (k b o q)), ⟨t1, hx₅⟩, ?_, dne, hn₅⟩))
  have z : hp.objs.size < h₄.objs.size := hns₄.lt
  exact Nat.le_of_lt (Nat.lt_of_lt_of_le z dn)
end
end DnX
end PySem
namespace PySem
namespace DnX
open PySem.W PySem.Calls PyProof.Rows PySem.HandSPX PySem.ESX
/-- a made error -/
structure Made (h h' : Heap) (e C d : Addr) (f : Str) (v : Value) : Prop where
  keep : ∀ b o, h.get? b = some o → h'.get? b = some o
  new : h.objs.size ≤ e
  obj : ∃ oe vs, h'.get? e = some oe ∧ oe.cls = .ref C ∧ oe.dict = some d ∧ oe.data = .fields vs ∧ vs[1]? = some .none ∧ vs[2]? = some .none
  dbig : h.objs.size ≤ d
  dne : d ≠ e
  ns : h'.Ns1 d (fun y => if y = f then some v else none)
section
variable {prog : Program} {w : World} {A : Around} {E : Value → Shared → Prop} {R : Result → Shared → Prop} {s : Shared} {K : Frag} {mg : Str → Option Value} {C : Addr} {x f : Str}
theorem err_made (T : ErrTxt prog K mg x f C) {v : Value} {mb : Str → Option Value} (X : K.In s.heap) (hlim : s.heap.NoLimit) (hG : s.heap.Ns mainGlobals mg) (hB : s.heap.Ns builtinsNs mb) (hb : mb "super" = bootBuiltins "super") (hroom : A.depth + 1 < recursionLimit)
    (hq : ∀ h' tk e d, Made s.heap h' e C d f v → R (.ok (.ret (.ref e))) { s with heap := h', toks := tk }) :
    codeAny (model prog w) A (.call (.ref C) ⟨[v], []⟩) R s := by
  obtain ⟨fI, _, _, _, _, _, _, _, _, _, _, _, _, _, _, _, _, _, _, _, _, _, _, _, _, _, _, _, _, _, _, _, _, _, hi, hti, _⟩ := T.fn
  obtain ⟨O, nm, q, N, bs, sn, sub, ab, col, dd, k0, k1, k2, k3, k5, hC⟩ := T.cls
  obtain ⟨hp, g, dr, tk, os⟩ := s
  have k : ∀ b o, hp.get? b = some o → ((hp.push (kdv_tup [v])).push (excO C hp.objs.size)).get? b = some o := fun b o e => Heap.get?_push_of_some _ (Heap.get?_push_of_some _ e)
  have hget : ((hp.push (kdv_tup [v])).push (excO C hp.objs.size)).get? (hp.objs.size + 1) = some (excO C hp.objs.size) := by heap_get
  have hnx : K.lookup (hp.objs.size + 1) = none := by
    cases e : K.lookup (hp.objs.size + 1) with
    | none => rfl
    | some o =>
      have z : hp.get? (hp.objs.size + 1) = some o := X _ _ e
      exact absurd (Nat.lt_of_succ_lt (Heap.lt_size z)) (Nat.lt_irrefl _)
  refine call_own F.excBase_Exception (fun X => cont2 X) (X _ _ hC) (looks_findIn X hi) (fun self => bind_fn X self hti) (by rw [sizeLine_eq]; exact (by decide : 1 ≤ 16777216)) ?_
  refine err_init (s := ⟨(hp.push (kdv_tup [v])).push (excO C hp.objs.size), g, dr, tk, os⟩) T hi (X.keeps k) (hlim.keeps k) (hG.keeps k) (hB.keeps k) hb hget hnx ?_ fun h' tk' dx ⟨k', ⟨t1, hx⟩, dn, dne, hns⟩ => ?_
  · show A.depth + 1 < recursionLimit
    exact hroom
  · have old : ∀ b o, hp.get? b = some o → h'.get? b = some o := fun b o e => k' b o (Nat.ne_of_lt (Nat.lt_succ_of_lt (Heap.lt_size e))) (k b o e)
    have z : hp.objs.size + 1 + 1 ≤ dx := by
      first
        | (simpa only [Heap.size_push] using dn)
        | exact dn
        | (have q := dn; rw [Heap.size_push, Heap.size_push] at q; exact q)
    exact ⟨rfl, hq h' tk' (hp.objs.size + 1) dx ⟨old, Nat.le_succ _, ⟨_, _, hx, rfl, rfl, rfl, rfl, rfl⟩, Nat.le_trans (Nat.le_trans (Nat.le_succ _) (Nat.le_succ _)) z, dne, hns⟩⟩
end
end DnX
end PySem
namespace Dn
open PySem L2
section
variable {X : Cx} {G : Cfg} {W : WX} {C : Addr}
theorem relO_one {f : Str} {v : V} {v' : Value} (r : RelV v v') (y : Str) : RelO (List.lookup y [(f, v)]) (if y = f then some v' else none) := by
  by_cases hw : y = f
  · subst hw
    rw [if_pos rfl]
    have q : List.lookup y [(y, v)] = some v := by simp [List.lookup]
    rw [q]
    exact r
  · rw [if_neg hw]
    have qw : (y == f) = false := by simpa using hw
    have q2 : List.lookup y [(f, v)] = none := by simp [List.lookup, qw]
    rw [q2]
    trivial
/-- x(e) -/
theorem de_mk {x f : Str} {a : Expr} {es : List Expr} {fs : EvA} {p pos : Pos} {k c : Nat} (T : PySem.DnX.ErrTxt X.prog X.K X.mg x f C) (hK : X.K = G.K) (hX : G.X c = some (C, [f])) (hr : Room k X.A) (ha : PA X (a :: es) (semA G W fs)) (hn : ∀ e m xs m', fs G.C e m = .ok xs m' → xs.length = 1) (hg : Gl X x)
    (he : starEach (a :: es) X.env = (false, eval a X.env) :: starEach es X.env) (hpl : (backTo pos (starEach es X.env)).any (·.1) = false) (hdb : (x == ("__debug__" : Str)) = false := by decide) :
    L2N.PMk X (.Call (.Name x p) (a :: es) [] pos) (semX G W c fs) := by
  intro pins s σ H Q I ⟨S, t, m, e, si, g⟩
  refine wpAny_Call_Name_kw (ld_glob I hg T.gC ?_ hdb)
  have hlen := hn e m
  refine PySem.W.callWith_K (h₀ := X.base) I.ok.mod.kin T.kC (thn (ha.run pos pins s σ H (fun vs H1 => ∃ v, vs = [v] ∧ ∀ d, H1 d = none → Q (.ref C) (some d) (upd H1 d (.xd [(f, v)]))) I ⟨S, t, m, e, si, ?_⟩) fun us s1 hh => ?_) he hpl
  · revert g hlen
    cases fs G.C e m with
    | ok ds m1 =>
      intro g hlen S1 H1 t1 p1 i1 vs rs
      have hl : ds.length = 1 := hlen ds m1 rfl
      cases rs with
      | nil => cases hl
      | cons r rr =>
        cases rr with
        | cons _ _ => simp at hl
        | nil =>
          rename_i v d
          refine ⟨v, rfl, fun dx hd => ?_⟩
          obtain ⟨i2, p2⟩ := new_hi (o := .xd [(f, v)]) i1 hd
          exact g S1 H1 t1 p1 i1 _ _ _ _ p2 i2 ⟨C, [f], dx, [v], hX, rfl, rfl, upd_same, .cons (r.stp i1 p2) .nil, rfl⟩
    | exc c' gs m1 => exact fun g _ => g
    | stuck => exact fun g _ => g
  obtain ⟨vs, H1, I1, r1, v, ev, q1⟩ := hh
  subst ev
  refine ⟨I1.kIn, ?_⟩
  cases r1 with
  | cons rv rn =>
    rename_i v' us'
    cases rn
    show wpAny _ _ (call (.ref C) [v']) _ _ _
    have hlim := I1.nolimit
    obtain ⟨mb, hb1, hb2⟩ := I1.ok.mod.blt
    have hG := I1.ok.mod.glob.keeps I1.bk
    have hB := hb1.keeps I1.bk
    obtain ⟨hp, gn, dr, tk, os⟩ := s1
    refine wpAny_call (PySem.DnX.err_made T I1.kIn hlim hG hB (hb2 "super" (by decide)) (by have := hr.dp; omega) fun h' tk' e d M => ?_)
    show L2N.MkP X pins σ Q (.ref e) ⟨h', gn, dr, tk', os⟩
    obtain ⟨oe, fv, hoe, hc, hd, hdat, h1, h2⟩ := M.obj
    have hns := M.ns
    obtain ⟨G', g1, g2⟩ := restrict h' fun b => decide (b ≠ e)
    have gk : ∀ b, b ≠ e → G'.get? b = h'.get? b := fun b hb => g1 b (decide_eq_true hb)
    have ge : G'.get? e = none := g2 e (by simp)
    have old : ∀ b o, hp.get? b = some o → G'.get? b = some o := fun b o q => (gk b (Nat.ne_of_lt (Nat.lt_of_lt_of_le (Heap.lt_size q) M.new))).trans (M.keep b o q)
    have ob : ObjOk X.prog X.w (upd H1 d (.xd [(f, v)])) G' d (.xd [(f, v)]) :=
      ⟨_, hns.at (fun o q => (gk d M.dne).trans q), fun y => relO_one rv y⟩
    have J : Inv X pins σ (upd H1 d (.xd [(f, v)])) ⟨G', gn, dr, tk', os⟩ := I1.laid (t' := tk') old M.dbig ob
    refine ⟨e, oe, fv, ⟨G', gn, dr, tk', os⟩, _, .ref C, some d, rfl, J, fun b o q => ?_, ge, hoe, ⟨hc, hd, fun vs hv => ?_⟩, hdat, h1, ?_, rfl, I1.bare, raises_own T.exC T.tyC, q1 d (I1.hok.fresh M.dbig)⟩
    · by_cases hb : b = e
      · have q' : G'.get? b = some o := q
        rw [hb, ge] at q'; cases q'
      · exact (gk b hb).symm.trans q
    · rw [hdat] at hv
      cases hv
      exact h2
    · rw [upd_ne (Ne.symm M.dne)]
      exact I1.hok.fresh M.new
end
end Dn
namespace Dn
open PySem L2
section
variable {P : Program} {w : World} {K : PySem.W.Frag} {mg : Str → Option Value} {base h : Heap}
/-- an error of the class at S is what «except S» names -/
theorem exm_self {S : Addr} (h1 : PySem.W.subIn K (.ref S) (.type "BaseException") = some true) (h2 : PySem.W.isClsIn K S = true) (h3 : PySem.W.typeIn K (.ref S) = some (.type "type")) (h4 : PySem.W.subIn K (.ref S) (.ref S) = some true) :
    PySem.W.exmOne K (.ref S) (.ref S) = some true := by
  have e1 : (PySem.W.subIn K (.ref S) (.type "BaseException") == some true) = true := by rw [h1] <;> rfl
  have e2 : ((PySem.W.clsIn K S).isSome && PySem.W.typeIn K (.ref S) == some (.type "type")) = true := by
    have h2' : (PySem.W.clsIn K S).isSome = true := h2
    rw [h2', h3] <;> rfl
  show (if (PySem.W.subIn K (.ref S) (.type "BaseException") == some true) = true then (if ((PySem.W.clsIn K S).isSome && PySem.W.typeIn K (.ref S) == some (.type "type")) = true then PySem.W.subIn K (.ref S) (.ref S) else none) else none) = some true
  rw [if_pos e1, if_pos e2]
  exact h4
theorem fun_sta {x : Str} {st : Stmt} {f : Addr} {oc : Value} {od an : Option Addr} {osl : Array (Option Value)} {kV doc pm cdv ct : Value} {ps : List Str} (X : K.In h) (G : h.Ns mainGlobals mg) (a : PySem.W.nsIn K mainGlobals x = some (some (.ref f)))
    (l : K.lookup f = some ⟨oc, od, .func (PySem.W.fnOf x x (defArgs st) (defBody st) (defScope st) .none kV doc pm an cdv ct), osl⟩) (c : PySem.W.codeIn K cdv x = true) (k : PySem.W.keepIn K (.ref f) = true)
    (hb : ∀ (kV doc pm : Value) (an : Option Addr) (cdv ct : Value) (us : List Value), us.length = ps.length → bindArgs (PySem.W.fnOf x x (defArgs st) (defBody st) (defScope st) .none kV doc pm an cdv ct) ⟨us, []⟩ = pure (ps.zip us)) :
    ∃ a fd, Fun K x x st a fd ∧ mg x = some (.ref a) ∧ PySem.W.keepIn K (.ref a) = true ∧ Binds K fd ps [] :=
  ⟨_, _, fun_mk l c k, PySem.W.mg_of X G a, k, (fun_mk l c k).binds hb⟩
/-- what the judge asks of law -/
def spLaw (K : PySem.W.Frag) : Sp := fun vs H Q _ => ∃ (a : Addr) (ns : List Int), vs = [.ref a] ∧ SqL K H a (ns.map V.int) ∧ ns.length ≤ 63 ∧ ∀ H', Q (.bl true) H'
theorem law_ok {T : Tab} {Xs : Nat → Option (Addr × List Str)} {n f : Nat} {a : Addr} {fd : FuncData} {ps : List Str} (F : FnOk P w K mg base (L2N.CX P w) n a fd ps (spD ⟨K, run T n, Xs, none⟩ f 1)) (hp : ps.length = 1)
    (M : ∀ ns : List Int, ns.length ≤ 63 → ∃ m', run T n f [.frz (ns.map D.int)] [] = .ok (.bl true) m') : FnOk P w K mg base (L2N.CX P w) n a fd ps (spLaw K) :=
  ⟨fun vs H Q E ⟨a, ns, e, _⟩ => by subst e; exact hp.symm, fun A outer s H args us vs Q E hr e0 hb r ⟨a, ns, e, hs, hl, q⟩ => F.run A outer s H args us vs Q E hr e0 hb r (by
    subst e
    obtain ⟨m', hm⟩ := M ns hl
    refine ⟨rfl, H, fun _ => none, [], [.frz (ns.map D.int)], only_hi, .cons (frz_v hs) .nil, ?_⟩
    show Gd _ _ _ H H _ (run T n f [.frz (ns.map D.int)] []) _
    rw [hm]
    intro S' H' t' p i v r
    cases r
    exact q H')⟩
theorem cx_no {outer : List PySem.Env} {H : Hp} {s : Shared} {e : Value} {s' : Shared} (z : L2N.CX P w outer H s (fun _ _ _ => False) e s') : False := by
  obtain ⟨_, _, _, _, _, _, _, _, _, _, _, _, z⟩ := z
  exact z
end
end Dn
namespace PySem
namespace DnX
open PySem.W PySem.Calls PyProof.Rows PySem.HandSPX PySem.ESX
theorem sup_of {K : Frag} {C O : Addr} {nm q nm' q' : Str} {N N' : Addr} {bs bs' : List Value} {sn sn' : List Str} {sub sub' : List Value} {ab ab' : Bool} {col col' : Option Bool} {dd dd' : Option Addr} {k0 k1 k2 k3 k5 k0' k1' k2' k3' k5' : Option Value} {hd' : Bool} {nw' : String}
    (hC : K.lookup C = some (excClassObj nm q C N bs (exT2 O) true sn sub ab col dd k0 k1 k2 k3 k5 "Exception.__new__")) (hO : K.lookup O = some (excClassObj nm' q' O N' bs' exTail hd' sn' sub' ab' col' dd' k0' k1' k2' k3' k5' nw'))
    (hf : findIn K (.ref O) "__init__" = some (some (.builtin "Exception.__init__"))) : ks_superIn K C C "__init__" = some (some (.builtin "Exception.__init__")) := by
  obtain ⟨cd, hcl, hm, _⟩ := cls_of hC
  unfold ks_superIn
  rw [hcl, Option.bind_some, hm, drop_own]
  unfold findIn at hf
  dsimp only at hf
  rw [hO] at hf
  exact hf
end DnX
end PySem
/-! For the mirrors: equality, order of plain data. -/
namespace Dn
open PySem L2
theorem eqG_ok {x y : D} {p q : PyData} {m : Store} (hx : toP x = some p) (hy : toP y = some q) (sx : SeqAt.shaped p = true) (sy : SeqAt.shaped q = true) : eqG m x y = some (.bl (PyData.eqv p q)) := by
  unfold eqG twoP
  simp [hx, hy, sx, sy]
theorem neG_ok {x y : D} {p q : PyData} {m : Store} (hx : toP x = some p) (hy : toP y = some q) (sx : SeqAt.shaped p = true) (sy : SeqAt.shaped q = true) : neG m x y = some (.bl (!PyData.eqv p q)) := by
  unfold neG twoP
  simp [hx, hy, sx, sy]
theorem sh_int (i : Int) : SeqAt.shaped (.int i) = true := by simp [SeqAt.shaped, PyData.canLay0, PyData.depth]
theorem sh_bl (i : Bool) : SeqAt.shaped (.bool i) = true := by simp [SeqAt.shaped, PyData.canLay0, PyData.depth]
@[simp] theorem eqG_ii (m : Store) (i j : Int) : eqG m (.int i) (.int j) = some (.bl (decide (i = j))) := by
  rw [eqG_ok (p := .int i) (q := .int j) (by simp [toP]) (by simp [toP]) (sh_int i) (sh_int j)]
  rw [PyData.eqv]
  congr 2
@[simp] theorem neG_ii (m : Store) (i j : Int) : neG m (.int i) (.int j) = some (.bl (!decide (i = j))) := by
  rw [neG_ok (p := .int i) (q := .int j) (by simp [toP]) (by simp [toP]) (sh_int i) (sh_int j)]
  rw [PyData.eqv]
  congr 2
@[simp] theorem eqG_bb (m : Store) (i j : Bool) : eqG m (.bl i) (.bl j) = some (.bl (decide (i = j))) := by
  rw [eqG_ok (p := .bool i) (q := .bool j) (by simp [toP]) (by simp [toP]) (sh_bl i) (sh_bl j)]
  rw [PyData.eqv]
  congr 2
@[simp] theorem neG_bb (m : Store) (i j : Bool) : neG m (.bl i) (.bl j) = some (.bl (!decide (i = j))) := by
  rw [neG_ok (p := .bool i) (q := .bool j) (by simp [toP]) (by simp [toP]) (sh_bl i) (sh_bl j)]
  rw [PyData.eqv]
  congr 2
/-! items that are alike told by a list of α -/
/-- an encoding: its data, one by one -/
structure Enc (α : Type) where
  d : α → D
  p : α → PyData
  to : ∀ a, toP (d a) = some (p a)
  lay : ∀ a, (p a).canLay0 = true
  dep : ∀ a, (p a).depth ≤ 60
  inj : ∀ a b, PyData.eqv (p a) (p b) = true ↔ a = b
section
variable {α : Type} (e : Enc α)
theorem Enc.tos : ∀ l : List α, toPs (l.map e.d) = some (l.map e.p)
  | [] => by simp [toPs]
  | a :: l => by simp [toPs, e.to, Enc.tos l]
theorem Enc.lays : ∀ l : List α, PyData.canLayAll0 (l.map e.p) = true
  | [] => by simp [PyData.canLayAll0]
  | a :: l => by simp [PyData.canLayAll0, e.lay, Enc.lays l]
theorem Enc.deps : ∀ l : List α, PyData.depthAll (l.map e.p) ≤ 60
  | [] => by simp [PyData.depthAll]
  | a :: l => by
    simp only [List.map_cons, PyData.depthAll]
    exact Nat.max_le.mpr ⟨e.dep a, Enc.deps l⟩
theorem Enc.shT (l : List α) : SeqAt.shaped (.tuple (l.map e.p)) = true := by
  have h1 := e.lays l
  have h2 := e.deps l
  simp only [SeqAt.shaped, PyData.canLay0, PyData.depth, Bool.and_eq_true, decide_eq_true_eq]
  exact ⟨h1, decide_eq_true (by omega)⟩
theorem Enc.shL (l : List α) : SeqAt.shaped (.list (l.map e.p)) = true := by
  have h1 := e.lays l
  have h2 := e.deps l
  simp only [SeqAt.shaped, PyData.canLay0, PyData.depth, Bool.and_eq_true, decide_eq_true_eq]
  exact ⟨h1, decide_eq_true (by omega)⟩
theorem Enc.eqs [DecidableEq α] : ∀ a b : List α, PyData.eqvAll (a.map e.p) (b.map e.p) = decide (a = b)
  | [], [] => by simp [PyData.eqvAll]
  | [], _ :: _ => by simp [PyData.eqvAll]
  | _ :: _, [] => by simp [PyData.eqvAll]
  | x :: a, y :: b => by
    simp only [List.map_cons, PyData.eqvAll, Enc.eqs a b]
    by_cases h : x = y
    · have := (e.inj x y).mpr h
      rw [this]; simp [h]
    · have : PyData.eqv (e.p x) (e.p y) = false := by
        cases q : PyData.eqv (e.p x) (e.p y) with
        | false => rfl
        | true => exact absurd ((e.inj x y).mp q) h
      rw [this]; simp [h]
theorem Enc.eqT [DecidableEq α] (m : Store) (a b : List α) : eqG m (.tup (a.map e.d)) (.tup (b.map e.d)) = some (.bl (decide (a = b))) := by
  rw [eqG_ok (p := .tuple (a.map e.p)) (q := .tuple (b.map e.p)) (by simp [toP, e.tos]) (by simp [toP, e.tos]) (e.shT a) (e.shT b)]
  simp [PyData.eqv, e.eqs]
theorem Enc.neT [DecidableEq α] (m : Store) (a b : List α) : neG m (.tup (a.map e.d)) (.tup (b.map e.d)) = some (.bl (!decide (a = b))) := by
  rw [neG_ok (p := .tuple (a.map e.p)) (q := .tuple (b.map e.p)) (by simp [toP, e.tos]) (by simp [toP, e.tos]) (e.shT a) (e.shT b)]
  simp [PyData.eqv, e.eqs]
theorem Enc.eqL [DecidableEq α] (m : Store) (a b : List α) : eqG m (.lst (a.map e.d)) (.lst (b.map e.d)) = some (.bl (decide (a = b))) := by
  rw [eqG_ok (p := .list (a.map e.p)) (q := .list (b.map e.p)) (by simp [toP, e.tos]) (by simp [toP, e.tos]) (e.shL a) (e.shL b)]
  simp [PyData.eqv, e.eqs]
theorem Enc.neL [DecidableEq α] (m : Store) (a b : List α) : neG m (.lst (a.map e.d)) (.lst (b.map e.d)) = some (.bl (!decide (a = b))) := by
  rw [neG_ok (p := .list (a.map e.p)) (q := .list (b.map e.p)) (by simp [toP, e.tos]) (by simp [toP, e.tos]) (e.shL a) (e.shL b)]
  simp [PyData.eqv, e.eqs]
theorem Enc.eqF [DecidableEq α] (m : Store) (a b : List α) : eqG m (.frz (a.map e.d)) (.lst (b.map e.d)) = some (.bl (decide (a = b))) := by
  rw [eqG_ok (p := .list (a.map e.p)) (q := .list (b.map e.p)) (by simp [toP, e.tos]) (by simp [toP, e.tos]) (e.shL a) (e.shL b)]
  simp [PyData.eqv, e.eqs]
theorem Enc.inL [DecidableEq α] (m : Store) (x : α) (b : List α) (h : ∀ z, e.d x ≠ .str z) : inG m (e.d x) (.lst (b.map e.d)) = some (.bl (decide (x ∈ b))) := by
  have hs : SeqAt.shaped (e.p x) = true := by
    have h1 := e.lay x
    have h2 := e.dep x
    simp only [SeqAt.shaped, Bool.and_eq_true, decide_eq_true_eq]
    exact ⟨h1, by omega⟩
  have : ∀ b : List α, (b.map e.p).any (fun z => PyData.eqv z (e.p x)) = decide (x ∈ b) := by
    intro b
    induction b with
    | nil => simp
    | cons y b ih =>
      rw [List.map_cons, List.any_cons, ih]
      by_cases q : y = x
      · subst q; have := (e.inj y y).mpr rfl; rw [this]; simp
      · have z : PyData.eqv (e.p y) (e.p x) = false := by
          cases r : PyData.eqv (e.p y) (e.p x) with
          | false => rfl
          | true => exact absurd ((e.inj y x).mp r) q
        rw [z]
        have : x ≠ y := fun w => q w.symm
        simp [this]
  unfold inG
  split
  · rename_i w _; exact absurd w (h _)
  · unfold twoP
    simp only [e.to, toP, e.tos, Option.map_some, hs, e.shL, Bool.and_self, if_true, Option.bind_some]
    unfold Dn.inL
    simp [this]
/-- sorting -/
theorem Enc.sort (l : List α) (le : α → α → Bool) (hl : l.length ≤ LIM) (hle : ∀ a b, PySem.W.dataLe false encD (e.d a) (e.d b) = le a b) (hal : ∀ a b, PySem.W.alike (e.p a) (e.p b) = true) (hk : (∀ a, isTup1 (e.p a) = true) ∨ ∀ a, noTup (e.p a) = true) :
    sortOk (l.map e.d) = true ∧ sortedD (l.map e.d) = (l.mergeSort le).map e.d := by
  have en : ∀ a, encD (e.d a) = e.p a := fun a => by unfold encD; rw [e.to]; rfl
  refine ⟨?_, ?_⟩
  · unfold sortOk
    simp only [List.length_map, List.all_map, Bool.and_eq_true, Bool.or_eq_true, List.all_eq_true, decide_eq_true_eq, Function.comp, e.to, Option.isSome_some, true_and, en]
    refine ⟨⟨⟨hl, fun a _ => e.dep a⟩, fun a _ b hb => hal _ _⟩, ?_⟩
    rcases hk with hk | hk
    · exact .inl fun a _ => hk a
    · exact .inr fun a _ => hk a
  · unfold sortedD leD
    rw [List.map_mergeSort (r := le)]
    intro a _ b _
    exact (hle a b).symm
end
theorem eqv_int (i j : Int) : PyData.eqv (.int i) (.int j) = true ↔ i = j := by simp [PyData.eqv]
def encI : Enc Int := ⟨.int, .int, fun a => by simp [toP], fun a => by simp [PyData.canLay0], fun a => by simp [PyData.depth], eqv_int⟩
def encB : Enc Bool := ⟨.bl, .bool, fun a => by simp [toP], fun a => by simp [PyData.canLay0], fun a => by simp [PyData.depth], fun a b => by simp [PyData.eqv]⟩
def encP : Enc (Int × Int) := ⟨fun p => .tup [.int p.1, .int p.2], fun p => .tuple [.int p.1, .int p.2], fun a => by simp [toP, toPs], fun a => by simp [PyData.canLay0, PyData.canLayAll0], fun a => by simp [PyData.depth, PyData.depthAll], fun a b => by
  simp only [PyData.eqv, PyData.eqvAll, Bool.and_true, Bool.and_eq_true, beq_iff_eq]
  exact ⟨fun h => Prod.ext h.1 h.2, fun h => by subst h; exact ⟨rfl, rfl⟩⟩⟩
/-- pairs by the first, then the second -/
def leP (p q : Int × Int) : Bool := decide (p.1 < q.1 ∨ (p.1 = q.1 ∧ p.2 ≤ q.2))
theorem sort_pairs (l : List (Int × Int)) (hl : l.length ≤ LIM) : sortOk (l.map encP.d) = true ∧ sortedD (l.map encP.d) = (l.mergeSort leP).map encP.d := by
  refine encP.sort l leP hl (fun a b => ?_) (fun a b => ?_) (.inl fun a => rfl)
  · have h := congrFun (congrFun (PySem.W.dataLe_ii (β := Int × Int) (·.1) (·.2)) a) b
    have en : ∀ a : Int × Int, encD (encP.d a) = .tuple [.int a.1, .int a.2] := fun a => by unfold encD; rw [encP.to]; rfl
    have e : PySem.W.dataLe false encD (encP.d a) (encP.d b) = PySem.W.dataLe false (fun b : Int × Int => PyData.tuple [.int b.1, .int b.2]) a b := by
      rw [PySem.W.dataLe_eq, PySem.W.dataLe_eq]
      show cond false _ (!PySem.W.dataLt (encD (encP.d b)) (encD (encP.d a))) = cond false _ (!PySem.W.dataLt _ _)
      rw [en, en]
    rw [e]
    exact h
  · show PySem.W.alike (.tuple [.int a.1, .int a.2]) (.tuple [.int b.1, .int b.2]) = true
    simp [PySem.W.alike, PySem.W.alikeAll]
theorem sort_ints (l : List Int) (hl : l.length ≤ LIM) : sortOk (l.map encI.d) = true ∧ sortedD (l.map encI.d) = (l.mergeSort fun a b => decide (a ≤ b)).map encI.d := by
  refine encI.sort l _ hl (fun a b => ?_) (fun a b => ?_) (.inr fun a => rfl)
  · have h := congrFun (congrFun (PySem.W.dataLe_int (β := Int) id) a) b
    have en : ∀ a : Int, encD (encI.d a) = .int a := fun a => by unfold encD; rw [encI.to]; rfl
    have e : PySem.W.dataLe false encD (encI.d a) (encI.d b) = PySem.W.dataLe false (fun b : Int => PyData.int (id b)) a b := by
      rw [PySem.W.dataLe_eq, PySem.W.dataLe_eq]
      show cond false _ (!PySem.W.dataLt (encD (encI.d b)) (encD (encI.d a))) = cond false _ (!PySem.W.dataLt _ _)
      rw [en, en]; rfl
    rw [e]
    exact h
  · show PySem.W.alike (.int a) (.int b) = true
    simp [PySem.W.alike]
end Dn
namespace Dn
open PySem L2
theorem lcL_map {α : Type} {C : Orc} {g : Tg} {tt : EvT} {te : EvE} {e : Env} {m : Store} {f h : α → D} {keep : α → Bool} : ∀ {l : List α}, (∀ x ∈ l, ∃ e1, asg g (f x) e = some e1 ∧ tt C e1 m = .ok (keep x) m ∧ (keep x = true → te C e1 m = .ok (h x) m)) →
    lcL C g tt te e (l.map f) m = .ok ((l.filter keep).map h) m
  | [], _ => by simp [lcL]
  | x :: l, H => by
    obtain ⟨e1, h1, h2, h3⟩ := H x List.mem_cons_self
    have ih := lcL_map (l := l) fun y hy => H y (List.mem_cons_of_mem _ hy)
    rw [List.map_cons]
    unfold lcL
    rw [h1]
    dsimp only
    rw [h2]
    cases hk : keep x with
    | true =>
      simp only [noX_ok, R.bind_ok, if_true, h3 hk, ih]
      rw [List.filter_cons_of_pos hk, List.map_cons]
    | false =>
      simp only [noX_ok, R.bind_ok, Bool.false_eq_true, if_false, ih]
      rw [List.filter_cons_of_neg (by simp [hk])]
theorem lcL_all {α : Type} {C : Orc} {g : Tg} {te : EvE} {e : Env} {m : Store} {f h : α → D} {l : List α} (H : ∀ x ∈ l, ∃ e1, asg g (f x) e = some e1 ∧ te C e1 m = .ok (h x) m) : lcL C g yesT te e (l.map f) m = .ok (l.map h) m := by
  rw [lcL_map (keep := fun _ => true) (h := h) fun x hx => ?_]
  · rw [List.filter_eq_self.mpr fun _ _ => rfl]
  · obtain ⟨e1, h1, h2⟩ := H x hx
    exact ⟨e1, h1, rfl, fun _ => h2⟩
theorem toInts_map {α : Type} (f : α → Int) : ∀ l : List α, toInts (l.map fun x => D.int (f x)) = some (l.map f)
  | [] => rfl
  | x :: l => by simp [toInts, toInts_map f l]
theorem toBls_map {α : Type} (f : α → Bool) : ∀ l : List α, toBls (l.map fun x => D.bl (f x)) = some (l.map f)
  | [] => rfl
  | x :: l => by simp [toBls, toBls_map f l]
end Dn
/-! Instances of the program's own classes: made, their fields, their methods. -/
namespace Dn
open PySem L2

/-- what is known of a class of the text -/
structure ClsT (K : PySem.W.Frag) (mg : Str → Option Value) (c : Str) (C : Addr) : Prop where
  at_ : cAt K c = some C
  g : mg c = some (.ref C)
  cls : Cls K C
/-- the class and the fields of an instance -/
@[simp] def insG (m : Store) : D → Option (Str × List (Str × D))
  | .ref n => match m[n]? with
    | some (.ins c fs) => some (c, fs)
    | _ => none
  | .ins c fs => some (c, fs)
  | _ => none
@[simp] def fldG (c f : Str) (m : Store) (d : D) : Option D := match insG m d with
  | some (c', fs) => if c' = c then fs.lookup f else none
  | none => none
@[simp] def fldE (c f : Str) (a : EvE) : EvE := una (fldG c f) a
theorem insAt {K : PySem.W.Frag} {S H : Hp} {t : Th} {m : Store} {v : V} {d : D} {c : Str} {fs : List (Str × D)} (i : HI K S H t m) (r : DR K S t v d) (h : insG m d = some (c, fs)) :
    ∃ a C dx vs, v = .ref a ∧ cAt K c = some C ∧ H a = some (.ins C dx vs) ∧ FRs K S t vs fs := by
  cases r with
  | @ref n a hn =>
    unfold insG at h
    dsimp only at h
    split at h
    · rename_i c' fs' hm
      cases h
      obtain ⟨a', C, dx, vs, h1, h2, h3, h4⟩ := i.sti _ _ _ hm
      rw [hn] at h1
      cases h1
      exact ⟨a, C, dx, vs, rfl, h2, h3, h4⟩
    · cases h
  | ins hc hS hf => cases h; exact ⟨_, _, _, _, rfl, hc, i.sub _ _ hS, hf⟩
  | _ => cases h

/-! ### making and calling, where errors are told by the slots -/
section
variable {X : Cx} {CX : CXT} {k : Nat} {f C : Addr} {fd : FuncData} {ps : List Str} {sp : Sp} {E : St → XK} {x mn : Str} {p pos apos : Pos} {e o : Expr} {es : List Expr} {ta : TE} {t : TA}
theorem run_makeS {pins : List (Addr × Obj)} {σ : St} {H : Hp} {s : Shared} {Q : VK} {us : List Value} {vs : List V} (M : Mk X.K C f) (F : FnOk X.prog X.w X.K X.mg X.base CX k f fd ps sp) (hr : Room (k + 1) X.A ∨ ∀ vs H Q E, ¬ sp vs H Q E) (hb : Binds X.K fd ps [])
    (hx : PassesAt CX X σ (E σ)) (I : Inv X pins σ H s) (r : Vals vs us)
    (h : ∀ x dx, H x = none → H dx = none → dx ≠ x → sp (.ref x :: vs) (upd (upd H dx (.own x)) x (.ins C dx [])) (fun v H2 => v = .non ∧ Q (.ref x) H2) (E σ)) :
    wpAny (model X.prog X.w) X.A (call (.ref C) us) (EP X pins σ Q) X.xe s := by
  have hq := h (s.heap.objs.size + 1) s.heap.objs.size (I.hok.fresh (Nat.le_succ _)) (I.hok.fresh (Nat.le_refl _)) (Nat.ne_of_lt (Nat.lt_succ_self _))
  have I2 := Inv.made (C := C) I
  have hr : Room (k + 1) X.A := hr.elim id fun z => absurd hq (z _ _ _ _)
  have r2 : Vals (V.ref (s.heap.objs.size + 1) :: vs) (Value.ref (s.heap.objs.size + 1) :: us) := .cons rfl r
  have hl : (Value.ref (s.heap.objs.size + 1) :: us).length = ps.length := by
    have e := r2.length
    rw [F.len _ _ _ _ hq] at e
    exact e.symm
  have b := hb _ (Value.ref (s.heap.objs.size + 1) :: us) I2.kIn (by rw [List.append_nil]; exact hl)
  rw [List.append_nil] at b
  refine wpAny_call (make_map (f := f) I.kIn M.makes M.init (beq_iff_eq.mp M.fn) (codeAny_mono (F.run _ X.stack _ _ ⟨Value.ref (s.heap.objs.size + 1) :: us, []⟩ (Value.ref (s.heap.objs.size + 1) :: us) _ _ (E σ) (hr.make C us [])
    (I2.env0.make C us []) b r2 hq) fun r s' hq' => ?_))
  cases r with
  | error e => exact hx pins _ _ e s' I2 hq'
  | ok fl =>
    cases fl with
    | ret u =>
      obtain ⟨v, H', I3, rv, ev, q3⟩ := I2.after hq'
      subst ev
      exact ⟨rv, ⟨V.ref (s.heap.objs.size + 1), H', I3, rfl, q3⟩⟩
    | next => exact False.elim hq'
    | brk => exact False.elim hq'
    | cont => exact False.elim hq'
def tMakeS (C : Addr) (sp : Sp) (E : St → XK) (t : TA) : TE := fun σ H Q => t σ H fun vs H1 => ∀ x dx, H1 x = none → H1 dx = none → dx ≠ x →
  sp (.ref x :: vs) (upd (upd H1 dx (.own x)) x (.ins C dx [])) (fun v H2 => v = .non ∧ Q (.ref x) H2) (E σ)
theorem pe_makeS (M : Mk X.K C f) (F : FnOk X.prog X.w X.K X.mg X.base CX k f fd ps sp) (hr : Room (k + 1) X.A ∨ ∀ vs H Q E, ¬ sp vs H Q E) (hg : Gl X x) (hm : X.mg x = some (.ref C)) (hb : Binds X.K fd ps []) (hx : ∀ σ, PassesAt CX X σ (E σ))
    (ha : PA X (e :: es) t) (hdb : (x == ("__debug__" : Str)) = false := by decide) (he : starEach (e :: es) X.env = (false, eval e X.env) :: starEach es X.env := by rfl) (hpl : (backTo pos (starEach es X.env)).any (·.1) = false := by rfl) :
    PE X (.Call (.Name x p) (e :: es) [] pos) (tMakeS C sp E t) := by
  refine ⟨fun pins s σ H Q I h => ?_⟩
  refine wpAny_Call_Name_kw (ld_glob I hg hm ?_ hdb)
  refine PySem.W.callWith_K (h₀ := X.base) I.ok.mod.kin M.kp (thn (ha.run pos pins s σ H _ I h) fun us s1 ⟨vs, H1, I1, r, q⟩ => ⟨I1.kIn, ?_⟩) he hpl
  exact run_makeS M F hr hb (hx σ) I1 r q
theorem pe_makeS0 (M : Mk X.K C f) (F : FnOk X.prog X.w X.K X.mg X.base CX k f fd ps sp) (hr : Room (k + 1) X.A ∨ ∀ vs H Q E, ¬ sp vs H Q E) (hg : Gl X x) (hm : X.mg x = some (.ref C)) (hb : Binds X.K fd ps []) (hx : ∀ σ, PassesAt CX X σ (E σ))
    (hdb : (x == ("__debug__" : Str)) = false := by decide) : PE X (.Call (.Name x p) [] [] pos) (tMakeS C sp E tNil) := by
  refine ⟨fun pins s σ H Q I h => ?_⟩
  refine wpAny_Call_Name_kw (ld_glob I hg hm ?_ hdb)
  exact PySem.W.callWith_K0 I.kIn M.kp (run_makeS (us := []) M F hr hb (hx σ) I .nil h)
def tMethS' (C : Addr) (m : Str) (sp : Sp) (E : St → XK) (ta : TE) (t : TA) : TE := fun σ H Q => ta σ H fun x H1 => ∃ a dx fs, x = .ref a ∧ H1 a = some (.ins C dx fs) ∧ fs.lookup m = none ∧ t σ H1 fun vs H2 => sp (x :: vs) H2 Q (E σ)
theorem pe_methS' {pl : Sem Bool} (he : PE X o ta) (c : Cls X.K C) (hm : Meth X.K C mn f) (F : FnOk X.prog X.w X.K X.mg X.base CX k f fd ps sp) (hr : Room k X.A) (hb : Binds X.K fd ps []) (hx : ∀ σ, PassesAt CX X σ (E σ)) (ha : PA X (e :: es) t)
    (hst : starEach (e :: es) X.env = (false, eval e X.env) :: starEach es X.env := by rfl) (hpl : (backTo pos (starEach es X.env)).any (·.1) = false := by rfl)
    (ht : eval (.Call (.Attribute o mn apos) (e :: es) [] pos) X.env = (do
      let ov ← eval o X.env
      standAt apos.atName
      let (f, first) ← holding [ov] (getMethod ov mn pl)
      callWith pos f first (backTo pos (starEach (e :: es) X.env)) (backToKw pos (keywordEach [] X.env))) := by rfl) :
    PE X (.Call (.Attribute o mn apos) (e :: es) [] pos) (tMethS' C mn sp E ta t) := by
  refine ⟨fun pins s σ H Q I h => ?_⟩
  refine PySem.W.methodCall_KW (pl := pl) (thn (he.run pins s σ H _ I h) fun u s1 ⟨x, H1, I1, rx, a, dx, fs, ex, ea, l, q⟩ => ?_) ht
  subst ex
  obtain rfl : u = Value.ref a := rx
  refine getmeth_ok I1 ea c hm l ?_
  refine PySem.W.callWith_K (first := [.ref a]) (h₀ := X.base) I.ok.mod.kin hm.kp (thn (ha.run pos pins s1 σ H1 _ I1 q) fun us s2 ⟨vs, H2, I2, r, q2⟩ => ⟨I2.kIn, ?_⟩) hst hpl
  exact run_fnS (us := .ref a :: us) (vs := .ref a :: vs) F hr hb (hx σ) I2 (.cons rfl r) q2
theorem pe_methS0 {pl : Sem Bool} (he : PE X o ta) (c : Cls X.K C) (hm : Meth X.K C mn f) (F : FnOk X.prog X.w X.K X.mg X.base CX k f fd ps sp) (hr : Room k X.A) (hb : Binds X.K fd ps []) (hx : ∀ σ, PassesAt CX X σ (E σ))
    (ht : eval (.Call (.Attribute o mn apos) [] [] pos) X.env = (do
      let ov ← eval o X.env
      standAt apos.atName
      let (f, first) ← holding [ov] (getMethod ov mn pl)
      callWith pos f first (backTo pos (starEach [] X.env)) (backToKw pos (keywordEach [] X.env))) := by rfl) :
    PE X (.Call (.Attribute o mn apos) [] [] pos) (tMethS' C mn sp E ta tNil) := by
  refine ⟨fun pins s σ H Q I h => ?_⟩
  refine PySem.W.methodCall_KW (pl := pl) (thn (he.run pins s σ H _ I h) fun u s1 ⟨x, H1, I1, rx, a, dx, fs, ex, ea, l, q⟩ => ?_) ht
  subst ex
  obtain rfl : u = Value.ref a := rx
  refine getmeth_ok I1 ea c hm l ?_
  exact PySem.W.callWith_K0 (first := [.ref a]) I1.kIn hm.kp (run_fnS (us := [.ref a]) (vs := [.ref a]) F hr hb (hx σ) I1 (.cons rfl .nil) q)
end

/-! ### by data -/
/-- a new instance goes into the store, then __init__ (f) -/
@[simp] def newE (c : Str) (f : Nat) (a : EvA) : EvE := fun C e m => (a C e m).bind fun xs m1 => (C f (.ref m1.length :: xs) (m1 ++ [.ins c []])).bind fun d m2 => match d with
  | .non => .ok (.ref m1.length) m2
  | _ => .stuck
/-- o.m(..), f the method's def -/
@[simp] def metE (c nm : Str) (f : Nat) (o : EvE) (a : EvA) : EvE := fun C e m => (o C e m).bind fun d m1 => match insG m1 d with
  | some (c', fs) => if c' = c ∧ fs.lookup nm = none then (a C e m1).bind fun xs m2 => C f (d :: xs) m2 else .stuck
  | none => .stuck
/-- o.f = e -/
@[simp] def fldS (c f : Str) (o a : EvE) : EvS := fun C e m => liftS (a C e m) e fun d m1 => liftS (o C e m1) e fun w m2 => match w with
  | .ref n => match m2[n]? with
    | some (.ins c' fs) => if c' = c ∧ fs.length < 1000 then .nx e (m2.set n (.ins c (putD f d fs))) else .stuck
    | _ => .stuck
  | _ => .stuck
/-- o.f op= e -/
@[simp] def fldAugS (g : Store → D → D → Option D) (c f : Str) (o a : EvE) : EvS := fun C e m => liftS (o C e m) e fun w m1 => match fldG c f m1 w with
  | some x => liftS (a C e m1) e fun d m2 => match g m2 x d with
    | some z => match w with
      | .ref n => match m2[n]? with
        | some (.ins c' fs) => if c' = c ∧ fs.length < 1000 then .nx e (m2.set n (.ins c (putD f z fs))) else .stuck
        | _ => .stuck
      | _ => .stuck
    | none => .stuck
  | none => .stuck

section
variable {X : Cx} {G : Cfg} {W : WX} {E : Snap} {a b o : Expr} {es : List Expr} {fa fo : EvE} {fs : EvA} {pos pos' apos p : Pos} {c f mn : Str} {C : Addr}
theorem de_fld (T : ClsT X.K X.mg c C) (n : NoAttr X.K C f) (hK : X.K = G.K) (ha : PE X a (semE G W fa)) (hb : attributeBase a f X.env (eval a X.env) = eval a X.env := by rfl) : PE X (.Attribute a f pos) (semE G W (fldE c f fa)) := by
  refine (pe_fld ha hb).imp fun σ H Q ⟨S, t, m, e, si, g⟩ => ⟨S, t, m, e, si, (Gd.sp g).imp fun S1 H1 t1 m1 d p1 i1 h1 v rv => ?_⟩
  unfold fldG at h1
  cases hi : insG m1 d with
  | none => rw [hi] at h1; exact h1.elim
  | some z =>
    obtain ⟨c', fl⟩ := z
    rw [hi] at h1
    dsimp only at h1
    split at h1
    · rename_i hc
      subst hc
      obtain ⟨ad, C', dx, vs, rfl, h2, h3, h4⟩ := insAt i1 rv hi
      have hC : C' = C := by
        have z := T.at_
        rw [hK, h2] at z
        exact Option.some.inj z
      subst hC
      cases hl : fl.lookup f with
      | none => rw [hl] at h1; exact h1.elim
      | some y =>
        rw [hl] at h1
        obtain ⟨u, u1, u2⟩ := h4.lookup hl
        exact ⟨ad, C', dx, vs, u, rfl, h3, T.cls, n, u1, Gd.now h1 i1 u u2⟩
    · exact h1.elim
theorem ds_fld (T : ClsT X.K X.mg c C) (n : NoAttr X.K C f) (hK : X.K = G.K) (ho : PE X o (semE G W fo)) (ha : PE X a (semE G W fa)) (hs : swapsWith a (some (.Attribute o f pos')) pos.line X.env = pure false := by rfl) :
    PS X (.Assign [.Attribute o f pos'] a pos) (semS G W E (fldS c f fo fa)) := by
  refine (ps_fld ho ha hs).imp fun D σ H ⟨S, t, m, e, sf, h⟩ => ⟨S, t, m, e, sf.si, (GS.lift sf h).imp fun S1 H1 t1 m1 d p1 i1 h1 v rv => ?_⟩
  have sf1 := sf.stp p1 i1
  refine ⟨S1, t1, m1, e, sf1.si, (GS.lift sf1 h1).imp fun S2 H2 t2 m2 w p2 i2 h2 u ru => ?_⟩
  have sf2 := sf1.stp p2 i2
  cases ru with
  | @ref n' ad hn =>
    dsimp only at h2
    split at h2
    · rename_i c' fl hm
      split at h2
      · rename_i hc
        obtain ⟨hc, hlen⟩ := hc
        subst hc
        obtain ⟨a', C', dx, vs, e1, e2, e3, e4⟩ := i2.sti _ _ _ hm
        rw [hn] at e1
        cases e1
        have hC : C' = C := by
          have z := T.at_
          rw [hK, e2] at z
          exact Option.some.inj z
        subst hC
        obtain ⟨i3, p3⟩ := sto_ob (o := .ins c' (putD f d fl)) i2 hn hm (by simp) (.ins (dx := dx) e2 (e4.put (rv.stp i1 p2)))
        exact ⟨ad, C', dx, vs, rfl, e3, T.cls, n, by rw [e4.length]; exact hlen, h2 _ _ _ _ (sf2.stp p3 i3)⟩
      · exact h2.elim
    · exact h2.elim
  | _ => exact h2.elim
theorem ds_fldAug {op : Operator} {gg : Store → D → D → Option D} (T : ClsT X.K X.mg c C) (n : NoAttr X.K C f) (hp : OpD X (inplaceOp op) gg) (hK : X.K = G.K) (ho : PE X o (semE G W fo)) (ha : PE X a (semE G W fa)) :
    PS X (.AugAssign (.Attribute o f pos') op a pos) (semS G W E (fldAugS gg c f fo fa)) := by
  obtain ⟨r, r1, r2⟩ := hp
  refine (ps_fldaug (rd := r) ho ha fun pins s σ H x y u v Q I rx ry h => r1 pins s σ H x y u v Q I rx ry h).imp fun D σ H ⟨S, t, m, e, sf, h⟩ => ⟨S, t, m, e, sf.si, (GS.lift sf h).imp fun S1 H1 t1 m1 w p1 i1 h1 v rv => ?_⟩
  have sf1 := sf.stp p1 i1
  have cC : ∀ {C'}, cAt G.K c = some C' → C' = C := fun h2 => by
    have z := T.at_
    rw [hK, h2] at z
    exact Option.some.inj z
  cases hx : fldG c f m1 w with
  | none => rw [hx] at h1; exact h1.elim
  | some x =>
    rw [hx] at h1
    dsimp only at h1
    unfold fldG at hx
    cases hi : insG m1 w with
    | none => rw [hi] at hx; cases hx
    | some z =>
      obtain ⟨c', fl⟩ := z
      rw [hi] at hx
      dsimp only at hx
      split at hx
      · rename_i hc
        subst hc
        obtain ⟨ad, C', dx, vs, rfl, h2, h3, h4⟩ := insAt i1 rv hi
        obtain rfl := cC h2
        obtain ⟨u, u1, u2⟩ := h4.lookup hx
        refine ⟨ad, C', dx, vs, u, rfl, h3, T.cls, n, u1, S1, t1, m1, e, sf1.si, (GS.lift sf1 h1).imp fun S2 H2 t2 m2 d p2 i2 h5 y ry => ?_⟩
        have sf2 := sf1.stp p2 i2
        cases hz : gg m2 x d with
        | none => rw [hz] at h5; exact h5.elim
        | some z =>
          rw [hz] at h5
          dsimp only at h5
          refine r2 S2 H2 t2 m2 u y x d z _ (hK ▸ i2) (hK ▸ .inl (u2.stp i1 p2)) (hK ▸ .inl ry) hz fun zz S3 H3 p3 i3 rz => ?_
          have i3 : HI G.K S3 H3 t2 m2 := hK ▸ i3
          have sf3 := sf2.stp p3 i3
          have rv3 := (rv.stp i1 p2).stp i2 p3
          cases rv3 with
          | @ref n' ad hn =>
            dsimp only at h5
            split at h5
            · rename_i c'' fl' hm
              split at h5
              · rename_i hc
                obtain ⟨hc, hlen⟩ := hc
                subst hc
                obtain ⟨a', C'', dx', vs', e1, e2, e3, e4⟩ := i3.sti _ _ _ hm
                rw [hn] at e1
                cases e1
                obtain rfl := cC e2
                obtain ⟨i4, p4⟩ := sto_ob (o := .ins c'' (putD f z fl')) i3 hn hm (by simp) (.ins (dx := dx') e2 (e4.put (hK ▸ rz)))
                exact ⟨dx', vs', e3, by rw [e4.length]; exact hlen, h5 _ _ _ _ (sf3.stp p4 i4)⟩
              · exact h5.elim
            · exact h5.elim
          | _ => exact h5.elim
      · cases hx

/-- a method of the text -/
structure Mth (P : Program) (w : World) (K : PySem.W.Frag) (mg : Str → Option Value) (base : Heap) (G : Cfg) (n f np : Nat) (C : Addr) (x : Str) : Prop where
  ok : ∃ (a : Addr) (fd : FuncData) (ps : List Str), FnOk P w K mg base (L2N.CX P w) n a fd ps (spD G f np) ∧ Meth K C x a ∧ Binds K fd ps []
/-- its __init__ -/
structure Ini (P : Program) (w : World) (K : PySem.W.Frag) (mg : Str → Option Value) (base : Heap) (G : Cfg) (n f np : Nat) (C : Addr) : Prop where
  ok : ∃ (j : Nat) (a : Addr) (fd : FuncData) (ps : List Str), FnOk P w K mg base (L2N.CX P w) j a fd ps (spD G f np) ∧ Mk K C a ∧ Binds K fd ps [] ∧ (j + 1 ≤ n ∨ ∀ vs H Q E, ¬ spD G f np vs H Q E)
theorem met_use {fs : EvA} {np f : Nat} (T : ClsT X.K X.mg c C) (hK : X.K = G.K) {σ : St} {H : Hp} {Q : VK} (np_ok : lenA fs np) (h : semE G W (metE c mn f fo fs) σ H Q) : tMethS' C mn (spD G f (np + 1)) (WE W) (semE G W fo) (semA G W fs) σ H Q := by
  obtain ⟨S, t, m, e, si, h⟩ := h
  refine ⟨S, t, m, e, si, (Gd.sp h).imp fun S1 H1 t1 m1 d p1 i1 h1 v rv => ?_⟩
  cases hi : insG m1 d with
  | none => rw [hi] at h1; exact h1.elim
  | some z =>
    obtain ⟨c', fl⟩ := z
    rw [hi] at h1
    dsimp only at h1
    split at h1
    · rename_i hc
      obtain ⟨hc, hl⟩ := hc
      subst hc
      obtain ⟨ad, C', dx, vs, rfl, h2, h3, h4⟩ := insAt i1 rv hi
      obtain rfl : C' = C := by
        have z := T.at_
        rw [hK, h2] at z
        exact Option.some.inj z
      refine ⟨ad, dx, vs, rfl, h3, h4.lookup_none hl, S1, t1, m1, e, si.stp p1 i1, ?_⟩
      have k := np_ok G.C e m1
      revert h1 k
      cases fs G.C e m1 with
      | ok ys m2 =>
        intro h1 k S2 H2 t2 q i vs rs
        refine ⟨by simp [rs.length, k ys m2 rfl], S2, t2, m2, d :: ys, i, .cons (rv.stp i1 q) rs, ?_⟩
        have h' := Gd.from q h1
        revert h'
        show Gd G W σ S2 H2 t2 (G.C f (d :: ys) m2) _ → _
        cases G.C f (d :: ys) m2 with
        | ok d m3 => exact id
        | exc c gs m3 => exact id
        | stuck => exact id
      | exc c fs m' => exact fun h _ => h
      | stuck => exact fun h _ => h
    · exact h1.elim
theorem de_met {fs : EvA} {np n f : Nat} {pl : Sem Bool} (T : ClsT X.K X.mg c C) (F : Mth X.prog X.w X.K X.mg X.base G n f (np + 1) C mn) (hr : Room n X.A) (tk : L2N.Takes X W) (hK : X.K = G.K) (ho : PE X o (semE G W fo)) (ha : PA X (a :: es) (semA G W fs)) (hn : lenA fs np)
    (hst : starEach (a :: es) X.env = (false, eval a X.env) :: starEach es X.env := by rfl) (hpl : (backTo pos (starEach es X.env)).any (·.1) = false := by rfl)
    (ht : eval (.Call (.Attribute o mn apos) (a :: es) [] pos) X.env = (do
      let ov ← eval o X.env
      standAt apos.atName
      let (f, first) ← holding [ov] (getMethod ov mn pl)
      callWith pos f first (backTo pos (starEach (a :: es) X.env)) (backToKw pos (keywordEach [] X.env))) := by rfl) : PE X (.Call (.Attribute o mn apos) (a :: es) [] pos) (semE G W (metE c mn f fo fs)) := by
  obtain ⟨ad, fd, ps, F, hm, hb⟩ := F.ok
  exact (pe_methS' (pl := pl) ho T.cls hm F hr hb (fun σ => L2N.passAt tk σ) ha hst hpl ht).imp fun σ H Q h => met_use T hK hn h
theorem de_met0 {n f : Nat} {pl : Sem Bool} (T : ClsT X.K X.mg c C) (F : Mth X.prog X.w X.K X.mg X.base G n f 1 C mn) (hr : Room n X.A) (tk : L2N.Takes X W) (hK : X.K = G.K) (ho : PE X o (semE G W fo))
    (ht : eval (.Call (.Attribute o mn apos) [] [] pos) X.env = (do
      let ov ← eval o X.env
      standAt apos.atName
      let (f, first) ← holding [ov] (getMethod ov mn pl)
      callWith pos f first (backTo pos (starEach [] X.env)) (backToKw pos (keywordEach [] X.env))) := by rfl) : PE X (.Call (.Attribute o mn apos) [] [] pos) (semE G W (metE c mn f fo nilA)) := by
  obtain ⟨ad, fd, ps, F, hm, hb⟩ := F.ok
  refine (pe_methS0 (pl := pl) ho T.cls hm F hr hb (fun σ => L2N.passAt tk σ) ht).imp fun σ H Q h => ?_
  obtain ⟨S, t, m, e, si, g⟩ := met_use (np := 0) T hK lenA_nil h
  refine ⟨S, t, m, e, si, g.imp fun S1 H1 t1 m1 d p1 i1 h1 v rv => ?_⟩
  obtain ⟨ad, dx, fl, e1, e2, e3, S2, t2, m2, e', si2, g2⟩ := h1 v rv
  exact ⟨ad, dx, fl, e1, e2, e3, g2 _ _ _ .refl si2.hi [] .nil⟩
theorem new_use {fs : EvA} {np f : Nat} (T : ClsT X.K X.mg c C) (hK : X.K = G.K) {σ : St} {H : Hp} {Q : VK} (np_ok : lenA fs np) (h : semE G W (newE c f fs) σ H Q) : tMakeS C (spD G f (np + 1)) (WE W) (semA G W fs) σ H Q := by
  obtain ⟨S, t, m, e, si, h⟩ := h
  refine ⟨S, t, m, e, si, ?_⟩
  have k := np_ok G.C e m
  unfold newE at h
  revert h k
  cases fs G.C e m with
  | exc c fs m' => exact fun h _ => h
  | stuck => exact fun h _ => h
  | ok ys m2 =>
    intro h k S1 H1 t1 q i vs rs x dx hx hdx hne
    obtain ⟨iA, pA⟩ := new_hi (o := .own x) i hdx
    have hx1 : upd H1 dx (.own x) x = none := by rw [upd_ne (Ne.symm hne)]; exact hx
    obtain ⟨iB, pB⟩ := new_hi0 (o := .ins C dx []) iA hx1
    have hS : upd S1 dx (.own x) x = none := by
      cases q : upd S1 dx (.own x) x with
      | none => rfl
      | some o => rw [iA.sub x o q] at hx1; cases hx1
    have hc : cAt G.K c = some C := hK ▸ T.at_
    obtain ⟨iC, ts⟩ := store_ob iB hS upd_same (fun n q => iA.off n x q hx1) (.ins (dx := dx) hc .nil)
    have pC : Stp S1 H1 t1 (upd S1 dx (.own x)) (upd (upd H1 dx (.own x)) x (.ins C dx [])) (fun n => if n = m2.length then some x else t1 n) := by
      have z := pA.trans pB
      refine ⟨fun a o h1 h2 => ?_, z.dom, z.hs, ts, fun n a h1 h2 => ?_⟩
      · exact z.keep a o h1 h2
      · by_cases hn : n = m2.length
        · simp [hn] at h1; subst h1; exact hx
        · simp [hn] at h1; rw [h1] at h2; cases h2
    refine ⟨by simp [rs.length, k ys m2 rfl], _, _, _, .ref m2.length :: ys, iC, .cons (.ref (by simp)) (rs.stp i pC), ?_⟩
    have h' := Gd.from (q.trans pC) h
    revert h'
    show Gd G W σ _ _ _ ((G.C f (.ref m2.length :: ys) (m2 ++ [.ins c []])).bind _) _ → _
    cases G.C f (.ref m2.length :: ys) (m2 ++ [.ins c []]) with
    | exc c gs m3 => exact id
    | stuck => exact id
    | ok d m3 =>
      intro h' S' H' t' p i' v rv
      cases d with
      | non =>
        cases rv
        exact ⟨rfl, h' S' H' t' p i' _ (.ref (p.th _ _ (by simp)))⟩
      | _ => exact h'.elim
theorem de_new {fs : EvA} {np n f : Nat} (T : ClsT X.K X.mg c C) (F : Ini X.prog X.w X.K X.mg X.base G n f (np + 1) C) (hr : Room n X.A) (tk : L2N.Takes X W) (hK : X.K = G.K) (hg : Gl X c) (ha : PA X (a :: es) (semA G W fs)) (hn : lenA fs np)
    (hdb : (c == ("__debug__" : Str)) = false := by decide) (he : starEach (a :: es) X.env = (false, eval a X.env) :: starEach es X.env := by rfl) (hpl : (backTo pos (starEach es X.env)).any (·.1) = false := by rfl) :
    PE X (.Call (.Name c p) (a :: es) [] pos) (semE G W (newE c f fs)) := by
  obtain ⟨j, ad, fd, ps, F, hm, hb, hj⟩ := F.ok
  exact (pe_makeS hm F (hj.imp (fun z => hr.mono z) id) hg T.g hb (fun σ => L2N.passAt tk σ) ha hdb he hpl).imp fun σ H Q h => new_use T hK hn h
theorem de_new0 {n f : Nat} (T : ClsT X.K X.mg c C) (F : Ini X.prog X.w X.K X.mg X.base G n f 1 C) (hr : Room n X.A) (tk : L2N.Takes X W) (hK : X.K = G.K) (hg : Gl X c)
    (hdb : (c == ("__debug__" : Str)) = false := by decide) : PE X (.Call (.Name c p) [] [] pos) (semE G W (newE c f nilA)) := by
  obtain ⟨j, ad, fd, ps, F, hm, hb, hj⟩ := F.ok
  refine (pe_makeS0 hm F (hj.imp (fun z => hr.mono z) id) hg T.g hb (fun σ => L2N.passAt tk σ) hdb).imp fun σ H Q h => ?_
  obtain ⟨S, t, m, e, si, g⟩ := new_use (np := 0) T hK lenA_nil h
  exact g _ _ _ .refl si.hi [] .nil
end
end Dn
/-! Classes of the text: what the printer's last text leans on. -/
namespace Dn
open PySem L2
def datsOf : Env → Option (List D)
  | [] => some []
  | .dat d :: r => (datsOf r).map (d :: ·)
  | _ => none
@[simp] theorem datsOf_map (ds : List D) : datsOf (ds.map .dat) = some ds := by
  induction ds with
  | nil => rfl
  | cons d ds ih => simp [datsOf, ih]
/-- the def f, one deeper -/
def callS (f : Nat) : EvS := fun C e m => match datsOf e with
  | some ds => match C f ds m with
    | .ok d m1 => .ret d m1
    | .exc c fs m1 => .exc c fs e m1
    | .stuck => .stuck
  | none => .stuck
theorem run_wrap {T : Tab} {n k f np : Nat} {ds : List D} {m : Store} (h : T k = some ⟨np, np, callS f⟩) (hl : ds.length = np) : run T (n + 1) k ds m = run T n f ds m := by
  show (match T k with
    | some d => if ds.length = d.np ∧ d.np ≤ d.nn then endS (d.body (run T n) (env0 d.nn ds) m) else .stuck
    | none => .stuck) = _
  rw [h]
  dsimp only
  rw [if_pos ⟨hl, Nat.le_refl _⟩]
  have e : env0 np ds = ds.map .dat := by unfold env0; rw [hl, Nat.sub_self]; simp
  rw [e]
  unfold callS
  rw [datsOf_map]
  dsimp only
  cases run T n f ds m with
  | ok d m1 => rfl
  | exc c fs m1 => rfl
  | stuck => rfl
section
variable {P : Program} {w : World} {K : PySem.W.Frag} {mg : Str → Option Value} {base h : Heap}
/-- the body of a class's __init__ -/
structure IniB (P : Program) (w : World) (K : PySem.W.Frag) (mg : Str → Option Value) (base : Heap) (G : Cfg) (n f np : Nat) (C : Addr) : Prop where
  ok : ∃ (a : Addr) (fd : FuncData) (ps : List Str), FnOk P w K mg base (L2N.CX P w) n a fd ps (spD G f np) ∧ Mk K C a ∧ Binds K fd ps []
theorem ini_zero {T : Tab} {Xs : Nat → Option (Addr × List Str)} {k f np : Nat} {C : Addr} (F : IniB P w K mg base ⟨K, run T 0, Xs, none⟩ 0 f np C) : Ini P w K mg base ⟨K, run T 0, Xs, none⟩ 0 k np C := by
  obtain ⟨a, fd, ps, F, hm, hb⟩ := F.ok
  have no : ∀ (j : Nat) vs H Q E, ¬ spD ⟨K, run T 0, Xs, none⟩ j np vs H Q E := fun j vs H Q E ⟨_, S, t, m, ds, _, _, g⟩ => g.elim
  exact ⟨0, a, fd, ps, F.imp fun vs H Q E h => absurd h (no _ _ _ _ _), hm, hb, .inr (no k)⟩
theorem ini_step {T : Tab} {Xs : Nat → Option (Addr × List Str)} {n k f np : Nat} {C : Addr} (F : IniB P w K mg base ⟨K, run T n, Xs, none⟩ n f np C) (hT : T k = some ⟨np, np, callS f⟩) : Ini P w K mg base ⟨K, run T (n + 1), Xs, none⟩ (n + 1) k np C := by
  obtain ⟨a, fd, ps, F, hm, hb⟩ := F.ok
  refine ⟨n, a, fd, ps, F.imp fun vs H Q E ⟨hl, S, t, m, ds, hi, hd, g⟩ => ⟨hl, S, t, m, ds, hi, hd, ?_⟩, hm, hb, .inl (Nat.le_refl _)⟩
  have g : Gd _ _ _ S H t (run T (n + 1) k ds m) _ := g
  rw [run_wrap hT (hd.length.symm.trans hl)] at g
  exact g
theorem cAt_of {c : Str} {C : Addr} (h : PySem.W.nsIn K mainGlobals c = some (some (.ref C))) : cAt K c = some C := by unfold cAt; rw [h]
theorem mth_sta {x qual : Str} {st : Stmt} {f C : Addr} {oc : Value} {od an : Option Addr} {osl : Array (Option Value)} {kV doc pm cdv ct : Value} {ps : List Str} (a : PySem.W.findIn K (.ref C) x = some (some (.ref f))) (nf : PySem.W.isFn K (.ref f) = true)
    (l : K.lookup f = some ⟨oc, od, .func (PySem.W.fnOf x qual (defArgs st) (defBody st) (defScope st) .none kV doc pm an cdv ct), osl⟩) (c : PySem.W.codeIn K cdv qual = true) (k : PySem.W.keepIn K (.ref f) = true)
    (hb : ∀ (kV doc pm : Value) (an : Option Addr) (cdv ct : Value) (us : List Value), us.length = ps.length → bindArgs (PySem.W.fnOf x qual (defArgs st) (defBody st) (defScope st) .none kV doc pm an cdv ct) ⟨us, []⟩ = pure (ps.zip us)) :
    ∃ a fd, Fun K x qual st a fd ∧ Meth K C x a ∧ Binds K fd ps [] :=
  ⟨_, _, fun_mk l c k, ⟨a, nf, k⟩, (fun_mk l c k).binds hb⟩
theorem ini_sta {qual : Str} {st : Stmt} {f C : Addr} {oc : Value} {od an : Option Addr} {osl : Array (Option Value)} {kV doc pm cdv ct : Value} {ps : List Str} (a : PySem.W.findIn K (.ref C) "__init__" = some (some (.ref f))) (nf : PySem.W.isFn K (.ref f) = true)
    (l : K.lookup f = some ⟨oc, od, .func (PySem.W.fnOf "__init__" qual (defArgs st) (defBody st) (defScope st) .none kV doc pm an cdv ct), osl⟩) (c : PySem.W.codeIn K cdv qual = true) (k : PySem.W.keepIn K (.ref f) = true)
    (mk : PySem.W.makesIn K C = true) (kC : PySem.W.keepIn K (.ref C) = true)
    (hb : ∀ (kV doc pm : Value) (an : Option Addr) (cdv ct : Value) (us : List Value), us.length = ps.length → bindArgs (PySem.W.fnOf "__init__" qual (defArgs st) (defBody st) (defScope st) .none kV doc pm an cdv ct) ⟨us, []⟩ = pure (ps.zip us)) :
    ∃ a fd, Fun K "__init__" qual st a fd ∧ Mk K C a ∧ Binds K fd ps [] :=
  ⟨_, _, fun_mk l c k, ⟨mk, a, nf, kC⟩, (fun_mk l c k).binds hb⟩
end
end Dn
/-! sorted(.., key=len); sorted of a set, of a dict made by a comprehension. -/
namespace Dn
open PySem L2
def lenD : D → Nat
  | .tup xs => xs.length
  | _ => 0
def leLen (a b : D) : Bool := decide ((lenD a : Int) ≤ (lenD b : Int))
def sortedL (ds : List D) : List D := ds.mergeSort leLen
def isTupD : D → Bool
  | .tup xs => decide (xs.length ≤ LIM)
  | _ => false
def lenOk (ds : List D) : Bool := decide (ds.length ≤ LIM) && ds.all isTupD
@[simp] def lenSort : D → Option (List D)
  | .lst ds => if lenOk ds = true then some (sortedL ds) else none
  | _ => none
@[simp] def sortLen (a : EvE) : EvA := fun C e m => (a C e m).bind fun d m1 => .of (lenSort d) m1
section
variable {X : Cx}
theorem sortLen_run {pins : List (Addr × Obj)} {s : Shared} {σ : St} {S H : Hp} {t : Th} {m : Store} {Q : VK} {a : Addr} {vs : List V} {ds : List D} (hu : X.A.units + 65 < cLine) (I : Inv X pins σ H s) (hi : HI X.K S H t m) (hs : SqL X.K H a vs) (hd : DRs X.K S t vs ds) (ok : lenOk ds = true)
    (q : ∀ p ws, H p = none → DRs X.K S t ws (sortedL ds) → Q (.ref p) (upd H p (.lst ws))) : wpAny (model X.prog X.w) X.A (call (.builtin "sorted") [.ref a] [(Str.ofString "key", .builtin "len")]) (EP X pins σ Q) X.xe s := by
  obtain ⟨its, rv, pl, hz⟩ := I.list hs
  unfold lenOk at ok
  simp only [Bool.and_eq_true, decide_eq_true_eq, List.all_eq_true] at ok
  obtain ⟨ok1, ok2⟩ := ok
  have e1 := each_of hd rv
  refine PySem.W.sorted_key_data (b := false) (R := fun u d => ∃ v, RelV v u ∧ DR X.K S t v d) (fun d => .int (lenD d)) pl.isList e1 (PySem.W.AllAlike.of fun _ _ => by simp [PySem.W.alike]) (PySem.W.Sortable.others fun _ => ⟨(fun z => nomatch z), (fun xs z => nomatch z)⟩) (lim_le ok1)
    (fun d _ => by show X.A.units + 2 + 0 < cLine; omega) (PyProof.Rows.ksk_s1 _ _) (fun _ => PyProof.Rows.ksk_l1 _ _) (fun _ => PyProof.Rows.ksk_t4 _ _) (fun u d ⟨v, r, hd⟩ hmem h tk kp => ?_) fun out c h' tk kp fresh hD ol eo => ?_
  · have hT := ok2 d hmem
    have I1 : Inv X pins σ H { s with heap := h, toks := tk } := I.kept (t' := tk) kp
    cases hd with
    | @tup a' vs' es hq hh =>
      obtain rfl := (show u = Value.ref _ from r)
      obtain ⟨its', r', pl', hz'⟩ := I1.tuple (hi.sub.sqT hq)
      have hlen := r'.length
      have hl2 := hh.length
      have hn := line63
      refine PyProof.Rows.len_tuple pl' (by simp only [List.size_toArray]; omega) ?_
      refine ⟨h, tk + 1 + 1, rfl, fun _ _ q => q, ?_⟩
      have e : ((its'.toArray.size : Nat) : Int) = (lenD (D.tup es) : Int) := by
        show ((its'.toArray.size : Nat) : Int) = _
        rw [List.size_toArray, ← hlen, hl2]; rfl
      rw [e]
      exact .int _ _
    | _ => cases hT
  · rw [PySem.W.dataLe_int (β := D) (fun d => (lenD d : Int))] at eo
    obtain ⟨ws, rw', dw⟩ := each_back eo
    refine ⟨.ref (s.heap.objs.size + 1), upd H (s.heap.objs.size + 1) (.lst ws), I.laid (t' := tk) kp (Nat.le_succ _) ⟨?_, out, c, rw', hD⟩, rfl, q _ ws (I.hok.fresh (Nat.le_succ _)) dw⟩
    have : ws.length = ds.length := dw.length.trans (List.length_mergeSort ds)
    rw [this]
    exact lim_le ok1
variable {G : Cfg} {W : WX} {a : Expr} {fa : EvE} {pos p lp kp : Pos}
theorem df_sortLen (hu : X.A.units + 65 < cLine) (hK : X.K = G.K) (hg : Gl X "sorted") (hm : X.mg "sorted" = none) (hgl : Gl X "len") (hml : X.mg "len" = none) (hbs : bootBuiltins "sorted" = some (.builtin "sorted")) (hbl : bootBuiltins "len" = some (.builtin "len")) (ha : PE X a (semE G W fa))
    (he : backTo pos (starEach [a] X.env) = (false, eval a X.env) :: backTo pos (starEach [] X.env) := by rfl) (hpl : (backTo pos (starEach [a] X.env)).any (·.1) = false := by rfl) (h1 : starEach [a] X.env = (false, eval a X.env) :: starEach [] X.env := by rfl) :
    PE X (.Call (.Name "sorted" p) [a] [⟨some "key", .Name "len" lp, kp⟩] pos) (semF G W (sortLen fa)) := by
  refine ⟨fun pins s σ H Q I h => ?_⟩
  obtain ⟨S, t, m, e, si, g⟩ := h
  refine wpAny_Call_Name_kw (ld_blt I hg hm hbs ?_ (by decide) (by decide))
  have hc : tCons (semE G W fa) tNil σ H (fun vs H1 => ∃ a vs' ds S1 t1 m1, vs = [V.ref a] ∧ HI X.K S1 H1 t1 m1 ∧ SqL X.K H1 a vs' ∧ DRs X.K S1 t1 vs' ds ∧ lenOk ds = true ∧ ∀ p ws, H1 p = none → DRs X.K S1 t1 ws (sortedL ds) → Q (.ref p) (upd H1 p (.lst ws))) := by
    refine ⟨S, t, m, e, si, (Gd.sp g).imp fun S1 H1 t1 m1 d p1 i1 h1 v rv => ?_⟩
    cases rv with
    | lst hS hd =>
      have h1 : Gd G W σ S1 H1 t1 (Dn.R.of (if lenOk _ = true then some (sortedL _) else none) m1) _ := h1
      split at h1
      · rename_i ok
        refine ⟨_, _, _, S1, t1, m1, rfl, hK ▸ i1, .of (i1.sub _ _ hS), hK ▸ hd, ok, fun p ws hp dw => ?_⟩
        obtain ⟨p2, i2, r⟩ := new_own i1 hp (hK ▸ dw)
        refine h1 _ _ _ p2 i2 p r ?_
        cases q : H p with
        | none => rfl
        | some o => exact absurd hp (p1.dom p (by rw [q]; simp))
      · exact h1.elim
    | _ => exact h1.elim
  refine PyProof.Rows.callWith_kw (thn ((pa_cons ha pa_nil h1).run pos pins s σ H _ I hc) fun us s1 ⟨vs, H1, I1, r1, q1⟩ => ?_) he hpl (by rfl) (by rfl)
  obtain ⟨ad, vs', ds, S1, t1, m1, rfl, i1, hs, hd, ok, q⟩ := q1
  obtain rfl := Vals.ref1 r1
  show wpAny _ _ (evalAll ((do let v ← eval (.Name "len" lp) X.env; standAt pos; pure v) :: (backToKw pos (keywordEach [] X.env)).map (·.2))) _ _ s1
  refine wpAny_evalAll_cons (wpAny_bind (ld_blt I1 hgl hml hbl (wpAny_bind (wpAny_standAt (wpAny_pure (wpAny_evalAll_nil ?_)))) (by decide) (by decide)))
  exact sortLen_run hu I1 i1 hs hd ok q
end
end Dn
/-! sorted of a dict made by a comprehension. -/
namespace Dn
open PySem L2
def intsD : List D → Option (List Int)
  | [] => some []
  | .int i :: r => (intsD r).map (i :: ·)
  | _ => none
def uniq (ns : List Int) : List Int := ns.foldl (fun acc n => if n ∈ acc then acc else acc ++ [n]) []
def upI (ns : List Int) : List Int := ns.mergeSort fun x y => decide (x ≤ y)
@[simp] def setG (ds : List D) : Option (List D) := match intsD ds with
  | some ns => if ns.length < 64 then some ((upI (uniq ns)).map .int) else none
  | none => none
/-- sorted({x: True for x in t}), t a tuple of ints; x's slot -/
@[simp] def sortDk (i : Nat) (a : EvE) : EvA := fun C e m => (a C e m).bind fun d m1 => match d with
  | .tup ds => if i < e.length then .of (setG ds) m1 else .stuck
  | _ => .stuck
theorem intsD_spec {K : PySem.W.Frag} {S : Hp} {t : Th} : ∀ {ds : List D} {ns : List Int} {vs : List V}, intsD ds = some ns → DRs K S t vs ds → vs = ns.map V.int := by
  intro ds
  induction ds with
  | nil => intro ns vs h r; cases h; cases r; rfl
  | cons d ds ih =>
    intro ns vs h r
    cases r with
    | cons r1 r2 =>
      cases d with
      | int i =>
        cases r1
        unfold intsD at h
        cases q : intsD ds with
        | none => rw [q] at h; cases h
        | some ms => rw [q] at h; cases h; rw [ih q r2]; rfl
      | _ => cases h
theorem ints_dr {K : PySem.W.Frag} {S : Hp} {t : Th} : ∀ ns : List Int, DRs K S t (ns.map V.int) (ns.map D.int)
  | [] => .nil
  | n :: r => .cons (.int n) (ints_dr r)
def kvsN (ns : List Int) : List (Key × V) := ns.foldl (fun k n => putK k (Sum.inl n : Key) (.bl true)) []
theorem kvs_snoc (ns : List Int) (n : Int) : kvsN (ns ++ [n]) = putK (kvsN ns) (Sum.inl n : Key) (.bl true) := by unfold kvsN; rw [List.foldl_append]; rfl
theorem uniq_snoc (ns : List Int) (n : Int) : uniq (ns ++ [n]) = if n ∈ uniq ns then uniq ns else uniq ns ++ [n] := by unfold uniq; rw [List.foldl_append]; rfl
theorem putK_any {k : Key} (kvs : List (Key × V)) : ((kvs.any fun kv => decide (kv.1 = k)) = true) ↔ k ∈ kvs.map (·.1) := by
  rw [List.any_eq_true, List.mem_map]
  exact ⟨fun ⟨a, h1, h2⟩ => ⟨a, h1, of_decide_eq_true h2⟩, fun ⟨a, h1, h2⟩ => ⟨a, h1, decide_eq_true h2⟩⟩
theorem putK_old {k : Key} {v : V} (kvs : List (Key × V)) (h : k ∈ kvs.map (·.1)) : (putK kvs k v).map (·.1) = kvs.map (·.1) := by
  unfold putK
  rw [if_pos ((putK_any kvs).mpr h), List.map_map]
  congr 1
  funext kv
  show (if kv.1 = k then (kv.1, v) else kv).1 = kv.1
  split <;> rfl
theorem putK_fresh {k : Key} {v : V} (kvs : List (Key × V)) (h : ¬ k ∈ kvs.map (·.1)) : (putK kvs k v).map (·.1) = kvs.map (·.1) ++ [k] := by
  unfold putK
  rw [if_neg (fun z => h ((putK_any kvs).mp z))]; simp
theorem inl_mem (ns : List Int) (n : Int) : (Sum.inl n : Key) ∈ (ns.map Sum.inl : List Key) ↔ n ∈ ns := by
  rw [List.mem_map]
  exact ⟨fun ⟨a, h1, h2⟩ => Sum.inl.inj h2 ▸ h1, fun h => ⟨n, h, rfl⟩⟩
theorem kvs_keys (ns : List Int) : (kvsN ns).map (·.1) = (uniq ns).map Sum.inl := by
  have main : ∀ (l : List Int) (acc : List Int) (k : List (Key × V)), k.map (·.1) = (acc.map Sum.inl : List Key) →
      (l.foldl (fun k n => putK k (Sum.inl n : Key) (.bl true)) k).map (·.1) = (l.foldl (fun acc n => if n ∈ acc then acc else acc ++ [n]) acc).map Sum.inl := by
    intro l
    induction l with
    | nil => intro acc k h; exact h
    | cons n l ih =>
      intro acc k h
      rw [List.foldl_cons, List.foldl_cons]
      refine ih _ _ ?_
      by_cases z : n ∈ acc
      · rw [putK_old _ (by rw [h]; exact (inl_mem acc n).mpr z), if_pos z, h]
      · rw [putK_fresh _ (by rw [h]; exact fun q => z ((inl_mem acc n).mp q)), if_neg z, h]; simp
  exact main ns [] [] rfl
theorem uniq_le (ns : List Int) : (uniq ns).length ≤ ns.length := by
  have main : ∀ (l acc : List Int), (l.foldl (fun acc n => if n ∈ acc then acc else acc ++ [n]) acc).length ≤ acc.length + l.length := by
    intro l
    induction l with
    | nil => intro acc; simp
    | cons n l ih =>
      intro acc
      rw [List.foldl_cons]
      refine Nat.le_trans (ih _) ?_
      split
      · simp
      · simp; omega
  have h := main ns []
  rw [List.length_nil, Nat.zero_add] at h
  exact h
section
variable {X : Cx} {G : Cfg} {W : WX} {it : Expr} {fi : EvE} {x : Str} {i : Nat} {scope : Scope} {p xp tp dpos pos : Pos} {vx : Expr}
theorem df_sortDc (hc : X.calm = true) (hK : X.K = G.K) (hgs : Gl X "sorted") (hm : X.mg "sorted" = none) (hbs : bootBuiltins "sorted" = some (.builtin "sorted")) (hN : X.N.Nodup) (ok : BlkOk X.N X.env.scope scope [(x, i)])
    (hg : ∀ (s : Shared) (H : Hp) (C : Addr) (cl : List (Str × Addr)) (fp : List Addr), PG (X.blk s H scope (compEnvC scope cl C X.env) fp) (.Name x tp) (gName i))
    (hk : ∀ (s : Shared) (H : Hp) (C : Addr) (cl : List (Str × Addr)) (fp : List Addr), PE (X.blk s H scope (compEnvC scope cl C X.env) fp) (.Name x xp) (tVar i))
    (he : ∀ (s : Shared) (H : Hp) (C : Addr) (cl : List (Str × Addr)) (fp : List Addr), PE (X.blk s H scope (compEnvC scope cl C X.env) fp) vx (tC (.bl true)))
    (hi : PE X it (semE G W fi)) (hs : ∀ x, foldedSetIterable it X.env x = pure x := by intro _; rfl)
    (h1 : starEach [.DictComp (.Name x xp) vx [⟨.Name x tp, it, [], 0⟩] scope dpos] X.env = (false, eval (.DictComp (.Name x xp) vx [⟨.Name x tp, it, [], 0⟩] scope dpos) X.env) :: starEach [] X.env := by rfl)
    (hpl : (backTo pos (starEach [] X.env)).any (·.1) = false := by rfl) :
    PE X (.Call (.Name "sorted" p) [.DictComp (.Name x xp) vx [⟨.Name x tp, it, [], 0⟩] scope dpos] [] pos) (semF G W (sortDk i fi)) := by
  refine (pe_callB (call_sortedDI hc) hgs hm hbs (pa_cons (pe_dc hc hN (pi_seq hi) ok hg (fun _ _ _ _ _ => pts_nil) hk he hs) pa_nil h1) (by decide) (by decide) h1 hpl).imp fun σ H Q ⟨S, t, m, e, si, g⟩ => ?_
  refine ⟨S, t, m, e, si, (Gd.sp g).imp fun S1 H1 t1 m1 d p1 i1 h1 v rv => ?_⟩
  cases rv with
  | @tup a vs ds hq hd =>
    refine .inr (.inl ⟨a, vs, rfl, hK ▸ i1.sub.sqT hq, fun hl D hD => ?_⟩)
    dsimp only at h1
    split at h1
    · rename_i hlt
      unfold setG at h1
      cases hns : intsD ds with
      | none => rw [hns] at h1; exact h1.elim
      | some ns =>
        rw [hns] at h1
        dsimp only at h1
        split at h1
        · rename_i h64
          have hvs := intsD_spec hns hd
          subst hvs
          have hq1 : SqT X.K H1 a (ns.map V.int) := hK ▸ i1.sub.sqT hq
          have si1 := si.stp p1 i1
          refine dc_tup (fun j H' => H' = upd H1 D (.dK (kvsN (ns.take j)))) (by simp [kvsN]) (fun j H' _ e => by
            subst e
            exact Sub.sqT (fun b o z => by rw [upd_ne (ne_of_none z hD)]; exact z) hq1) (fun j y H' hy e => ?_) fun H' e => ?_
          · subst e
            rw [List.getElem?_map] at hy
            cases hz : ns[j]? with
            | none => rw [hz] at hy; cases hy
            | some n =>
              rw [hz] at hy
              cases hy
              refine ⟨by simp [wipe], ⟨.int n, ?_, kvsN (ns.take j), Sum.inl n, rfl, upd_same, ?_, ?_⟩⟩
              · rw [List.getElem?_set_self]
                show i < (wipe σ [i]).length
                rw [wipe_length, si1.len]
                exact hlt
              · have hh : (kvsN (ns.take j)).length = (uniq (ns.take j)).length := by
                  have := congrArg List.length (kvs_keys (ns.take j))
                  simpa using this
                rw [hh]
                have := uniq_le (ns.take j)
                have h2 : (ns.take j).length ≤ ns.length := by rw [List.length_take]; omega
                rw [sizeLine_eq]; omega
              · rw [upd_upd]
                congr 2
                rw [List.take_add_one, hz]
                exact (kvs_snoc (ns.take j) n).symm
          · subst e
            have e2 : ns.take (ns.map V.int).length = ns := by rw [List.length_map]; exact List.take_length
            rw [e2]
            refine ⟨D, kvsN ns, uniq ns, rfl, .of upd_same, kvs_keys ns, Nat.lt_of_le_of_lt (uniq_le ns) h64, fun ys q perm up hq' => ?_⟩
            have ey : ys = upI (uniq ns) := PySem.W.Srt.up perm up
            obtain ⟨i2, p2⟩ := new_hi0 (o := .dK (kvsN ns)) i1 hD
            obtain ⟨p3, i3, r⟩ := new_own (K := G.K) i2 hq' (ints_dr ys)
            refine h1 _ _ _ (p2.trans p3) i3 q (ey ▸ r) ?_
            cases z : H q with
            | none => rfl
            | some o => exact absurd hq' ((p1.trans p2).dom q (by rw [z]; simp))
        · exact h1.elim
    · exact h1.elim
  | _ => exact h1.elim
end
end Dn
/-! sorted(set(xs)), xs a list or a tuple of ints. -/
namespace L2
open PySem PySem.Spec PyProof.Rows
section
variable {P : Program} {w : World} {A : Around} {E : Value → Shared → Prop} {s : Shared}
abbrev newS (w : World) : Obj := { cls := .type "set", dict := none, data := .set #[] 0 (.fresh 0 0 (!w.params.followText "set-order")) }
/-- the fresh set takes a list's ints -/
theorem dn_set_fill {l : Addr} {items : Array Value} (ns : List Int) {R : Value → Shared → Prop} (hh : A.handled = none) (hl : s.heap.IsList l items) (hit : IntsAre items.toList ns) (hb : ns.length + 1 < scanBound)
    (h : ∀ (h' : Heap) (tk c : Nat), SetR w h' s.heap.objs.size (fun j => decide (j ∈ ns)) c → c ≤ ns.length → (∀ b o, s.heap.get? b = some o → h'.get? b = some o) → R .none { s with heap := h', toks := tk }) :
    codeAny (model P w) A (.call (.builtin "set.__init__") ⟨[.ref s.heap.objs.size, .ref l], []⟩) (wants R E) { s with heap := s.heap.push (newS w) } := by
  have hn : items.size = ns.length := by
    have q := IntsAre.length hit
    rwa [Array.length_toList] at q
  have hS : (s.heap.push (newS w)).get? s.heap.objs.size = some (newS w) := Heap.get?_push_size _ rfl
  have hT : Shared.TypeIs { s with heap := s.heap.push (newS w) } (.ref s.heap.objs.size) "set" := ⟨_, hS, rfl⟩
  refine codeAny_call_builtin F.called_set.init.plain F.entry_set_init (check_set_init_1 hT ?_)
  obtain ⟨ol, hol, hcl, nl, hdl⟩ := hl
  obtain ⟨oc, od, oda, os⟩ := ol
  simp only at hcl hdl
  subst hcl; subst hdl
  have hol' : (s.heap.push (newS w)).get? l = some { cls := .type "list", dict := od, data := .seq items nl, slots := os } := Heap.get?_push_of_some _ hol
  have a1 := F.sub_list_set
  have a2 := F.sub_list_frozenset
  have a3 : (Value.type "list" == Value.type "dict") = false := by decide
  have hl1 : (s.heap.push (newS w)).IsList l items := ⟨_, hol', rfl, nl, rfl⟩
  unfold Builtin.«set.__init__» noKeywords Builtin.Frozenset.updateFrom
  generalize hPI : pyIter = PI
  wp_walk
  subst hPI
  refine wpAny_pyIter_list hl1 (wpAny_bind (wpAny_runValue ?_))
  have hlS : l < s.heap.objs.size := Heap.lt_size hol
  have hz : (s.heap.push (newS w)).objs.size = s.heap.objs.size + 1 := Heap.size_push ..
  refine set_update_ints ((Walks.list (by simp [hh]) _ l (by rw [hz]; exact Nat.ne_of_lt (Nat.lt_succ_of_lt hlS)) items).toS) s.heap.objs.size
    (by rw [hz]; simp only [List.mem_cons, List.not_mem_nil, or_false, not_or]; exact ⟨Nat.ne_of_lt (Nat.lt_succ_self _), Nat.ne_of_gt hlS⟩)
    ns hn hb (fun i v hv => ?_) (items.size - 0) 0 _ (by omega) (Nat.zero_le _) ⟨⟨_, Heap.get?_push_size _ rfl, rfl, rfl⟩, (hl1.push _)⟩ ⟨0, Nat.le_refl 0, setR_new_at (Heap.get?_push_of_some _ hS)⟩ fun s' c hm hc hR => ?_
  · have hi : i < ns.length := by rw [← hn]; exact (Array.getElem?_eq_some_iff.mp hv).1
    obtain ⟨t, e⟩ := PyProof.Rows.IntsAre.int_at hit i v (by rw [Array.getElem?_toList]; exact hv)
    refine ⟨ns[i], t, List.getElem?_eq_getElem hi, ?_⟩
    rw [e, List.getD_eq_getElem?_getD, List.getElem?_eq_getElem hi] <;> rfl
  · obtain ⟨h', g, d, tk, os'⟩ := s'
    have e1 : g = s.gens := hm.gens
    have e2 : d = s.drawn := hm.drawn
    have e3 : os' = s.os := hm.os
    subst e1; subst e2; subst e3
    rw [hn] at hc
    show wpAny _ _ _ _ _ _
    refine wpAny_pure ?_
    show wpAny _ _ (ret Value.none) _ _ _
    refine wpAny_pure (h h' tk c hR hc fun b o e => ?_)
    have b0 : b < s.heap.objs.size := Heap.lt_size e
    exact hm.heap b o (by rw [hz]; simp only [List.mem_cons, List.not_mem_nil, or_false, not_or]; exact ⟨Nat.ne_of_lt b0, Nat.ne_of_lt (Nat.lt_succ_of_lt b0)⟩) (Heap.get?_push_of_some _ (Heap.get?_push_of_some _ e))
set_option maxHeartbeats 3200000 in
/-- set(xs) of a list of ints -/
theorem dn_set_lst {l : Addr} {items : Array Value} (ns : List Int) {Q : Value → Shared → Prop} (hh : A.handled = none) (hl : s.heap.IsList l items) (hit : IntsAre items.toList ns) (hb : ns.length + 1 < scanBound)
    (h : ∀ (h' : Heap) (tk c : Nat), SetR w h' s.heap.objs.size (fun j => decide (j ∈ ns)) c → c ≤ ns.length → (∀ b o, s.heap.get? b = some o → h'.get? b = some o) → Q (.ref s.heap.objs.size) { s with heap := h', toks := tk }) :
    wpAny (model P w) A (call (.type "set") [.ref l]) Q E s := by
  obtain ⟨c, tl, hmro⟩ := F.called_set.mro
  have q1 := F.called_set.made
  have q2 := F.called_set.sub
  refine wpAny_call (codeAny_of_tree ?_)
  show wpAny _ _ (callAny (.type "set") _) _ _ _
  refine wpAny_pure ⟨Code.quiet_builtin _ (by decide +kernel), codeAny_builtin F.entry_type_call ?_⟩
  rw [Around.under_plain (weight_type_call_type "set" [.ref l] []) rfl]
  have q3 := F.called_set.notType
  have q4 := F.called_set.canCreate
  have q5 := F.typeCall_set_1 (.ref l)
  repeat (any_goals (first | assumption | wp_step))
  refine codeAny_mono (code_set_led1 (.ref l) (E := E) (Q₁ := fun obj s₁ => obj = .ref s.heap.objs.size ∧ s₁ = { s with heap := s.heap.push (newS w) }) ⟨rfl, rfl⟩) fun r s₁ hr => ?_
  rcases r with e | (obj | _ | _ | _) <;> first | exact hr | exact hr.elim | skip
  obtain ⟨rfl, rfl⟩ := hr
  have hS : (s.heap.push (newS w)).get? s.heap.objs.size = some (newS w) := Heap.get?_push_size _ rfl
  have hT : Shared.TypeIs { s with heap := s.heap.push (newS w) } (.ref s.heap.objs.size) "set" := ⟨_, hS, rfl⟩
  have q6 := F.called_set.init.lookup
  have q7 := F.called_set.init.bind (.ref s.heap.objs.size)
  repeat (any_goals (first | assumption | wp_step))
  refine codeAny_mono (dn_set_fill (E := E) (R := fun r s₂ => r = .none ∧ ∃ h' tk c, s₂ = { s with heap := h', toks := tk } ∧ SetR w h' s.heap.objs.size (fun j => decide (j ∈ ns)) c ∧ c ≤ ns.length ∧ (∀ b o, s.heap.get? b = some o → h'.get? b = some o)) ns (by simp [hh]) hl hit hb
    fun h' tk c a1 a2 a3 => ⟨rfl, h', tk, c, rfl, a1, a2, a3⟩) fun r₂ s₂ hr₂ => ?_
  rcases r₂ with e | (r | _ | _ | _) <;> first | exact hr₂ | exact hr₂.elim | skip
  obtain ⟨rfl, h', tk, c', rfl, hS', hc', hk'⟩ := hr₂
  repeat (any_goals (first | assumption | wp_step))
  exact h _ _ _ hS' hc' hk'
variable {X : Cx}
/-- set(xs), xs a list or a tuple of ints -/
def rSetI (K : PySem.W.Frag) (w : World) : List V → Hp → VK → Prop := fun xs H Q => ∃ (l : Addr) (ns : List Int), xs = [V.ref l] ∧ (SqL K H l (ns.map V.int) ∨ SqT K H l (ns.map V.int)) ∧ ns.length < 64 ∧
  ∀ a c, H a = none → c ≤ ns.length → Q (.ref a) (upd H a (SetO w a (fun j => decide (j ∈ ns)) c))
theorem cr_setI (hc : X.calm = true) : CallR X (.type "set") (rSetI X.K X.w) := by
  intro pins s σ H xs us Q I r h
  obtain ⟨l, ns, rfl, hs, h64, q⟩ := h
  obtain rfl := Vals.ref1 r
  have fin : ∀ (h' : Heap) (tk c : Nat), SetR X.w h' s.heap.objs.size (fun j => decide (j ∈ ns)) c → c ≤ ns.length → (∀ b o, s.heap.get? b = some o → h'.get? b = some o) → EP X pins σ Q (.ref s.heap.objs.size) { s with heap := h', toks := tk } := fun h' tk c hS hc k =>
    ⟨.ref s.heap.objs.size, _, I.laid (t' := tk) k (Nat.le_refl _) (setO_new hS), rfl, q _ c (I.hok.fresh (Nat.le_refl _)) hc⟩
  rcases hs with hs | hs
  · obtain ⟨its, rv, pl, hz⟩ := I.list hs
    exact dn_set_lst ns (I.ok.hd hc) pl.isList (by have := rv.ints; simpa using this) (by unfold scanBound; omega) fin
  · obtain ⟨its, rv, pl, hz⟩ := I.tuple hs
    obtain ⟨o, ho, hcc, n, hd⟩ := pl
    exact call_set_tupI ns (I.ok.hd hc) ⟨o, ho, hcc, n, hd⟩ (by have := rv.ints; simpa using this) (by unfold scanBound; omega) fin
end
end L2
namespace Dn
open PySem L2
theorem uniq_mem (ns : List Int) (k : Int) : k ∈ uniq ns ↔ k ∈ ns := by
  have main : ∀ (l acc : List Int), k ∈ l.foldl (fun acc n => if n ∈ acc then acc else acc ++ [n]) acc ↔ k ∈ acc ∨ k ∈ l := by
    intro l
    induction l with
    | nil => intro acc; simp
    | cons n l ih =>
      intro acc
      rw [List.foldl_cons, ih]
      by_cases z : n ∈ acc
      · rw [if_pos z, List.mem_cons]
        constructor
        · rintro (h | h)
          · exact .inl h
          · exact .inr (.inr h)
        · rintro (h | h | h)
          · exact .inl h
          · exact .inl (h ▸ z)
          · exact .inr h
      · rw [if_neg z, List.mem_append, List.mem_singleton, List.mem_cons, or_assoc]
  have := main ns []
  simpa [uniq] using this
theorem uniq_nodup (ns : List Int) : (uniq ns).Nodup := by
  have main : ∀ (l acc : List Int), acc.Nodup → (l.foldl (fun acc n => if n ∈ acc then acc else acc ++ [n]) acc).Nodup := by
    intro l
    induction l with
    | nil => intro acc h; exact h
    | cons n l ih =>
      intro acc h
      rw [List.foldl_cons]
      refine ih _ ?_
      by_cases z : n ∈ acc
      · rw [if_pos z]; exact h
      · rw [if_neg z]
        refine List.nodup_append.mpr ⟨h, by simp, fun a ha b hb => ?_⟩
        rw [List.mem_singleton] at hb
        subst hb
        exact fun q => z (q ▸ ha)
  exact main ns [] List.nodup_nil
theorem set_up {ns ys : List Int} (h1 : ys.Pairwise (· < ·)) (h2 : ∀ k : Int, k ∈ ys ↔ k ∈ ns) : ys = upI (uniq ns) := by
  have hn : ys.Nodup := h1.imp fun {a b} h => by omega
  refine PySem.W.Srt.up ?_ (h1.imp fun {a b} h => by omega)
  exact (List.perm_ext_iff_of_nodup hn (uniq_nodup ns)).mpr fun k => (h2 k).trans (uniq_mem ns k).symm
/-- sorted(set(xs)) -/
@[simp] def sortSet (a : EvE) : EvA := fun C e m => (a C e m).bind fun d m1 => match d with
  | .tup ds => .of (setG ds) m1
  | .lst ds => .of (setG ds) m1
  | _ => .stuck
section
variable {X : Cx} {G : Cfg} {W : WX} {a : Expr} {fa : EvE} {p sp cp pos : Pos}
theorem df_sortSet (hc : X.calm = true) (hK : X.K = G.K) (hgs : Gl X "sorted") (hm : X.mg "sorted" = none) (hbs : bootBuiltins "sorted" = some (.builtin "sorted")) (hgt : Gl X "set") (hmt : X.mg "set" = none) (hbt : bootBuiltins "set" = some (.type "set")) (ha : PE X a (semE G W fa))
    (h0 : starEach [a] X.env = (false, eval a X.env) :: starEach [] X.env := by rfl)
    (h1 : starEach [.Call (.Name "set" sp) [a] [] cp] X.env = (false, eval (.Call (.Name "set" sp) [a] [] cp) X.env) :: starEach [] X.env := by rfl) (hp0 : (backTo cp (starEach [] X.env)).any (·.1) = false := by rfl)
    (hpl : (backTo pos (starEach [] X.env)).any (·.1) = false := by rfl) :
    PE X (.Call (.Name "sorted" p) [.Call (.Name "set" sp) [a] [] cp] [] pos) (semF G W (sortSet fa)) := by
  refine (pe_callB (cr_sortedSet hc) hgs hm hbs (pa_cons (pe_callTy (cr_setI hc) hgt hmt hbt (pa_cons ha pa_nil h0) (by decide) (by decide) h0 hp0) pa_nil h1) (by decide) (by decide) h1 hpl).imp fun σ H Q ⟨S, t, m, e, si, g⟩ => ?_
  refine ⟨S, t, m, e, si, (Gd.sp g).imp fun S1 H1 t1 m1 d p1 i1 h1 v rv => ?_⟩
  have fin : ∀ (l : Addr) (vs : List V) (ds : List D), v = .ref l → (SqL X.K H1 l vs ∨ SqT X.K H1 l vs) → DRs G.K S1 t1 vs ds → Gd G W σ S1 H1 t1 (Dn.R.of (setG ds) m1) (fun S' H' t' _ xs => ∀ p, OwnAt G.K S' H' t' p (.lst xs) → H p = none → Q (.ref p) H') →
      rSetI X.K X.w [v] H1 fun x H2 => rSortedSet X.w [x] H2 Q := by
    intro l vs ds hv hs hd h1
    unfold setG at h1
    cases hns : intsD ds with
    | none => rw [hns] at h1; exact h1.elim
    | some ns =>
      rw [hns] at h1
      dsimp only at h1
      split at h1
      · rename_i h64
        have hvs := intsD_spec hns hd
        subst hvs
        refine ⟨l, ns, by rw [hv], hs, h64, fun b c hb hcn => ⟨b, _, c, rfl, upd_same, by omega, fun ys q up hm hl hq => ?_⟩⟩
        have ey : ys = upI (uniq ns) := set_up up fun k => (hm k).trans (by simp)
        obtain ⟨i2, p2⟩ := new_hi0 (o := SetO X.w b (fun j => decide (j ∈ ns)) c) i1 hb
        obtain ⟨p3, i3, r⟩ := new_own (K := G.K) i2 hq (ints_dr ys)
        refine h1 _ _ _ (p2.trans p3) i3 q (ey ▸ r) ?_
        cases z : H q with
        | none => rfl
        | some o => exact absurd hq ((p1.trans p2).dom q (by rw [z]; simp))
      · exact h1.elim
  cases rv with
  | tup hq hd => exact fin _ _ _ rfl (.inr (hK ▸ i1.sub.sqT hq)) hd h1
  | lst hq hd => exact fin _ _ _ rfl (.inl (.of (i1.sub _ _ hq))) hd h1
  | _ => exact h1.elim
end
end Dn
/-! sorted of tuples of ints, the first of them empty. -/
namespace SrtO
open PySem PyProof.Rows Srt
section
variable {prog : Program} {w : World} {A : Around} {E : Value → Shared → Prop} {s : Shared}
theorem oneLt_tupI {l b : Addr} {items items2 : Array Value} {ns ms : List Int} {Q : Bool → Shared → Prop} (hl : IsTup s.heap l items) (hb : IsTup s.heap b items2) (hi : IntsAre items.toList ns) (hj : IntsAre items2.toList ms)
    (hu : A.units < cLine) (h : Q (HT.lexLt ns ms) s) : wpAny (model prog w) A (oneLt' true (.ref l) (.ref b)) Q E s := by
  obtain ⟨⟨cls, dd, data, sl⟩, ho, hc, n, hd⟩ := id hl
  obtain ⟨⟨cls2, dd2, data2, sl2⟩, ho2, hc2, n2, hd2⟩ := id hb
  simp only at hc hd hc2 hd2
  subst hc hd hc2 hd2
  rw [oneLt'_eq]
  simp only [if_true]
  refine wpAny_bind (wpAny_cRoomFor hu ?_)
  refine wpAny_bind (wpAny_callSpecialIfBound?_slot ⟨_, ho, rfl⟩ PySem.F.slot_tuple_lt (call_meets PySem.F.slot_tuple_lt ⟨_, ho, rfl⟩ PySem.F.entry_tuple_lt (PySem.F.args_tuple_lt_2 _ _) (HT.tuple_lt_ints l b items items2 n n2 dd dd2 sl sl2 ns ms hi hj) ⟨ho, ho2, ?_⟩))
  exact wpAny_truthy_bool h
/-- the firsts, the first of all none -/
theorem firsts_any : ∀ (vs : List Value) {Q : List (Option Value) → Shared → Prop}, (∀ v ∈ vs, ∃ b its, v = Value.ref b ∧ IsTup s.heap b its) → (∀ fs, Q fs s) → wpAny (model prog w) A (vs.mapM firstOfTuple') Q E s
  | [], _, _, h => by rw [List.mapM_nil]; exact wpAny_pure (h [])
  | v :: vs, Q, t, h => by
    obtain ⟨b, its, rfl, o, ho, hc, n, hd⟩ := t v List.mem_cons_self
    rw [List.mapM_cons]
    refine wpAny_bind ?_
    rw [PySem.W.kas_first_eq]
    refine wpAny_bind (PySem.W.Looks.here (show PySem.W.Looks (model prog w) s.heap (typeOf (.ref b)) o.cls from (PySem.W.Looks.ld ho).andThen .now) ?_)
    rw [hc, if_neg (by first | decide | simp)]
    refine wpAny_bind (listItems_at ho hd (wpAny_pure ?_))
    exact wpAny_bind (firsts_any vs (Q := fun bs s' => wpAny (model prog w) A (pure (its[0]? :: bs)) Q E s') (fun u hu => t u (List.mem_cons_of_mem _ hu)) fun fs => wpAny_pure (h _))
theorem kind_empty {a : Addr} {vs : List Value} {Q : SortKind → Shared → Prop} (ht : IsTup s.heap a #[]) (t : ∀ v ∈ vs, ∃ b its, v = Value.ref b ∧ IsTup s.heap b its) (q : Q oneType' s) : wpAny (model prog w) A (keyKind' (Value.ref a :: vs).toArray) Q E s := by
  have hT : ∀ v ∈ Value.ref a :: vs, PySem.W.Looks (model prog w) s.heap (typeOf v) (.type "tuple") := fun v hv => by
    rcases List.mem_cons.mp hv with e | hv
    · obtain ⟨o, ho, hc, n, hd⟩ := ht
      subst e
      exact (PySem.W.Looks.ld ho).andThen (by rw [hc]; exact .now)
    · obtain ⟨b, its, rfl, o, ho, hc, n, hd⟩ := t v hv
      exact (PySem.W.Looks.ld ho).andThen (by rw [hc]; exact .now)
  rw [keyKind'_eq, List.mapM_toArray, map_eq_pure_bind]
  refine wpAny_bind (wpAny_bind ?_)
  rw [List.mapM_cons]
  refine wpAny_bind ?_
  obtain ⟨o, ho, hc, n, hd⟩ := ht
  rw [PySem.W.kas_first_eq]
  refine wpAny_bind (PySem.W.Looks.here (show PySem.W.Looks (model prog w) s.heap (typeOf (.ref a)) o.cls from (PySem.W.Looks.ld ho).andThen .now) ?_)
  rw [hc, if_neg (by first | decide | simp)]
  refine wpAny_bind (listItems_at ho hd (wpAny_pure ?_))
  refine wpAny_bind (firsts_any vs t fun fs => wpAny_pure (wpAny_pure ?_))
  have e0 : ((#[] : Array Value)[0]? : Option Value) = none := rfl
  rw [e0]
  rw [if_neg (by simp), if_neg (by simp)]
  rw [oneTypeOnly'_eq, List.mapM_toArray, map_eq_pure_bind]
  refine wpAny_bind (wpAny_bind (wpAny_bind (PySem.W.kas_mapM (r := .type "tuple") _ (fun v hv Q' hq => (hT v hv).here hq) (wpAny_pure ?_))))
  have hall : ((List.map (fun _ => Value.type "tuple") (Value.ref a :: vs)).toArray.all fun x => x == Value.type "tuple") = true := by
    simp only [List.all_toArray, List.all_map, List.all_eq_true]
    intro _ _
    rfl
  have h0 : (List.map (fun _ => Value.type "tuple") (Value.ref a :: vs)).toArray[0]? = some (Value.type "tuple") := by simp
  rw [h0]
  simp only [hall, if_true]
  exact wpAny_pure (wpAny_pure q)
theorem lexLt_asymm : ∀ a b : List Int, HT.lexLt a b = true → HT.lexLt b a = false
  | [], [], h => by cases h
  | [], _ :: _, _ => rfl
  | _ :: _, [], h => by cases h
  | x :: xs, y :: ys, h => by
    rw [HT.lexLt_cons] at h ⊢
    by_cases e : x = y
    · rw [if_pos e] at h; rw [if_pos e.symm]; exact lexLt_asymm xs ys h
    · rw [if_neg e] at h; rw [if_neg (fun z => e z.symm)]
      have := of_decide_eq_true h
      exact decide_eq_false (by omega)
theorem lexLt_trans : ∀ a b c : List Int, HT.lexLt b a = false → HT.lexLt c b = false → HT.lexLt c a = false
  | [], _, c, _, h2 => by
    cases c with
    | nil => rfl
    | cons z zs => rfl
  | x :: xs, [], c, h1, _ => by cases h1
  | x :: xs, y :: ys, [], _, h2 => by cases h2
  | x :: xs, y :: ys, z :: zs, h1, h2 => by
    rw [HT.lexLt_cons] at h1 h2 ⊢
    by_cases e : y = x
    · rw [if_pos e] at h1
      by_cases e' : z = y
      · rw [if_pos e'] at h2
        rw [if_pos (e'.trans e)]
        exact lexLt_trans xs ys zs h1 h2
      · rw [if_neg e'] at h2
        rw [if_neg (by rw [← e]; exact e')]
        have := of_decide_eq_false h2
        exact decide_eq_false (by omega)
    · rw [if_neg e] at h1
      have a1 := of_decide_eq_false h1
      by_cases e' : z = y
      · rw [if_neg (by omega)]
        exact decide_eq_false (by omega)
      · rw [if_neg e'] at h2
        have a2 := of_decide_eq_false h2
        rw [if_neg (by omega)]
        exact decide_eq_false (by omega)
theorem swo_tup (k : Value → List Int) : Swo fun v u => HT.lexLt (k v) (k u) := ⟨fun x y h => lexLt_asymm _ _ h, fun x y z h1 h2 => by
  first | exact lexLt_trans _ _ _ h1 h2 | exact lexLt_trans _ _ _ h2 h1⟩
/-- a tuple of these ints -/
def TupIs (h : Heap) (v : Value) (ns : List Int) : Prop := ∃ a its, v = .ref a ∧ IsTup h a its ∧ IntsAre its.toList ns
theorem TupIs.keeps {h h' : Heap} {v : Value} {ns : List Int} (t : TupIs h v ns) (k : ∀ b o, h.get? b = some o → o.cls = .type "tuple" → h'.get? b = some o) : TupIs h' v ns := by
  obtain ⟨a, its, e, ⟨o, ho, hc, n, hd⟩, hi⟩ := t
  exact ⟨a, its, e, ⟨o, k _ _ ho hc, hc, n, hd⟩, hi⟩
theorem tups_sortable {a : Addr} {v0 : Value} {vs : List Value} {k : Value → List Int} (h0 : k v0 = []) (hp : ∀ v ∈ v0 :: vs, TupIs s.heap v (k v)) (ha : ∀ o, s.heap.get? a = some o → o.cls ≠ .type "tuple") (hu : A.units < cLine) :
    SortableO prog w A s a (v0 :: vs) fun v u => HT.lexLt (k v) (k u) := by
  intro h' keep
  have hp' : ∀ v ∈ v0 :: vs, TupIs h' v (k v) := fun v hm => (hp v hm).keeps fun b o e c => keep b o (fun z => by subst z; exact ha o e c) e
  refine ⟨oneType', fun Q E hq => ?_, fun p q hm hm' => ?_⟩
  · obtain ⟨a0, its, e, ht, hi⟩ := hp' v0 List.mem_cons_self
    subst e
    rw [h0] at hi
    have e0 : its = #[] := by
      have := hi.length
      simp at this
      exact this
    subst e0
    exact kind_empty (s := { s with heap := h' }) ht (fun v hv => by
      obtain ⟨b, it2, e, ht2, _⟩ := hp' v (List.mem_cons_of_mem _ hv)
      exact ⟨b, it2, e, ht2⟩) hq
  · obtain ⟨b, it1, e1, t1, i1⟩ := hp' _ hm
    obtain ⟨c, it2, e2, t2, i2⟩ := hp' _ hm'
    show wpAny (model prog w) A (keyLt' oneType' p.1 q.1) (fun r s' => s' = { s with heap := h' } ∧ r = HT.lexLt (k p.1) (k q.1)) (fun _ _ => False) { s with heap := h' }
    generalize k p.1 = n1 at i1 ⊢
    generalize k q.1 = n2 at i2 ⊢
    rw [e1, e2, keyLt'_oneType]
    exact oneLt_tupI (s := { s with heap := h' }) t1 t2 i1 i2 hu ⟨rfl, rfl⟩
end
end SrtO
/-! sorted of tuples of ints, the first of them empty, as a rule. -/
namespace Dn
open PySem L2
def tupN : D → Option (List Int)
  | .tup ds => intsD ds
  | _ => none
def keyT (d : D) : List Int := (tupN d).getD []
def leT (a b : D) : Bool := !HT.lexLt (keyT b) (keyT a)
def sortedT (ds : List D) : List D := ds.mergeSort leT
def head0 : List D → Bool
  | .tup [] :: _ => true
  | _ => false
def tupsOk (ds : List D) : Bool := decide (ds.length ≤ LIM) && ds.all (fun d => (tupN d).isSome) && head0 ds
@[simp] def sortF0 : Store → List D → Option (List D) := fun _ xs => match xs with
  | [.lst ds] => if tupsOk ds = true then some (sortedT ds) else none
  | _ => none
theorem tupsOk_ok {ds : List D} (h : tupsOk ds = true) : ds.length ≤ LIM ∧ (∀ d ∈ ds, tupN d = some (keyT d)) ∧ ∃ r, ds = .tup [] :: r := by
  unfold tupsOk at h
  simp only [Bool.and_eq_true, List.all_eq_true, decide_eq_true_eq] at h
  obtain ⟨⟨h1, h2⟩, h3⟩ := h
  refine ⟨h1, fun d hd => ?_, ?_⟩
  · obtain ⟨p, hp⟩ := Option.isSome_iff_exists.mp (h2 d hd)
    unfold keyT
    rw [hp]; rfl
  · unfold head0 at h3
    split at h3
    · exact ⟨_, rfl⟩
    · cases h3
/-- the ints of the tuple at a value -/
noncomputable def kOf (K : PySem.W.Frag) (H : Hp) (u : Value) : List Int := by
  classical
  exact if h : ∃ ns : List Int, ∃ a : Addr, u = .ref a ∧ SqT K H a (ns.map V.int) then h.choose else []
theorem map_int_inj {a b : List Int} (h : a.map V.int = b.map V.int) : a = b := by
  induction a generalizing b with
  | nil => cases b with
    | nil => rfl
    | cons y b => cases h
  | cons x a ih => cases b with
    | nil => cases h
    | cons y b =>
      simp only [List.map_cons, List.cons.injEq, V.int.injEq] at h
      rw [h.1, ih h.2]
section
variable {X : Cx}
theorem kOf_is {pins : List (Addr × Obj)} {σ : St} {H : Hp} {s : Shared} (I : Inv X pins σ H s) {a : Addr} {ns : List Int} (h : SqT X.K H a (ns.map V.int)) : kOf X.K H (.ref a) = ns := by
  have hx : ∃ ns' : List Int, ∃ a' : Addr, Value.ref a = .ref a' ∧ SqT X.K H a' (ns'.map V.int) := ⟨ns, a, rfl, h⟩
  unfold kOf
  rw [dif_pos hx]
  obtain ⟨a', e, q⟩ := hx.choose_spec
  cases e
  exact map_int_inj (I.tuple_inj q h)
theorem tup_sq {S H : Hp} {t : Th} {v : V} {u : Value} {d : D} {ns : List Int} (ss : Sub S H) (r : RelV v u) (hd : DR X.K S t v d) (hn : tupN d = some ns) : ∃ a, u = .ref a ∧ SqT X.K H a (ns.map V.int) := by
  cases d with
  | tup ds =>
    cases hd with
    | @tup a vs _ h1 h2 =>
      obtain rfl : u = Value.ref a := r
      have e := intsD_spec hn h2
      subst e
      exact ⟨a, rfl, ss.sqT h1⟩
  | _ => cases hn
def rSort0 (K : PySem.W.Frag) : List V → Hp → VK → Prop := fun xs H Q => ∃ S t m a ds vs, HI K S H t m ∧ xs = [V.ref a] ∧ SqL K H a vs ∧ DRs K S t vs ds ∧ tupsOk ds = true ∧ ∀ p ws, H p = none → DRs K S t ws (sortedT ds) → Q (.ref p) (upd H p (.lst ws))
theorem lexTot : PySem.W.TotalLe fun a b : List Int => !HT.lexLt b a := by
  refine ⟨fun a b c h1 h2 => ?_, fun a b => ?_⟩
  · simp only [Bool.not_eq_true'] at h1 h2 ⊢
    exact SrtO.lexLt_trans _ _ _ h1 h2
  · simp only [Bool.not_eq_true']
    cases h : HT.lexLt b a with
    | false => exact .inl rfl
    | true => exact .inr (SrtO.lexLt_asymm _ _ h)
theorem totOn {α : Type} (k : α → List Int) : PySem.W.TotalLe fun a b : α => !HT.lexLt (k b) (k a) := ⟨fun _ _ _ h1 h2 => lexTot.trans _ _ _ h1 h2, fun _ _ => lexTot.total _ _⟩
theorem cr_sort0 (hu : X.A.units + 65 < cLine) : CallR X (.builtin "sorted") (rSort0 X.K) := by
  intro pins s σ H xs us Q I r h
  obtain ⟨S, t, m, a, ds, vs, hi, rfl, hs, hd, ok, q⟩ := h
  obtain ⟨u, rfl, ru⟩ := vals1 r
  obtain rfl : u = Value.ref a := ru
  obtain ⟨its, rv, hl, hz⟩ := I.list hs
  have e1 := each_of hd rv
  obtain ⟨hL, hk, r0, er0⟩ := tupsOk_ok ok
  have hkey : ∀ p, p ∈ its.zip ds → kOf X.K H p.1 = keyT p.2 ∧ SrtO.TupIs s.heap p.1 (keyT p.2) := by
    intro p hp
    obtain ⟨v, rp, dp⟩ := e1.zip p hp
    have hm : p.2 ∈ ds := (List.of_mem_zip hp).2
    obtain ⟨b, eb, sb⟩ := tup_sq hi.sub rp dp (hk p.2 hm)
    have k1 := kOf_is I sb
    obtain ⟨it2, rv2, p2, hz2⟩ := I.tuple sb
    rw [eb]
    exact ⟨k1, b, it2.toArray, rfl, p2, by simpa using rv2.ints⟩
  refine SrtO.sorted_ord (SrtO.swo_tup (kOf X.K H)) hl.isList (by rw [← rv.length]; exact hz) (fun h2 h₁ a' ha kk => ?_) fun out h1 h2 => ?_
  · subst er0
    cases e1 with
    | @cons u0 _ us _ h0 hr =>
    obtain ⟨k0, _⟩ := hkey (u0, .tup []) (by simp)
    refine SrtO.tups_sortable (s := { s with heap := h₁ }) k0 (fun v hv => ?_) (fun o e => ?_) ?_
    · obtain ⟨i, hi2, e⟩ := List.getElem_of_mem hv
      have hlen : (D.tup [] :: r0).length = (u0 :: us).length := by simp [hr.length]
      have hz : (v, (D.tup [] :: r0)[i]'(by omega)) ∈ (u0 :: us).zip (D.tup [] :: r0) := by
        rw [List.mem_iff_getElem]
        exact ⟨i, by simp at hi2 hlen ⊢; omega, by rw [List.getElem_zip, e]⟩
      obtain ⟨k1, k2⟩ := hkey _ hz
      rw [k1]
      exact k2.keeps fun b o e _ => (kk b o e).2
    · have e' : some o = some (PyProof.Rows.seqObj "list" (u0 :: us).toArray 0) := e.symm.trans ha
      cases e'
      intro c
      exact absurd (Value.type.inj c) (by decide)
    · show X.A.in1.in1.units < cLine
      first | (show X.A.units < cLine; omega) | (simp [Around.in1]; omega)
  · have ho : out = its.mergeSort (fun u v => !HT.lexLt (kOf X.K H v) (kOf X.K H u)) := by
      refine PySem.W.sort_unique (totOn (kOf X.K H)) (h1.imp fun {x y} h => by
        have h : HT.lexLt (kOf X.K H y) (kOf X.K H x) = false := h
        show (!HT.lexLt (kOf X.K H y) (kOf X.K H x)) = true
        rw [h]; rfl) fun c => ?_
      have := h2.cls c
      have eq : SrtO.eqv (fun v u => HT.lexLt (kOf X.K H v) (kOf X.K H u)) c = PySem.W.sameRank (fun u v => !HT.lexLt (kOf X.K H v) (kOf X.K H u)) c := by
        funext z
        unfold SrtO.eqv PySem.W.sameRank
        exact Bool.and_comm _ _
      rw [eq] at this
      exact this
    have eo := PySem.W.sort_each (r := fun u v => !HT.lexLt (kOf X.K H v) (kOf X.K H u)) (s := leT) e1 fun p hp q hq => by
      show (!HT.lexLt (kOf X.K H q.1) (kOf X.K H p.1)) = (!HT.lexLt (keyT q.2) (keyT p.2))
      rw [(hkey p hp).1, (hkey q hq).1]
    rw [← ho] at eo
    obtain ⟨ws, rw', dw⟩ := each_back eo
    obtain ⟨ep, he'⟩ := PyProof.Rows.sortedAll_at s.heap its out.toArray
    have hlen : ws.length ≤ sizeLine := by
      have : ws.length = (sortedT ds).length := dw.length
      rw [this]
      unfold sortedT
      rw [List.length_mergeSort]
      exact lim_le hL
    exact ⟨.ref _, upd H (s.heap.objs.size + 1) (.lst ws), I.laid (t' := s.toks) (fun _ _ => PyProof.Rows.sortedAll_old) (Nat.le_succ _) ⟨hlen, out, ep, rw', he'⟩, rfl, q _ ws (I.hok.fresh (Nat.le_succ _)) dw⟩
def sortF2 : Store → List D → Option (List D) := fun m xs => match sortF m xs with
  | some z => some z
  | none => sortF0 m xs
theorem cf_sort2 (hu : X.A.units + 65 < cLine) : CallF X (.builtin "sorted") sortF2 := by
  obtain ⟨r1, c1, d1⟩ := cf_sort hu
  refine ⟨fun xs H Q => r1 xs H Q ∨ rSort0 X.K xs H Q, fun pins s σ H xs us Q I r h => ?_, fun S H t m xs ds zs Q i bs hz q => ?_⟩
  · rcases h with h | h
    · exact c1 pins s σ H xs us Q I r h
    · exact cr_sort0 hu pins s σ H xs us Q I r h
  · unfold sortF2 at hz
    cases e : sortF m ds with
    | some z =>
      rw [e] at hz
      cases hz
      exact .inl (d1 S H t m xs ds _ Q i bs e q)
    | none =>
      rw [e] at hz
      refine .inr ?_
      replace hz : sortF0 m ds = some zs := hz
      unfold sortF0 at hz
      split at hz
      · rename_i es
        split at hz
        · rename_i ok
          cases hz
          cases bs with
          | cons b1 b2 =>
            cases b2
            obtain ⟨a, vs, rfl, a2, a3⟩ := b1.lst i
            refine ⟨S, t, m, a, es, vs, i, rfl, .of a2, a3, ok, fun p ws hp dw => ?_⟩
            obtain ⟨p2, i2, r⟩ := new_own i hp dw
            exact q _ _ _ p2 i2 r hp
        · cases hz
      · cases hz
def sortG2 : Store → List D → Option D := fun m xs => (sortF2 m xs).map .lst
theorem cb_sort2 (hu : X.A.units + 65 < cLine) : CallD X (.builtin "sorted") sortG2 := (cf_sort2 hu).settle
end
end Dn
namespace Dn.K55
open PySem L2
/-! What law_k55_whole_meeting reaches, as combinators (printed by pr.py). -/
noncomputable def B_law : EvS :=
  (seqS (ownS 1 (bltF lstG (consA (varE 0) (consA (conE (.int 0)) nilA))))
  (seqS (stoS 1) (seqS (forS (argI rng1 (consA (conE (.int 3)) nilA)) (.nm 2)
  (seqS (ownS 3 (bltF lstG nilA))
  (seqS (forS (argI rng1 (consA (fnE 1 (consA (varE 1) (consA (conE (.int 7)) nilA))) nilA)) (.nm 4)
  (appS 3 (bltE tupleG (consA (frzE (lcF (argI rng1 (consA (bin addA (conE (.int 1)) (fnE 1 (consA (varE 1) (consA (conE (.int 3)) nilA)))) nilA)) (.nm 13) yesT (fnE 1 (consA (varE 1) (consA (conE (.int 6)) nilA))) [13])) nilA))))
  (seqS (frzS 3) (seqS (asgS (.nm 5) (frzE (lcF (seqI (fnE 2 (consA (conE (.int 6)) nilA))) (.nm 12) (blT (fnE 3 (consA (varE 3) (consA (varE 12) nilA)))) (varE 12) [12])))
  (seqS (asgS (.nm 6) (fnE 4 (consA (varE 3) (consA (bin powG (conE (.int 10)) (conE (.int 9))) nilA))))
  (seqS (asgS (.tp [(.nm 7), (.nm 8)]) (varE 6))
  (seqS (ifS (orT (blT (bin neG (bltE lenG (consA (brwE 7) nilA)) (bltE lenG (consA (bin ixG (brwE 5) (conE (.int 0))) nilA)))) (orT (notT (blT (fnE 3 (consA (varE 3) (consA (varE 7) nilA))))) (blT (bin neG (brwE 7) (bltE tupleG (consA (bltE sortG2 (consA (brwE 7) nilA)) nilA))))))
  (retS (conE (.bl false)))
  nxS)
  (seqS (ifS (orT (notT (blT (fnE 5 (consA (varE 3) (consA (varE 7) (consA (varE 8) nilA)))))) (blT (bin neG (bin isG (brwE 8) (conE .non)) (bin eqG (brwE 7) (bltE tupG nilA)))))
  (retS (conE (.bl false)))
  nxS)
  (seqS (ifS (blT (bin isNotG (brwE 8) (conE .non)))
  (seqS (asgS (.nm 10) (fnE 6 (consA (varE 1) (consA (varE 8) nilA))))
  (seqS (ifS (blT (bin neG (fnE 5 (consA (varE 3) (consA (varE 7) (consA (varE 10) nilA)))) (fnE 7 (consA (varE 3) (consA (bltE tupG nilA) (consA (bin subG (bltE lenG (consA (brwE 7) nilA)) (conE (.int 1))) (consA (varE 10) nilA)))))))
  (retS (conE (.bl false)))
  nxS)
  (ifS (orT (blT (fnE 5 (consA (varE 3) (consA (varE 7) (consA (conE .non) nilA))))) (orT (blT (fnE 5 (consA (varE 3) (consA (slA (brwE 7) (intO (conE (.int 1))) noO) (consA (varE 8) nilA))))) (blT (fnE 5 (consA (varE 3) (consA (bin addA (brwE 7) (bltE tupG (consA (conE (.int 9)) nilA))) (consA (varE 8) nilA)))))))
  (retS (conE (.bl false)))
  nxS)))
  nxS)
  (seqS (asgS (.nm 9) (fnE 8 (consA (varE 1) (consA (varE 5) nilA))))
  (seqS (ifS (blT (bin neG (fnE 5 (consA (varE 3) (consA (varE 9) (consA (varE 8) nilA)))) (bin eqG (bltE lenG (consA (brwE 9) nilA)) (bltE lenG (consA (brwE 7) nilA)))))
  (retS (conE (.bl false)))
  nxS)
  (seqS (ifS (blT (bin isNotG (fnE 4 (consA (bin addA (brwE 3) (frzE (bltF lstG (consA (bltE tupG nilA) nilA)))) (consA (bin powG (conE (.int 10)) (conE (.int 9))) nilA))) (conE .non)))
  (retS (conE (.bl false)))
  nxS)
  (tryS 0 11
  (seqS (dropS (fnE 4 (consA (varE 3) (consA (conE (.int 0)) nilA))))
  (retS (conE (.bl false))))
  (ifS (blT (bin neG (xfE 11 0) (conE (.int 0))))
  (retS (conE (.bl false)))
  nxS)))))))))))))))
  (retS (conE (.bl true))))))
noncomputable def B_law_take : EvS :=
  (seqS (stoAug addI (varE 0) (conE (.int 1)) (conE (.int 1)))
  (retS (bin modG (bltE intG (consA (fnE 9 (consA (bin ixG (brwE 0) (conE (.int 0))) (consA (bltE intG (consA (bin ixG (brwE 0) (conE (.int 1))) nilA)) nilA))) nilA)) (brwE 1))))
noncomputable def B_law_rows : EvS :=
  (seqS (ownS 1 (bltF lstG (consA (bltE tupG nilA) nilA)))
  (seqS (forS (argI rng1 (consA (varE 0) nilA)) (.nm 2)
  (extS 1 (frzE (lcF (ownI 1) (.nm 3) yesT (bin addA (brwE 3) (bltE tupG (consA (varE 2) nilA))) [3]))))
  (retS (frzE (sortLen (bltE sortG2 (consA (brwE 1) nilA)))))))
noncomputable def B_law_meets : EvS :=
  (retS (bltE allG (consA (frzE (lcF (seqI (varE 0)) (.nm 2) yesT (bltE anyG (consA (frzE (lcF (seqI (varE 2)) (.nm 3) yesT (bin inG (brwE 3) (brwE 1)) [3])) nilA)) [2])) nilA)))
noncomputable def B_fewest_meeting : EvS :=
  (seqS (dropS (fnE 10 (consA (varE 1) nilA)))
  (seqS (ifS (blT (bltE anyG (consA (frzE (lcF (seqI (varE 0)) (.nm 4) yesT (bin eqG (bltE lenG (consA (brwE 4) nilA)) (conE (.int 0))) [4])) nilA)))
  (retS (conE .non))
  nxS)
  (seqS (asgS (.nm 2) (conE (.int 0)))
  (seqS (whileS (blT (conE (.bl true)))
  (seqS (asgS (.nm 3) (metE "Walk" "met" 11 (newE "Walk" 12 (consA (varE 0) (consA (varE 1) nilA))) (consA (bltE tupG nilA) (consA (varE 2) nilA))))
  (seqS (ifS (blT (bin isNotG (brwE 3) (conE .non)))
  brkS
  nxS)
  (asgS (.nm 2) (bin addA (brwE 2) (conE (.int 1)))))))
  (retS (bltE tupG (consA (bltE tupleG (consA (bltE sortG2 (consA (brwE 3) nilA)) nilA)) (consA (ifE (blT (bin eqG (brwE 2) (conE (.int 0)))) (conE .non) (metE "Walk" "tree" 14 (newE "Walk" 12 (consA (varE 0) (consA (varE 1) nilA))) (consA (bltE tupG nilA) (consA (bin subG (brwE 2) (conE (.int 1))) nilA)))) nilA))))))))
noncomputable def B_is_fewest_meeting : EvS :=
  (seqS (ifS (orT (notT (blT (isE "tuple" (brwE 1)))) (blT (bin isNotG (fnE 15 (consA (varE 0) (consA (varE 1) nilA))) (conE .non))))
  (retS (conE (.bl false)))
  nxS)
  (seqS (ifS (blT (bltE anyG (consA (frzE (lcF (argI enumG (consA (varE 1) nilA)) (.tp [(.nm 3), (.nm 4)]) yesT (bin inG (brwE 4) (slA (brwE 1) noO (intO (varE 3)))) [3, 4])) nilA)))
  (retS (conE (.bl false)))
  nxS)
  (seqS (ifS (blT (bin eqG (brwE 1) (bltE tupG nilA)))
  (retS (bin isG (brwE 2) (conE .non)))
  nxS)
  (retS (fnE 16 (consA (varE 0) (consA (bltE tupG nilA) (consA (bin subG (bltE lenG (consA (brwE 1) nilA)) (conE (.int 1))) (consA (varE 2) nilA)))))))))
noncomputable def B_law_bent : EvS :=
  (seqS (asgS (.nm 2) (fnE 1 (consA (varE 0) (consA (conE (.int 4)) nilA))))
  (seqS (ifS (orT (blT (bin eqG (brwE 2) (conE (.int 0)))) (blT (bin eqG (bin ixG (brwE 1) (conE (.int 1))) (bltE tupG nilA))))
  (retS (bltE tupG (consA (bin addA (bin ixG (brwE 1) (conE (.int 0))) (conE (.int 1))) (consA (bin ixG (brwE 1) (conE (.int 1))) nilA))))
  nxS)
  (seqS (ifS (blT (bin eqG (brwE 2) (conE (.int 1))))
  (retS (bltE tupG (consA (bin ixG (brwE 1) (conE (.int 0))) (consA (slA (bin ixG (brwE 1) (conE (.int 1))) (intO (conE (.int 1))) noO) nilA))))
  nxS)
  (seqS (asgS (.nm 3) (fnE 1 (consA (varE 0) (consA (bltE lenG (consA (bin ixG (brwE 1) (conE (.int 1))) nilA)) nilA))))
  (seqS (asgS (.tp [(.nm 4), (.nm 5)]) (bin ixG (bin ixG (brwE 1) (conE (.int 1))) (brwE 3)))
  (seqS (asgS (.nm 6) (ifE (blT (bin eqG (brwE 2) (conE (.int 2)))) (bltE tupG (consA (varE 4) (consA (fnE 6 (consA (varE 0) (consA (varE 5) nilA))) nilA))) (bltE tupG (consA (bin addA (brwE 4) (conE (.int 1))) (consA (varE 5) nilA)))))
  (retS (bltE tupG (consA (bin ixG (brwE 1) (conE (.int 0))) (consA (bin addA (bin addA (slA (bin ixG (brwE 1) (conE (.int 1))) noO (intO (varE 3))) (bltE tupG (consA (varE 6) nilA))) (slA (bin ixG (brwE 1) (conE (.int 1))) (intO (bin addA (brwE 3) (conE (.int 1)))) noO)) nilA))))))))))
noncomputable def B_law_is_tree : EvS :=
  (seqS (ifS (orT (notT (blT (isE "tuple" (brwE 3)))) (orT (blT (bin neG (bltE lenG (consA (brwE 3) nilA)) (conE (.int 2)))) (notT (blT (chainE leG ltG (conE (.int 0)) (bin ixG (brwE 3) (conE (.int 0))) (bltE lenG (consA (brwE 0) nilA)))))))
  (retS (conE (.bl false)))
  nxS)
  (seqS (asgS (.nm 4) (bin ixG (brwE 0) (bin ixG (brwE 3) (conE (.int 0)))))
  (seqS (ifS (blT (bltE anyG (consA (frzE (lcF (seqI (varE 4)) (.nm 5) yesT (bin inG (brwE 5) (brwE 1)) [5])) nilA)))
  (retS (conE (.bl false)))
  nxS)
  (seqS (ifS (blT (bin eqG (brwE 2) (conE (.int 0))))
  (retS (bin eqG (bin ixG (brwE 3) (conE (.int 1))) (bltE tupG nilA)))
  nxS)
  (seqS (ifS (blT (bin neG (frzE (sortSet (frzE (lcF (seqI (bin ixG (brwE 3) (conE (.int 1)))) (.tp [(.nm 5), (.nm 6)]) yesT (varE 5) [5, 6])))) (frzE (sortSet (varE 4)))))
  (retS (conE (.bl false)))
  nxS)
  (retS (bltE allG (consA (frzE (lcF (seqI (bin ixG (brwE 3) (conE (.int 1)))) (.tp [(.nm 5), (.nm 6)]) yesT (fnE 7 (consA (varE 0) (consA (bin addA (brwE 1) (bltE tupG (consA (varE 5) nilA))) (consA (bin subG (brwE 2) (conE (.int 1))) (consA (varE 6) nilA))))) [5, 6])) nilA))))))))
noncomputable def B_law_pick : EvS :=
  (retS (bin ixG (brwE 1) (fnE 1 (consA (varE 0) (consA (bltE lenG (consA (brwE 1) nilA)) nilA)))))
noncomputable def B_law_number : EvS :=
  (seqS (ifS (blT (bin eqG (brwE 0) (frzE (bltF lstG nilA))))
  (retS (bltE intG (consA (bin modG (bin addA (bin mulG (brwE 1) (conE (.int 48271))) (conE (.int 12345))) (conE (.int 2147483647))) nilA)))
  nxS)
  (seqS (asgS (.nm 2) (bin ixG (brwE 0) (bin modG (brwE 1) (bltE lenG (consA (brwE 0) nilA)))))
  (seqS (ifS (blT (bin geG (bltE absG (consA (brwE 2) nilA)) (bin powG (conE (.int 10)) (conE (.int 60)))))
  (asgS (.nm 2) (bin modG (brwE 2) (bin powG (conE (.int 10)) (conE (.int 18)))))
  nxS)
  (seqS (asgS (.nm 3) (bin modG (bin addA (bin mulG (bin addA (brwE 2) (bin mulG (conE (.int 977)) (brwE 1))) (conE (.int 48271))) (bin mulG (conE (.int 31)) (bltE lenG (consA (brwE 0) nilA)))) (conE (.int 2147483647))))
  (retS (bltE intG (consA (bin modG (bin addA (bin mulG (bin modG (bin mulG (brwE 3) (conE (.int 69621))) (conE (.int 2147483629))) (conE (.int 16807))) (brwE 1)) (conE (.int 2147483587))) nilA)))))))
noncomputable def B_check_most : EvS :=
  (ifS (blT (bin ltG (brwE 0) (conE (.int 1))))
  (raiseS 0 (consA (varE 0) nilA))
  nxS)
noncomputable def B_Walk_met : EvS :=
  (seqS (ifS (blT (bin eqG (fldE "Walk" "looked" (varE 0)) (fldE "Walk" "most" (varE 0))))
  (raiseS 0 (consA (fldE "Walk" "most" (varE 0)) nilA))
  nxS)
  (seqS (fldAugS addI "Walk" "looked" (varE 0) (conE (.int 1)))
  (seqS (asgS (.nm 3) (fnE 15 (consA (fldE "Walk" "lots" (varE 0)) (consA (varE 1) nilA))))
  (seqS (ifS (blT (bin isG (brwE 3) (conE .non)))
  (retS (varE 1))
  nxS)
  (seqS (ifS (blT (bin eqG (brwE 2) (conE (.int 0))))
  (retS (conE .non))
  nxS)
  (seqS (forS (seqI (bltE sortG2 (consA (bin ixG (fldE "Walk" "lots" (varE 0)) (brwE 3)) nilA))) (.nm 4)
  (seqS (asgS (.nm 5) (metE "Walk" "met" 11 (varE 0) (consA (bltE tupG (starA (seqOnly (varE 1)) (consA (varE 4) nilA))) (consA (bin subG (brwE 2) (conE (.int 1))) nilA))))
  (ifS (blT (bin isNotG (brwE 5) (conE .non)))
  (retS (varE 5))
  nxS)))
  (retS (conE .non))))))))
noncomputable def B_Walk__init : EvS :=
  (callS 13)
noncomputable def B_Walk__init__b : EvS :=
  (seqS (fldS "Walk" "lots" (varE 0) (varE 1))
  (seqS (fldS "Walk" "most" (varE 0) (varE 2))
  (fldS "Walk" "looked" (varE 0) (conE (.int 0)))))
noncomputable def B_Walk_tree : EvS :=
  (seqS (ifS (blT (bin eqG (fldE "Walk" "looked" (varE 0)) (fldE "Walk" "most" (varE 0))))
  (raiseS 0 (consA (fldE "Walk" "most" (varE 0)) nilA))
  nxS)
  (seqS (fldAugS addI "Walk" "looked" (varE 0) (conE (.int 1)))
  (seqS (asgS (.nm 3) (fnE 15 (consA (fldE "Walk" "lots" (varE 0)) (consA (varE 1) nilA))))
  (seqS (ifS (blT (bin eqG (brwE 2) (conE (.int 0))))
  (retS (bltE tupG (consA (varE 3) (consA (bltE tupG nilA) nilA))))
  nxS)
  (seqS (asgS (.nm 4) (frzE (sortDk 5 (bin ixG (fldE "Walk" "lots" (varE 0)) (brwE 3)))))
  (retS (bltE tupG (consA (varE 3) (consA (bltE tupleG (consA (frzE (lcF (seqI (varE 4)) (.nm 5) yesT (bltE tupG (consA (varE 5) (consA (metE "Walk" "tree" 14 (varE 0) (consA (bltE tupG (starA (seqOnly (varE 1)) (consA (varE 5) nilA))) (consA (bin subG (brwE 2) (conE (.int 1))) nilA))) nilA))) [5])) nilA)) nilA)))))))))
noncomputable def B_unmet : EvS :=
  (seqS (forS (argI enumG (consA (varE 0) nilA)) (.tp [(.nm 2), (.nm 3)])
  (ifS (notT (blT (bltE anyG (consA (frzE (lcF (seqI (varE 3)) (.nm 4) yesT (bin inG (brwE 4) (brwE 1)) [4])) nilA))))
  (retS (varE 2))
  nxS))
  (retS (conE .non)))
noncomputable def B_shows_tree : EvS :=
  (seqS (ifS (orT (notT (blT (isE "tuple" (brwE 3)))) (orT (blT (bin neG (bltE lenG (consA (brwE 3) nilA)) (conE (.int 2)))) (notT (blT (fnE 17 (consA (bin ixG (brwE 3) (conE (.int 0))) (consA (conE (.int 0)) (consA (bin subG (bltE lenG (consA (brwE 0) nilA)) (conE (.int 1))) nilA))))))))
  (retS (conE (.bl false)))
  nxS)
  (seqS (asgS (.nm 4) (bin ixG (brwE 0) (bin ixG (brwE 3) (conE (.int 0)))))
  (seqS (ifS (orT (blT (bltE anyG (consA (frzE (lcF (seqI (varE 4)) (.nm 7) yesT (bin inG (brwE 7) (brwE 1)) [7])) nilA))) (notT (blT (isE "tuple" (bin ixG (brwE 3) (conE (.int 1)))))))
  (retS (conE (.bl false)))
  nxS)
  (seqS (ifS (blT (bin eqG (brwE 2) (conE (.int 0))))
  (retS (bin eqG (bin ixG (brwE 3) (conE (.int 1))) (bltE tupG nilA)))
  nxS)
  (seqS (ifS (notT (blT (bltE allG (consA (frzE (lcF (seqI (bin ixG (brwE 3) (conE (.int 1)))) (.nm 6) yesT (andE (isE "tuple" (brwE 6)) (bin eqG (bltE lenG (consA (brwE 6) nilA)) (conE (.int 2)))) [6])) nilA))))
  (retS (conE (.bl false)))
  nxS)
  (seqS (asgS (.nm 5) (frzE (lcF (seqI (bin ixG (brwE 3) (conE (.int 1)))) (.nm 6) yesT (bin ixG (brwE 6) (conE (.int 0))) [6])))
  (seqS (ifS (orT (notT (blT (bltE allG (consA (frzE (lcF (seqI (varE 4)) (.nm 7) yesT (bin inG (brwE 7) (brwE 5)) [7])) nilA)))) (notT (blT (bltE allG (consA (frzE (lcF (seqI (varE 5)) (.nm 7) yesT (bin inG (brwE 7) (brwE 4)) [7])) nilA)))))
  (retS (conE (.bl false)))
  nxS)
  (retS (bltE allG (consA (frzE (lcF (seqI (bin ixG (brwE 3) (conE (.int 1)))) (.tp [(.nm 7), (.nm 8)]) yesT (fnE 16 (consA (varE 0) (consA (bltE tupG (starA (seqOnly (varE 1)) (consA (varE 7) nilA))) (consA (bin subG (brwE 2) (conE (.int 1))) (consA (varE 8) nilA))))) [7, 8])) nilA))))))))))
noncomputable def B_is_whole : EvS :=
  (retS (andE (isE "int" (brwE 0)) (andE (notE (isE "bool" (brwE 0))) (chainE leG leG (brwE 1) (brwE 0) (brwE 2)))))
noncomputable def tab : Tab
  | 0 => some ⟨1, 14, B_law⟩
  | 1 => some ⟨2, 2, B_law_take⟩
  | 2 => some ⟨1, 4, B_law_rows⟩
  | 3 => some ⟨2, 4, B_law_meets⟩
  | 4 => some ⟨2, 5, B_fewest_meeting⟩
  | 5 => some ⟨3, 5, B_is_fewest_meeting⟩
  | 6 => some ⟨2, 7, B_law_bent⟩
  | 7 => some ⟨4, 7, B_law_is_tree⟩
  | 8 => some ⟨2, 2, B_law_pick⟩
  | 9 => some ⟨2, 4, B_law_number⟩
  | 10 => some ⟨1, 1, B_check_most⟩
  | 11 => some ⟨3, 6, B_Walk_met⟩
  | 12 => some ⟨3, 3, B_Walk__init⟩
  | 13 => some ⟨3, 3, B_Walk__init__b⟩
  | 14 => some ⟨3, 6, B_Walk_tree⟩
  | 15 => some ⟨2, 5, B_unmet⟩
  | 16 => some ⟨4, 9, B_shows_tree⟩
  | 17 => some ⟨3, 3, B_is_whole⟩
  | _ => none
end Dn.K55
/-! The plain law: the fewest things that meet all lots. -/
namespace Dn.K55
abbrev Lots := List (List Int)
def hit (ts lot : List Int) : Bool := lot.any fun x => decide (x ∈ ts)
def unmetM (ts : List Int) : Lots → Option Nat
  | [] => none
  | lot :: r => if hit ts lot = true then (unmetM ts r).map (· + 1) else some 0
def up (l : List Int) : List Int := l.mergeSort fun a b => decide (a ≤ b)
def tryL (f : Int → Option (List Int) × Nat) : List Int → Option (List Int) × Nat
  | [] => (none, 0)
  | x :: xs => match (f x).1 with
    | some r => (some r, (f x).2)
    | none => ((tryL f xs).1, (f x).2 + (tryL f xs).2)
def lotAt (lots : Lots) (n : Nat) : List Int := lots[n]?.getD []
def metM (lots : Lots) : Nat → List Int → Option (List Int) × Nat
  | 0, ts => match unmetM ts lots with
    | none => (some ts, 1)
    | some _ => (none, 1)
  | k + 1, ts => match unmetM ts lots with
    | none => (some ts, 1)
    | some n => ((tryL (fun x => metM lots k (ts ++ [x])) (up (lotAt lots n))).1, 1 + (tryL (fun x => metM lots k (ts ++ [x])) (up (lotAt lots n))).2)
@[reducible] def T : Nat → Type
  | 0 => Int
  | k + 1 => Int × List (Int × T k)
def numM (lots : Lots) (ts : List Int) : Int := (((unmetM ts lots).getD 0 : Nat) : Int)
def treeM (su : List Int → List Int) (lots : Lots) : (k : Nat) → List Int → T k
  | 0, ts => numM lots ts
  | k + 1, ts => (numM lots ts, (su (lotAt lots ((unmetM ts lots).getD 0))).map fun x => (x, treeM su lots k (ts ++ [x])))
def sumN : List Nat → Nat
  | [] => 0
  | x :: l => x + sumN l
def treeC (su : List Int → List Int) (lots : Lots) : Nat → List Int → Nat
  | 0, _ => 1
  | k + 1, ts => 1 + sumN ((su (lotAt lots ((unmetM ts lots).getD 0))).map fun x => treeC su lots k (ts ++ [x]))
def nodeB {β : Type} (lots : Lots) (ts : List Int) (many : Nat) (n : Int) (bs : List (Int × β)) (f : Int → β → Bool) : Bool :=
  if 0 ≤ n ∧ n < (lots.length : Int) then
    if hit ts (lotAt lots n.toNat) = true then false
    else if many = 0 then bs.isEmpty
    else if ((lotAt lots n.toNat).all (fun x => decide (x ∈ bs.map (·.1))) && (bs.map (·.1)).all fun x => decide (x ∈ lotAt lots n.toNat)) = true then bs.all fun p => f p.1 p.2
    else false
  else false
def showsM (lots : Lots) : (k : Nat) → Nat → List Int → T k → Bool
  | 0, many, ts, n => nodeB lots ts many n ([] : List (Int × Unit)) fun _ _ => true
  | k + 1, many, ts, t => nodeB lots ts many t.1 t.2 fun x u => showsM lots k (many - 1) (ts ++ [x]) u
def Meets (lots : Lots) (ts : List Int) : Prop := unmetM ts lots = none
theorem hit_iff {ts lot : List Int} : hit ts lot = true ↔ ∃ x ∈ lot, x ∈ ts := by unfold hit; simp
theorem meets_iff {ts : List Int} : ∀ {lots : Lots}, Meets lots ts ↔ ∀ lot ∈ lots, hit ts lot = true
  | [] => by simp [Meets, unmetM]
  | lot :: r => by
    have ih := meets_iff (ts := ts) (lots := r)
    unfold Meets at ih ⊢
    unfold unmetM
    by_cases h : hit ts lot = true
    · simp [h, ih]
    · simp [h]
theorem meets_mono {lots : Lots} {a b : List Int} (h : ∀ x, x ∈ a → x ∈ b) (m : Meets lots a) : Meets lots b := by
  rw [meets_iff] at m ⊢
  intro lot hl
  obtain ⟨x, h1, h2⟩ := hit_iff.mp (m lot hl)
  exact hit_iff.mpr ⟨x, h1, h x h2⟩
theorem unmet_some {ts : List Int} : ∀ {lots : Lots} {n : Nat}, unmetM ts lots = some n → n < lots.length ∧ lots[n]? = some (lotAt lots n) ∧ hit ts (lotAt lots n) = false ∧ lotAt lots n ∈ lots
  | [], n, h => by cases h
  | lot :: r, n, h => by
    unfold unmetM at h
    by_cases c : hit ts lot = true
    · rw [if_pos c] at h
      cases e : unmetM ts r with
      | none => rw [e] at h; cases h
      | some k =>
        rw [e] at h
        cases h
        obtain ⟨h1, h2, h3, h4⟩ := unmet_some e
        have : lotAt (lot :: r) (k + 1) = lotAt r k := by unfold lotAt; simp
        rw [this]
        exact ⟨by simp; omega, by simpa using h2, h3, List.mem_cons_of_mem _ h4⟩
    · rw [if_neg c] at h
      cases h
      have : lotAt (lot :: r) 0 = lot := by unfold lotAt; simp
      rw [this]
      exact ⟨by simp, by simp, by simpa using c, List.mem_cons_self⟩
theorem up_perm (l : List Int) : (up l).Perm l := List.mergeSort_perm _ _
theorem up_mem {l : List Int} {x : Int} : x ∈ up l ↔ x ∈ l := (up_perm l).mem_iff
theorem up_le (l : List Int) : (up l).Pairwise (· ≤ ·) := by
  have := List.pairwise_mergeSort (le := fun a b : Int => decide (a ≤ b)) (fun a b c h1 h2 => by simp at *; omega) (fun a b => by simp; omega) l
  exact this.imp fun h => by simpa using h
theorem tryL_some {f : Int → Option (List Int) × Nat} {r : List Int} : ∀ {l : List Int}, (tryL f l).1 = some r → ∃ x ∈ l, (f x).1 = some r
  | [], h => by cases h
  | x :: l, h => by
    unfold tryL at h
    cases e : (f x).1 with
    | some q => rw [e] at h; cases h; exact ⟨x, List.mem_cons_self, e⟩
    | none =>
      rw [e] at h
      obtain ⟨y, hy, e2⟩ := tryL_some h
      exact ⟨y, List.mem_cons_of_mem _ hy, e2⟩
theorem tryL_none {f : Int → Option (List Int) × Nat} : ∀ {l : List Int}, (tryL f l).1 = none → ∀ x ∈ l, (f x).1 = none
  | [], h => fun x hx => by cases hx
  | x :: l, h => by
    unfold tryL at h
    cases e : (f x).1 with
    | some q => rw [e] at h; cases h
    | none =>
      rw [e] at h
      intro y hy
      rcases List.mem_cons.mp hy with rfl | hy
      · exact e
      · exact tryL_none h y hy
theorem tryL_count {f : Int → Option (List Int) × Nat} {N : Nat} (h : ∀ x, (f x).2 ≤ N) : ∀ l : List Int, (tryL f l).2 ≤ l.length * N
  | [] => by simp [tryL]
  | x :: l => by
    have h1 := h x
    have h2 := tryL_count h l
    unfold tryL
    cases e : (f x).1 with
    | some q => simp [Nat.succ_mul]; omega
    | none => simp [Nat.succ_mul]; omega
theorem met_sound (lots : Lots) : ∀ (k : Nat) (ts r : List Int), (metM lots k ts).1 = some r → ∃ ext, r = ts ++ ext ∧ ext.length ≤ k ∧ Meets lots r ∧ (ts.Nodup → r.Nodup) ∧ ∀ x ∈ ext, ∃ lot ∈ lots, x ∈ lot
  | 0, ts, r, h => by
    unfold metM at h
    cases e : unmetM ts lots with
    | none => rw [e] at h; cases h; exact ⟨[], by simp, by simp, e, id, by simp⟩
    | some n => rw [e] at h; cases h
  | k + 1, ts, r, h => by
    unfold metM at h
    cases e : unmetM ts lots with
    | none => rw [e] at h; cases h; exact ⟨[], by simp, by simp, e, id, by simp⟩
    | some n =>
      rw [e] at h
      obtain ⟨x, hx, e2⟩ := tryL_some h
      obtain ⟨ext, h1, h2, h3, h4, h5⟩ := met_sound lots k (ts ++ [x]) r e2
      obtain ⟨u1, u2, u3, u4⟩ := unmet_some e
      have hx := up_mem.mp hx
      refine ⟨x :: ext, by rw [h1]; simp, by simp; omega, h3, fun nd => h4 ?_, fun y hy => ?_⟩
      · rw [List.nodup_append]
        refine ⟨nd, by simp, fun a ha b hb c => ?_⟩
        simp at hb
        subst hb
        subst c
        have : hit ts (lotAt lots n) = true := hit_iff.mpr ⟨_, hx, ha⟩
        rw [this] at u3
        cases u3
      · rcases List.mem_cons.mp hy with rfl | hy
        · exact ⟨_, u4, hx⟩
        · exact h5 y hy
theorem met_none (lots : Lots) : ∀ (k : Nat) (ts : List Int), (metM lots k ts).1 = none → ∀ ext : List Int, ext.length ≤ k → ¬ Meets lots (ts ++ ext)
  | 0, ts, h => fun ext he m => by
    have : ext = [] := List.length_eq_zero_iff.mp (by omega)
    subst this
    rw [List.append_nil] at m
    unfold metM at h
    unfold Meets at m
    rw [m] at h
    cases h
  | k + 1, ts, h => fun ext he m => by
    unfold metM at h
    cases e : unmetM ts lots with
    | none => rw [e] at h; cases h
    | some n =>
      rw [e] at h
      obtain ⟨u1, u2, u3, u4⟩ := unmet_some e
      obtain ⟨x, h1, h2⟩ := hit_iff.mp (meets_iff.mp m _ u4)
      have hx : x ∉ ts := fun z => by rw [hit_iff.mpr ⟨x, h1, z⟩] at u3; cases u3
      have hx : x ∈ ext := by
        rcases List.mem_append.mp h2 with h2 | h2
        · exact absurd h2 hx
        · exact h2
      have := tryL_none h x (up_mem.mpr h1)
      refine met_none lots k (ts ++ [x]) this (ext.erase x) (by rw [List.length_erase_of_mem hx]; omega) (meets_mono (fun y hy => ?_) m)
      simp only [List.mem_append, List.mem_singleton] at hy ⊢
      rcases hy with hy | hy
      · exact .inl (.inl hy)
      · by_cases c : y = x
        · exact .inl (.inr c)
        · exact .inr ((List.mem_erase_of_ne c).mpr hy)
def NN : Nat → Nat
  | 0 => 1
  | k + 1 => 1 + 3 * NN k
theorem lotAt_len {lots : Lots} (h : ∀ lot ∈ lots, lot.length ≤ 3) (n : Nat) : (lotAt lots n).length ≤ 3 := by
  unfold lotAt
  cases e : lots[n]? with
  | none => simp
  | some lot => exact h lot (List.mem_of_getElem? e)
theorem met_count {lots : Lots} (h : ∀ lot ∈ lots, lot.length ≤ 3) : ∀ (k : Nat) (ts : List Int), (metM lots k ts).2 ≤ NN k
  | 0, ts => by unfold metM NN; cases unmetM ts lots <;> simp
  | k + 1, ts => by
    unfold metM
    cases unmetM ts lots with
    | none => simp [NN]
    | some n =>
      have h1 := tryL_count (f := fun x => metM lots k (ts ++ [x])) (N := NN k) (fun x => met_count h k _) (up (lotAt lots n))
      have h2 := (up_perm (lotAt lots n)).length_eq
      have h3 := lotAt_len h n
      have h4 : (up (lotAt lots n)).length * NN k ≤ 3 * NN k := Nat.mul_le_mul_right _ (by omega)
      unfold NN
      dsimp only
      omega
section
variable (su : List Int → List Int) (hsu : ∀ l x, x ∈ su l ↔ x ∈ l) (hle : ∀ l, (su l).length ≤ l.length)
theorem sumN_le {N : Nat} : ∀ {l : List Nat}, (∀ x ∈ l, x ≤ N) → sumN l ≤ l.length * N
  | [], _ => by simp [sumN]
  | x :: l, h => by
    have h1 := h x List.mem_cons_self
    have h2 := sumN_le fun y hy => h y (List.mem_cons_of_mem _ hy)
    simp [sumN, Nat.succ_mul]
    omega
include hle in
theorem tree_count {lots : Lots} (h : ∀ lot ∈ lots, lot.length ≤ 3) : ∀ (k : Nat) (ts : List Int), treeC su lots k ts ≤ NN k
  | 0, ts => by simp [treeC, NN]
  | k + 1, ts => by
    unfold treeC NN
    have h1 := sumN_le (N := NN k) (l := (su (lotAt lots ((unmetM ts lots).getD 0))).map fun x => treeC su lots k (ts ++ [x])) fun x hx => by
      obtain ⟨y, _, rfl⟩ := List.mem_map.mp hx
      exact tree_count h k _
    have h2 := hle (lotAt lots ((unmetM ts lots).getD 0))
    have h3 := lotAt_len h ((unmetM ts lots).getD 0)
    have h4 : (su (lotAt lots ((unmetM ts lots).getD 0))).length * NN k ≤ 3 * NN k := Nat.mul_le_mul_right _ (by omega)
    simp only [List.length_map] at h1
    omega
theorem none_next {lots : Lots} {k : Nat} {ts : List Int} (h : ∀ ext : List Int, ext.length ≤ k + 1 → ¬ Meets lots (ts ++ ext)) (x : Int) : ∀ ext : List Int, ext.length ≤ k → ¬ Meets lots (ts ++ [x] ++ ext) := fun ext he m =>
  h (x :: ext) (by simp; omega) (by simpa using m)
theorem none_some {lots : Lots} {k : Nat} {ts : List Int} (h : ∀ ext : List Int, ext.length ≤ k → ¬ Meets lots (ts ++ ext)) : ∃ n, unmetM ts lots = some n := by
  cases e : unmetM ts lots with
  | some n => exact ⟨n, rfl⟩
  | none => exact absurd (show Meets lots (ts ++ []) by rw [List.append_nil]; exact e) (h [] (by simp))
include hsu in
theorem tree_shows {lots : Lots} : ∀ (k : Nat) (ts : List Int), (∀ ext : List Int, ext.length ≤ k → ¬ Meets lots (ts ++ ext)) → showsM lots k k ts (treeM su lots k ts) = true
  | 0, ts, h => by
    obtain ⟨n, e⟩ := none_some h
    obtain ⟨u1, u2, u3, u4⟩ := unmet_some e
    unfold showsM treeM nodeB numM
    simp [e, u3, u1]
  | k + 1, ts, h => by
    obtain ⟨n, e⟩ := none_some h
    obtain ⟨u1, u2, u3, u4⟩ := unmet_some e
    unfold showsM treeM nodeB numM
    have hm : ∀ x, x ∈ List.map (fun p : Int × T k => p.1) ((su (lotAt lots n)).map fun x => (x, treeM su lots k (ts ++ [x]))) ↔ x ∈ lotAt lots n := fun x => by
      rw [List.map_map]
      show x ∈ List.map (fun y => y) _ ↔ _
      rw [List.map_id']
      exact hsu _ _
    simp only [e, Option.getD_some, Int.toNat_natCast, u3]
    rw [if_pos (by constructor <;> omega), if_neg (by simp), if_neg (by omega), if_pos]
    · rw [List.all_eq_true]
      intro p hp
      obtain ⟨x, hx, rfl⟩ := List.mem_map.mp hp
      exact tree_shows k (ts ++ [x]) (none_next h x)
    · simp only [Bool.and_eq_true, List.all_eq_true, decide_eq_true_eq]
      exact ⟨fun x hx => (hm x).mpr hx, fun x hx => (hm x).mp hx⟩
include hsu in
theorem tree_no {lots : Lots} (hne : ∀ lot ∈ lots, lot ≠ []) : ∀ (k many : Nat) (ts : List Int), k < many → (∀ ext : List Int, ext.length ≤ k → ¬ Meets lots (ts ++ ext)) → showsM lots k many ts (treeM su lots k ts) = false
  | 0, many, ts, hk, h => by
    obtain ⟨n, e⟩ := none_some h
    obtain ⟨u1, u2, u3, u4⟩ := unmet_some e
    unfold showsM treeM nodeB numM
    have hm : ¬ many = 0 := by omega
    have := hne _ u4
    cases q : lotAt lots n with
    | nil => exact absurd q this
    | cons a l => simp [e, u1, hm, q, u3]
  | k + 1, many, ts, hk, h => by
    obtain ⟨n, e⟩ := none_some h
    obtain ⟨u1, u2, u3, u4⟩ := unmet_some e
    unfold showsM treeM nodeB numM
    simp only [e, Option.getD_some, Int.toNat_natCast, u3]
    rw [if_pos (by constructor <;> omega), if_neg (by simp), if_neg (by omega)]
    split
    · have := hne _ u4
      cases q : lotAt lots n with
      | nil => exact absurd q this
      | cons a l =>
        have ha : a ∈ su (a :: l) := (hsu _ _).mpr List.mem_cons_self
        rw [List.all_eq_false]
        refine ⟨(a, treeM su lots k (ts ++ [a])), List.mem_map.mpr ⟨a, ha, rfl⟩, ?_⟩
        have := tree_no hne k (many - 1) (ts ++ [a]) (by omega) (none_next h a)
        dsimp only
        rw [this]
        simp
    · rfl
end
/-! ### rows -/
def rowsM : Nat → List (List Int)
  | 0 => [[]]
  | n + 1 => rowsM n ++ (rowsM n).map (· ++ [(n : Int)])
def Asc (l : List Int) : Prop := l.Pairwise (· < ·)
theorem rows_in : ∀ (n : Nat) (l : List Int), Asc l → (∀ x ∈ l, 0 ≤ x ∧ x < (n : Int)) → l ∈ rowsM n
  | 0, l, _, h => by
    cases l with
    | nil => simp [rowsM]
    | cons a l => have := h a List.mem_cons_self; omega
  | n + 1, l, ha, h => by
    unfold rowsM
    rw [List.mem_append]
    by_cases c : (n : Int) ∈ l
    · refine .inr (List.mem_map.mpr ?_)
      have hne : l ≠ [] := fun z => by rw [z] at c; cases c
      have e := List.dropLast_concat_getLast hne
      unfold Asc at ha
      have hl : l.getLast hne = (n : Int) := by
        have := h _ (List.getLast_mem hne)
        by_cases z : (n : Int) ∈ l.dropLast
        · rw [← e, List.pairwise_append] at ha
          have := ha.2.2 _ z _ (List.mem_singleton.mpr rfl)
          omega
        · rw [← e] at c
          rcases List.mem_append.mp c with c | c
          · exact absurd c z
          · simp at c; exact c.symm
      rw [hl] at e
      refine ⟨l.dropLast, rows_in n _ ?_ fun x hx => ?_, e⟩
      · rw [← e, List.pairwise_append] at ha
        exact ha.1
      · have h1 := h x (List.dropLast_subset _ hx)
        rw [← e, List.pairwise_append] at ha
        have := ha.2.2 _ hx _ (List.mem_singleton.mpr rfl)
        omega
    · refine .inl (rows_in n l ha fun x hx => ?_)
      have := h x hx
      have : x ≠ (n : Int) := fun z => c (z ▸ hx)
      omega
theorem rows_asc : ∀ (n : Nat) (l : List Int), l ∈ rowsM n → Asc l ∧ ∀ x ∈ l, 0 ≤ x ∧ x < (n : Int)
  | 0, l, h => by
    simp [rowsM] at h
    subst h
    exact ⟨List.Pairwise.nil, by simp⟩
  | n + 1, l, h => by
    unfold rowsM at h
    rcases List.mem_append.mp h with h | h
    · obtain ⟨h1, h2⟩ := rows_asc n l h
      exact ⟨h1, fun x hx => by have := h2 x hx; omega⟩
    · obtain ⟨r, hr, rfl⟩ := List.mem_map.mp h
      obtain ⟨h1, h2⟩ := rows_asc n r hr
      refine ⟨?_, fun x hx => ?_⟩
      · unfold Asc
        rw [List.pairwise_append]
        exact ⟨h1, List.pairwise_singleton _ _, fun a ha b hb => by simp at hb; subst hb; have := h2 a ha; omega⟩
      · rcases List.mem_append.mp hx with hx | hx
        · have := h2 x hx; omega
        · simp at hx; subst hx; omega
theorem rows_len : ∀ n : Nat, (rowsM n).length = 2 ^ n
  | 0 => rfl
  | n + 1 => by unfold rowsM; simp [rows_len n, Nat.pow_succ]; omega
theorem Asc.nodup {l : List Int} (h : Asc l) : l.Nodup := h.imp fun h => by omega
theorem up_asc {l : List Int} (h : l.Nodup) : Asc (up l) := by
  have h1 := up_le l
  have h2 : (up l).Nodup := (up_perm l).nodup_iff.mpr h
  exact (h1.and h2).imp fun ⟨a, b⟩ => by
    have : ¬ _ = _ := b
    omega
/-! ### the fewest -/
structure Few (lots : Lots) (m : Nat) (th : List Int) : Prop where
  met : (metM lots m []).1 = some th
  less : ∀ k, k < m → (metM lots k []).1 = none
  len : th.length = m
  six : m ≤ 6
  meets : Meets lots th
  nodup : th.Nodup
  dom : ∀ x ∈ th, 0 ≤ x ∧ x < 6
structure OkL (lots : Lots) : Prop where
  ne : ∀ lot ∈ lots, lot ≠ []
  le : ∀ lot ∈ lots, lot.length ≤ 3
  dom : ∀ lot ∈ lots, ∀ x ∈ lot, 0 ≤ x ∧ x < 6
  few : lots.length ≤ 6
theorem six_meets {lots : Lots} (ok : OkL lots) : Meets lots [0, 1, 2, 3, 4, 5] := meets_iff.mpr fun lot hl => by
  cases lot with
  | nil => exact absurd rfl (ok.ne _ hl)
  | cons x l =>
    have := ok.dom _ hl x List.mem_cons_self
    refine hit_iff.mpr ⟨x, List.mem_cons_self, ?_⟩
    simp
    omega
theorem least {p : Nat → Prop} [DecidablePred p] : ∀ n, p n → ∃ m, m ≤ n ∧ p m ∧ ∀ k, k < m → ¬ p k
  | 0, h => ⟨0, Nat.le_refl _, h, fun k hk => absurd hk (by omega)⟩
  | n + 1, h => by
    by_cases c : ∃ k, k ≤ n ∧ p k
    · obtain ⟨k, h1, h2⟩ := c
      have : ∀ n k, k ≤ n → p k → ∃ m, m ≤ k ∧ p m ∧ ∀ j, j < m → ¬ p j := by
        intro n
        induction n with
        | zero => intro k hk hp; exact ⟨k, Nat.le_refl _, hp, fun j hj => absurd hj (by omega)⟩
        | succ n ih =>
          intro k hk hp
          by_cases d : ∃ j, j < k ∧ p j
          · obtain ⟨j, j1, j2⟩ := d
            obtain ⟨m, m1, m2, m3⟩ := ih j (by omega) j2
            exact ⟨m, by omega, m2, m3⟩
          · exact ⟨k, Nat.le_refl _, hp, fun j hj hpj => d ⟨j, hj, hpj⟩⟩
      obtain ⟨m, m1, m2, m3⟩ := this n k h1 h2
      exact ⟨m, by omega, m2, m3⟩
    · exact ⟨n + 1, Nat.le_refl _, h, fun k hk hp => c ⟨k, by omega, hp⟩⟩
theorem few_is {lots : Lots} (ok : OkL lots) : ∃ m th, Few lots m th := by
  have h6 : (metM lots 6 []).1.isSome = true := by
    cases e : (metM lots 6 []).1 with
    | some _ => rfl
    | none => exact absurd (six_meets ok) (met_none lots 6 [] e [0, 1, 2, 3, 4, 5] (by simp))
  obtain ⟨m, h1, h2, h3⟩ := least (p := fun k => (metM lots k []).1.isSome = true) 6 h6
  obtain ⟨th, e⟩ := Option.isSome_iff_exists.mp h2
  obtain ⟨ext, q1, q2, q3, q4, q5⟩ := met_sound lots m [] th e
  rw [List.nil_append] at q1
  subst q1
  have less : ∀ k, k < m → (metM lots k []).1 = none := fun k hk => by
    have := h3 k hk
    simpa using this
  refine ⟨m, th, e, less, ?_, h1, q3, q4 List.nodup_nil, fun x hx => ?_⟩
  · by_cases c : th.length = m
    · exact c
    · have hm : m = (m - 1) + 1 := by omega
      exact absurd q3 (met_none lots (m - 1) [] (less _ (by omega)) th (by omega))
  · obtain ⟨lot, l1, l2⟩ := q5 x hx
    exact ok.dom lot l1 x l2
section
variable {lots : Lots} {m : Nat} {th : List Int}
theorem Few.least (F : Few lots m th) {r : List Int} (h : Meets lots r) : m ≤ r.length := by
  by_cases c : m ≤ r.length
  · exact c
  · exact absurd h (met_none lots r.length [] (F.less _ (by omega)) r (Nat.le_refl _))
theorem Few.none (F : Few lots m th) (hm : m ≠ 0) : ∀ ext : List Int, ext.length ≤ m - 1 → ¬ Meets lots ([] ++ ext) := met_none lots (m - 1) [] (F.less _ (by omega))
theorem Few.row (F : Few lots m th) : up th ∈ rowsM 6 := rows_in 6 _ (up_asc F.nodup) fun x hx => F.dom x (up_mem.mp hx)
theorem Few.upm (F : Few lots m th) : Meets lots (up th) := meets_mono (fun _ h => up_mem.mpr h) F.meets
theorem Few.upl (F : Few lots m th) : (up th).length = m := (up_perm th).length_eq.trans F.len
end
end Dn.K55
namespace Dn
open PySem L2
theorem Enc.inT {α : Type} (e : Enc α) [DecidableEq α] (m : Store) (x : α) (b : List α) (h : ∀ z, e.d x ≠ .str z) : inG m (e.d x) (.tup (b.map e.d)) = some (.bl (decide (x ∈ b))) := by
  have hs : SeqAt.shaped (e.p x) = true := by
    have h1 := e.lay x
    have h2 := e.dep x
    simp only [SeqAt.shaped, Bool.and_eq_true, decide_eq_true_eq]
    exact ⟨h1, by omega⟩
  have : ∀ b : List α, (b.map e.p).any (fun z => PyData.eqv z (e.p x)) = decide (x ∈ b) := by
    intro b
    induction b with
    | nil => simp
    | cons y b ih =>
      rw [List.map_cons, List.any_cons, ih]
      by_cases q : y = x
      · subst q; have := (e.inj y y).mpr rfl; rw [this]; simp
      · have z : PyData.eqv (e.p y) (e.p x) = false := by
          cases r : PyData.eqv (e.p y) (e.p x) with
          | false => rfl
          | true => exact absurd ((e.inj y x).mp r) q
        rw [z]
        have : x ≠ y := fun w => q w.symm
        simp [this]
  unfold inG
  split
  · rename_i w _; exact absurd w (h _)
  · unfold twoP
    simp only [e.to, toP, e.tos, Option.map_some, hs, e.shT, Bool.and_self, if_true, Option.bind_some]
    unfold Dn.inL
    simp [this]
end Dn
namespace Dn.K55
open PySem L2
theorem t1 (n : Nat) (a b : D) (m : Store) : run tab (n+1) 1 [a, b] m = endS (B_law_take (run tab n) [.dat a, .dat b] m) := by simp [run, tab]
theorem t2 (n : Nat) (a : D) (m : Store) : run tab (n+1) 2 [a] m = endS (B_law_rows (run tab n) [.dat a, .em, .em, .em] m) := by simp [run, tab]
theorem t3 (n : Nat) (a b : D) (m : Store) : run tab (n+1) 3 [a, b] m = endS (B_law_meets (run tab n) [.dat a, .dat b, .em, .em] m) := by simp [run, tab]
theorem t4 (n : Nat) (a b : D) (m : Store) : run tab (n+1) 4 [a, b] m = endS (B_fewest_meeting (run tab n) [.dat a, .dat b, .em, .em, .em] m) := by simp [run, tab]
theorem t5 (n : Nat) (a b c : D) (m : Store) : run tab (n+1) 5 [a, b, c] m = endS (B_is_fewest_meeting (run tab n) [.dat a, .dat b, .dat c, .em, .em] m) := by simp [run, tab]
theorem t6 (n : Nat) (a b : D) (m : Store) : run tab (n+1) 6 [a, b] m = endS (B_law_bent (run tab n) [.dat a, .dat b, .em, .em, .em, .em, .em] m) := by simp [run, tab]
theorem t7 (n : Nat) (a b c d : D) (m : Store) : run tab (n+1) 7 [a, b, c, d] m = endS (B_law_is_tree (run tab n) [.dat a, .dat b, .dat c, .dat d, .em, .em, .em] m) := by simp [run, tab]
theorem t8 (n : Nat) (a b : D) (m : Store) : run tab (n+1) 8 [a, b] m = endS (B_law_pick (run tab n) [.dat a, .dat b] m) := by simp [run, tab]
theorem t9 (n : Nat) (a b : D) (m : Store) : run tab (n+1) 9 [a, b] m = endS (B_law_number (run tab n) [.dat a, .dat b, .em, .em] m) := by simp [run, tab]
theorem t10 (n : Nat) (a : D) (m : Store) : run tab (n+1) 10 [a] m = endS (B_check_most (run tab n) [.dat a] m) := by simp [run, tab]
theorem t11 (n : Nat) (a b c : D) (m : Store) : run tab (n+1) 11 [a, b, c] m = endS (B_Walk_met (run tab n) [.dat a, .dat b, .dat c, .em, .em, .em] m) := by simp [run, tab]
theorem t12 (n : Nat) (a b c : D) (m : Store) : run tab (n+1) 12 [a, b, c] m = endS (B_Walk__init (run tab n) [.dat a, .dat b, .dat c] m) := by simp [run, tab]
theorem t13 (n : Nat) (a b c : D) (m : Store) : run tab (n+1) 13 [a, b, c] m = endS (B_Walk__init__b (run tab n) [.dat a, .dat b, .dat c] m) := by simp [run, tab]
theorem t14 (n : Nat) (a b c : D) (m : Store) : run tab (n+1) 14 [a, b, c] m = endS (B_Walk_tree (run tab n) [.dat a, .dat b, .dat c, .em, .em, .em] m) := by simp [run, tab]
theorem t15 (n : Nat) (a b : D) (m : Store) : run tab (n+1) 15 [a, b] m = endS (B_unmet (run tab n) [.dat a, .dat b, .em, .em, .em] m) := by simp [run, tab]
theorem t16 (n : Nat) (a b c d : D) (m : Store) : run tab (n+1) 16 [a, b, c, d] m = endS (B_shows_tree (run tab n) [.dat a, .dat b, .dat c, .dat d, .em, .em, .em, .em, .em] m) := by simp [run, tab]
theorem t17 (n : Nat) (a b c : D) (m : Store) : run tab (n+1) 17 [a, b, c] m = endS (B_is_whole (run tab n) [.dat a, .dat b, .dat c] m) := by simp [run, tab]
abbrev is (l : List Int) : List D := l.map encI.d
abbrev ti (l : List Int) : D := .tup (is l)
abbrev ls (lots : Lots) : D := .lst (lots.map ti)
theorem encI_d (i : Int) : encI.d i = .int i := rfl
theorem atI_nat {α : Type} (xs : List α) (i : Nat) : atI xs (i : Int) = xs[i]? := by
  unfold atI ixN
  rw [if_pos (by omega)]
  by_cases h : i < xs.length
  · rw [if_pos (by omega)]; simp
  · rw [if_neg (by omega), List.getElem?_eq_none (by omega)]; rfl
theorem atI0 {α : Type} (a : α) (l : List α) : atI (a :: l) 0 = some a := (atI_nat (a :: l) 0).trans rfl
theorem atI1 {α : Type} (a b : α) (l : List α) : atI (a :: b :: l) 1 = some b := (atI_nat (a :: b :: l) 1).trans rfl
/-! ### what is drawn -/
abbrev sc (ns : List Int) : D := .frz (is ns)
theorem eq_sc (m : Store) (ns : List Int) : eqG m (.frz (is ns)) (.lst []) = some (.bl (decide (ns = []))) := encI.eqF m ns []
theorem number_ok (n : Nat) (ns : List Int) (k : Int) (m : Store) : ∃ v, 0 ≤ v ∧ run tab (n+1) 9 [sc ns, .int k] m = .ok (.int v) m := by
  rw [t9]
  unfold B_law_number
  by_cases h : ns = []
  · subst h
    refine ⟨(k * 48271 + 12345) % 2147483647, by omega, ?_⟩
    have e := eq_sc m []
    simp at e
    simp [short, sc, is, e, mulB]
  · have hlen : 0 < ns.length := List.length_pos_iff.mpr h
    have hlen' : (0 : Int) < (ns.length : Int) := by omega
    obtain ⟨j, hj⟩ : ∃ j : Nat, k % (ns.length : Int) = (j : Int) := ⟨(k % (ns.length : Int)).toNat, by have := Int.emod_nonneg k (by omega : (ns.length : Int) ≠ 0); omega⟩
    have hj2 : j < ns.length := by have := Int.emod_lt_of_pos k hlen'; omega
    have hat : atI (is ns) (j : Int) = some (.int ns[j]) := by
      rw [atI_nat, is, List.getElem?_map, List.getElem?_eq_getElem hj2]; rfl
    have e := eq_sc m ns
    have e0 : decide (ns = []) = false := by simpa using h
    rw [e0] at e
    refine ⟨(((((if (10 : Int) ^ 60 ≤ (if ns[j] < 0 then -ns[j] else ns[j]) then ns[j] % 10 ^ 18 else ns[j]) + 977 * k) * 48271 + 31 * (ns.length : Int)) % 2147483647 * 69621) % 2147483629 * 16807 + k) % 2147483587, by omega, ?_⟩
    by_cases c : (10 : Int) ^ 60 ≤ (if ns[j] < 0 then -ns[j] else ns[j])
    · rw [if_pos c]
      simp at c
      simp [short, e, hj, hat, hlen, c, mulB]
    · rw [if_neg c]
      simp at c
      have c' := Int.not_le.mpr c
      simp [short, e, hj, hat, hlen, c', mulB]
/-- the store while the law draws -/
def ST (ns : List Int) (k : Int) (J : Store) : Store := .lst [sc ns, .int k] :: J
theorem take_ok (n : Nat) (ns : List Int) (k many : Int) (J : Store) (h : 0 < many) : ∃ v, 0 ≤ v ∧ v < many ∧ run tab (n+2) 1 [.ref 0, .int many] (ST ns k J) = .ok (.int v) (ST ns (k + 1) J) := by
  obtain ⟨v, hv, e⟩ := number_ok n ns (k + 1) (ST ns (k + 1) J)
  refine ⟨v % many, Int.emod_nonneg _ (by omega), Int.emod_lt_of_pos _ h, ?_⟩
  rw [t1]
  unfold B_law_take
  unfold ST at e ⊢
  simp [stoGet, atI0, atI1, e, h, LIM]
theorem pick_ok (n : Nat) (ns : List Int) (k : Int) (J : Store) (xs : List D) (hx : xs ≠ []) : ∃ x k', x ∈ xs ∧ run tab (n+3) 8 [.ref 0, .lst xs] (ST ns k J) = .ok x (ST ns k' J) := by
  have hp : 0 < xs.length := List.length_pos_iff.mpr hx
  obtain ⟨v, v1, v2, e1⟩ := take_ok n ns k xs.length J (by omega)
  obtain ⟨j, rfl⟩ : ∃ j : Nat, v = (j : Int) := ⟨v.toNat, by omega⟩
  have hj : j < xs.length := by omega
  refine ⟨xs[j], k + 1, List.getElem_mem hj, ?_⟩
  rw [t8]
  unfold B_law_pick
  have hat : atI xs (j : Int) = some xs[j] := by rw [atI_nat, List.getElem?_eq_getElem hj]
  simp [e1, hat]
/-! ### is there one of a lot among things -/
theorem in_i (m : Store) (x : Int) (ts : List Int) : inG m (.int x) (ti ts) = some (.bl (decide (x ∈ ts))) := encI.inT m x ts fun z h => by cases h
def hitE (j k v : Nat) : EvE := bltE anyG (consA (frzE (lcF (seqI (varE j)) (.nm v) yesT (bin inG (brwE v) (brwE k)) [v])) nilA)
theorem hit_lc (C : Orc) (e : Env) (m : Store) (j k v : Nat) (ts lot : List Int) (hj : e[j]? = some (.dat (ti lot))) (hk : e[k]? = some (.dat (ti ts))) (hv : v < e.length) (hne : v ≠ k) : hitE j k v C e m = .ok (.bl (hit ts lot)) m := by
  have e1 := lcL_all (C := C) (g := .nm v) (te := bin inG (brwE v) (brwE k)) (e := wipeE e [v]) (m := m) (f := encI.d) (h := fun x => D.bl (decide (x ∈ ts))) (l := lot)
    (fun x _ => ⟨(wipeE e [v]).set v (.dat (.int x)), by simp [hv, encI_d], by
      have a1 : ((wipeE e [v]).set v (.dat (.int x)))[v]? = some (.dat (.int x)) := List.getElem?_set_self (by simpa using hv)
      have a2 : ((wipeE e [v]).set v (.dat (.int x)))[k]? = some (.dat (ti ts)) := by
        rw [List.getElem?_set_ne hne]
        simp only [wipeE]
        rw [List.getElem?_set_ne hne]
        exact hk
      simp only [bin, brwE, a1, a2, R.bind_ok, in_i, R.of_some]⟩)
  unfold hitE
  simp only [bltE, consA, frzE, lcF, seqI, varE, hj, R.bind_ok, itemsOf, R.of_some, e1, nilA, anyG, toBls_map (fun x : Int => decide (x ∈ ts)), Option.map_some, List.any_map]
  rfl
theorem meets_ok (n : Nat) (lots : Lots) (ts : List Int) (m : Store) : run tab (n+1) 3 [ls lots, ti ts] m = .ok (.bl (unmetM ts lots).isNone) m := by
  rw [t3]
  have hb : B_law_meets = retS (bltE allG (consA (frzE (lcF (seqI (varE 0)) (.nm 2) yesT (hitE 2 1 3) [2])) nilA)) := rfl
  rw [hb]
  have e1 := lcL_all (C := run tab n) (g := .nm 2) (te := hitE 2 1 3) (e := [.dat (ls lots), .dat (ti ts), .em, .em]) (m := m) (f := ti) (h := fun lot => D.bl (hit ts lot)) (l := lots)
    (fun lot _ => ⟨[.dat (ls lots), .dat (ti ts), .dat (ti lot), .em], by simp, hit_lc _ _ _ 2 1 3 ts lot rfl rfl (by simp) (by simp)⟩)
  have e2 : ∀ lots : Lots, (lots.map fun lot => hit ts lot).all id = (unmetM ts lots).isNone := by
    intro lots
    induction lots with
    | nil => rfl
    | cons lot r ih =>
      unfold unmetM
      cases c : hit ts lot <;> simp [c] at ih ⊢
      exact ih
  simp only [retS, bltE, consA, frzE, lcF, seqI, varE, List.getElem?_cons_zero, R.bind_ok, itemsOf, R.of_some, wipeE, List.set_cons_succ, List.set_cons_zero, e1, nilA, allG, toBls_map (fun lot => hit ts lot), Option.map_some, e2, liftS_ok, endS_ret]
def uD : Option Nat → D
  | none => .non
  | some n => .int (n : Nat)
def ubody : EvS := (ifS (notT (blT (hitE 3 1 4)))
  (retS (varE 2))
  nxS)
theorem unmet_loop (C : Orc) (L : D) (ts : List Int) (m : Store) : ∀ (lots : Lots) (k : Nat) (c2 c3 : Cell), (unmetM ts lots = none → ∃ c2' c3', forL C (.tp [.nm 2, .nm 3]) ubody (nums k (lots.map ti)) [.dat L, .dat (ti ts), c2, c3, .em] m = .nx [.dat L, .dat (ti ts), c2', c3', .em] m) ∧
    ∀ n, unmetM ts lots = some n → forL C (.tp [.nm 2, .nm 3]) ubody (nums k (lots.map ti)) [.dat L, .dat (ti ts), c2, c3, .em] m = .ret (.int ((k + n : Nat) : Int)) m
  | [], k, c2, c3 => ⟨fun _ => ⟨c2, c3, by simp [forL]⟩, fun n h => by cases h⟩
  | lot :: lots, k, c2, c3 => by
    have ih := unmet_loop C L ts m lots (k + 1) (.dat (.int k)) (.dat (ti lot))
    have hh := hit_lc C [.dat L, .dat (ti ts), .dat (.int k), .dat (ti lot), .em] m 3 1 4 ts lot rfl rfl (by simp) (by simp)
    have step : forL C (.tp [.nm 2, .nm 3]) ubody (nums k ((lot :: lots).map ti)) [.dat L, .dat (ti ts), c2, c3, .em] m = if hit ts lot = true then forL C (.tp [.nm 2, .nm 3]) ubody (nums (k + 1) (lots.map ti)) [.dat L, .dat (ti ts), .dat (.int k), .dat (ti lot), .em] m else .ret (.int k) m := by
      have hu : ubody C [.dat L, .dat (ti ts), .dat (.int k), .dat (ti lot), .em] m = if hit ts lot = true then .nx [.dat L, .dat (ti ts), .dat (.int k), .dat (ti lot), .em] m else .ret (.int k) m := by
        unfold ubody
        simp only [ifS, notT, blT, hh, R.bind_ok, isB, R.of_some, liftS_ok]
        cases hit ts lot <;> simp
      have s0 : forL C (.tp [.nm 2, .nm 3]) ubody (nums k ((lot :: lots).map ti)) [.dat L, .dat (ti ts), c2, c3, .em] m = match ubody C [.dat L, .dat (ti ts), .dat (.int k), .dat (ti lot), .em] m with
        | .nx e2 m2 => forL C (.tp [.nm 2, .nm 3]) ubody (nums (k + 1) (lots.map ti)) e2 m2
        | .ct e2 m2 => forL C (.tp [.nm 2, .nm 3]) ubody (nums (k + 1) (lots.map ti)) e2 m2
        | .brk e2 m2 => .nx e2 m2
        | r => r := rfl
      rw [s0, hu]
      cases hit ts lot <;> simp
    rw [step]
    unfold unmetM
    by_cases c : hit ts lot = true
    · simp only [c, if_true]
      refine ⟨fun h => ih.1 (by simpa using h), fun n h => ?_⟩
      cases e : unmetM ts lots with
      | none => rw [e] at h; cases h
      | some j =>
        rw [e] at h
        cases h
        rw [ih.2 j e]
        have : k + 1 + j = k + (j + 1) := by omega
        rw [this]
    · rw [if_neg c, if_neg c]
      refine ⟨fun h => (by cases h), fun n h => ?_⟩
      cases h
      rfl
theorem unmet_ok (n : Nat) (lots : Lots) (ts : List Int) (m : Store) : run tab (n+1) 15 [ls lots, ti ts] m = .ok (uD (unmetM ts lots)) m := by
  rw [t15]
  have hb : B_unmet = seqS (forS (argI enumG (consA (varE 0) nilA)) (.tp [(.nm 2), (.nm 3)]) ubody) (retS (conE .non)) := rfl
  rw [hb]
  have h := unmet_loop (run tab n) (ls lots) ts m lots 0 .em .em
  simp only [seqS, forS, argI, consA, varE, nilA, List.getElem?_cons_zero, R.bind_ok, enumG, R.of_some, liftS_ok]
  cases e : unmetM ts lots with
  | none =>
    obtain ⟨c2, c3, e2⟩ := h.1 e
    rw [e2]
    rfl
  | some j =>
    rw [h.2 j e]
    simp [uD]
end Dn.K55
namespace Dn.K55
open PySem L2
/-! ### rows -/
def rbody : EvS := (extS 1 (frzE (lcF (ownI 1) (.nm 3) yesT (bin addA (brwE 3) (bltE tupG (consA (varE 2) nilA))) [3])))
def rowsD : List D := (rowsM 6).map ti
theorem rows_loop (C : Orc) (m : Store) : forL C (.nm 2) rbody (rng 0 6) [.dat (.int 6), .own (.lst [.tup []]), .em, .em] m = .nx [.dat (.int 6), .own (.lst rowsD), .dat (.int 5), .em] m := by kernel_rfl
theorem rows_no (m : Store) : sortF m [.lst rowsD] = none := by
  unfold sortF
  have : sortOk rowsD = false := by kernel_rfl
  simp [this]
theorem rows_ti : tupsOk rowsD = true := by kernel_rfl
theorem keyT_ti (l : List Int) : keyT (ti l) = l := by
  unfold keyT tupN
  have : ∀ l : List Int, intsD (is l) = some l := by
    intro l
    induction l with
    | nil => rfl
    | cons x l ih => unfold is at ih ⊢; simp [intsD, encI_d, ih]
  simp [this]
theorem rows_ok (n : Nat) (m : Store) : ∃ rows : List (List Int), rows.Perm (rowsM 6) ∧ rows.Pairwise (fun a b => a.length ≤ b.length) ∧ run tab (n+1) 2 [.int 6] m = .ok (.lst (rows.map ti)) m := by
  have e1 : sortedT rowsD = ((rowsM 6).mergeSort fun a b : List Int => !HT.lexLt b a).map ti := by
    unfold sortedT rowsD
    rw [List.map_mergeSort (r := fun a b : List Int => !HT.lexLt b a)]
    intro a _ b _
    unfold leT
    rw [keyT_ti, keyT_ti]
  have p1 := List.mergeSort_perm (rowsM 6) fun a b : List Int => !HT.lexLt b a
  generalize (rowsM 6).mergeSort (fun a b : List Int => !HT.lexLt b a) = r1 at e1 p1
  have e2 : sortedL (r1.map ti) = (r1.mergeSort fun a b : List Int => decide ((a.length : Int) ≤ (b.length : Int))).map ti := by
    unfold sortedL
    rw [List.map_mergeSort (r := fun a b : List Int => decide ((a.length : Int) ≤ (b.length : Int)))]
    intro a _ b _
    unfold leLen lenD
    simp [is]
  have p2 := List.mergeSort_perm r1 fun a b : List Int => decide ((a.length : Int) ≤ (b.length : Int))
  have s2 := List.pairwise_mergeSort (le := fun a b : List Int => decide ((a.length : Int) ≤ (b.length : Int))) (fun a b c h1 h2 => by simp at *; omega) (fun a b => by simp; omega) r1
  have hl : r1.length = 64 := p1.length_eq.trans (rows_len 6)
  have hm : ∀ l ∈ r1, l.length ≤ LIM := fun l h => by
    have h := p1.mem_iff.mp h
    obtain ⟨h1, h2⟩ := rows_asc 6 l h
    have hsub : l.length ≤ ([0, 1, 2, 3, 4, 5] : List Int).length := by
      refine List.Nodup.length_le_of_subset h1.nodup fun x hx => ?_
      have := h2 x hx
      simp
      omega
    exact Nat.le_trans hsub (by decide)
  have ok : lenOk (r1.map ti) = true := by
    unfold lenOk
    simp only [List.length_map, List.all_map, Bool.and_eq_true, List.all_eq_true, decide_eq_true_eq, hl]
    refine ⟨by decide, fun l h => ?_⟩
    simp [isTupD, is, hm l h]
  refine ⟨_, p2.trans p1, s2.imp fun h => by simpa using h, ?_⟩
  rw [t2]
  have hb : B_law_rows = seqS (ownS 1 (bltF lstG (consA (bltE tupG nilA) nilA))) (seqS (forS (argI rng1 (consA (varE 0) nilA)) (.nm 2) rbody) (retS (frzE (sortLen (bltE sortG2 (consA (brwE 1) nilA)))))) := rfl
  rw [hb]
  have hr : rng1 [.int 6] = some (rng 0 6) := by rfl
  have es : sortG2 m [.lst rowsD] = some (.lst (r1.map ti)) := by
    unfold sortG2 sortF2
    rw [rows_no]
    simp only [sortF0, rows_ti, if_true, Option.map_some, e1]
  simp only [seqS, ownS, bltF, consA, bltE, nilA, tupG, lstG, short, R.bind_ok, List.length_nil, List.length_cons, Nat.reduceAdd, Nat.reduceLeDiff, Nat.reduceLT, Nat.zero_le, decide_true, if_true, R.of_some, liftS_ok, ownO, List.set_cons_succ, List.set_cons_zero, SR.of_some, SR.bind_nx, forS, argI, varE, List.getElem?_cons_zero, hr, rows_loop]
  simp only [retS, frzE, sortLen, bltE, consA, nilA, brwE, List.getElem?_cons_succ, List.getElem?_cons_zero, R.bind_ok, es, R.of_some, lenSort, ok, if_true, liftS_ok, endS_ret, e2]
/-! ### walks -/
def su (l : List Int) : List Int := upI (uniq l)
abbrev wf (lots : Lots) (M k : Int) : List (Str × D) := [("lots", ls lots), ("most", .int M), ("looked", .int k)]
def WK (lots : Lots) (M k : Int) : Ob := .ins "Walk" (wf lots M k)
theorem at_end {α : Type} (l : List α) (a : α) : (l ++ [a])[l.length]? = some a := by simp
theorem set_end {α : Type} (l : List α) (a b : α) : (l ++ [a]).set l.length b = l ++ [b] := by simp
variable (lots : Lots) (M k : Int) (m0 : Store)
theorem lk_lots : List.lookup ("lots" : Str) (wf lots M k) = some (ls lots) := by kernel_rfl
theorem lk_most : List.lookup ("most" : Str) (wf lots M k) = some (.int M) := by kernel_rfl
theorem lk_looked : List.lookup ("looked" : Str) (wf lots M k) = some (.int k) := by kernel_rfl
theorem lk_met : List.lookup ("met" : Str) (wf lots M k) = none := by kernel_rfl
theorem lk_tree : List.lookup ("tree" : Str) (wf lots M k) = none := by kernel_rfl
theorem ins_at : insG (m0 ++ [WK lots M k]) (.ref m0.length) = some (("Walk" : Str), wf lots M k) := by
  unfold insG
  simp only [at_end]
  rfl
theorem f_lots : fldG "Walk" "lots" (m0 ++ [WK lots M k]) (.ref m0.length) = some (ls lots) := by
  unfold fldG; rw [ins_at]; simp only [if_true, lk_lots]
theorem f_most : fldG "Walk" "most" (m0 ++ [WK lots M k]) (.ref m0.length) = some (.int M) := by
  unfold fldG; rw [ins_at]; simp only [if_true, lk_most]
theorem f_looked : fldG "Walk" "looked" (m0 ++ [WK lots M k]) (.ref m0.length) = some (.int k) := by
  unfold fldG; rw [ins_at]; simp only [if_true, lk_looked]
theorem put_looked (j : Int) : putD "looked" (.int j) (wf lots M k) = (wf lots M j) := by kernel_rfl
/-- a look is counted -/
def lookS : EvS := (ifS (blT (bin eqG (fldE "Walk" "looked" (varE 0)) (fldE "Walk" "most" (varE 0))))
  (raiseS 0 (consA (fldE "Walk" "most" (varE 0)) nilA))
  nxS)
theorem look_ok (C : Orc) (e : Env) (he : e[0]? = some (.dat (.ref m0.length))) (h : k < M) : lookS C e (m0 ++ [WK lots M k]) = .nx e (m0 ++ [WK lots M k]) := by
  have : ¬ k = M := by omega
  unfold lookS
  simp only [ifS, blT, bin, fldE, una, varE, he, R.bind_ok, f_looked, f_most, R.of_some, eqG_ii, isB, this, decide_false, liftS_ok, Bool.false_eq_true, if_false, nxS]
theorem count_ok (C : Orc) (e : Env) (he : e[0]? = some (.dat (.ref m0.length))) : fldAugS addI "Walk" "looked" (varE 0) (conE (.int 1)) C e (m0 ++ [WK lots M k]) = .nx e (m0 ++ [WK lots M (k + 1)]) := by
  have e1 : (m0 ++ [WK lots M k])[m0.length]? = some (.ins "Walk" (wf lots M k)) := at_end _ _
  simp only [fldAugS, varE, he, liftS_ok, f_looked, conE, addI, e1]
  simp only [List.length_cons, List.length_nil, Nat.reduceAdd, Nat.reduceLT, and_self, if_true, put_looked, set_end]
  rfl
def ask : EvS := asgS (.nm 3) (fnE 15 (consA (fldE "Walk" "lots" (varE 0)) (consA (varE 1) nilA)))
theorem ask_ok (n : Nat) (ts : List Int) (c2 c3 c4 c5 : Cell) : ask (run tab (n+1)) [.dat (.ref m0.length), .dat (ti ts), c2, c3, c4, c5] (m0 ++ [WK lots M k]) = .nx [.dat (.ref m0.length), .dat (ti ts), c2, .dat (uD (unmetM ts lots)), c4, c5] (m0 ++ [WK lots M k]) := by
  unfold ask
  simp only [asgS, fnE, consA, fldE, una, varE, nilA, List.getElem?_cons_zero, List.getElem?_cons_succ, R.bind_ok, f_lots, R.of_some, unmet_ok, liftS_ok, asg, List.length_cons, List.length_nil, Nat.reduceAdd, Nat.reduceLT, if_true, List.set_cons_succ, List.set_cons_zero, SR.of_some]
theorem sort_lot (m : Store) (lot : List Int) (h : lot.length ≤ LIM) : sortG2 m [ti lot] = some (.lst (is (up lot))) := by
  obtain ⟨s1, s2⟩ := sort_ints lot h
  unfold sortG2 sortF2
  simp only [sortF, s1, if_true, Option.map_some, s2]
  rfl
theorem lot_at (n : Nat) (lots : Lots) (h : lots[n]? = some (lotAt lots n)) : ixG m0 (ls lots) (.int (n : Nat)) = some (ti (lotAt lots n)) := by
  unfold ixG ls
  simp only [atI_nat, List.getElem?_map, h, Option.map_some]
def oD : Option (List Int) → D
  | none => .non
  | some r => ti r
def mbody : EvS := (seqS (asgS (.nm 5) (metE "Walk" "met" 11 (varE 0) (consA (bltE tupG (starA (seqOnly (varE 1)) (consA (varE 4) nilA))) (consA (bin subG (brwE 2) (conE (.int 1))) nilA))))
  (ifS (blT (bin isNotG (brwE 5) (conE .non)))
  (retS (varE 5))
  nxS))
theorem isNon_ti (l : List Int) : isNon (ti l) = false := rfl
theorem isNot_non (m : Store) (d : D) : isNotG m d .non = some (.bl (!isNon d)) := by cases d <;> rfl
theorem is_non (m : Store) (d : D) : isG m d .non = some (.bl (isNon d)) := by cases d <;> rfl
theorem mbody_ok (C : Orc) (ts : List Int) (many x : Int) (c3 c5 : Cell) (r : Option (List Int)) (k' : Int) (hs : ts.length < 100000)
    (hC : C 11 [.ref m0.length, ti (ts ++ [x]), .int (many - 1)] (m0 ++ [WK lots M k]) = .ok (oD r) (m0 ++ [WK lots M k'])) :
    mbody C [.dat (.ref m0.length), .dat (ti ts), .dat (.int many), c3, .dat (.int x), c5] (m0 ++ [WK lots M k]) =
      match r with
      | none => .nx [.dat (.ref m0.length), .dat (ti ts), .dat (.int many), c3, .dat (.int x), .dat .non] (m0 ++ [WK lots M k'])
      | some q => .ret (ti q) (m0 ++ [WK lots M k']) := by
  have h1 : short (is ts ++ [.int x]) = true := by unfold short; simp; omega
  have h2 : is ts ++ [.int x] = is (ts ++ [x]) := by simp [is, encI_d]
  have h3 : (D.tup (is ts ++ [.int x])) = ti (ts ++ [x]) := by rw [h2]
  have h4 : noStr (ti ts) = true := rfl
  unfold mbody
  simp only [seqS, asgS, metE, varE, List.getElem?_cons_zero, List.getElem?_cons_succ, R.bind_ok, ins_at, lk_met, and_self, if_true, consA, bltE, starA, seqOnly, h4, R.of_some, itemsOf, nilA, tupG, h1, h3, bin, brwE, subG, conE, hC, liftS_ok, asg, List.length_cons, List.length_nil, Nat.reduceAdd, Nat.reduceLT, List.set_cons_succ, List.set_cons_zero, SR.of_some, SR.bind_nx, ifS, blT, isNot_non, isB]
  cases r with
  | none => simp [oD, isNon]
  | some q => simp [oD, isNon]
theorem mloop_ok (C : Orc) (ts : List Int) (many : Int) (f : Int → Option (List Int) × Nat) (c3 : Cell) (hs : ts.length < 100000)
    (hC : ∀ x k, k + (f x).2 ≤ M → C 11 [.ref m0.length, ti (ts ++ [x]), .int (many - 1)] (m0 ++ [WK lots M k]) = .ok (oD (f x).1) (m0 ++ [WK lots M (k + (f x).2)])) :
    ∀ (xs : List Int) (k : Int) (c4 c5 : Cell), k + (tryL f xs).2 ≤ M → ((tryL f xs).1 = none → ∃ c4' c5', forL C (.nm 4) mbody (is xs) [.dat (.ref m0.length), .dat (ti ts), .dat (.int many), c3, c4, c5] (m0 ++ [WK lots M k]) = .nx [.dat (.ref m0.length), .dat (ti ts), .dat (.int many), c3, c4', c5'] (m0 ++ [WK lots M (k + (tryL f xs).2)])) ∧
      ∀ r, (tryL f xs).1 = some r → forL C (.nm 4) mbody (is xs) [.dat (.ref m0.length), .dat (ti ts), .dat (.int many), c3, c4, c5] (m0 ++ [WK lots M k]) = .ret (ti r) (m0 ++ [WK lots M (k + (tryL f xs).2)])
  | [], k, c4, c5, _ => ⟨fun _ => ⟨c4, c5, by simp [forL, tryL]⟩, fun r h => by cases h⟩
  | x :: xs, k, c4, c5, hk => by
    have step : forL C (.nm 4) mbody (is (x :: xs)) [.dat (.ref m0.length), .dat (ti ts), .dat (.int many), c3, c4, c5] (m0 ++ [WK lots M k]) =
        match mbody C [.dat (.ref m0.length), .dat (ti ts), .dat (.int many), c3, .dat (.int x), c5] (m0 ++ [WK lots M k]) with
        | .nx e2 m2 => forL C (.nm 4) mbody (is xs) e2 m2
        | .ct e2 m2 => forL C (.nm 4) mbody (is xs) e2 m2
        | .brk e2 m2 => .nx e2 m2
        | r => r := rfl
    rw [step]
    unfold tryL at hk ⊢
    cases e : (f x).1 with
    | some q =>
      rw [e] at hk
      dsimp only at hk ⊢
      have h := hC x k hk
      rw [e] at h
      rw [mbody_ok lots M k m0 C ts many x c3 c5 (some q) _ hs h]
      exact ⟨fun h => (by cases h), fun r h => (by cases h; rfl)⟩
    | none =>
      rw [e] at hk
      dsimp only at hk ⊢
      have hk1 : k + (f x).2 ≤ M := by omega
      have hk2 : k + ((f x).2 : Int) + (tryL f xs).2 ≤ M := by omega
      have h := hC x k hk1
      rw [e] at h
      rw [mbody_ok lots M k m0 C ts many x c3 c5 none _ hs h]
      dsimp only
      have ih := mloop_ok C ts many f c3 hs hC xs (k + (f x).2) (.dat (.int x)) (.dat .non) hk2
      have ek : k + (((f x).2 + (tryL f xs).2 : Nat) : Int) = k + ((f x).2 : Int) + (tryL f xs).2 := by omega
      rw [ek]
      exact ih
theorem met_body : B_Walk_met = seqS lookS (seqS (fldAugS addI "Walk" "looked" (varE 0) (conE (.int 1))) (seqS ask (seqS (ifS (blT (bin isG (brwE 3) (conE .non))) (retS (varE 1)) nxS) (seqS (ifS (blT (bin eqG (brwE 2) (conE (.int 0)))) (retS (conE .non)) nxS)
  (seqS (forS (seqI (bltE sortG2 (consA (bin ixG (fldE "Walk" "lots" (varE 0)) (brwE 3)) nilA))) (.nm 4) mbody) (retS (conE .non))))))) := rfl
theorem met_ok (hl : ∀ lot ∈ lots, lot.length ≤ LIM) (n : Nat) : ∀ (many : Nat) (ts : List Int) (k : Int), ts.length + many < 100000 → k + (metM lots many ts).2 ≤ M →
    run tab (n + 2 + many) 11 [.ref m0.length, ti ts, .int many] (m0 ++ [WK lots M k]) = .ok (oD (metM lots many ts).1) (m0 ++ [WK lots M (k + (metM lots many ts).2)])
  | 0, ts, k, hs, hk => by
    rw [show n + 2 + 0 = (n + 1) + 1 from rfl, t11, met_body]
    have hp : 1 ≤ (metM lots 0 ts).2 := by unfold metM; cases unmetM ts lots <;> simp
    simp only [seqS]
    rw [look_ok lots M k m0 _ _ rfl (by omega)]
    simp only [SR.bind_nx]
    rw [count_ok lots M k m0 _ _ rfl]
    simp only [SR.bind_nx]
    rw [ask_ok]
    simp only [SR.bind_nx]
    unfold metM
    cases e : unmetM ts lots with
    | none => simp [uD, isNon, oD, is_non]
    | some j => simp [uD, isNon, oD, is_non]
  | many + 1, ts, k, hs, hk => by
    rw [show n + 2 + (many + 1) = (n + 2 + many) + 1 from rfl, t11, met_body]
    have hp : 1 ≤ (metM lots (many + 1) ts).2 := by unfold metM; cases unmetM ts lots <;> simp
    simp only [seqS]
    rw [look_ok lots M k m0 _ _ rfl (by omega)]
    simp only [SR.bind_nx]
    rw [count_ok lots M k m0 _ _ rfl]
    simp only [SR.bind_nx]
    rw [show n + 2 + many = (n + 1 + many) + 1 by omega, ask_ok]
    simp only [SR.bind_nx]
    rw [show (n + 1 + many) + 1 = n + 2 + many by omega]
    unfold metM at hk ⊢
    cases e : unmetM ts lots with
    | none => simp [uD, isNon, oD, is_non]
    | some j =>
      rw [e] at hk
      obtain ⟨u1, u2, u3, u4⟩ := unmet_some e
      have hm : ¬ ((many : Int) + 1 = 0) := by omega
      have hL := mloop_ok lots M m0 (run tab (n + 2 + many)) ts ((many + 1 : Nat) : Int) (fun x => metM lots many (ts ++ [x])) (.dat (uD (some j))) (by omega) (fun x k' hk' => by
        have := met_ok hl n many (ts ++ [x]) k' (by simp; omega) hk'
        have e1 : (((many + 1 : Nat) : Int) - 1) = (many : Int) := by omega
        rw [e1]
        exact this) (up (lotAt lots j)) (k + 1) .em .em (by dsimp only at hk ⊢; omega)
      have es := sort_lot (m0 ++ [WK lots M (k + 1)]) (lotAt lots j) (hl _ u4)
      have ei := lot_at (m0 ++ [WK lots M (k + 1)]) j lots u2
      have en : (((many + 1 : Nat) : Int)) = (many : Int) + 1 := by omega
      have ek : k + ((1 + (tryL (fun x => metM lots many (ts ++ [x])) (up (lotAt lots j))).2 : Nat) : Int) = k + 1 + (tryL (fun x => metM lots many (ts ++ [x])) (up (lotAt lots j))).2 := by omega
      dsimp only
      rw [ek]
      have hz : ¬ ((((many + 1 : Nat) : Int)) = 0) := by omega
      simp only [ifS, blT, bin, brwE, List.getElem?_cons_zero, List.getElem?_cons_succ, R.bind_ok, conE, is_non, uD, isNon, R.of_some, isB, liftS_ok, Bool.false_eq_true, if_false, nxS, SR.bind_nx, eqG_ii, hz, decide_false, forS, seqI, bltE, consA, nilA, fldE, una, varE, f_lots, ei, es, itemsOf]
      cases e2 : (tryL (fun x => metM lots many (ts ++ [x])) (up (lotAt lots j))).1 with
      | none =>
        obtain ⟨c4, c5, h⟩ := hL.1 e2
        simp only [uD] at h
        rw [h]
        rfl
      | some r =>
        have h := hL.2 r e2
        simp only [uD] at h
        rw [h]
        rfl
end Dn.K55
namespace Dn.K55
open PySem L2
/-! ### trees as data -/
def tD : (k : Nat) → T k → D
  | 0, n => .tup [.int n, .tup []]
  | k + 1, t => .tup [.int t.1, .tup (t.2.map fun p => .tup [.int p.1, tD k p.2])]
theorem uniq_go : ∀ (l acc : List Int) (x : Int), (x ∈ l.foldl (fun acc n => if n ∈ acc then acc else acc ++ [n]) acc ↔ x ∈ acc ∨ x ∈ l) ∧ (l.foldl (fun acc n => if n ∈ acc then acc else acc ++ [n]) acc).length ≤ acc.length + l.length
  | [], acc, x => by simp
  | n :: l, acc, x => by
    rw [List.foldl_cons]
    by_cases c : n ∈ acc
    · rw [if_pos c]
      obtain ⟨h1, h2⟩ := uniq_go l acc x
      refine ⟨h1.trans ?_, by simp; omega⟩
      constructor
      · rintro (h | h)
        · exact .inl h
        · exact .inr (List.mem_cons_of_mem _ h)
      · rintro (h | h)
        · exact .inl h
        · rcases List.mem_cons.mp h with rfl | h
          · exact .inl c
          · exact .inr h
    · rw [if_neg c]
      obtain ⟨h1, h2⟩ := uniq_go l (acc ++ [n]) x
      refine ⟨h1.trans ?_, by simp at h2 ⊢; omega⟩
      simp only [List.mem_append, List.mem_cons, List.not_mem_nil, or_false]
      constructor
      · rintro ((h | h) | h)
        · exact .inl h
        · exact .inr (.inl h)
        · exact .inr (.inr h)
      · rintro (h | h | h)
        · exact .inl (.inl h)
        · exact .inl (.inr h)
        · exact .inr h
theorem su_mem (l : List Int) (x : Int) : x ∈ su l ↔ x ∈ l := by
  unfold su upI
  rw [(List.mergeSort_perm _ _).mem_iff]
  have := (uniq_go l [] x).1
  simpa [uniq] using this
theorem su_len (l : List Int) : (su l).length ≤ l.length := by
  unfold su upI
  rw [List.length_mergeSort]
  have := (uniq_go l [] 0).2
  simpa [uniq] using this
theorem intsD_is : ∀ l : List Int, intsD (is l) = some l
  | [] => rfl
  | x :: l => by
    have := intsD_is l
    unfold is at this ⊢
    simp [intsD, encI_d, this]
theorem setG_is (l : List Int) (h : l.length < 64) : setG (is l) = some (is (su l)) := by
  unfold setG
  rw [intsD_is]
  simp only [h, if_true]
  rfl
variable (lots : Lots) (M k : Int) (m0 : Store)
def tbE : EvE := (bltE tupG (consA (varE 5) (consA (metE "Walk" "tree" 14 (varE 0) (consA (bltE tupG (starA (seqOnly (varE 1)) (consA (varE 5) nilA))) (consA (bin subG (brwE 2) (conE (.int 1))) nilA))) nilA)))
theorem tree_body : B_Walk_tree = seqS lookS (seqS (fldAugS addI "Walk" "looked" (varE 0) (conE (.int 1))) (seqS ask (seqS (ifS (blT (bin eqG (brwE 2) (conE (.int 0)))) (retS (bltE tupG (consA (varE 3) (consA (bltE tupG nilA) nilA)))) nxS)
  (seqS (asgS (.nm 4) (frzE (sortDk 5 (bin ixG (fldE "Walk" "lots" (varE 0)) (brwE 3))))) (retS (bltE tupG (consA (varE 3) (consA (bltE tupleG (consA (frzE (lcF (seqI (varE 4)) (.nm 5) yesT tbE [5])) nilA)) nilA)))))))) := rfl
theorem tloop_ok (C : Orc) (ts : List Int) (many : Int) (g : Int → D) (c : Int → Nat) (c3 c4 : Cell) (hs : ts.length < 100000)
    (hC : ∀ x k, k + (c x) ≤ M → C 14 [.ref m0.length, ti (ts ++ [x]), .int (many - 1)] (m0 ++ [WK lots M k]) = .ok (g x) (m0 ++ [WK lots M (k + c x)])) :
    ∀ (xs : List Int) (k : Int), k + sumN (xs.map c) ≤ M → lcL C (.nm 5) yesT tbE [.dat (.ref m0.length), .dat (ti ts), .dat (.int many), c3, c4, .em] (is xs) (m0 ++ [WK lots M k]) = .ok (xs.map fun x => .tup [.int x, g x]) (m0 ++ [WK lots M (k + sumN (xs.map c))])
  | [], k, _ => by simp [lcL, sumN]
  | x :: xs, k, hk => by
    have hk : k + ((c x + sumN (xs.map c) : Nat) : Int) ≤ M := hk
    have ih := tloop_ok C ts many g c c3 c4 hs hC xs (k + c x) (by omega)
    have h := hC x k (by omega)
    have h1 : short (is ts ++ [.int x]) = true := by unfold short; simp; omega
    have h2 : is ts ++ [.int x] = is (ts ++ [x]) := by simp [is, encI_d]
    have h3 : (D.tup (is ts ++ [.int x])) = ti (ts ++ [x]) := by rw [h2]
    have h4 : noStr (ti ts) = true := rfl
    have eb : tbE C [.dat (.ref m0.length), .dat (ti ts), .dat (.int many), c3, c4, .dat (.int x)] (m0 ++ [WK lots M k]) = .ok (.tup [.int x, g x]) (m0 ++ [WK lots M (k + c x)]) := by
      have h5 : short [D.int x, g x] = true := rfl
      unfold tbE
      simp only [metE, varE, List.getElem?_cons_zero, List.getElem?_cons_succ, R.bind_ok, ins_at, lk_tree, and_self, if_true, consA, bltE, starA, seqOnly, h4, R.of_some, itemsOf, nilA, tupG, h1, h3, bin, brwE, subG, conE, h, h5]
    show lcL C (.nm 5) yesT tbE _ (.int x :: is xs) _ = _
    unfold lcL
    simp only [asg, List.length_cons, List.length_nil, Nat.reduceAdd, Nat.reduceLT, if_true, List.set_cons_succ, List.set_cons_zero, yesT, noX_ok, R.bind_ok, eb, ih]
    have e : k + (c x : Int) + (sumN (xs.map c) : Int) = k + ((sumN ((x :: xs).map c) : Nat) : Int) := by
      simp [sumN]; omega
    rw [e]
    rfl
theorem tree_ok (hl : ∀ lot ∈ lots, lot.length ≤ 3) (n : Nat) : ∀ (many : Nat) (ts : List Int) (k : Int), ts.length + many < 100000 → k + treeC su lots many ts ≤ M → (∀ ext : List Int, ext.length ≤ many → ¬ Meets lots (ts ++ ext)) →
    run tab (n + 2 + many) 14 [.ref m0.length, ti ts, .int many] (m0 ++ [WK lots M k]) = .ok (tD many (treeM su lots many ts)) (m0 ++ [WK lots M (k + treeC su lots many ts)])
  | 0, ts, k, hs, hk, hno => by
    rw [show n + 2 + 0 = (n + 1) + 1 from rfl, t14, tree_body]
    obtain ⟨j, e⟩ := none_some hno
    unfold treeC at hk ⊢
    simp only [seqS]
    rw [look_ok lots M k m0 _ _ rfl (by omega)]
    simp only [SR.bind_nx]
    rw [count_ok lots M k m0 _ _ rfl]
    simp only [SR.bind_nx]
    rw [ask_ok]
    simp only [SR.bind_nx]
    have h5 : short [D.int (j : Nat), D.tup []] = true := rfl
    have h6 : short ([] : List D) = true := rfl
    simp only [ifS, blT, bin, brwE, List.getElem?_cons_zero, List.getElem?_cons_succ, R.bind_ok, conE, e, uD, R.of_some, isB, liftS_ok, eqG_ii, Int.natCast_zero, Int.ofNat_zero, decide_true, if_true, retS, bltE, consA, varE, nilA, tupG, h6, h5, SR.bind_ret, endS_ret, tD, treeM, numM, Option.getD_some]
    rfl
  | many + 1, ts, k, hs, hk, hno => by
    rw [show n + 2 + (many + 1) = (n + 2 + many) + 1 from rfl, t14, tree_body]
    obtain ⟨j, e⟩ := none_some hno
    obtain ⟨u1, u2, u3, u4⟩ := unmet_some e
    unfold treeC at hk ⊢
    simp only [e, Option.getD_some] at hk ⊢
    simp only [seqS]
    rw [look_ok lots M k m0 _ _ rfl (by omega)]
    simp only [SR.bind_nx]
    rw [count_ok lots M k m0 _ _ rfl]
    simp only [SR.bind_nx]
    rw [show n + 2 + many = (n + 1 + many) + 1 by omega, ask_ok]
    simp only [SR.bind_nx]
    rw [show (n + 1 + many) + 1 = n + 2 + many by omega]
    have hT := tloop_ok lots M m0 (run tab (n + 2 + many)) ts ((many + 1 : Nat) : Int) (fun x => tD many (treeM su lots many (ts ++ [x]))) (fun x => treeC su lots many (ts ++ [x])) (.dat (.int (j : Nat))) (.dat (.lst (is (su (lotAt lots j))))) (by omega) (fun x k' hk' => by
        have := tree_ok hl n many (ts ++ [x]) k' (by simp; omega) hk' (none_next hno x)
        have e1 : (((many + 1 : Nat) : Int) - 1) = (many : Int) := by omega
        rw [e1]
        exact this) (su (lotAt lots j)) (k + 1) (by omega)
    have ei := lot_at (m0 ++ [WK lots M (k + 1)]) j lots u2
    have es := setG_is (lotAt lots j) (by have := hl _ u4; omega)
    have hz : ¬ ((((many + 1 : Nat) : Int)) = 0) := by omega
    have h5 : ∀ ys : List D, short [D.int (j : Nat), D.tup ys] = true := fun _ => rfl
    have ek : k + ((1 + sumN (List.map (fun x => treeC su lots many (ts ++ [x])) (su (lotAt lots j))) : Nat) : Int) = k + 1 + sumN (List.map (fun x => treeC su lots many (ts ++ [x])) (su (lotAt lots j))) := by omega
    rw [ek]
    simp only [ifS, blT, bin, brwE, List.getElem?_cons_zero, List.getElem?_cons_succ, R.bind_ok, conE, e, uD, R.of_some, isB, liftS_ok, eqG_ii, hz, decide_false, Bool.false_eq_true, if_false, nxS, SR.bind_nx, asgS, frzE, sortDk, fldE, una, varE, f_lots, ei, List.length_cons, List.length_nil, Nat.reduceAdd, Nat.reduceLT, if_true, es, asg, List.set_cons_succ, List.set_cons_zero, SR.of_some, retS, bltE, consA, lcF, seqI, itemsOf, wipeE, hT, nilA, tupleG, tupG, h5, endS_ret, tD, treeM, numM, Option.getD_some, List.map_map]
    rfl
/-! ### a walk is made -/
theorem init_ok (n : Nat) : run tab (n + 2) 12 [.ref m0.length, ls lots, .int M] (m0 ++ [.ins "Walk" []]) = .ok .non (m0 ++ [WK lots M 0]) := by
  have p1 : putD "lots" (ls lots) [] = [(("lots" : Str), ls lots)] := by kernel_rfl
  have p2 : putD "most" (.int M) [(("lots" : Str), ls lots)] = [(("lots" : Str), ls lots), ("most", .int M)] := by kernel_rfl
  have p3 : putD "looked" (.int 0) [(("lots" : Str), ls lots), ("most", .int M)] = [(("lots" : Str), ls lots), ("most", .int M), ("looked", .int 0)] := by kernel_rfl
  have b : run tab (n + 1) 13 [.ref m0.length, ls lots, .int M] (m0 ++ [.ins "Walk" []]) = .ok .non (m0 ++ [WK lots M 0]) := by
    rw [t13]
    unfold B_Walk__init__b
    simp only [seqS, fldS, varE, conE, List.getElem?_cons_zero, List.getElem?_cons_succ, liftS_ok, at_end, List.length_nil, Nat.reduceLT, and_self, if_true, p1, set_end, SR.bind_nx, List.length_cons, Nat.reduceAdd, p2, p3, endS_nx]
    rfl
  rw [t12]
  unfold B_Walk__init callS
  have : datsOf [Cell.dat (.ref m0.length), .dat (ls lots), .dat (.int M)] = some [.ref m0.length, ls lots, .int M] := rfl
  rw [this]
  dsimp only
  rw [b]
  rfl
def newW : EvE := newE "Walk" 12 (consA (varE 0) (consA (varE 1) nilA))
theorem new_ok (n : Nat) (c2 c3 c4 : Cell) : newW (run tab (n + 2)) [.dat (ls lots), .dat (.int M), c2, c3, c4] m0 = .ok (.ref m0.length) (m0 ++ [WK lots M 0]) := by
  unfold newW
  simp only [newE, consA, varE, nilA, List.getElem?_cons_zero, List.getElem?_cons_succ, R.bind_ok, init_ok]
end Dn.K55
namespace Dn.K55
open PySem L2
variable (lots : Lots) (M : Int) (m : Store)
def fbody : EvS := (seqS (asgS (.nm 3) (metE "Walk" "met" 11 newW (consA (bltE tupG nilA) (consA (varE 2) nilA))))
  (seqS (ifS (blT (bin isNotG (brwE 3) (conE .non)))
  brkS
  nxS)
  (asgS (.nm 2) (bin addA (brwE 2) (conE (.int 1))))))
def anyL : EvE := bltE anyG (consA (frzE (lcF (seqI (varE 0)) (.nm 4) yesT (bin eqG (bltE lenG (consA (brwE 4) nilA)) (conE (.int 0))) [4])) nilA)
theorem few_body : B_fewest_meeting = seqS (dropS (fnE 10 (consA (varE 1) nilA))) (seqS (ifS (blT anyL) (retS (conE .non)) nxS) (seqS (asgS (.nm 2) (conE (.int 0))) (seqS (whileS (blT (conE (.bl true))) fbody)
  (retS (bltE tupG (consA (bltE tupleG (consA (bltE sortG2 (consA (brwE 3) nilA)) nilA)) (consA (ifE (blT (bin eqG (brwE 2) (conE (.int 0)))) (conE .non) (metE "Walk" "tree" 14 newW (consA (bltE tupG nilA) (consA (bin subG (brwE 2) (conE (.int 1))) nilA)))) nilA))))))) := rfl
theorem most_ok (n : Nat) (h : 1 ≤ M) : run tab (n + 1) 10 [.int M] m = .ok .non m := by
  rw [t10]
  unfold B_check_most
  have : ¬ M < 1 := by omega
  simp [this]
theorem any_ok (C : Orc) (c2 c3 c1 : Cell) : anyL C [.dat (ls lots), c1, c2, c3, .em] m = .ok (.bl (lots.any fun l => decide (l.length = 0))) m := by
  have e1 := lcL_all (C := C) (g := .nm 4) (te := bin eqG (bltE lenG (consA (brwE 4) nilA)) (conE (.int 0))) (e := [.dat (ls lots), c1, c2, c3, .em]) (m := m) (f := ti) (h := fun lot => D.bl (decide (lot.length = 0))) (l := lots)
    (fun lot _ => ⟨[.dat (ls lots), c1, c2, c3, .dat (ti lot)], by simp, by simp⟩)
  unfold anyL
  simp only [bltE, consA, frzE, lcF, seqI, varE, List.getElem?_cons_zero, R.bind_ok, itemsOf, R.of_some, wipeE, List.set_cons_succ, List.set_cons_zero, e1, nilA, anyG, toBls_map (fun l : List Int => decide (l.length = 0)), Option.map_some, List.any_map]
  rfl
theorem met_use (hl : ∀ lot ∈ lots, lot.length ≤ LIM) (p : Nat) (many : Nat) (hp : many + 2 ≤ p) (h6 : many ≤ 6) (hM : ((metM lots many []).2 : Int) ≤ M) (c2 c3 c4 : Cell) :
    metE "Walk" "met" 11 newW (consA (bltE tupG nilA) (consA (varE 2) nilA)) (run tab p) [.dat (ls lots), .dat (.int M), .dat (.int many), c3, c4] m = .ok (oD (metM lots many []).1) (m ++ [WK lots M (metM lots many []).2]) := by
  obtain ⟨q, rfl⟩ : ∃ q, p = q + 2 + many := ⟨p - 2 - many, by omega⟩
  have h := met_ok lots M m hl q many [] 0 (by simp; omega) (by omega)
  have hn := new_ok lots M m (q + many) (.dat (.int many)) c3 c4
  rw [show q + many + 2 = q + 2 + many by omega] at hn
  have h0 : short ([] : List D) = true := rfl
  have h1 : (D.tup []) = ti [] := rfl
  rw [Int.zero_add] at h
  simp only [metE, hn, R.bind_ok, ins_at, lk_met, and_self, if_true, consA, bltE, nilA, tupG, h0, R.of_some, varE, List.getElem?_cons_zero, List.getElem?_cons_succ, h1, h]
theorem tree_use (hl : ∀ lot ∈ lots, lot.length ≤ 3) (p : Nat) (many : Nat) (hp : many + 2 ≤ p) (h6 : many ≤ 6) (hM : ((treeC su lots many [] : Nat) : Int) ≤ M) (hno : ∀ ext : List Int, ext.length ≤ many → ¬ Meets lots ([] ++ ext)) (c3 c4 : Cell) :
    metE "Walk" "tree" 14 newW (consA (bltE tupG nilA) (consA (bin subG (brwE 2) (conE (.int 1))) nilA)) (run tab p) [.dat (ls lots), .dat (.int M), .dat (.int ((many + 1 : Nat) : Int)), c3, c4] m = .ok (tD many (treeM su lots many [])) (m ++ [WK lots M (treeC su lots many [])]) := by
  obtain ⟨q, rfl⟩ : ∃ q, p = q + 2 + many := ⟨p - 2 - many, by omega⟩
  have h := tree_ok lots M m hl q many [] 0 (by simp; omega) (by omega) hno
  have hn := new_ok lots M m (q + many) (.dat (.int ((many + 1 : Nat) : Int))) c3 c4
  rw [show q + many + 2 = q + 2 + many by omega] at hn
  have h0 : short ([] : List D) = true := rfl
  have h1 : (D.tup []) = ti [] := rfl
  have h2 : (((many + 1 : Nat) : Int) - 1) = (many : Int) := by omega
  rw [Int.zero_add] at h
  simp only [metE, hn, R.bind_ok, ins_at, lk_tree, and_self, if_true, consA, bltE, nilA, tupG, h0, R.of_some, bin, brwE, conE, subG, h2, List.getElem?_cons_zero, List.getElem?_cons_succ, h1, h]
theorem NN_le : ∀ k, k ≤ 6 → NN k ≤ 1093 := by decide
variable {lots}
theorem loop_ok {mm : Nat} {th : List Int} (F : Few lots mm th) (hl : ∀ lot ∈ lots, lot.length ≤ 3) (hM : 1093 ≤ M) (p : Nat) (hp : 8 ≤ p) : ∀ (d j : Nat) (m : Store) (c3 : Cell), j + d = mm → ∃ J,
    whileS (blT (conE (.bl true))) fbody (run tab p) [.dat (ls lots), .dat (.int M), .dat (.int j), c3, .em] m = .nx [.dat (ls lots), .dat (.int M), .dat (.int mm), .dat (ti th), .em] (m ++ J)
  | 0, j, m, c3, h => by
    have h : j = mm := by omega
    subst h
    have hc := met_count hl j []
    have hN := NN_le j F.six
    have hu := met_use lots M m (fun lot h => Nat.le_trans (hl lot h) (by decide)) p j (by have := F.six; omega) F.six (by omega) (.dat (.int j)) c3 .em
    rw [F.met] at hu
    refine ⟨[WK lots M (metM lots j []).2], ?_⟩
    rw [whileS_eq]
    unfold turnW
    simp only [blT, conE, R.bind_ok, isB, R.of_some, fbody, seqS, asgS, hu, liftS_ok, asg, List.length_cons, List.length_nil, Nat.reduceAdd, Nat.reduceLT, if_true, List.set_cons_succ, List.set_cons_zero, SR.of_some, SR.bind_nx, ifS, bin, brwE, List.getElem?_cons_zero, List.getElem?_cons_succ, isNot_non, oD, isNon, Bool.not_false, brkS, SR.bind_brk]
  | d + 1, j, m, c3, h => by
    have hj : j < mm := by omega
    have h6 := F.six
    have hc := met_count hl j []
    have hN := NN_le j (by omega)
    have hu := met_use lots M m (fun lot h => Nat.le_trans (hl lot h) (by decide)) p j (by omega) (by omega) (by omega) (.dat (.int j)) c3 .em
    rw [F.less j hj] at hu
    obtain ⟨J, ih⟩ := loop_ok F hl hM p hp d (j + 1) (m ++ [WK lots M (metM lots j []).2]) (.dat .non) (by omega)
    refine ⟨[WK lots M (metM lots j []).2] ++ J, ?_⟩
    rw [whileS_eq]
    unfold turnW
    have e1 : ((j : Int) + 1) = ((j + 1 : Nat) : Int) := by omega
    simp only [blT, conE, R.bind_ok, isB, R.of_some, fbody, seqS, asgS, hu, liftS_ok, asg, List.length_cons, List.length_nil, Nat.reduceAdd, Nat.reduceLT, if_true, List.set_cons_succ, List.set_cons_zero, SR.of_some, SR.bind_nx, ifS, bin, brwE, List.getElem?_cons_zero, List.getElem?_cons_succ, isNot_non, oD, isNon, Bool.not_true, Bool.false_eq_true, if_false, nxS, addA, orO, addG, e1]
    rw [← List.append_assoc]
    exact ih
/-- the tree that is told -/
def trD (lots : Lots) (mm : Nat) : D := match mm with
  | 0 => .non
  | k + 1 => tD k (treeM su lots k [])
theorem no_empty (ok : OkL lots) : (lots.any fun l => decide (l.length = 0)) = false := by
  rw [List.any_eq_false]
  intro l hl
  have := ok.ne l hl
  have := List.length_pos_iff.mpr this
  simp
  exact ok.ne l hl
theorem fewest_ok {mm : Nat} {th : List Int} (ok : OkL lots) (F : Few lots mm th) (hM : 1093 ≤ M) (p : Nat) (hp : 8 ≤ p) : ∃ J, run tab (p + 1) 4 [ls lots, .int M] m = .ok (.tup [ti (up th), trD lots mm]) (m ++ J) := by
  obtain ⟨J, hw⟩ := loop_ok M F ok.le hM p hp mm 0 m .em (by omega)
  have h10 : run tab p 10 [.int M] m = .ok .non m := by
    obtain ⟨q, rfl⟩ : ∃ q, p = q + 1 := ⟨p - 1, by omega⟩
    exact most_ok M m q (by omega)
  have hs : ∀ m, sortG2 m [ti th] = some (.lst (is (up th))) := fun m => sort_lot m th (by rw [F.len]; exact Nat.le_trans F.six (by decide))
  have ha := any_ok lots m (run tab p) .em .em (.dat (.int M))
  rw [no_empty ok] at ha
  have h5 : ∀ x y : D, short [x, y] = true := fun _ _ => rfl
  have hz : (0 : Int) = ((0 : Nat) : Int) := rfl
  cases mm with
  | zero =>
    refine ⟨J, ?_⟩
    rw [t4, few_body]
    simp only [seqS, dropS, fnE, consA, varE, nilA, List.getElem?_cons_zero, List.getElem?_cons_succ, R.bind_ok, h10, liftS_ok, SR.bind_nx, ifS, blT, ha, isB, R.of_some, Bool.false_eq_true, if_false, nxS, asgS, conE, asg, List.length_cons, List.length_nil, Nat.reduceAdd, Nat.reduceLT, if_true, List.set_cons_succ, List.set_cons_zero, SR.of_some]
    rw [hz, hw]
    simp only [SR.bind_nx, retS, bltE, consA, nilA, brwE, List.getElem?_cons_zero, List.getElem?_cons_succ, R.bind_ok, hs, R.of_some, tupleG, ifE, blT, bin, conE, eqG_ii, Int.natCast_zero, decide_true, isB, if_true, tupG, h5, liftS_ok, endS_ret, trD]
  | succ k =>
    have hc := tree_count su su_len ok.le k []
    have hN := NN_le k (by have := F.six; omega)
    have hu := tree_use lots M (m ++ J) ok.le p k (by have := F.six; omega) (by have := F.six; omega) (by omega) (F.none (by omega)) (.dat (ti th)) .em
    refine ⟨J ++ [WK lots M (treeC su lots k [])], ?_⟩
    rw [t4, few_body]
    simp only [seqS, dropS, fnE, consA, varE, nilA, List.getElem?_cons_zero, List.getElem?_cons_succ, R.bind_ok, h10, liftS_ok, SR.bind_nx, ifS, blT, ha, isB, R.of_some, Bool.false_eq_true, if_false, nxS, asgS, conE, asg, List.length_cons, List.length_nil, Nat.reduceAdd, Nat.reduceLT, if_true, List.set_cons_succ, List.set_cons_zero, SR.of_some]
    rw [hz, hw]
    have hk : ¬ (((k + 1 : Nat) : Int) = ((0 : Nat) : Int)) := by omega
    simp only [SR.bind_nx, retS, bltE, consA, nilA] at hu ⊢
    simp only [brwE, List.getElem?_cons_zero, List.getElem?_cons_succ, R.bind_ok, hs, R.of_some, tupleG, ifE, blT, bin, conE, eqG_ii, hk, decide_false, isB, Bool.false_eq_true, if_false] at hu ⊢
    rw [hu]
    simp only [R.bind_ok, tupG, h5, if_true, R.of_some, liftS_ok, endS_ret, trD, List.append_assoc]
theorem fewest_none (hM : 1 ≤ M) (p : Nat) : run tab (p + 2) 4 [.lst (lots.map ti ++ [.tup []]), .int M] m = .ok .non m := by
  have e : (D.lst (lots.map ti ++ [.tup []])) = ls (lots ++ [[]]) := by simp [ls, is]
  have ha := any_ok (lots ++ [[]]) m (run tab (p + 1)) .em .em (.dat (.int M))
  have h1 : ((lots ++ [[]]).any fun l => decide (l.length = 0)) = true := by simp
  rw [h1] at ha
  rw [e, t4, few_body]
  simp only [seqS, dropS, fnE, consA, varE, nilA, List.getElem?_cons_zero, List.getElem?_cons_succ, R.bind_ok, most_ok M m p hM, liftS_ok, SR.bind_nx, ifS, blT, ha, isB, R.of_some, if_true, retS, conE, SR.bind_ret, endS_ret]
theorem fewest_zero (p : Nat) : run tab (p + 2) 4 [ls lots, .int 0] m = .exc 0 [.int 0] m := by
  have h : run tab (p + 1) 10 [.int 0] m = .exc 0 [.int 0] m := by
    rw [t10]
    unfold B_check_most
    simp
  rw [t4, few_body]
  simp only [seqS, dropS, fnE, consA, varE, nilA, List.getElem?_cons_zero, List.getElem?_cons_succ, R.bind_ok, h, liftS_exc, SR.bind_exc, endS_exc]
end Dn.K55
namespace Dn.K55
open PySem L2
/-! ### nodes -/
def brD {β : Type} (g : β → D) (p : Int × β) : D := .tup [.int p.1, g p.2]
def nD {β : Type} (g : β → D) (n : Int) (bs : List (Int × β)) : D := .tup [.int n, .tup (bs.map (brD g))]
theorem tD_zero (n : Int) (g : Unit → D) : tD 0 n = nD g n [] := rfl
theorem tD_succ (k : Nat) (t : T (k + 1)) : tD (k + 1) t = nD (tD k) t.1 t.2 := rfl
/-- may be compared with the empty tuple -/
def Cmp0 {β : Type} (g : β → D) (bs : List (Int × β)) : Prop := ∀ m, eqG m (.tup (bs.map (brD g))) (.tup []) = some (.bl bs.isEmpty)
theorem cmp0_of {β : Type} {g : β → D} {bs : List (Int × β)} (N : Nat) (hN : N ≤ 50) (h : ∀ p ∈ bs, ∃ q, toP (g p.2) = some q ∧ q.canLay0 = true ∧ q.depth ≤ N) : Cmp0 g bs := by
  have : ∀ bs : List (Int × β), (∀ p ∈ bs, ∃ q, toP (g p.2) = some q ∧ q.canLay0 = true ∧ q.depth ≤ N) → ∃ qs, toPs (bs.map (brD g)) = some qs ∧ PyData.canLayAll0 qs = true ∧ PyData.depthAll qs ≤ N + 4 ∧ (qs = [] ↔ bs = []) := by
    intro bs
    induction bs with
    | nil => intro _; exact ⟨[], by simp [toPs], by simp [PyData.canLayAll0], by simp [PyData.depthAll], by simp⟩
    | cons p bs ih =>
      intro h
      obtain ⟨qs, h1, h2, h3, h4⟩ := ih fun q hq => h q (List.mem_cons_of_mem _ hq)
      obtain ⟨q, g1, g2, g3⟩ := h p List.mem_cons_self
      refine ⟨.tuple [.int p.1, q] :: qs, ?_, ?_, ?_, by simp⟩
      · simp [toPs, brD, toP, g1, h1]
      · simp [PyData.canLayAll0, PyData.canLay0, g2, h2]
      · simp [PyData.depthAll, PyData.depth]
        omega
  obtain ⟨qs, h1, h2, h3, h4⟩ := this bs h
  intro m
  have s1 : SeqAt.shaped (.tuple qs) = true := by
    simp only [SeqAt.shaped, PyData.canLay0, PyData.depth, Bool.and_eq_true, decide_eq_true_eq]
    exact ⟨h2, decide_eq_true (by omega)⟩
  have s2 : SeqAt.shaped (.tuple []) = true := by decide
  rw [eqG_ok (p := .tuple qs) (q := .tuple []) (by simp [toP, h1]) (by simp [toP, toPs]) s1 s2]
  cases qs with
  | nil => rw [h4.mp rfl]; simp [PyData.eqv, PyData.eqvAll]
  | cons q qs =>
    cases bs with
    | nil => exact absurd (h4.mpr rfl) (by simp)
    | cons b bs => simp [PyData.eqv, PyData.eqvAll]
theorem tree_p : ∀ (k : Nat) (t : T k), ∃ q, toP (tD k t) = some q ∧ q.canLay0 = true ∧ q.depth ≤ 3 * k + 3
  | 0, n => ⟨.tuple [.int n, .tuple []], by simp [tD, toP, toPs], by simp [PyData.canLay0, PyData.canLayAll0], by simp [PyData.depth, PyData.depthAll]⟩
  | k + 1, t => by
    have : ∀ bs : List (Int × T k), ∃ qs, toPs (bs.map fun p => D.tup [.int p.1, tD k p.2]) = some qs ∧ PyData.canLayAll0 qs = true ∧ PyData.depthAll qs ≤ 3 * k + 4 := by
      intro bs
      induction bs with
      | nil => exact ⟨[], by simp [toPs], by simp [PyData.canLayAll0], by simp [PyData.depthAll]⟩
      | cons p bs ih =>
        obtain ⟨qs, h1, h2, h3⟩ := ih
        obtain ⟨q, g1, g2, g3⟩ := tree_p k p.2
        refine ⟨.tuple [.int p.1, q] :: qs, ?_, ?_, ?_⟩
        · simp [toPs, toP, g1, h1]
        · simp [PyData.canLayAll0, PyData.canLay0, g2, h2]
        · simp [PyData.depthAll, PyData.depth]
          omega
    obtain ⟨qs, h1, h2, h3⟩ := this t.2
    refine ⟨.tuple [.int t.1, .tuple qs], ?_, ?_, ?_⟩
    · simp [tD, toP, toPs, h1]
    · simp [PyData.canLay0, PyData.canLayAll0, h2]
    · simp [PyData.depth, PyData.depthAll]
      omega
theorem cmp0_t {k : Nat} (hk : k ≤ 10) (bs : List (Int × T k)) : Cmp0 (tD k) bs := cmp0_of (3 * k + 3) (by omega) fun p hp => tree_p k p.2
theorem kit_ii : kitB "int" "int" = some true := by decide +kernel
theorem kit_ib : kitB "int" "bool" = some false := by decide +kernel
theorem kit_nt : kitB "NoneType" "tuple" = some false := by decide +kernel
theorem kit_tt : kitB "tuple" "tuple" = some true := by decide +kernel
theorem whole_ok (n : Nat) (i a b : Int) (m : Store) : run tab (n+1) 17 [.int i, .int a, .int b] m = .ok (.bl (decide (a ≤ i) && decide (i ≤ b))) m := by
  rw [t17]
  unfold B_is_whole
  simp [kit_ii, kit_ib]
  by_cases h1 : a ≤ i <;> simp [h1]
def toldE : EvE := (frzE (lcF (seqI (bin ixG (brwE 3) (conE (.int 1)))) (.nm 6) yesT (bin ixG (brwE 6) (conE (.int 0))) [6]))
def shapeE : EvE := (bltE allG (consA (frzE (lcF (seqI (bin ixG (brwE 3) (conE (.int 1)))) (.nm 6) yesT (andE (isE "tuple" (brwE 6)) (bin eqG (bltE lenG (consA (brwE 6) nilA)) (conE (.int 2)))) [6])) nilA))
def allinE (j k : Nat) : EvE := (bltE allG (consA (frzE (lcF (seqI (varE j)) (.nm 7) yesT (bin inG (brwE 7) (brwE k)) [7])) nilA))
def recE (f : Nat) (g : Tg) (vs : List Nat) (te : EvE) : EvE := (bltE allG (consA (frzE (lcF (seqI (bin ixG (brwE 3) (conE (.int 1)))) g yesT te vs)) nilA))
def te16 : EvE := (fnE 16 (consA (varE 0) (consA (bltE tupG (starA (seqOnly (varE 1)) (consA (varE 7) nilA))) (consA (bin subG (brwE 2) (conE (.int 1))) (consA (varE 8) nilA)))))
theorem shows_body : B_shows_tree = seqS (ifS (orT (notT (blT (isE "tuple" (brwE 3)))) (orT (blT (bin neG (bltE lenG (consA (brwE 3) nilA)) (conE (.int 2)))) (notT (blT (fnE 17 (consA (bin ixG (brwE 3) (conE (.int 0))) (consA (conE (.int 0)) (consA (bin subG (bltE lenG (consA (brwE 0) nilA)) (conE (.int 1))) nilA)))))))) (retS (conE (.bl false))) nxS)
  (seqS (asgS (.nm 4) (bin ixG (brwE 0) (bin ixG (brwE 3) (conE (.int 0)))))
  (seqS (ifS (orT (blT (hitE 4 1 7)) (notT (blT (isE "tuple" (bin ixG (brwE 3) (conE (.int 1))))))) (retS (conE (.bl false))) nxS)
  (seqS (ifS (blT (bin eqG (brwE 2) (conE (.int 0)))) (retS (bin eqG (bin ixG (brwE 3) (conE (.int 1))) (bltE tupG nilA))) nxS)
  (seqS (ifS (notT (blT shapeE)) (retS (conE (.bl false))) nxS)
  (seqS (asgS (.nm 5) toldE)
  (seqS (ifS (orT (notT (blT (allinE 4 5))) (notT (blT (allinE 5 4)))) (retS (conE (.bl false))) nxS)
  (retS (recE 16 (.tp [(.nm 7), (.nm 8)]) [7, 8] te16)))))))) := rfl
theorem ix0 {β : Type} (g : β → D) (m : Store) (n : Int) (bs : List (Int × β)) : ixG m (nD g n bs) (.int 0) = some (.int n) := atI0 _ _
theorem ix1 {β : Type} (g : β → D) (m : Store) (n : Int) (bs : List (Int × β)) : ixG m (nD g n bs) (.int 1) = some (.tup (bs.map (brD g))) := atI1 _ _ _
theorem in_l (m : Store) (x : Int) (ts : List Int) : inG m (.int x) (.lst (is ts)) = some (.bl (decide (x ∈ ts))) := encI.inL m x ts fun z h => by cases h
theorem lot_int (m : Store) (lots : Lots) (n : Int) (h : 0 ≤ n ∧ n < (lots.length : Int)) : ixG m (ls lots) (.int n) = some (ti (lotAt lots n.toNat)) := by
  obtain ⟨j, rfl⟩ : ∃ j : Nat, n = j := ⟨n.toNat, by omega⟩
  have hj : j < lots.length := by omega
  rw [Int.toNat_natCast]
  refine lot_at m j lots ?_
  unfold lotAt
  rw [List.getElem?_eq_getElem hj]
  rfl
section
variable (C : Orc) (lots : Lots) (ts : List Int) (many : Nat) (n : Int) {β : Type} (g : β → D) (bs : List (Int × β)) (m : Store)
theorem told_ok (c4 c5 c7 c8 : Cell) : toldE C [.dat (ls lots), .dat (ti ts), .dat (.int many), .dat (nD g n bs), c4, c5, .em, c7, c8] m = .ok (.lst (is (bs.map (·.1)))) m := by
  have e1 := lcL_all (C := C) (g := .nm 6) (te := bin ixG (brwE 6) (conE (.int 0))) (e := [.dat (ls lots), .dat (ti ts), .dat (.int many), .dat (nD g n bs), c4, c5, .em, c7, c8]) (m := m) (f := (brD g)) (h := fun p => D.int p.1) (l := bs)
    (fun p _ => ⟨[.dat (ls lots), .dat (ti ts), .dat (.int many), .dat (nD g n bs), c4, c5, .dat (brD g p), c7, c8], by simp, by simp [brD, atI0]⟩)
  unfold toldE
  simp only [frzE, lcF, seqI, bin, brwE, conE, List.getElem?_cons_zero, List.getElem?_cons_succ, R.bind_ok, ix1, itemsOf, R.of_some, wipeE, List.set_cons_succ, List.set_cons_zero] at e1 ⊢
  rw [e1]
  simp [is, encI]
theorem shape_ok (c4 c5 c7 c8 : Cell) : shapeE C [.dat (ls lots), .dat (ti ts), .dat (.int many), .dat (nD g n bs), c4, c5, .em, c7, c8] m = .ok (.bl true) m := by
  have e1 := lcL_all (C := C) (g := .nm 6) (te := andE (isE "tuple" (brwE 6)) (bin eqG (bltE lenG (consA (brwE 6) nilA)) (conE (.int 2)))) (e := [.dat (ls lots), .dat (ti ts), .dat (.int many), .dat (nD g n bs), c4, c5, .em, c7, c8]) (m := m) (f := (brD g)) (h := fun p => D.bl true) (l := bs)
    (fun p _ => ⟨[.dat (ls lots), .dat (ti ts), .dat (.int many), .dat (nD g n bs), c4, c5, .dat (brD g p), c7, c8], by simp, by simp [brD, kit_tt]⟩)
  unfold shapeE
  simp only [bltE, consA, frzE, lcF, seqI, bin, brwE, conE, List.getElem?_cons_zero, List.getElem?_cons_succ, R.bind_ok, ix1, itemsOf, R.of_some, wipeE, List.set_cons_succ, List.set_cons_zero] at e1 ⊢
  rw [e1]
  have := toBls_map (fun _ : Int × β => true) bs
  simp [this]
theorem allin1 (a b : List Int) (j k : Nat) (e : Env) (hj : e[j]? = some (.dat (ti a))) (hk : e[k]? = some (.dat (.lst (is b)))) (h7 : 7 < e.length) (hne : 7 ≠ k) : allinE j k C e m = .ok (.bl (a.all fun x => decide (x ∈ b))) m := by
  have e1 := lcL_all (C := C) (g := .nm 7) (te := bin inG (brwE 7) (brwE k)) (e := wipeE e [7]) (m := m) (f := encI.d) (h := fun x => D.bl (decide (x ∈ b))) (l := a)
    (fun x _ => ⟨(wipeE e [7]).set 7 (.dat (.int x)), by simp [h7, encI_d], by
      have a1 : ((wipeE e [7]).set 7 (.dat (.int x)))[7]? = some (.dat (.int x)) := List.getElem?_set_self (by simpa using h7)
      have a2 : ((wipeE e [7]).set 7 (.dat (.int x)))[k]? = some (.dat (.lst (is b))) := by
        rw [List.getElem?_set_ne hne]
        simp only [wipeE]
        rw [List.getElem?_set_ne hne]
        exact hk
      simp only [bin, brwE, a1, a2, R.bind_ok, in_l, R.of_some]⟩)
  unfold allinE
  simp only [bltE, consA, frzE, lcF, seqI, varE, hj, R.bind_ok, itemsOf, R.of_some, e1, nilA, allG, toBls_map (fun x : Int => decide (x ∈ b)), Option.map_some, List.all_map]
  rfl
theorem allin2 (a b : List Int) (j k : Nat) (e : Env) (hj : e[j]? = some (.dat (.lst (is a)))) (hk : e[k]? = some (.dat (ti b))) (h7 : 7 < e.length) (hne : 7 ≠ k) : allinE j k C e m = .ok (.bl (a.all fun x => decide (x ∈ b))) m := by
  have e1 := lcL_all (C := C) (g := .nm 7) (te := bin inG (brwE 7) (brwE k)) (e := wipeE e [7]) (m := m) (f := encI.d) (h := fun x => D.bl (decide (x ∈ b))) (l := a)
    (fun x _ => ⟨(wipeE e [7]).set 7 (.dat (.int x)), by simp [h7, encI_d], by
      have a1 : ((wipeE e [7]).set 7 (.dat (.int x)))[7]? = some (.dat (.int x)) := List.getElem?_set_self (by simpa using h7)
      have a2 : ((wipeE e [7]).set 7 (.dat (.int x)))[k]? = some (.dat (ti b)) := by
        rw [List.getElem?_set_ne hne]
        simp only [wipeE]
        rw [List.getElem?_set_ne hne]
        exact hk
      simp only [bin, brwE, a1, a2, R.bind_ok, in_i, R.of_some]⟩)
  unfold allinE
  simp only [bltE, consA, frzE, lcF, seqI, varE, hj, R.bind_ok, itemsOf, R.of_some, e1, nilA, allG, toBls_map (fun x : Int => decide (x ∈ b)), Option.map_some, List.all_map]
  rfl
theorem rec16_ok (c4 c5 c6 : Cell) (f : Int → β → Bool) (hs : ts.length < 100000) (hC : ∀ p ∈ bs, C 16 [ls lots, ti (ts ++ [p.1]), .int ((many : Int) - 1), g p.2] m = .ok (.bl (f p.1 p.2)) m) :
    recE 16 (.tp [(.nm 7), (.nm 8)]) [7, 8] te16 C [.dat (ls lots), .dat (ti ts), .dat (.int many), .dat (nD g n bs), c4, c5, c6, .em, .em] m = .ok (.bl (bs.all fun p => f p.1 p.2)) m := by
  have h4 : noStr (ti ts) = true := rfl
  have e1 := lcL_all (C := C) (g := .tp [(.nm 7), (.nm 8)]) (te := te16) (e := [.dat (ls lots), .dat (ti ts), .dat (.int many), .dat (nD g n bs), c4, c5, c6, .em, .em]) (m := m) (f := (brD g)) (h := fun p => D.bl (f p.1 p.2)) (l := bs)
    (fun p hp => ⟨[.dat (ls lots), .dat (ti ts), .dat (.int many), .dat (nD g n bs), c4, c5, c6, .dat (.int p.1), .dat (g p.2)], by simp [brD], by
      have h1 : short (is ts ++ [.int p.1]) = true := by unfold short; simp; omega
      have h3 : (D.tup (is ts ++ [.int p.1])) = ti (ts ++ [p.1]) := by simp [ti, is, encI_d]
      unfold te16
      simp only [fnE, consA, varE, List.getElem?_cons_zero, List.getElem?_cons_succ, R.bind_ok, bltE, starA, seqOnly, h4, if_true, R.of_some, itemsOf, nilA, tupG, h1, h3, bin, brwE, conE, subG, hC p hp]⟩)
  unfold recE
  simp only [bltE, consA, frzE, lcF, seqI, bin, brwE, conE, List.getElem?_cons_zero, List.getElem?_cons_succ, R.bind_ok, ix1, itemsOf, R.of_some, wipeE, List.set_cons_succ, List.set_cons_zero] at e1 ⊢
  rw [e1]
  simp only [R.bind_ok, nilA, allG, toBls_map (fun p : Int × β => f p.1 p.2), Option.map_some, R.of_some, List.all_map]
  rfl
theorem shows_node (f : Int → β → Bool) (hs : ts.length < 100000) (h0 : Cmp0 g bs) (h17 : ∀ b : Int, C 17 [.int n, .int 0, .int b] m = .ok (.bl (decide (0 ≤ n) && decide (n ≤ b))) m)
    (hC : many ≠ 0 → ∀ p ∈ bs, C 16 [ls lots, ti (ts ++ [p.1]), .int ((many : Int) - 1), g p.2] m = .ok (.bl (f p.1 p.2)) m) :
    endS (B_shows_tree C [.dat (ls lots), .dat (ti ts), .dat (.int many), .dat (nD g n bs), .em, .em, .em, .em, .em] m) = .ok (.bl (nodeB lots ts many n bs f)) m := by
  have ty : ∀ m, isTy "tuple" m (nD g n bs) = some true := fun m => by unfold nD; simp [kit_tt]
  have ty2 : ∀ m, isTy "tuple" m (.tup (bs.map (brD g))) = some true := fun m => by simp [kit_tt]
  have hl : lenG m [nD g n bs] = some (.int 2) := rfl
  have hl2 : lenG m [ls lots] = some (.int lots.length) := by simp [ls]
  rw [shows_body]
  unfold nodeB
  by_cases c1 : 0 ≤ n ∧ n < (lots.length : Int)
  · rw [if_pos c1]
    have d1 : decide (0 ≤ n) = true := decide_eq_true c1.1
    have d2 : decide (n ≤ (lots.length : Int) - 1) = true := decide_eq_true (by omega)
    have el := lot_int m lots n c1
    have eh := hit_lc C [.dat (ls lots), .dat (ti ts), .dat (.int many), .dat (nD g n bs), .dat (ti (lotAt lots n.toNat)), .em, .em, .em, .em] m 4 1 7 ts (lotAt lots n.toNat) rfl rfl (by simp) (by simp)
    simp only [seqS, ifS, orT, notT, blT, isE, brwE, List.getElem?_cons_zero, List.getElem?_cons_succ, R.bind_ok, ty, R.of_some, isB, Bool.not_true, Bool.false_eq_true, if_false, bin, bltE, consA, nilA, hl, conE, neG_ii, decide_true, fnE, ix0, hl2, subG, h17, d1, d2, Bool.and_self, liftS_ok, nxS, SR.bind_nx, asgS, el, asg, List.length_cons, List.length_nil, Nat.reduceAdd, Nat.reduceLT, if_true, List.set_cons_succ, List.set_cons_zero, SR.of_some, eh]
    cases c2 : hit ts (lotAt lots n.toNat) with
    | true => simp
    | false =>
      simp only [Bool.false_eq_true, if_false, ix1, R.bind_ok, R.of_some, ty2, isB, Bool.not_true, liftS_ok, SR.bind_nx]
      by_cases c3 : many = 0
      · have c3' : decide ((many : Int) = 0) = true := decide_eq_true (by omega)
        have h6 : short ([] : List D) = true := rfl
        rw [if_pos c3]
        simp only [R.bind_ok, eqG_ii, c3', R.of_some, isB, liftS_ok, if_true, retS, tupG, h6, h0 m, SR.bind_ret, endS_ret, bin, brwE, conE, bltE, nilA, List.getElem?_cons_zero, List.getElem?_cons_succ, ix1]
      · have c3' : ¬ ((many : Int) = 0) := by omega
        have e1 := shape_ok C lots ts many n g bs m (.dat (ti (lotAt lots n.toNat))) .em .em .em
        have e2 := told_ok C lots ts many n g bs m (.dat (ti (lotAt lots n.toNat))) .em .em .em
        have e3 := allin1 C m (lotAt lots n.toNat) (bs.map (·.1)) 4 5 [.dat (ls lots), .dat (ti ts), .dat (.int many), .dat (nD g n bs), .dat (ti (lotAt lots n.toNat)), .dat (.lst (is (bs.map (·.1)))), .em, .em, .em] rfl rfl (by simp) (by simp)
        have e4 := allin2 C m (bs.map (·.1)) (lotAt lots n.toNat) 5 4 [.dat (ls lots), .dat (ti ts), .dat (.int many), .dat (nD g n bs), .dat (ti (lotAt lots n.toNat)), .dat (.lst (is (bs.map (·.1)))), .em, .em, .em] rfl rfl (by simp) (by simp)
        have e5 := rec16_ok C lots ts many n g bs m (.dat (ti (lotAt lots n.toNat))) (.dat (.lst (is (bs.map (·.1))))) .em f hs (hC c3)
        simp only [List.getElem?_cons_zero, List.getElem?_cons_succ, R.bind_ok, eqG_ii, c3', decide_false, R.of_some, isB, liftS_ok, Bool.false_eq_true, if_false, SR.bind_nx, e1, Bool.not_true, e2, asg, List.length_cons, List.length_nil, Nat.reduceAdd, Nat.reduceLT, if_true, List.set_cons_succ, List.set_cons_zero, SR.of_some, e3]
        rw [if_neg c3]
        cases c5 : (lotAt lots n.toNat).all fun x => decide (x ∈ bs.map (·.1)) with
        | false => simp
        | true =>
          simp only [Bool.not_true, Bool.false_eq_true, if_false, e4, R.bind_ok, isB, R.of_some]
          cases c6 : (bs.map (·.1)).all fun x => decide (x ∈ lotAt lots n.toNat) with
          | false => simp
          | true => simp only [Bool.not_true, Bool.false_eq_true, if_false, liftS_ok, R.bind_ok, Bool.and_self, if_true, SR.bind_nx, nxS, retS, e5, endS_ret]
  · rw [if_neg c1]
    have d : (decide (0 ≤ n) && decide (n ≤ (lots.length : Int) - 1)) = false := by
      simp only [Bool.and_eq_false_iff, decide_eq_false_iff_not]
      omega
    simp only [seqS, ifS, orT, notT, blT, isE, brwE, List.getElem?_cons_zero, List.getElem?_cons_succ, R.bind_ok, ty, R.of_some, isB, Bool.not_true, Bool.false_eq_true, if_false, bin, bltE, consA, nilA, hl, conE, neG_ii, decide_true, fnE, ix0, hl2, subG, h17, d, Bool.not_false, if_true, liftS_ok, retS, SR.bind_ret, endS_ret]
end
theorem shows_ok (lots : Lots) (p : Nat) : ∀ (k many : Nat) (ts : List Int) (t : T k) (m : Store), k ≤ 10 → ts.length + k < 100000 → run tab (p + 2 + k) 16 [ls lots, ti ts, .int many, tD k t] m = .ok (.bl (showsM lots k many ts t)) m
  | 0, many, ts, n, m, hk, hs => by
    rw [show p + 2 + 0 = (p + 1) + 1 from rfl, t16, tD_zero n (fun _ => .non)]
    have := shows_node (β := Unit) (run tab (p + 1)) lots ts many n (fun _ => D.non) [] m (fun _ _ => true) (by omega) (cmp0_of 0 (by omega) fun p hp => by cases hp) (fun b => whole_ok p n 0 b m) (fun _ p hp => by cases hp)
    rw [this]
    rfl
  | k + 1, many, ts, t, m, hk, hs => by
    rw [show p + 2 + (k + 1) = (p + 2 + k) + 1 from rfl, t16, tD_succ]
    have := shows_node (run tab (p + 2 + k)) lots ts many t.1 (tD k) t.2 m (fun x u => showsM lots k (many - 1) (ts ++ [x]) u) (by omega) (cmp0_t (by omega) _) (fun b => by
      rw [show p + 2 + k = (p + 1 + k) + 1 by omega]
      exact whole_ok _ _ _ _ _) (fun hm q hq => by
      have := shows_ok lots p k (many - 1) (ts ++ [q.1]) q.2 m (by omega) (by simp; omega)
      rw [show (((many - 1 : Nat) : Int)) = (many : Int) - 1 by omega] at this
      exact this)
    rw [this]
    rfl
end Dn.K55
namespace Dn.K55
open PySem L2
/-! ### sorted sets -/
theorem asc_ext : ∀ {a b : List Int}, Asc a → Asc b → (∀ x, x ∈ a ↔ x ∈ b) → a = b
  | [], [], _, _, _ => rfl
  | [], y :: b, _, _, h => absurd ((h y).mpr List.mem_cons_self) (by simp)
  | x :: a, [], _, _, h => absurd ((h x).mp List.mem_cons_self) (by simp)
  | x :: a, y :: b, ha, hb, h => by
    have ha' := List.pairwise_cons.mp ha
    have hb' := List.pairwise_cons.mp hb
    have e : x = y := by
      rcases List.mem_cons.mp ((h x).mp List.mem_cons_self) with q | q
      · exact q
      · rcases List.mem_cons.mp ((h y).mpr List.mem_cons_self) with r | r
        · exact r.symm
        · have := hb'.1 x q
          have := ha'.1 y r
          omega
    subst e
    rw [asc_ext ha'.2 hb'.2 fun z => ?_]
    constructor
    · intro hz
      rcases List.mem_cons.mp ((h z).mp (List.mem_cons_of_mem _ hz)) with q | q
      · have := ha'.1 z hz; omega
      · exact q
    · intro hz
      rcases List.mem_cons.mp ((h z).mpr (List.mem_cons_of_mem _ hz)) with q | q
      · have := hb'.1 z hz; omega
      · exact q
theorem uniq_nodup : ∀ (l acc : List Int), acc.Nodup → (l.foldl (fun acc n => if n ∈ acc then acc else acc ++ [n]) acc).Nodup
  | [], acc, h => h
  | n :: l, acc, h => by
    rw [List.foldl_cons]
    by_cases c : n ∈ acc
    · rw [if_pos c]; exact uniq_nodup l acc h
    · rw [if_neg c]
      refine uniq_nodup l _ ?_
      rw [List.nodup_append]
      exact ⟨h, by simp, fun a ha b hb e => by simp at hb; subst hb; subst e; exact c ha⟩
theorem su_asc (l : List Int) : Asc (su l) := up_asc (uniq_nodup l [] List.nodup_nil)
theorem su_eq (a b : List Int) : decide (su a = su b) = ((b.all fun x => decide (x ∈ a)) && a.all fun x => decide (x ∈ b)) := by
  rw [Bool.eq_iff_iff]
  simp only [decide_eq_true_eq, Bool.and_eq_true, List.all_eq_true]
  constructor
  · intro h
    refine ⟨fun x hx => ?_, fun x hx => ?_⟩
    · rw [← su_mem, h, su_mem]; exact hx
    · rw [← su_mem, ← h, su_mem]; exact hx
  · intro ⟨h1, h2⟩
    exact asc_ext (su_asc a) (su_asc b) fun x => by rw [su_mem, su_mem]; exact ⟨h2 x, h1 x⟩
/-! ### the law's own reading of trees -/
def te7 : EvE := (fnE 7 (consA (varE 0) (consA (bin addA (brwE 1) (bltE tupG (consA (varE 5) nilA))) (consA (bin subG (brwE 2) (conE (.int 1))) (consA (varE 6) nilA)))))
def told2 : EvA := (lcF (seqI (bin ixG (brwE 3) (conE (.int 1)))) (.tp [(.nm 5), (.nm 6)]) yesT (varE 5) [5, 6])
theorem istree_body : B_law_is_tree = seqS (ifS (orT (notT (blT (isE "tuple" (brwE 3)))) (orT (blT (bin neG (bltE lenG (consA (brwE 3) nilA)) (conE (.int 2)))) (notT (blT (chainE leG ltG (conE (.int 0)) (bin ixG (brwE 3) (conE (.int 0))) (bltE lenG (consA (brwE 0) nilA))))))) (retS (conE (.bl false))) nxS)
  (seqS (asgS (.nm 4) (bin ixG (brwE 0) (bin ixG (brwE 3) (conE (.int 0)))))
  (seqS (ifS (blT (hitE 4 1 5)) (retS (conE (.bl false))) nxS)
  (seqS (ifS (blT (bin eqG (brwE 2) (conE (.int 0)))) (retS (bin eqG (bin ixG (brwE 3) (conE (.int 1))) (bltE tupG nilA))) nxS)
  (seqS (ifS (blT (bin neG (frzE (sortSet (frzE told2))) (frzE (sortSet (varE 4))))) (retS (conE (.bl false))) nxS)
  (retS (recE 7 (.tp [(.nm 5), (.nm 6)]) [5, 6] te7)))))) := rfl
section
variable (C : Orc) (lots : Lots) (ts : List Int) (many : Nat) (n : Int) {β : Type} (g : β → D) (bs : List (Int × β)) (m : Store)
theorem told2_ok (c4 : Cell) : told2 C [.dat (ls lots), .dat (ti ts), .dat (.int many), .dat (nD g n bs), c4, .em, .em] m = .ok (is (bs.map (·.1))) m := by
  have e1 := lcL_all (C := C) (g := .tp [(.nm 5), (.nm 6)]) (te := varE 5) (e := [.dat (ls lots), .dat (ti ts), .dat (.int many), .dat (nD g n bs), c4, .em, .em]) (m := m) (f := brD g) (h := fun p => D.int p.1) (l := bs)
    (fun p _ => ⟨[.dat (ls lots), .dat (ti ts), .dat (.int many), .dat (nD g n bs), c4, .dat (.int p.1), .dat (g p.2)], by simp [brD], by simp⟩)
  unfold told2
  simp only [lcF, seqI, bin, brwE, conE, List.getElem?_cons_zero, List.getElem?_cons_succ, R.bind_ok, ix1, itemsOf, R.of_some, wipeE, List.set_cons_succ, List.set_cons_zero] at e1 ⊢
  rw [e1]
  simp [is, encI]
theorem rec7_ok (c4 : Cell) (f : Int → β → Bool) (hs : ts.length < 100000) (hC : ∀ p ∈ bs, C 7 [ls lots, ti (ts ++ [p.1]), .int ((many : Int) - 1), g p.2] m = .ok (.bl (f p.1 p.2)) m) :
    recE 7 (.tp [(.nm 5), (.nm 6)]) [5, 6] te7 C [.dat (ls lots), .dat (ti ts), .dat (.int many), .dat (nD g n bs), c4, .em, .em] m = .ok (.bl (bs.all fun p => f p.1 p.2)) m := by
  have e1 := lcL_all (C := C) (g := .tp [(.nm 5), (.nm 6)]) (te := te7) (e := [.dat (ls lots), .dat (ti ts), .dat (.int many), .dat (nD g n bs), c4, .em, .em]) (m := m) (f := brD g) (h := fun p => D.bl (f p.1 p.2)) (l := bs)
    (fun p hp => ⟨[.dat (ls lots), .dat (ti ts), .dat (.int many), .dat (nD g n bs), c4, .dat (.int p.1), .dat (g p.2)], by simp [brD], by
      have h1 : ∀ x : D, short [x] = true := fun _ => rfl
      have h2 : (is ts).length + [D.int p.1].length ≤ LIM := by
        simp [is]
        exact Nat.le_trans (by omega : ts.length + 1 ≤ 100000) (by decide)
      have h3 : (D.tup (is ts ++ [.int p.1])) = ti (ts ++ [p.1]) := by simp [ti, is, encI_d]
      unfold te7
      simp only [fnE, consA, varE, List.getElem?_cons_zero, List.getElem?_cons_succ, R.bind_ok, bltE, nilA, tupG, h1, if_true, R.of_some, bin, brwE, addA, orO, addG, h2, h3, conE, subG, hC p hp]⟩)
  unfold recE
  simp only [bltE, consA, frzE, lcF, seqI, bin, brwE, conE, List.getElem?_cons_zero, List.getElem?_cons_succ, R.bind_ok, ix1, itemsOf, R.of_some, wipeE, List.set_cons_succ, List.set_cons_zero] at e1 ⊢
  rw [e1]
  simp only [R.bind_ok, nilA, allG, toBls_map (fun p : Int × β => f p.1 p.2), Option.map_some, R.of_some, List.all_map]
  rfl
theorem istree_node (hl : ∀ lot ∈ lots, lot.length ≤ 3) (f : Int → β → Bool) (hs : ts.length < 100000) (hb : bs.length < 64) (h0 : Cmp0 g bs)
    (hC : many ≠ 0 → ∀ p ∈ bs, C 7 [ls lots, ti (ts ++ [p.1]), .int ((many : Int) - 1), g p.2] m = .ok (.bl (f p.1 p.2)) m) :
    endS (B_law_is_tree C [.dat (ls lots), .dat (ti ts), .dat (.int many), .dat (nD g n bs), .em, .em, .em] m) = .ok (.bl (nodeB lots ts many n bs f)) m := by
  have ty : ∀ m, isTy "tuple" m (nD g n bs) = some true := fun m => by unfold nD; simp [kit_tt]
  have hle : lenG m [nD g n bs] = some (.int 2) := rfl
  have hl2 : lenG m [ls lots] = some (.int lots.length) := by simp [ls]
  rw [istree_body]
  unfold nodeB
  by_cases c1 : 0 ≤ n ∧ n < (lots.length : Int)
  · rw [if_pos c1]
    have d1 : decide (0 ≤ n) = true := decide_eq_true c1.1
    have d2 : decide (n < (lots.length : Int)) = true := decide_eq_true c1.2
    have el := lot_int m lots n c1
    have eh := hit_lc C [.dat (ls lots), .dat (ti ts), .dat (.int many), .dat (nD g n bs), .dat (ti (lotAt lots n.toNat)), .em, .em] m 4 1 5 ts (lotAt lots n.toNat) rfl rfl (by simp) (by simp)
    simp only [seqS, ifS, orT, notT, blT, isE, brwE, List.getElem?_cons_zero, List.getElem?_cons_succ, R.bind_ok, ty, R.of_some, isB, Bool.not_true, Bool.false_eq_true, if_false, bin, bltE, consA, nilA, hle, conE, neG_ii, decide_true, chainE, leG, ltG, if_true, ix0, hl2, d1, d2, liftS_ok, nxS, SR.bind_nx, asgS, el, asg, List.length_cons, List.length_nil, Nat.reduceAdd, Nat.reduceLT, List.set_cons_succ, List.set_cons_zero, SR.of_some, eh]
    cases c2 : hit ts (lotAt lots n.toNat) with
    | true => simp
    | false =>
      simp only [Bool.false_eq_true, if_false, liftS_ok, SR.bind_nx]
      by_cases c3 : many = 0
      · have c3' : decide ((many : Int) = 0) = true := decide_eq_true (by omega)
        have h6 : short ([] : List D) = true := rfl
        rw [if_pos c3]
        simp only [R.bind_ok, eqG_ii, c3', R.of_some, isB, liftS_ok, if_true, retS, tupG, h6, h0 m, SR.bind_ret, endS_ret, bin, brwE, conE, bltE, nilA, List.getElem?_cons_zero, List.getElem?_cons_succ, ix1]
      · have c3' : ¬ ((many : Int) = 0) := by omega
        have e1 := told2_ok C lots ts many n g bs m (.dat (ti (lotAt lots n.toNat)))
        have e2 := setG_is (bs.map (·.1)) (by simpa using hb)
        have e3 := setG_is (lotAt lots n.toNat) (by have := lotAt_len hl n.toNat; omega)
        have e4 := encI.neL m (su (bs.map (·.1))) (su (lotAt lots n.toNat))
        rw [su_eq] at e4
        have e5 := rec7_ok C lots ts many n g bs m (.dat (ti (lotAt lots n.toNat))) f hs (hC c3)
        simp only [List.getElem?_cons_zero, List.getElem?_cons_succ, R.bind_ok, eqG_ii, c3', decide_false, R.of_some, isB, liftS_ok, Bool.false_eq_true, if_false, SR.bind_nx, frzE, sortSet, e1, e2, varE, e3, e4]
        rw [if_neg c3]
        cases c5 : ((lotAt lots n.toNat).all (fun x => decide (x ∈ bs.map (·.1))) && (bs.map (·.1)).all fun x => decide (x ∈ lotAt lots n.toNat)) with
        | false => simp
        | true => simp only [Bool.not_true, Bool.false_eq_true, if_false, liftS_ok, R.bind_ok, if_true, SR.bind_nx, nxS, retS, e5, endS_ret]
  · rw [if_neg c1]
    by_cases d0 : 0 ≤ n
    · have d1 : decide (0 ≤ n) = true := decide_eq_true d0
      have d2 : decide (n < (lots.length : Int)) = false := decide_eq_false (by omega)
      simp only [seqS, ifS, orT, notT, blT, isE, brwE, List.getElem?_cons_zero, List.getElem?_cons_succ, R.bind_ok, ty, R.of_some, isB, Bool.not_true, Bool.false_eq_true, if_false, bin, bltE, consA, nilA, hle, conE, neG_ii, decide_true, chainE, leG, ltG, if_true, ix0, hl2, d1, d2, Bool.not_false, liftS_ok, retS, SR.bind_ret, endS_ret]
    · have d1 : decide (0 ≤ n) = false := decide_eq_false d0
      simp only [seqS, ifS, orT, notT, blT, isE, brwE, List.getElem?_cons_zero, List.getElem?_cons_succ, R.bind_ok, ty, R.of_some, isB, Bool.not_true, Bool.false_eq_true, if_false, bin, bltE, consA, nilA, hle, conE, neG_ii, decide_true, chainE, leG, ltG, if_true, ix0, hl2, d1, Bool.not_false, liftS_ok, retS, SR.bind_ret, endS_ret]
end
/-- few branches everywhere -/
def Wf : (k : Nat) → T k → Prop
  | 0, _ => True
  | k + 1, t => t.2.length ≤ 3 ∧ ∀ p ∈ t.2, Wf k p.2
theorem tree_wf {lots : Lots} (hl : ∀ lot ∈ lots, lot.length ≤ 3) : ∀ (k : Nat) (ts : List Int), Wf k (treeM su lots k ts)
  | 0, ts => trivial
  | k + 1, ts => by
    unfold treeM Wf
    refine ⟨?_, fun p hp => ?_⟩
    · have h1 := su_len (lotAt lots ((unmetM ts lots).getD 0))
      have h2 := lotAt_len hl ((unmetM ts lots).getD 0)
      simp
      omega
    · obtain ⟨x, _, rfl⟩ := List.mem_map.mp hp
      exact tree_wf hl k _
theorem istree_ok (lots : Lots) (hl : ∀ lot ∈ lots, lot.length ≤ 3) (p : Nat) : ∀ (k many : Nat) (ts : List Int) (t : T k) (m : Store), k ≤ 10 → ts.length + k < 100000 → Wf k t → run tab (p + 2 + k) 7 [ls lots, ti ts, .int many, tD k t] m = .ok (.bl (showsM lots k many ts t)) m
  | 0, many, ts, n, m, hk, hs, hw => by
    rw [show p + 2 + 0 = (p + 1) + 1 from rfl, t7, tD_zero n (fun _ => .non)]
    have := istree_node (β := Unit) (run tab (p + 1)) lots ts many n (fun _ => D.non) [] m hl (fun _ _ => true) (by omega) (by simp) (cmp0_of 0 (by omega) fun p hp => by cases hp) (fun _ p hp => by cases hp)
    rw [this]
    rfl
  | k + 1, many, ts, t, m, hk, hs, hw => by
    rw [show p + 2 + (k + 1) = (p + 2 + k) + 1 from rfl, t7, tD_succ]
    have hw : t.2.length ≤ 3 ∧ ∀ p ∈ t.2, Wf k p.2 := hw
    have := istree_node (run tab (p + 2 + k)) lots ts many t.1 (tD k) t.2 m hl (fun x u => showsM lots k (many - 1) (ts ++ [x]) u) (by omega) (by omega) (cmp0_t (by omega) _) (fun hm q hq => by
      have := istree_ok lots hl p k (many - 1) (ts ++ [q.1]) q.2 m (by omega) (by simp; omega) (hw.2 q hq)
      rw [show (((many - 1 : Nat) : Int)) = (many : Int) - 1 by omega] at this
      exact this)
    rw [this]
    rfl
end Dn.K55
namespace Dn
open PySem L2
theorem cut_take (xs : List D) (k : Nat) : cutD xs none (some (k : Int)) = xs.take k := by
  unfold cutD
  rw [HT.sIx_none, HT.sIx_nat]
  simp only [List.drop_zero, Nat.sub_zero]
  by_cases h : k ≤ xs.length
  · rw [Nat.min_eq_left h]
  · rw [Nat.min_eq_right (by omega), List.take_length, List.take_of_length_le (by omega)]
theorem cut_drop (xs : List D) (k : Nat) : cutD xs (some (k : Int)) none = xs.drop k := by
  unfold cutD
  rw [HT.sIx_none, HT.sIx_nat]
  by_cases h : k ≤ xs.length
  · rw [Nat.min_eq_left h]
    exact List.take_of_length_le (by simp)
  · rw [Nat.min_eq_right (by omega)]
    simp
    omega
theorem cutA_take (xs : List D) (k : Nat) : cutA (.tup xs) none (some (k : Int)) = some (.tup (xs.take k)) := by
  unfold cutA cutG
  simp only [cut_take]
theorem cutA_drop (xs : List D) (k : Nat) : cutA (.tup xs) (some (k : Int)) none = some (.tup (xs.drop k)) := by
  unfold cutA cutG
  simp only [cut_drop]
end Dn
namespace Dn.K55
open PySem L2
/-! ### bent trees -/
theorem bent_body : B_law_bent = seqS (asgS (.nm 2) (fnE 1 (consA (varE 0) (consA (conE (.int 4)) nilA))))
  (seqS (ifS (orT (blT (bin eqG (brwE 2) (conE (.int 0)))) (blT (bin eqG (bin ixG (brwE 1) (conE (.int 1))) (bltE tupG nilA)))) (retS (bltE tupG (consA (bin addA (bin ixG (brwE 1) (conE (.int 0))) (conE (.int 1))) (consA (bin ixG (brwE 1) (conE (.int 1))) nilA)))) nxS)
  (seqS (ifS (blT (bin eqG (brwE 2) (conE (.int 1)))) (retS (bltE tupG (consA (bin ixG (brwE 1) (conE (.int 0))) (consA (slA (bin ixG (brwE 1) (conE (.int 1))) (intO (conE (.int 1))) noO) nilA)))) nxS)
  (seqS (asgS (.nm 3) (fnE 1 (consA (varE 0) (consA (bltE lenG (consA (bin ixG (brwE 1) (conE (.int 1))) nilA)) nilA))))
  (seqS (asgS (.tp [(.nm 4), (.nm 5)]) (bin ixG (bin ixG (brwE 1) (conE (.int 1))) (brwE 3)))
  (seqS (asgS (.nm 6) (ifE (blT (bin eqG (brwE 2) (conE (.int 2)))) (bltE tupG (consA (varE 4) (consA (fnE 6 (consA (varE 0) (consA (varE 5) nilA))) nilA))) (bltE tupG (consA (bin addA (brwE 4) (conE (.int 1))) (consA (varE 5) nilA)))))
  (retS (bltE tupG (consA (bin ixG (brwE 1) (conE (.int 0))) (consA (bin addA (bin addA (slA (bin ixG (brwE 1) (conE (.int 1))) noO (intO (varE 3))) (bltE tupG (consA (varE 6) nilA))) (slA (bin ixG (brwE 1) (conE (.int 1))) (intO (bin addA (brwE 3) (conE (.int 1)))) noO)) nilA))))))))) := rfl
theorem s2 (x y : D) : short [x, y] = true := rfl
theorem s1 (x : D) : short [x] = true := rfl
theorem s0 : short ([] : List D) = true := rfl
theorem seq_go {f h : EvS} {C : Orc} {e e1 : Env} {m m1 : Store} (q : f C e m = .nx e1 m1) : seqS f h C e m = h C e1 m1 := by
  unfold seqS
  rw [q]
  rfl
theorem asg2 {f : EvE} {C : Orc} {e : Env} {m m' : Store} {x y : D} {i j : Nat} (h : f C e m = .ok (.tup [x, y]) m') (hi : i < e.length) (hj : j < e.length) : asgS (.tp [.nm i, .nm j]) f C e m = .nx ((e.set i (.dat x)).set j (.dat y)) m' := by
  unfold asgS
  rw [h]
  simp [hi, hj]
/-- one node bent: its number, its first branch away, one branch changed -/
theorem bent_node (C : Orc) (ns : List Int) (k : Int) (J : Store) {β : Type} (g : β → D) (n : Int) (bs : List (Int × β)) (h0 : Cmp0 g bs) (hb : bs.length ≤ 3)
    (hT : ∀ (many k : Int), 0 < many → ∃ v, 0 ≤ v ∧ v < many ∧ C 1 [.ref 0, .int many] (ST ns k J) = .ok (.int v) (ST ns (k + 1) J))
    (P : β → Prop) (hP : ∀ p ∈ bs, P p.2) (hC : ∀ p ∈ bs, ∀ k, ∃ u k', P u ∧ C 6 [.ref 0, g p.2] (ST ns k J) = .ok (g u) (ST ns k' J)) :
    ∃ n' bs' k', bs'.length ≤ 3 ∧ (bs = [] → bs' = []) ∧ (∀ p ∈ bs', P p.2) ∧ endS (B_law_bent C [.dat (.ref 0), .dat (nD g n bs), .em, .em, .em, .em, .em] (ST ns k J)) = .ok (nD g n' bs') (ST ns k' J) := by
  obtain ⟨v, v1, v2, e1⟩ := hT 4 k (by omega)
  have hA : asgS (.nm 2) (fnE 1 (consA (varE 0) (consA (conE (.int 4)) nilA))) C [.dat (.ref 0), .dat (nD g n bs), .em, .em, .em, .em, .em] (ST ns k J) = .nx [.dat (.ref 0), .dat (nD g n bs), .dat (.int v), .em, .em, .em, .em] (ST ns (k + 1) J) := by
    simp only [asgS, fnE, consA, varE, conE, nilA, List.getElem?_cons_zero, R.bind_ok, e1, liftS_ok, asg, List.length_cons, List.length_nil, Nat.reduceAdd, Nat.reduceLT, if_true, List.set_cons_succ, List.set_cons_zero, SR.of_some]
  rw [bent_body, seq_go hA]
  by_cases c : v = 0 ∨ bs = []
  · refine ⟨n + 1, bs, k + 1, hb, id, hP, ?_⟩
    have hor : (decide (v = 0)) = true ∨ (decide (v = 0)) = false ∧ bs = [] := by
      by_cases z : v = 0
      · exact .inl (by simp [z])
      · exact .inr ⟨by simp [z], c.resolve_left z⟩
    simp only [seqS, List.getElem?_cons_zero, List.getElem?_cons_succ, R.bind_ok, conE, ifS, orT, blT, bin, brwE, eqG_ii, R.of_some, isB]
    rcases hor with h | ⟨h, h'⟩
    · simp only [h, if_true, liftS_ok, retS, bltE, consA, bin, brwE, conE, nilA, List.getElem?_cons_zero, List.getElem?_cons_succ, R.bind_ok, ix0, ix1, R.of_some, addA, orO, addG, tupG, s2, SR.bind_ret, endS_ret]
      rfl
    · have h0' := h0 (ST ns (k + 1) J)
      have hem : bs.isEmpty = true := by rw [h']; rfl
      rw [hem] at h0'
      simp only [h, Bool.false_eq_true, if_false, ix1, R.bind_ok, R.of_some, bltE, nilA, tupG, s0, if_true, h0', isB, liftS_ok, retS, consA, bin, brwE, conE, List.getElem?_cons_zero, List.getElem?_cons_succ, ix0, addA, orO, addG, s2, SR.bind_ret, endS_ret]
      rfl
  · have hv0 : decide (v = 0) = false := decide_eq_false fun z => c (.inl z)
    have hne : bs ≠ [] := fun z => c (.inr z)
    have hem : bs.isEmpty = false := by cases bs with
      | nil => exact absurd rfl hne
      | cons a l => rfl
    have h0' := h0 (ST ns (k + 1) J)
    rw [hem] at h0'
    have hpos : 0 < bs.length := List.length_pos_iff.mpr hne
    have hB : ifS (orT (blT (bin eqG (brwE 2) (conE (.int 0)))) (blT (bin eqG (bin ixG (brwE 1) (conE (.int 1))) (bltE tupG nilA)))) (retS (bltE tupG (consA (bin addA (bin ixG (brwE 1) (conE (.int 0))) (conE (.int 1))) (consA (bin ixG (brwE 1) (conE (.int 1))) nilA)))) nxS C [.dat (.ref 0), .dat (nD g n bs), .dat (.int v), .em, .em, .em, .em] (ST ns (k + 1) J) = .nx [.dat (.ref 0), .dat (nD g n bs), .dat (.int v), .em, .em, .em, .em] (ST ns (k + 1) J) := by
      simp only [conE, nilA, List.getElem?_cons_zero, List.getElem?_cons_succ, R.bind_ok, liftS_ok, ifS, orT, blT, bin, brwE, eqG_ii, R.of_some, isB, if_true, hv0, Bool.false_eq_true, if_false, ix1, bltE, tupG, s0, h0', nxS]
    rw [seq_go hB]
    by_cases c1 : v = 1
    · have d1 : decide (v = 1) = true := decide_eq_true c1
      refine ⟨n, bs.drop 1, k + 1, by simp; omega, fun z => absurd z hne, fun p hp => hP p (List.mem_of_mem_drop hp), ?_⟩
      have ec := cutA_drop (bs.map (brD g)) 1
      rw [← List.map_drop] at ec
      have ec : cutA (.tup (bs.map (brD g))) (some 1) none = some (.tup ((bs.drop 1).map (brD g))) := ec
      simp only [seqS, ifS, blT, eqG_ii, isB, SR.bind_ret, d1, if_true, liftS_ok, retS, bltE, consA, bin, brwE, conE, nilA, List.getElem?_cons_zero, List.getElem?_cons_succ, R.bind_ok, ix0, ix1, R.of_some, slA, intO, noO, isI, ec, tupG, s2, SR.bind_ret, endS_ret]
      rfl
    · have d1 : decide (v = 1) = false := decide_eq_false c1
      obtain ⟨w, w1, w2, e2⟩ := hT bs.length (k + 1) (by omega)
      obtain ⟨i, rfl⟩ : ∃ i : Nat, w = (i : Int) := ⟨w.toNat, by omega⟩
      have hi : i < bs.length := by omega
      have hl : ∀ m, lenG m [.tup (bs.map (brD g))] = some (.int bs.length) := fun m => by simp
      have hat : ∀ m, ixG m (.tup (bs.map (brD g))) (.int (i : Int)) = some (brD g bs[i]) := fun m => by
        unfold ixG
        simp only [atI_nat, List.getElem?_map, List.getElem?_eq_getElem hi, Option.map_some]
      have hm : bs[i] ∈ bs := List.getElem_mem hi
      have ec1 := cutA_take (bs.map (brD g)) i
      have ec2 := cutA_drop (bs.map (brD g)) (i + 1)
      rw [← List.map_take] at ec1
      rw [← List.map_drop] at ec2
      have ei : ((i : Int) + 1) = ((i + 1 : Nat) : Int) := by omega
      have fin : ∀ (q : Int × β) (k' : Int), P q.2 → ∃ n' bs' k'', bs'.length ≤ 3 ∧ (bs = [] → bs' = []) ∧ (∀ p ∈ bs', P p.2) ∧
          endS (retS (bltE tupG (consA (bin ixG (brwE 1) (conE (.int 0))) (consA (bin addA (bin addA (slA (bin ixG (brwE 1) (conE (.int 1))) noO (intO (varE 3))) (bltE tupG (consA (varE 6) nilA))) (slA (bin ixG (brwE 1) (conE (.int 1))) (intO (bin addA (brwE 3) (conE (.int 1)))) noO)) nilA))) C
            [.dat (.ref 0), .dat (nD g n bs), .dat (.int v), .dat (.int (i : Int)), .dat (.int bs[i].1), .dat (g bs[i].2), .dat (brD g q)] (ST ns k' J)) = .ok (nD g n' bs') (ST ns k'' J) := by
        intro q k' hq
        refine ⟨n, bs.take i ++ [q] ++ bs.drop (i + 1), k', ?_, fun z => absurd z hne, fun p hp => ?_, ?_⟩
        · simp; omega
        · rcases List.mem_append.mp hp with hp | hp
          · rcases List.mem_append.mp hp with hp | hp
            · exact hP p (List.mem_of_mem_take hp)
            · rw [List.mem_singleton.mp hp]; exact hq
          · exact hP p (List.mem_of_mem_drop hp)
        · have l1 : ((bs.take i).map (brD g)).length + [brD g q].length ≤ LIM := by
            simp
            exact Nat.le_trans (by omega : _ ≤ 4) (by decide)
          have l2 : ((bs.take i).map (brD g) ++ [brD g q]).length + ((bs.drop (i + 1)).map (brD g)).length ≤ LIM := by
            simp
            exact Nat.le_trans (by omega : _ ≤ 8) (by decide)
          simp only [retS, bltE, consA, bin, brwE, conE, nilA, varE, List.getElem?_cons_zero, List.getElem?_cons_succ, R.bind_ok, ix0, ix1, R.of_some, slA, intO, noO, isI, ec1, ec2, tupG, s1, s2, if_true, addA, orO, addG, l1, l2, ei, liftS_ok, endS_ret]
          unfold nD
          simp
      have hE : ifS (blT (bin eqG (brwE 2) (conE (.int 1)))) (retS (bltE tupG (consA (bin ixG (brwE 1) (conE (.int 0))) (consA (slA (bin ixG (brwE 1) (conE (.int 1))) (intO (conE (.int 1))) noO) nilA)))) nxS C [.dat (.ref 0), .dat (nD g n bs), .dat (.int v), .em, .em, .em, .em] (ST ns (k + 1) J) = .nx [.dat (.ref 0), .dat (nD g n bs), .dat (.int v), .em, .em, .em, .em] (ST ns (k + 1) J) := by
        simp only [conE, List.getElem?_cons_zero, List.getElem?_cons_succ, R.bind_ok, liftS_ok, ifS, blT, bin, brwE, eqG_ii, R.of_some, isB, d1, Bool.false_eq_true, if_false, nxS]
      have hF : asgS (.nm 3) (fnE 1 (consA (varE 0) (consA (bltE lenG (consA (bin ixG (brwE 1) (conE (.int 1))) nilA)) nilA))) C [.dat (.ref 0), .dat (nD g n bs), .dat (.int v), .em, .em, .em, .em] (ST ns (k + 1) J) = .nx [.dat (.ref 0), .dat (nD g n bs), .dat (.int v), .dat (.int (i : Int)), .em, .em, .em] (ST ns (k + 1 + 1) J) := by
        simp only [asgS, fnE, consA, varE, bltE, bin, brwE, conE, nilA, List.getElem?_cons_zero, List.getElem?_cons_succ, R.bind_ok, ix1, R.of_some, hl, e2, liftS_ok, asg, List.length_cons, List.length_nil, Nat.reduceAdd, Nat.reduceLT, if_true, List.set_cons_succ, List.set_cons_zero, SR.of_some]
      have hG : asgS (.tp [(.nm 4), (.nm 5)]) (bin ixG (bin ixG (brwE 1) (conE (.int 1))) (brwE 3)) C [.dat (.ref 0), .dat (nD g n bs), .dat (.int v), .dat (.int (i : Int)), .em, .em, .em] (ST ns (k + 1 + 1) J) = .nx [.dat (.ref 0), .dat (nD g n bs), .dat (.int v), .dat (.int (i : Int)), .dat (.int bs[i].1), .dat (g bs[i].2), .em] (ST ns (k + 1 + 1) J) := by
        refine asg2 (x := .int bs[i].1) (y := g bs[i].2) ?_ (by simp) (by simp)
        simp only [bin, brwE, conE, List.getElem?_cons_zero, List.getElem?_cons_succ, R.bind_ok, ix1, R.of_some, hat]
        rfl
      rw [seq_go hE, seq_go hF, seq_go hG]
      by_cases c2 : v = 2
      · have d2 : decide (v = 2) = true := decide_eq_true c2
        obtain ⟨u, k', hu, e3⟩ := hC bs[i] hm (k + 1 + 1)
        have := fin (bs[i].1, u) k' hu
        obtain ⟨n', bs', k'', q1, q2, q3, q4⟩ := this
        refine ⟨n', bs', k'', q1, q2, q3, ?_⟩
        rw [seq_go (e1 := [.dat (.ref 0), .dat (nD g n bs), .dat (.int v), .dat (.int (i : Int)), .dat (.int bs[i].1), .dat (g bs[i].2), .dat (brD g (bs[i].1, u))]) (m1 := ST ns k' J)]
        · exact q4
        · simp only [asgS, ifE, blT, bin, brwE, conE, List.getElem?_cons_zero, List.getElem?_cons_succ, R.bind_ok, eqG_ii, d2, R.of_some, isB, if_true, bltE, consA, varE, fnE, nilA, e3, tupG, s2, liftS_ok, asg, List.length_cons, List.length_nil, Nat.reduceAdd, Nat.reduceLT, List.set_cons_succ, List.set_cons_zero, SR.of_some]
          rfl
      · have d2 : decide (v = 2) = false := decide_eq_false c2
        have := fin (bs[i].1 + 1, bs[i].2) (k + 1 + 1) (hP bs[i] hm)
        obtain ⟨n', bs', k'', q1, q2, q3, q4⟩ := this
        refine ⟨n', bs', k'', q1, q2, q3, ?_⟩
        rw [seq_go (e1 := [.dat (.ref 0), .dat (nD g n bs), .dat (.int v), .dat (.int (i : Int)), .dat (.int bs[i].1), .dat (g bs[i].2), .dat (brD g (bs[i].1 + 1, bs[i].2))]) (m1 := ST ns (k + 1 + 1) J)]
        · exact q4
        · simp only [asgS, ifE, blT, bin, brwE, conE, List.getElem?_cons_zero, List.getElem?_cons_succ, R.bind_ok, eqG_ii, d2, R.of_some, isB, Bool.false_eq_true, if_false, bltE, consA, varE, nilA, tupG, s2, if_true, addA, orO, addG, liftS_ok, asg, List.length_cons, List.length_nil, Nat.reduceAdd, Nat.reduceLT, List.set_cons_succ, List.set_cons_zero, SR.of_some]
          rfl
theorem bent_ok (ns : List Int) (J : Store) (p : Nat) : ∀ (k : Nat) (t : T k) (kk : Int), k ≤ 10 → Wf k t → ∃ (t' : T k) (kk' : Int), Wf k t' ∧ run tab (p + 3 + k) 6 [.ref 0, tD k t] (ST ns kk J) = .ok (tD k t') (ST ns kk' J)
  | 0, n, kk, hk, hw => by
    rw [show p + 3 + 0 = (p + 2) + 1 from rfl, t6, tD_zero n (fun _ => .non)]
    obtain ⟨n', bs', k', _, h2, _, h4⟩ := bent_node (β := Unit) (run tab (p + 2)) ns kk J (fun _ => D.non) n [] (cmp0_of 0 (by omega) fun p hp => by cases hp) (by simp) (fun many k h => take_ok p ns k many J h) (fun _ => True) (fun _ _ => trivial) (fun p hp => by cases hp)
    have := h2 rfl
    subst this
    exact ⟨n', k', trivial, h4⟩
  | k + 1, t, kk, hk, hw => by
    have hw : t.2.length ≤ 3 ∧ ∀ p ∈ t.2, Wf k p.2 := hw
    rw [show p + 3 + (k + 1) = (p + 3 + k) + 1 from rfl, t6, tD_succ]
    obtain ⟨n', bs', k', h1, h2, h3, h4⟩ := bent_node (run tab (p + 3 + k)) ns kk J (tD k) t.1 t.2 (cmp0_t (by omega) _) hw.1 (fun many k' h => by
      rw [show p + 3 + k = (p + 1 + k) + 2 by omega]
      exact take_ok _ ns k' many J h) (Wf k) hw.2 (fun q hq k' => by
      obtain ⟨u, kk', u1, u2⟩ := bent_ok ns J p k q.2 k' (by omega) (hw.2 q hq)
      exact ⟨u, kk', u1, u2⟩)
    exact ⟨(n', bs'), k', ⟨h1, h3⟩, h4⟩
/-! ### is it one of the fewest -/
def dupE : EvE := (bltE anyG (consA (frzE (lcF (argI enumG (consA (varE 1) nilA)) (.tp [(.nm 3), (.nm 4)]) yesT (bin inG (brwE 4) (slA (brwE 1) noO (intO (varE 3)))) [3, 4])) nilA))
theorem isfew_body : B_is_fewest_meeting = seqS (ifS (orT (notT (blT (isE "tuple" (brwE 1)))) (blT (bin isNotG (fnE 15 (consA (varE 0) (consA (varE 1) nilA))) (conE .non)))) (retS (conE (.bl false))) nxS)
  (seqS (ifS (blT dupE) (retS (conE (.bl false))) nxS)
  (seqS (ifS (blT (bin eqG (brwE 1) (bltE tupG nilA))) (retS (bin isG (brwE 2) (conE .non))) nxS)
  (retS (fnE 16 (consA (varE 0) (consA (bltE tupG nilA) (consA (bin subG (bltE lenG (consA (brwE 1) nilA)) (conE (.int 1))) (consA (varE 2) nilA)))))))) := rfl
theorem dup_loop (C : Orc) (L d : D) (ts : List Int) (m : Store) : ∀ (l pre : List Int), ts = pre ++ l → ts.Nodup → lcL C (.tp [(.nm 3), (.nm 4)]) yesT (bin inG (brwE 4) (slA (brwE 1) noO (intO (varE 3)))) [.dat L, .dat (ti ts), .dat d, .em, .em] (nums pre.length (is l)) m = .ok (l.map fun _ => .bl false) m
  | [], pre, _, _ => by simp [lcL]
  | x :: l, pre, h, hn => by
    have ih := dup_loop C L d ts m l (pre ++ [x]) (by rw [h]; simp) hn
    have hl : (pre ++ [x]).length = pre.length + 1 := by simp
    rw [hl] at ih
    have ec := cutA_take (is ts) pre.length
    have et : (is ts).take pre.length = is pre := by rw [h]; simp [is]
    rw [et] at ec
    have hx : decide (x ∈ pre) = false := by
      rw [h, List.nodup_append] at hn
      exact decide_eq_false fun hx => hn.2.2 x hx x List.mem_cons_self rfl
    show lcL C _ yesT _ _ (.tup [.int (pre.length : Nat), .int x] :: nums (pre.length + 1) (is l)) m = _
    unfold lcL
    simp only [asg, asgs, List.length_cons, List.length_nil, Nat.reduceAdd, Nat.reduceLT, if_true, List.set_cons_succ, List.set_cons_zero, Option.bind_some, yesT, noX_ok, R.bind_ok, bin, brwE, slA, noO, intO, varE, List.getElem?_cons_zero, List.getElem?_cons_succ, isI, R.of_some, ec]
    have := in_i m x pre
    unfold ti at this
    rw [this, hx]
    simp only [R.of_some, noX_ok, R.bind_ok, ih]
    rfl
theorem isfew_ok (lots : Lots) (ts : List Int) (d : D) (m : Store) (p : Nat) (hn : ts.Nodup) (S : Bool) (hC : ts ≠ [] → unmetM ts lots = none → run tab (p + 1) 16 [ls lots, .tup [], .int ((ts.length : Int) - 1), d] m = .ok (.bl S) m) :
    run tab (p + 2) 5 [ls lots, ti ts, d] m = .ok (.bl (if unmetM ts lots = none then (if ts = [] then isNon d else S) else false)) m := by
  have ty : isTy "tuple" m (ti ts) = some true := by simp [kit_tt]
  rw [t5, isfew_body]
  have hu := unmet_ok p lots ts m
  simp only [seqS, ifS, orT, notT, blT, isE, brwE, varE, List.getElem?_cons_zero, List.getElem?_cons_succ, R.bind_ok, ty, R.of_some, isB, Bool.not_true, Bool.false_eq_true, if_false, bin, fnE, consA, nilA, hu, conE, isNot_non]
  cases e : unmetM ts lots with
  | some j => simp [uD, isNon]
  | none =>
    have hd := dup_loop (run tab (p + 1)) (ls lots) d ts m ts [] rfl hn
    have hdE : dupE (run tab (p + 1)) [.dat (ls lots), .dat (ti ts), .dat d, .em, .em] m = .ok (.bl false) m := by
      unfold dupE
      have h2 := toBls_map (fun _ : Int => false) ts
      have h3 : ∀ l : List Int, (l.map fun _ => false).any id = false := by
        intro l; induction l with
        | nil => rfl
        | cons a l ih => simp [ih]
      simp only [bltE, consA, frzE, lcF, argI, varE, nilA, List.getElem?_cons_zero, List.getElem?_cons_succ, R.bind_ok, enumG, R.of_some, wipeE, List.set_cons_succ, List.set_cons_zero]
      have hd : lcL (run tab (p + 1)) (.tp [(.nm 3), (.nm 4)]) yesT (bin inG (brwE 4) (slA (brwE 1) noO (intO (varE 3)))) [.dat (ls lots), .dat (ti ts), .dat d, .em, .em] (nums 0 (is ts)) m = _ := hd
      rw [hd]
      simp only [R.bind_ok, anyG, h2, Option.map_some, R.of_some, h3]
    have heq := encI.eqT m ts []
    simp only [List.map_nil] at heq
    have heq : eqG m (ti ts) (.tup []) = some (.bl (decide (ts = []))) := heq
    simp only [uD, isNon, Bool.not_true, isB, R.bind_ok, R.of_some, liftS_ok, Bool.false_eq_true, if_false, nxS, SR.bind_nx, hdE, brwE, List.getElem?_cons_zero, List.getElem?_cons_succ, bltE, nilA, tupG, s0, if_true, heq]
    by_cases c : ts = []
    · have c' : decide (ts = []) = true := decide_eq_true c
      rw [if_pos c]
      simp only [c', if_true, retS, bin, brwE, conE, List.getElem?_cons_zero, List.getElem?_cons_succ, R.bind_ok, is_non, R.of_some, liftS_ok, SR.bind_ret, endS_ret]
      rfl
    · have c' : decide (ts = []) = false := decide_eq_false c
      have hl : lenG m [ti ts] = some (.int ts.length) := by simp [ti, is]
      rw [if_neg c]
      simp only [c', if_false, Bool.false_eq_true, SR.bind_nx, retS, fnE, consA, varE, bltE, nilA, tupG, s0, if_true, bin, brwE, conE, List.getElem?_cons_zero, List.getElem?_cons_succ, R.bind_ok, R.of_some, hl, subG, hC c e, liftS_ok, endS_ret]
end Dn.K55
namespace Dn.K55
open PySem L2
theorem t0 (n : Nat) (a : D) (m : Store) : run tab (n+1) 0 [a] m = endS (B_law (run tab n) [.dat a, .em, .em, .em, .em, .em, .em, .em, .em, .em, .em, .em, .em, .em] m) := by simp [run, tab]
noncomputable abbrev CC : Orc := run tab 12
/-! ### what the law calls -/
theorem isfew_tree (lots : Lots) (ts : List Int) (k : Nat) (t : T k) (m : Store) (hk : k ≤ 5) (hn : ts.Nodup) (hl : ts.length < 1000) :
    CC 5 [ls lots, ti ts, tD k t] m = .ok (.bl (if unmetM ts lots = none then (if ts = [] then false else showsM lots k (ts.length - 1) [] t) else false)) m := by
  have hz : isNon (tD k t) = false := by cases k <;> rfl
  have := isfew_ok lots ts (tD k t) m 10 hn (showsM lots k (ts.length - 1) [] t) (fun h _ => by
    have hp : 0 < ts.length := List.length_pos_iff.mpr h
    have q := shows_ok lots (9 - k) k (ts.length - 1) [] t m (by omega) (by simp; omega)
    rw [show (((ts.length - 1 : Nat) : Int)) = (ts.length : Int) - 1 by omega] at q
    rw [show 9 - k + 2 + k = 10 + 1 by omega] at q
    exact q)
  rw [hz] at this
  exact this
theorem shows_non (lots : Lots) (n : Int) (m : Store) (p : Nat) : run tab (p + 1) 16 [ls lots, .tup [], .int n, .non] m = .ok (.bl false) m := by
  rw [t16, shows_body]
  simp [kit_nt]
theorem isfew_non (lots : Lots) (ts : List Int) (m : Store) (hn : ts.Nodup) : CC 5 [ls lots, ti ts, .non] m = .ok (.bl (if unmetM ts lots = none then decide (ts = []) else false)) m := by
  have := isfew_ok lots ts .non m 10 hn false (fun _ _ => shows_non lots _ m 10)
  refine this.trans ?_
  by_cases c : ts = [] <;> simp [c, isNon]
theorem istree_use (lots : Lots) (hl : ∀ lot ∈ lots, lot.length ≤ 3) (k many : Nat) (t : T k) (m : Store) (hk : k ≤ 5) (hw : Wf k t) : CC 7 [ls lots, .tup [], .int many, tD k t] m = .ok (.bl (showsM lots k many [] t)) m := by
  have q := istree_ok lots hl (10 - k) k many [] t m (by omega) (by simp; omega) hw
  rw [show 10 - k + 2 + k = 12 by omega] at q
  exact q
theorem bent_use (ns : List Int) (J : Store) (k : Nat) (t : T k) (kk : Int) (hk : k ≤ 5) (hw : Wf k t) : ∃ (t' : T k) (kk' : Int), Wf k t' ∧ CC 6 [.ref 0, tD k t] (ST ns kk J) = .ok (tD k t') (ST ns kk' J) := by
  have q := bent_ok ns J (9 - k) k t kk (by omega) hw
  rw [show 9 - k + 3 + k = 12 by omega] at q
  exact q
theorem up_up (l : List Int) : up (up l) = up l := by
  conv => lhs; unfold up
  refine List.mergeSort_of_pairwise ((up_le l).imp fun h => by simpa using h)
/-! ### lots are drawn -/
variable (ns : List Int)
def lapE : EvE := (fnE 1 (consA (varE 1) (consA (conE (.int 6)) nilA)))
theorem lap_ok (J : Store) (e : Env) (h1 : e[1]? = some (.dat (.ref 0))) (h13 : 13 < e.length) : ∀ (xs : List D) (k : Int), ∃ (l : List Int) (k' : Int), l.length = xs.length ∧ (∀ x ∈ l, 0 ≤ x ∧ x < 6) ∧
    lcL CC (.nm 13) yesT lapE e xs (ST ns k J) = .ok (is l) (ST ns k' J)
  | [], k => ⟨[], k, rfl, by simp, by simp [lcL]⟩
  | x :: xs, k => by
    obtain ⟨v, v1, v2, e1⟩ := take_ok 10 ns k 6 J (by omega)
    obtain ⟨l, k', l1, l2, l3⟩ := lap_ok J e h1 h13 xs (k + 1)
    refine ⟨v :: l, k', by simp [l1], fun y hy => ?_, ?_⟩
    · rcases List.mem_cons.mp hy with rfl | hy
      · exact ⟨v1, v2⟩
      · exact l2 y hy
    · have a1 : (e.set 13 (.dat x))[1]? = some (.dat (.ref 0)) := by rw [List.getElem?_set_ne (by decide)]; exact h1
      unfold lcL
      have ha : asg (.nm 13) x e = some (e.set 13 (.dat x)) := by simp [h13]
      rw [ha]
      dsimp only
      have eb : lapE CC (e.set 13 (.dat x)) (ST ns k J) = .ok (.int v) (ST ns (k + 1) J) := by
        unfold lapE
        simp only [fnE, consA, varE, a1, R.bind_ok, conE, nilA]
        exact e1
      simp only [yesT, noX_ok, R.bind_ok, if_true, eb, l3]
      rfl
def lotE : EvE := (bltE tupleG (consA (frzE (lcF (argI rng1 (consA (bin addA (conE (.int 1)) (fnE 1 (consA (varE 1) (consA (conE (.int 3)) nilA)))) nilA)) (.nm 13) yesT lapE [13])) nilA))
theorem rng1_ok (n : Int) (h : 0 ≤ n ∧ n ≤ 100) : rng1 [.int n] = some (rng 0 n.toNat) := by
  have h1 : bdI n = true := by unfold bdI; simp; omega
  have h2 : decide (n.toNat ≤ 100000) = true := decide_eq_true (by omega)
  simp only [rng1, h1, h2, Bool.and_self, if_true]
theorem lot_ok (J : Store) (e : Env) (h1 : e[1]? = some (.dat (.ref 0))) (h13 : 13 < e.length) (k : Int) : ∃ (l : List Int) (k' : Int), l ≠ [] ∧ l.length ≤ 3 ∧ (∀ x ∈ l, 0 ≤ x ∧ x < 6) ∧ lotE CC e (ST ns k J) = .ok (ti l) (ST ns k' J) := by
  obtain ⟨v, v1, v2, e1⟩ := take_ok 10 ns k 3 J (by omega)
  have a1 : (wipeE e [13])[1]? = some (.dat (.ref 0)) := by simp only [wipeE]; rw [List.getElem?_set_ne (by decide)]; exact h1
  obtain ⟨l, k', l1, l2, l3⟩ := lap_ok ns J (wipeE e [13]) a1 (by simpa using h13) (rng 0 (1 + v).toNat) (k + 1)
  have hr : (rng 0 (1 + v).toNat).length = (1 + v).toNat := by unfold rng; simp
  rw [hr] at l1
  refine ⟨l, k', fun z => ?_, by omega, l2, ?_⟩
  · rw [z] at l1; simp at l1; omega
  · have e1 : CC 1 [.ref 0, .int 3] (ST ns k J) = .ok (.int v) (ST ns (k + 1) J) := e1
    have hb : argI rng1 (consA (bin addA (conE (.int 1)) (fnE 1 (consA (varE 1) (consA (conE (.int 3)) nilA)))) nilA) CC e (ST ns k J) = .ok (rng 0 (1 + v).toNat) (ST ns (k + 1) J) := by
      have := rng1_ok (1 + v) (by omega)
      simp only [argI, consA, bin, conE, fnE, varE, h1, nilA, R.bind_ok, e1, addA, orO, addG, R.of_some, this]
    unfold lotE
    simp only [bltE, consA, frzE, lcF, hb, R.bind_ok, l3, nilA, tupleG, R.of_some]
def lotsB : EvS := (appS 3 lotE)
abbrev E (ns : List Int) (c2 c3 c4 c5 c6 c7 c8 c9 c10 c11 c12 c13 : Cell) : Env := [.dat (sc ns), .dat (.ref 0), c2, c3, c4, c5, c6, c7, c8, c9, c10, c11, c12, c13]
theorem lots_loop (J : Store) (c2 c5 c6 c7 c8 c9 c10 c11 c12 c13 : Cell) : ∀ (xs : List D) (acc : Lots) (k : Int) (c4 : Cell), acc.length + xs.length ≤ 6 → (∀ lot ∈ acc, lot ≠ [] ∧ lot.length ≤ 3 ∧ ∀ x ∈ lot, 0 ≤ x ∧ x < 6) → plainC c4 = true →
    ∃ (acc' : Lots) (k' : Int) (c4' : Cell), acc'.length ≤ 6 ∧ (∀ lot ∈ acc', lot ≠ [] ∧ lot.length ≤ 3 ∧ ∀ x ∈ lot, 0 ≤ x ∧ x < 6) ∧ plainC c4' = true ∧
      forL CC (.nm 4) lotsB xs (E ns c2 (.own (ls acc)) c4 c5 c6 c7 c8 c9 c10 c11 c12 c13) (ST ns k J) = .nx (E ns c2 (.own (ls acc')) c4' c5 c6 c7 c8 c9 c10 c11 c12 c13) (ST ns k' J)
  | [], acc, k, c4, hl, h, hp => ⟨acc, k, c4, by simpa using hl, h, hp, by simp [forL]⟩
  | x :: xs, acc, k, c4, hl, h, hp => by
    obtain ⟨l, k1, q1, q2, q3, q4⟩ := lot_ok ns J (E ns c2 (.own (ls acc)) (.dat x) c5 c6 c7 c8 c9 c10 c11 c12 c13) rfl (by simp) k
    obtain ⟨acc', k', c4', r1, r2, r3, r4⟩ := lots_loop J c2 c5 c6 c7 c8 c9 c10 c11 c12 c13 xs (acc ++ [l]) k1 (.dat x) (by simp at hl ⊢; omega) (fun lot hlot => by
      rcases List.mem_append.mp hlot with hlot | hlot
      · exact h lot hlot
      · rw [List.mem_singleton.mp hlot]; exact ⟨q1, q2, q3⟩) rfl
    refine ⟨acc', k', c4', r1, r2, r3, ?_⟩
    have hL : (acc.map ti).length < LIM := by
      simp
      simp at hl
      exact Nat.lt_of_le_of_lt (by omega : acc.length ≤ 6) (by decide)
    have eb : lotsB CC (E ns c2 (.own (ls acc)) (.dat x) c5 c6 c7 c8 c9 c10 c11 c12 c13) (ST ns k J) = .nx (E ns c2 (.own (ls (acc ++ [l]))) (.dat x) c5 c6 c7 c8 c9 c10 c11 c12 c13) (ST ns k1 J) := by
      unfold lotsB
      simp only [appS, List.getElem?_cons_zero, List.getElem?_cons_succ, q4, liftS_ok, hL, if_true, List.set_cons_succ, List.set_cons_zero]
      simp [ls]
    have s0 : forL CC (.nm 4) lotsB (x :: xs) (E ns c2 (.own (ls acc)) c4 c5 c6 c7 c8 c9 c10 c11 c12 c13) (ST ns k J) = match lotsB CC (E ns c2 (.own (ls acc)) (.dat x) c5 c6 c7 c8 c9 c10 c11 c12 c13) (ST ns k J) with
      | .nx e2 m2 => forL CC (.nm 4) lotsB xs e2 m2
      | .ct e2 m2 => forL CC (.nm 4) lotsB xs e2 m2
      | .brk e2 m2 => .nx e2 m2
      | r => r := rfl
    rw [s0, eb]
    exact r4
def L1 : EvS := (ownS 3 (bltF lstG nilA))
def L2' : EvS := (forS (argI rng1 (consA (fnE 1 (consA (varE 1) (consA (conE (.int 7)) nilA))) nilA)) (.nm 4) lotsB)
theorem L12_ok (J : Store) (k : Int) (c2 c3 c4 c5 c6 c7 c8 c9 c10 c11 c12 c13 : Cell) (hp : plainC c4 = true) : ∃ (lots : Lots) (k' : Int) (c4' : Cell), OkL lots ∧ plainC c4' = true ∧
    (∀ g : EvS, seqS L1 (seqS L2' (seqS (frzS 3) g)) CC (E ns c2 c3 c4 c5 c6 c7 c8 c9 c10 c11 c12 c13) (ST ns k J) = g CC (E ns c2 (.dat (ls lots)) c4' c5 c6 c7 c8 c9 c10 c11 c12 c13) (ST ns k' J)) := by
  obtain ⟨v, v1, v2, e1⟩ := take_ok 10 ns k 7 J (by omega)
  have hr : (rng 0 v.toNat).length = v.toNat := by unfold rng; simp
  obtain ⟨acc', k', c4', r1, r2, r3, r4⟩ := lots_loop ns J c2 c5 c6 c7 c8 c9 c10 c11 c12 c13 (rng 0 v.toNat) [] (k + 1) c4 (by rw [hr]; simp; omega) (fun _ h => by cases h) hp
  refine ⟨acc', k', c4', ⟨fun l h => (r2 l h).1, fun l h => (r2 l h).2.1, fun l h => (r2 l h).2.2, r1⟩, r3, fun g => ?_⟩
  have hL1 : L1 CC (E ns c2 c3 c4 c5 c6 c7 c8 c9 c10 c11 c12 c13) (ST ns k J) = .nx (E ns c2 (.own (ls [])) c4 c5 c6 c7 c8 c9 c10 c11 c12 c13) (ST ns k J) := by
    unfold L1
    simp [short]
  have hL2 : L2' CC (E ns c2 (.own (ls [])) c4 c5 c6 c7 c8 c9 c10 c11 c12 c13) (ST ns k J) = .nx (E ns c2 (.own (ls acc')) c4' c5 c6 c7 c8 c9 c10 c11 c12 c13) (ST ns k' J) := by
    have e1 : CC 1 [.ref 0, .int 7] (ST ns k J) = .ok (.int v) (ST ns (k + 1) J) := e1
    have := rng1_ok v (by omega)
    unfold L2'
    simp only [forS, argI, consA, fnE, varE, conE, nilA, List.getElem?_cons_zero, List.getElem?_cons_succ, R.bind_ok, e1, this, R.of_some, liftS_ok]
    exact r4
  rw [seq_go hL1, seq_go hL2]
  rfl
end Dn.K55
namespace Dn.K55
open PySem L2
def rf : EvS := (retS (conE (.bl false)))
def powE : EvE := (bin powG (conE (.int 10)) (conE (.int 9)))
def L4 : EvS := (asgS (.nm 5) (frzE (lcF (seqI (fnE 2 (consA (conE (.int 6)) nilA))) (.nm 12) (blT (fnE 3 (consA (varE 3) (consA (varE 12) nilA)))) (varE 12) [12])))
def L5 : EvS := (asgS (.nm 6) (fnE 4 (consA (varE 3) (consA powE nilA))))
def L6 : EvS := (asgS (.tp [(.nm 7), (.nm 8)]) (varE 6))
def L7 : EvS := (ifS (orT (blT (bin neG (bltE lenG (consA (brwE 7) nilA)) (bltE lenG (consA (bin ixG (brwE 5) (conE (.int 0))) nilA)))) (orT (notT (blT (fnE 3 (consA (varE 3) (consA (varE 7) nilA))))) (blT (bin neG (brwE 7) (bltE tupleG (consA (bltE sortG2 (consA (brwE 7) nilA)) nilA)))))) rf nxS)
def L8 : EvS := (ifS (orT (notT (blT (fnE 5 (consA (varE 3) (consA (varE 7) (consA (varE 8) nilA)))))) (blT (bin neG (bin isG (brwE 8) (conE .non)) (bin eqG (brwE 7) (bltE tupG nilA))))) rf nxS)
def L9a : EvS := (asgS (.nm 10) (fnE 6 (consA (varE 1) (consA (varE 8) nilA))))
def L9b : EvS := (ifS (blT (bin neG (fnE 5 (consA (varE 3) (consA (varE 7) (consA (varE 10) nilA)))) (fnE 7 (consA (varE 3) (consA (bltE tupG nilA) (consA (bin subG (bltE lenG (consA (brwE 7) nilA)) (conE (.int 1))) (consA (varE 10) nilA))))))) rf nxS)
def L9c : EvS := (ifS (orT (blT (fnE 5 (consA (varE 3) (consA (varE 7) (consA (conE .non) nilA))))) (orT (blT (fnE 5 (consA (varE 3) (consA (slA (brwE 7) (intO (conE (.int 1))) noO) (consA (varE 8) nilA))))) (blT (fnE 5 (consA (varE 3) (consA (bin addA (brwE 7) (bltE tupG (consA (conE (.int 9)) nilA))) (consA (varE 8) nilA))))))) rf nxS)
def L9 : EvS := (ifS (blT (bin isNotG (brwE 8) (conE .non))) (seqS L9a (seqS L9b L9c)) nxS)
def L10 : EvS := (asgS (.nm 9) (fnE 8 (consA (varE 1) (consA (varE 5) nilA))))
def L11 : EvS := (ifS (blT (bin neG (fnE 5 (consA (varE 3) (consA (varE 9) (consA (varE 8) nilA)))) (bin eqG (bltE lenG (consA (brwE 9) nilA)) (bltE lenG (consA (brwE 7) nilA))))) rf nxS)
def L12 : EvS := (ifS (blT (bin isNotG (fnE 4 (consA (bin addA (brwE 3) (frzE (bltF lstG (consA (bltE tupG nilA) nilA)))) (consA powE nilA))) (conE .non))) rf nxS)
def L13b : EvS := (seqS (dropS (fnE 4 (consA (varE 3) (consA (conE (.int 0)) nilA)))) rf)
def L13s : EvS := (ifS (blT (bin neG (xfE 11 0) (conE (.int 0)))) rf nxS)
def L13 : EvS := (tryS 0 11 L13b L13s)
def lbody : EvS := seqS L1 (seqS L2' (seqS (frzS 3) (seqS L4 (seqS L5 (seqS L6 (seqS L7 (seqS L8 (seqS L9 (seqS L10 (seqS L11 (seqS L12 L13)))))))))))
theorem law_is : B_law = seqS (ownS 1 (bltF lstG (consA (varE 0) (consA (conE (.int 0)) nilA)))) (seqS (stoS 1) (seqS (forS (argI rng1 (consA (conE (.int 3)) nilA)) (.nm 2) lbody) (retS (conE (.bl true))))) := rfl
def goodM (lots : Lots) (rows : List (List Int)) : List (List Int) := rows.filter fun r => (unmetM r lots).isNone
section
variable (ns : List Int) (lots : Lots) (m : Store) (c2 c3 c4 c5 c6 c7 c8 c9 c10 c11 c12 c13 : Cell)
abbrev DL (lots : Lots) : Cell := .dat (ls lots)
abbrev DG (g : List (List Int)) : Cell := .dat (.lst (g.map ti))
theorem L4_ok : ∃ rows : List (List Int), rows.Perm (rowsM 6) ∧ rows.Pairwise (fun a b => a.length ≤ b.length) ∧
    L4 CC (E ns c2 (DL lots) c4 c5 c6 c7 c8 c9 c10 c11 c12 c13) m = .nx (E ns c2 (DL lots) c4 (DG (goodM lots rows)) c6 c7 c8 c9 c10 c11 c12 c13) m := by
  obtain ⟨rows, h1, h2, h3⟩ := rows_ok 11 m
  refine ⟨rows, h1, h2, ?_⟩
  have h3 : CC 2 [.int 6] m = .ok (.lst (rows.map ti)) m := h3
  have e1 := lcL_map (C := CC) (g := .nm 12) (tt := blT (fnE 3 (consA (varE 3) (consA (varE 12) nilA)))) (te := varE 12) (e := E ns c2 (DL lots) c4 c5 c6 c7 c8 c9 c10 c11 .em c13) (m := m) (f := ti) (h := ti) (keep := fun r => (unmetM r lots).isNone) (l := rows)
    (fun r _ => ⟨E ns c2 (DL lots) c4 c5 c6 c7 c8 c9 c10 c11 (.dat (ti r)) c13, by simp, by
      have := meets_ok 11 lots r m
      simp only [blT, fnE, consA, varE, nilA, List.getElem?_cons_zero, List.getElem?_cons_succ, R.bind_ok]
      have this : CC 3 [ls lots, ti r] m = _ := this
      rw [this]
      simp only [R.bind_ok, isB, R.of_some], fun _ => by simp⟩)
  unfold L4
  simp only [asgS, frzE, lcF, seqI, fnE, consA, conE, nilA, R.bind_ok, h3, itemsOf, R.of_some, wipeE, List.set_cons_succ, List.set_cons_zero] at e1 ⊢
  rw [e1]
  simp only [R.bind_ok, liftS_ok, asg, List.length_cons, List.length_nil, Nat.reduceAdd, Nat.reduceLT, if_true, List.set_cons_succ, List.set_cons_zero, SR.of_some]
  rfl
theorem pow_ok (C : Orc) (e : Env) (m : Store) : powE C e m = .ok (.int 1000000000) m := by
  unfold powE
  simp
theorem L5_ok {mm : Nat} {th : List Int} (ok : OkL lots) (F : Few lots mm th) : ∃ J, L5 CC (E ns c2 (DL lots) c4 c5 c6 c7 c8 c9 c10 c11 c12 c13) m = .nx (E ns c2 (DL lots) c4 c5 (.dat (.tup [ti (up th), trD lots mm])) c7 c8 c9 c10 c11 c12 c13) (m ++ J) := by
  obtain ⟨J, h⟩ := fewest_ok 1000000000 m ok F (by omega) 11 (by omega)
  refine ⟨J, ?_⟩
  have h : CC 4 [ls lots, .int 1000000000] m = _ := h
  unfold L5
  simp only [asgS, fnE, consA, varE, nilA, List.getElem?_cons_zero, List.getElem?_cons_succ, R.bind_ok, pow_ok, h, liftS_ok, asg, List.length_cons, List.length_nil, Nat.reduceAdd, Nat.reduceLT, if_true, List.set_cons_succ, List.set_cons_zero, SR.of_some]
theorem L6_ok (x y : D) : L6 CC (E ns c2 c3 c4 c5 (.dat (.tup [x, y])) c7 c8 c9 c10 c11 c12 c13) m = .nx (E ns c2 c3 c4 c5 (.dat (.tup [x, y])) (.dat x) (.dat y) c9 c10 c11 c12 c13) m := by
  unfold L6
  refine (asg2 (x := x) (y := y) (by simp only [varE, List.getElem?_cons_zero, List.getElem?_cons_succ]) (by simp) (by simp)).trans rfl
theorem len_ti (m : Store) (ts : List Int) : lenG m [ti ts] = some (.int ts.length) := by simp [ti, is]
variable {lots} {mm : Nat} {th : List Int} (ok : OkL lots) (F : Few lots mm th)
/-- what the good rows are -/
structure Gd' (lots : Lots) (mm : Nat) (g : List (List Int)) : Prop where
  head : ∃ g0 r, g = g0 :: r ∧ g0.length = mm
  each : ∀ l ∈ g, Asc l ∧ Meets lots l ∧ mm ≤ l.length ∧ l.length ≤ 6
include F in
theorem good_is {rows : List (List Int)} (h1 : rows.Perm (rowsM 6)) (h2 : rows.Pairwise fun a b => a.length ≤ b.length) : Gd' lots mm (goodM lots rows) := by
  have hm : ∀ l, l ∈ goodM lots rows ↔ l ∈ rowsM 6 ∧ Meets lots l := fun l => by
    unfold goodM Meets
    rw [List.mem_filter, h1.mem_iff]
    simp
  have hu : up th ∈ goodM lots rows := (hm _).mpr ⟨F.row, F.upm⟩
  have hs : (goodM lots rows).Pairwise fun a b => a.length ≤ b.length := h2.filter _
  refine ⟨?_, fun l hl => ?_⟩
  · cases e : goodM lots rows with
    | nil => rw [e] at hu; cases hu
    | cons g0 r =>
      refine ⟨g0, r, rfl, ?_⟩
      rw [e] at hu hs
      have h0 : g0 ∈ goodM lots rows := by rw [e]; exact List.mem_cons_self
      have l1 := F.least ((hm g0).mp h0).2
      have l2 : g0.length ≤ (up th).length := by
        rcases List.mem_cons.mp hu with q | q
        · rw [q]; exact Nat.le_refl _
        · exact (List.pairwise_cons.mp hs).1 _ q
      rw [F.upl] at l2
      omega
  · obtain ⟨r1, r2⟩ := (hm l).mp hl
    obtain ⟨a1, a2⟩ := rows_asc 6 l r1
    refine ⟨a1, r2, F.least r2, ?_⟩
    have hsub : l.length ≤ ([0, 1, 2, 3, 4, 5] : List Int).length := by
      refine List.Nodup.length_le_of_subset a1.nodup fun x hx => ?_
      have := a2 x hx
      simp
      omega
    exact hsub
include F in
theorem L7_ok {g : List (List Int)} (G : Gd' lots mm g) : L7 CC (E ns c2 (DL lots) c4 (DG g) c6 (.dat (ti (up th))) c8 c9 c10 c11 c12 c13) m = .nx (E ns c2 (DL lots) c4 (DG g) c6 (.dat (ti (up th))) c8 c9 c10 c11 c12 c13) m := by
  obtain ⟨g0, r, e, hg⟩ := G.head
  have hix : ixG m (.lst (g.map ti)) (.int 0) = some (ti g0) := by rw [e]; exact atI0 _ _
  have hmt := meets_ok 11 lots (up th) m
  have hmt : CC 3 [ls lots, ti (up th)] m = _ := hmt
  have hm0 : unmetM (up th) lots = none := F.upm
  rw [hm0] at hmt
  have hso := sort_lot m (up th) (by rw [F.upl]; exact Nat.le_trans F.six (by decide))
  rw [up_up] at hso
  have hne := encI.neT m (up th) (up th)
  have hne : neG m (ti (up th)) (ti (up th)) = some (.bl (!decide (up th = up th))) := hne
  have hlen : decide (((up th).length : Int) = (g0.length : Int)) = true := decide_eq_true (by rw [F.upl, hg])
  unfold L7
  simp only [ifS, orT, blT, notT, bin, bltE, consA, nilA, brwE, varE, fnE, conE, List.getElem?_cons_zero, List.getElem?_cons_succ, R.bind_ok, len_ti, R.of_some, hix, neG_ii, hlen, Bool.not_true, isB, Bool.false_eq_true, if_false, hmt, Option.isNone_none, hso, tupleG, hne, decide_true, liftS_ok, nxS]
theorem isNon_tr (lots : Lots) (mm : Nat) : isNon (trD lots mm) = decide (mm = 0) := by
  cases mm with
  | zero => rfl
  | succ k =>
    cases k <;> rfl
theorem up_nil {th : List Int} (F : Few lots mm th) : up th = [] ↔ mm = 0 := by
  rw [← F.upl]
  exact List.length_eq_zero_iff.symm
theorem isfew_tr (ok : OkL lots) (F : Few lots mm th) (ts : List Int) (m : Store) (hn : ts.Nodup) (hl : ts.length < 1000) (hm : Meets lots ts) : CC 5 [ls lots, ti ts, trD lots mm] m = .ok (.bl (decide (ts.length = mm))) m := by
  have hge := F.least hm
  unfold Meets at hm
  cases mm with
  | zero =>
    have := isfew_non lots ts m hn
    rw [hm, if_pos rfl] at this
    refine this.trans ?_
    congr 2
    cases ts <;> simp
  | succ k =>
    have := isfew_tree lots ts k (treeM su lots k []) m (by have := F.six; omega) hn hl
    rw [hm, if_pos rfl] at this
    have hne : ts ≠ [] := fun z => by rw [z] at hge; simp at hge
    rw [if_neg hne] at this
    refine this.trans ?_
    congr 2
    have hno := F.none (by omega)
    by_cases c : ts.length = k + 1
    · rw [c]
      have := tree_shows su su_mem k [] hno
      rw [show k + 1 - 1 = k by omega, this]
      simp
    · have := tree_no su su_mem ok.ne k (ts.length - 1) [] (by omega) hno
      rw [this]
      simp [c]
include ok F in
theorem L8_ok : L8 CC (E ns c2 (DL lots) c4 c5 c6 (.dat (ti (up th))) (.dat (trD lots mm)) c9 c10 c11 c12 c13) m = .nx (E ns c2 (DL lots) c4 c5 c6 (.dat (ti (up th))) (.dat (trD lots mm)) c9 c10 c11 c12 c13) m := by
  have h := isfew_tr ok F (up th) m (up_asc F.nodup).nodup (by rw [F.upl]; have := F.six; omega) F.upm
  have hd : decide ((up th).length = mm) = true := decide_eq_true F.upl
  rw [hd] at h
  have heq := encI.eqT m (up th) []
  have heq : eqG m (ti (up th)) (.tup []) = some (.bl (decide (up th = []))) := heq
  have hb : decide (decide (mm = 0) = decide (up th = [])) = true := decide_eq_true (by
    by_cases c : mm = 0
    · rw [decide_eq_true c, decide_eq_true ((up_nil F).mpr c)]
    · rw [decide_eq_false c, decide_eq_false fun z => c ((up_nil F).mp z)])
  unfold L8
  simp only [ifS, orT, blT, notT, bin, bltE, consA, nilA, brwE, varE, fnE, conE, List.getElem?_cons_zero, List.getElem?_cons_succ, R.bind_ok, h, isB, R.of_some, Bool.not_true, Bool.false_eq_true, if_false, is_non, isNon_tr, tupG, s0, if_true, heq, neG_bb, hb, liftS_ok, nxS]
include ok F in
theorem L9_ok (J : Store) (k : Int) (hp : plainC c10 = true) : ∃ k' c10', plainC c10' = true ∧ L9 CC (E ns c2 (DL lots) c4 c5 c6 (.dat (ti (up th))) (.dat (trD lots mm)) c9 c10 c11 c12 c13) (ST ns k J) = .nx (E ns c2 (DL lots) c4 c5 c6 (.dat (ti (up th))) (.dat (trD lots mm)) c9 c10' c11 c12 c13) (ST ns k' J) := by
  cases mm with
  | zero =>
    refine ⟨k, c10, hp, ?_⟩
    unfold L9
    simp [trD, isNon]
  | succ j =>
    have hj : j ≤ 5 := by have := F.six; omega
    obtain ⟨t', k', hw, hb⟩ := bent_use ns J j (treeM su lots j []) k hj (tree_wf ok.le j [])
    refine ⟨k', .dat (tD j t'), rfl, ?_⟩
    have hnd : (up th).Nodup := (up_asc F.nodup).nodup
    have hlen := F.upl
    have hne : up th ≠ [] := fun z => by rw [z] at hlen; simp at hlen
    have hm0 : unmetM (up th) lots = none := F.upm
    have hz : isNon (trD lots (j + 1)) = false := by rw [isNon_tr]; simp
    have htr : trD lots (j + 1) = tD j (treeM su lots j []) := rfl
    have A : L9a CC (E ns c2 (DL lots) c4 c5 c6 (.dat (ti (up th))) (.dat (trD lots (j + 1))) c9 c10 c11 c12 c13) (ST ns k J) = .nx (E ns c2 (DL lots) c4 c5 c6 (.dat (ti (up th))) (.dat (trD lots (j + 1))) c9 (.dat (tD j t')) c11 c12 c13) (ST ns k' J) := by
      unfold L9a
      rw [htr]
      simp only [asgS, fnE, consA, varE, nilA, List.getElem?_cons_zero, List.getElem?_cons_succ, R.bind_ok, hb, liftS_ok, asg, List.length_cons, List.length_nil, Nat.reduceAdd, Nat.reduceLT, if_true, List.set_cons_succ, List.set_cons_zero, SR.of_some]
    have B : L9b CC (E ns c2 (DL lots) c4 c5 c6 (.dat (ti (up th))) (.dat (trD lots (j + 1))) c9 (.dat (tD j t')) c11 c12 c13) (ST ns k' J) = .nx (E ns c2 (DL lots) c4 c5 c6 (.dat (ti (up th))) (.dat (trD lots (j + 1))) c9 (.dat (tD j t')) c11 c12 c13) (ST ns k' J) := by
      have h1 := isfew_tree lots (up th) j t' (ST ns k' J) hj hnd (by omega)
      rw [hm0, if_pos rfl, if_neg hne, hlen, show j + 1 - 1 = j by omega] at h1
      have h2 := istree_use lots ok.le j j t' (ST ns k' J) hj hw
      have el : (((up th).length : Int) - 1) = (j : Int) := by rw [hlen]; omega
      unfold L9b
      simp only [ifS, blT, bin, bltE, consA, nilA, brwE, varE, fnE, conE, List.getElem?_cons_zero, List.getElem?_cons_succ, R.bind_ok, h1, tupG, s0, if_true, R.of_some, len_ti, subG, el, h2, neG_bb, decide_true, Bool.not_true, isB, liftS_ok, Bool.false_eq_true, if_false, nxS]
    have Cc : L9c CC (E ns c2 (DL lots) c4 c5 c6 (.dat (ti (up th))) (.dat (trD lots (j + 1))) c9 (.dat (tD j t')) c11 c12 c13) (ST ns k' J) = .nx (E ns c2 (DL lots) c4 c5 c6 (.dat (ti (up th))) (.dat (trD lots (j + 1))) c9 (.dat (tD j t')) c11 c12 c13) (ST ns k' J) := by
      have h1 := isfew_non lots (up th) (ST ns k' J) hnd
      rw [hm0, if_pos rfl, decide_eq_false hne] at h1
      have h2 := isfew_tree lots ((up th).drop 1) j (treeM su lots j []) (ST ns k' J) hj (hnd.sublist (List.drop_sublist _ _)) (by simp; omega)
      have hno : unmetM ((up th).drop 1) lots ≠ none := fun z => by
        have := F.least z
        simp at this
        omega
      rw [if_neg hno] at h2
      have hn9 : (up th ++ [9]).Nodup := by
        rw [List.nodup_append]
        refine ⟨hnd, by simp, fun a ha b hb e => ?_⟩
        simp at hb
        subst hb
        subst e
        have := F.dom 9 (up_mem.mp ha)
        omega
      have hm9 : Meets lots (up th ++ [9]) := meets_mono (fun _ h => List.mem_append_left _ h) F.upm
      have h3 := isfew_tr ok F (up th ++ [9]) (ST ns k' J) hn9 (by simp; omega) hm9
      have hd : decide ((up th ++ [9]).length = j + 1) = false := decide_eq_false (by simp; omega)
      rw [hd] at h3
      have ec := cutA_drop (is (up th)) 1
      have ed : (is (up th)).drop 1 = is ((up th).drop 1) := by simp [is]
      rw [ed] at ec
      have ec : cutA (ti (up th)) (some 1) none = some (ti ((up th).drop 1)) := ec
      have ea : addA (ST ns k' J) (ti (up th)) (.tup [.int 9]) = some (ti (up th ++ [9])) := by
        have hl : (is (up th)).length + [D.int 9].length ≤ LIM := by
          simp [is]
          exact Nat.le_trans (by omega : _ ≤ 100) (by decide)
        simp only [addA, orO, addG, hl, if_true]
        simp [ti, is, encI_d]
      unfold L9c
      rw [htr] at h3 ⊢
      simp only [ifS, orT, blT, bin, bltE, consA, nilA, brwE, varE, fnE, conE, slA, intO, noO, isI, List.getElem?_cons_zero, List.getElem?_cons_succ, R.bind_ok, h1, isB, R.of_some, Bool.false_eq_true, if_false, ec, h2, tupG, s1, if_true, ea, h3, liftS_ok, nxS]
    have D' : (blT (bin isNotG (brwE 8) (conE .non))) CC (E ns c2 (DL lots) c4 c5 c6 (.dat (ti (up th))) (.dat (trD lots (j + 1))) c9 c10 c11 c12 c13) (ST ns k J) = .ok true (ST ns k J) := by
      simp only [blT, bin, brwE, conE, List.getElem?_cons_zero, List.getElem?_cons_succ, R.bind_ok, isNot_non, hz, Bool.not_false, R.of_some, isB]
    unfold L9 ifS
    rw [D']
    simp only [liftS_ok, if_true]
    rw [seq_go A, seq_go B, Cc]
theorem L10_ok {g : List (List Int)} (G : Gd' lots mm g) (J : Store) (k : Int) : ∃ (sm : List Int) (k' : Int), sm ∈ g ∧ L10 CC (E ns c2 c3 c4 (DG g) c6 c7 c8 c9 c10 c11 c12 c13) (ST ns k J) = .nx (E ns c2 c3 c4 (DG g) c6 c7 c8 (.dat (ti sm)) c10 c11 c12 c13) (ST ns k' J) := by
  obtain ⟨g0, r, e, _⟩ := G.head
  obtain ⟨x, k', h1, h2⟩ := pick_ok 9 ns k J (g.map ti) (by rw [e]; simp)
  obtain ⟨sm, h3, rfl⟩ := List.mem_map.mp h1
  refine ⟨sm, k', h3, ?_⟩
  have h2 : CC 8 [.ref 0, .lst (g.map ti)] (ST ns k J) = _ := h2
  unfold L10
  simp only [asgS, fnE, consA, varE, nilA, List.getElem?_cons_zero, List.getElem?_cons_succ, R.bind_ok, h2, liftS_ok, asg, List.length_cons, List.length_nil, Nat.reduceAdd, Nat.reduceLT, if_true, List.set_cons_succ, List.set_cons_zero, SR.of_some]
include ok F in
theorem L11_ok {g : List (List Int)} (G : Gd' lots mm g) {sm : List Int} (hs : sm ∈ g) : L11 CC (E ns c2 (DL lots) c4 c5 c6 (.dat (ti (up th))) (.dat (trD lots mm)) (.dat (ti sm)) c10 c11 c12 c13) m = .nx (E ns c2 (DL lots) c4 c5 c6 (.dat (ti (up th))) (.dat (trD lots mm)) (.dat (ti sm)) c10 c11 c12 c13) m := by
  obtain ⟨h1, h2, h3, h4⟩ := G.each sm hs
  have h := isfew_tr ok F sm m h1.nodup (by omega) h2
  have hd : decide (decide (sm.length = mm) = decide ((sm.length : Int) = ((up th).length : Int))) = true := decide_eq_true (by
    rw [F.upl]
    by_cases c : sm.length = mm
    · rw [decide_eq_true c, decide_eq_true (by omega : (sm.length : Int) = (mm : Int))]
    · rw [decide_eq_false c, decide_eq_false (by omega : ¬ (sm.length : Int) = (mm : Int))])
  unfold L11
  simp only [ifS, blT, bin, bltE, consA, nilA, brwE, varE, fnE, List.getElem?_cons_zero, List.getElem?_cons_succ, R.bind_ok, h, len_ti, R.of_some, eqG_ii, neG_bb, hd, Bool.not_true, isB, liftS_ok, Bool.false_eq_true, if_false, nxS]
include ok in
theorem L12_ok' : L12 CC (E ns c2 (DL lots) c4 c5 c6 c7 c8 c9 c10 c11 c12 c13) m = .nx (E ns c2 (DL lots) c4 c5 c6 c7 c8 c9 c10 c11 c12 c13) m := by
  have h := fewest_none (lots := lots) 1000000000 m (by omega) 10
  have h : CC 4 [.lst (lots.map ti ++ [.tup []]), .int 1000000000] m = .ok .non m := h
  have ea : addA m (ls lots) (.lst [.tup []]) = some (.lst (lots.map ti ++ [.tup []])) := by
    have hl : (lots.map ti).length + [D.tup []].length ≤ LIM := by
      have := ok.few
      simp
      exact Nat.le_trans (by omega : _ ≤ 10) (by decide)
    unfold ls
    simp only [addA, orO, addG, catF, hl, if_true, Option.map_some]
  unfold L12
  simp only [ifS, blT, bin, bltE, bltF, frzE, consA, nilA, brwE, varE, fnE, conE, List.getElem?_cons_zero, List.getElem?_cons_succ, R.bind_ok, tupG, s0, s1, lstG, if_true, R.of_some, ea, pow_ok, h, isNot_non, isNon, Bool.not_true, isB, liftS_ok, Bool.false_eq_true, if_false, nxS]
theorem L13_ok (hp : [c2, c4, c5, c6, c7, c8, c9, c10, c12, c13].all plainC = true) : L13 CC (E ns c2 (DL lots) c4 c5 c6 c7 c8 c9 c10 c11 c12 c13) m = .nx (E ns c2 (DL lots) c4 c5 c6 c7 c8 c9 c10 .em c12 c13) m := by
  have h := fewest_zero (lots := lots) m 10
  have h : CC 4 [ls lots, .int 0] m = _ := h
  have hb : L13b CC (E ns c2 (DL lots) c4 c5 c6 c7 c8 c9 c10 c11 c12 c13) m = .exc 0 [.int 0] (E ns c2 (DL lots) c4 c5 c6 c7 c8 c9 c10 c11 c12 c13) m := by
    unfold L13b
    simp only [seqS, dropS, fnE, consA, varE, conE, nilA, List.getElem?_cons_zero, List.getElem?_cons_succ, R.bind_ok, h, liftS_exc, SR.bind_exc]
  have hs : L13s CC (E ns c2 (DL lots) c4 c5 c6 c7 c8 c9 c10 (.exn 0 [.int 0]) c12 c13) m = .nx (E ns c2 (DL lots) c4 c5 c6 c7 c8 c9 c10 (.exn 0 [.int 0]) c12 c13) m := by
    unfold L13s
    simp
  simp only [List.all_cons, List.all_nil, Bool.and_true, Bool.and_eq_true] at hp
  obtain ⟨p2, p4, p5, p6, p7, p8, p9, p10, p12, p13⟩ := hp
  have pd : ∀ d, plainC (.dat d) = true := fun _ => rfl
  have pe : plainC .em = true := rfl
  have hall : (E ns c2 (DL lots) c4 c5 c6 c7 c8 c9 c10 .em c12 c13).all plainC = true := by
    simp only [List.all_cons, List.all_nil, Bool.and_true, pd, pe, p2, p4, p5, p6, p7, p8, p9, p10, p12, p13, Bool.and_self]
  unfold L13 tryS
  rw [hb]
  dsimp only
  rw [if_pos rfl, if_pos (by simp)]
  have e1 : (E ns c2 (DL lots) c4 c5 c6 c7 c8 c9 c10 c11 c12 c13).set 11 (.exn 0 [.int 0]) = E ns c2 (DL lots) c4 c5 c6 c7 c8 c9 c10 (.exn 0 [.int 0]) c12 c13 := rfl
  rw [e1, hs]
  have e2 : (E ns c2 (DL lots) c4 c5 c6 c7 c8 c9 c10 (.exn 0 [.int 0]) c12 c13).set 11 .em = E ns c2 (DL lots) c4 c5 c6 c7 c8 c9 c10 .em c12 c13 := rfl
  unfold behind
  dsimp only
  rw [e2, if_pos hall]
end
def AllP (c2 c3 c4 c5 c6 c7 c8 c9 c10 c11 c12 c13 : Cell) : Prop := [c2, c3, c4, c5, c6, c7, c8, c9, c10, c11, c12, c13].all plainC = true
theorem turn_ok (ns : List Int) (J : Store) (k : Int) (c2 c3 c4 c5 c6 c7 c8 c9 c10 c11 c12 c13 : Cell) (hp : AllP c2 c3 c4 c5 c6 c7 c8 c9 c10 c11 c12 c13) : ∃ k' J' d3 d4 d5 d6 d7 d8 d9 d10 d11, AllP c2 d3 d4 d5 d6 d7 d8 d9 d10 d11 c12 c13 ∧
    lbody CC (E ns c2 c3 c4 c5 c6 c7 c8 c9 c10 c11 c12 c13) (ST ns k J) = .nx (E ns c2 d3 d4 d5 d6 d7 d8 d9 d10 d11 c12 c13) (ST ns k' J') := by
  unfold AllP at hp
  simp only [List.all_cons, List.all_nil, Bool.and_true, Bool.and_eq_true] at hp
  obtain ⟨p2, p3, p4, p5, p6, p7, p8, p9, p10, p11, p12, p13⟩ := hp
  obtain ⟨lots, k1, d4, ok, q4, hA⟩ := L12_ok ns J k c2 c3 c4 c5 c6 c7 c8 c9 c10 c11 c12 c13 p4
  obtain ⟨mm, th, F⟩ := few_is ok
  obtain ⟨rows, r1, r2, h4⟩ := L4_ok ns lots (ST ns k1 J) c2 d4 c5 c6 c7 c8 c9 c10 c11 c12 c13
  have G := good_is F r1 r2
  obtain ⟨J1, h5⟩ := L5_ok ns lots (ST ns k1 J) c2 d4 (DG (goodM lots rows)) c6 c7 c8 c9 c10 c11 c12 c13 ok F
  have eS : ST ns k1 J ++ J1 = ST ns k1 (J ++ J1) := rfl
  rw [eS] at h5
  have h6 := L6_ok ns (ST ns k1 (J ++ J1)) c2 (DL lots) d4 (DG (goodM lots rows)) c7 c8 c9 c10 c11 c12 c13 (ti (up th)) (trD lots mm)
  have h7 := L7_ok ns (ST ns k1 (J ++ J1)) c2 d4 (.dat (.tup [ti (up th), trD lots mm])) (.dat (trD lots mm)) c9 c10 c11 c12 c13 F G
  have h8 := L8_ok ns (ST ns k1 (J ++ J1)) c2 d4 (DG (goodM lots rows)) (.dat (.tup [ti (up th), trD lots mm])) c9 c10 c11 c12 c13 ok F
  obtain ⟨k2, d10, q10, h9⟩ := L9_ok ns c2 d4 (DG (goodM lots rows)) (.dat (.tup [ti (up th), trD lots mm])) c9 c10 c11 c12 c13 ok F (J ++ J1) k1 p10
  obtain ⟨sm, k3, hs, h10⟩ := L10_ok ns c2 (DL lots) d4 (.dat (.tup [ti (up th), trD lots mm])) (.dat (ti (up th))) (.dat (trD lots mm)) c9 d10 c11 c12 c13 G (J ++ J1) k2
  have h11 := L11_ok ns (ST ns k3 (J ++ J1)) c2 d4 (DG (goodM lots rows)) (.dat (.tup [ti (up th), trD lots mm])) d10 c11 c12 c13 ok F G hs
  have h12 := L12_ok' ns (ST ns k3 (J ++ J1)) c2 d4 (DG (goodM lots rows)) (.dat (.tup [ti (up th), trD lots mm])) (.dat (ti (up th))) (.dat (trD lots mm)) (.dat (ti sm)) d10 c11 c12 c13 ok
  have h13 := L13_ok (lots := lots) ns (ST ns k3 (J ++ J1)) c2 d4 (DG (goodM lots rows)) (.dat (.tup [ti (up th), trD lots mm])) (.dat (ti (up th))) (.dat (trD lots mm)) (.dat (ti sm)) d10 c11 c12 c13 (by
    simp only [List.all_cons, List.all_nil, Bool.and_true, p2, q4, q10, p12, p13]
    rfl)
  refine ⟨k3, J ++ J1, DL lots, d4, DG (goodM lots rows), .dat (.tup [ti (up th), trD lots mm]), .dat (ti (up th)), .dat (trD lots mm), .dat (ti sm), d10, .em, ?_, ?_⟩
  · unfold AllP
    simp only [List.all_cons, List.all_nil, Bool.and_true, p2, q4, q10, p12, p13]
    rfl
  · unfold lbody
    rw [hA, seq_go h4, seq_go h5, seq_go h6, seq_go h7, seq_go h8, seq_go h9, seq_go h10, seq_go h11, seq_go h12, h13]
theorem turns_ok (ns : List Int) : ∀ (xs : List D) (J : Store) (k : Int) (c2 c3 c4 c5 c6 c7 c8 c9 c10 c11 c12 c13 : Cell), AllP c2 c3 c4 c5 c6 c7 c8 c9 c10 c11 c12 c13 → ∃ e' m', forL CC (.nm 2) lbody xs (E ns c2 c3 c4 c5 c6 c7 c8 c9 c10 c11 c12 c13) (ST ns k J) = .nx e' m'
  | [], J, k, c2, c3, c4, c5, c6, c7, c8, c9, c10, c11, c12, c13, _ => ⟨_, _, by unfold forL; rfl⟩
  | x :: xs, J, k, c2, c3, c4, c5, c6, c7, c8, c9, c10, c11, c12, c13, hp => by
    have hp' : AllP (.dat x) c3 c4 c5 c6 c7 c8 c9 c10 c11 c12 c13 := by
      unfold AllP at hp ⊢
      simp only [List.all_cons, List.all_nil, Bool.and_true, Bool.and_eq_true] at hp ⊢
      exact ⟨rfl, hp.2⟩
    obtain ⟨k', J', d3, d4, d5, d6, d7, d8, d9, d10, d11, hd, h⟩ := turn_ok ns J k (.dat x) c3 c4 c5 c6 c7 c8 c9 c10 c11 c12 c13 hp'
    obtain ⟨e', m', ih⟩ := turns_ok ns xs J' k' (.dat x) d3 d4 d5 d6 d7 d8 d9 d10 d11 c12 c13 hd
    refine ⟨e', m', ?_⟩
    have s0 : forL CC (.nm 2) lbody (x :: xs) (E ns c2 c3 c4 c5 c6 c7 c8 c9 c10 c11 c12 c13) (ST ns k J) = match lbody CC (E ns (.dat x) c3 c4 c5 c6 c7 c8 c9 c10 c11 c12 c13) (ST ns k J) with
      | .nx e2 m2 => forL CC (.nm 2) lbody xs e2 m2
      | .ct e2 m2 => forL CC (.nm 2) lbody xs e2 m2
      | .brk e2 m2 => .nx e2 m2
      | r => r := rfl
    rw [s0, h]
    exact ih
theorem mirror (ns : List Int) (hl : ns.length ≤ 63) : ∃ m', run tab 13 0 [.frz (ns.map D.int)] [] = .ok (.bl true) m' := by
  obtain ⟨e', m', h⟩ := turns_ok ns (rng 0 3) [] 0 .em .em .em .em .em .em .em .em .em .em .em .em rfl
  refine ⟨m', ?_⟩
  have esc : (D.frz (ns.map D.int)) = sc ns := rfl
  rw [esc, t0, law_is]
  have e0 : ownS 1 (bltF lstG (consA (varE 0) (consA (conE (.int 0)) nilA))) CC [.dat (sc ns), .em, .em, .em, .em, .em, .em, .em, .em, .em, .em, .em, .em, .em] [] = .nx [.dat (sc ns), .own (.lst [sc ns, .int 0]), .em, .em, .em, .em, .em, .em, .em, .em, .em, .em, .em, .em] [] := by
    simp [short]
  have e1 : stoS 1 CC [.dat (sc ns), .own (.lst [sc ns, .int 0]), .em, .em, .em, .em, .em, .em, .em, .em, .em, .em, .em, .em] [] = .nx (E ns .em .em .em .em .em .em .em .em .em .em .em .em) (ST ns 0 []) := rfl
  have hr : rng1 [.int 3] = some (rng 0 3) := rng1_ok 3 (by omega)
  have e2 : forS (argI rng1 (consA (conE (.int 3)) nilA)) (.nm 2) lbody CC (E ns .em .em .em .em .em .em .em .em .em .em .em .em) (ST ns 0 []) = .nx e' m' := by
    simp only [forS, argI, consA, conE, nilA, R.bind_ok, hr, R.of_some, liftS_ok]
    exact h
  have h : seqS (ownS 1 (bltF lstG (consA (varE 0) (consA (conE (.int 0)) nilA)))) (seqS (stoS 1) (seqS (forS (argI rng1 (consA (conE (.int 3)) nilA)) (.nm 2) lbody) (retS (conE (.bl true))))) CC [.dat (sc ns), .em, .em, .em, .em, .em, .em, .em, .em, .em, .em, .em, .em, .em] [] = .ret (.bl true) m' := by
    rw [seq_go e0, seq_go e1, seq_go e2]
    rfl
  rw [h]
  rfl
end Dn.K55
namespace Dn.K55
open PySem L2
/-! The derivations (printed by pr.py). -/
def top (i : Nat) : Stmt := PySem.Challenge.pw_twicedated_k55_whole_meeting.main.body.getD i (.Pass ⟨0, 0, 0, 0⟩)
abbrev s_law : Stmt := top 27
abbrev n_law : List Str := ["_law_script", "_law_draw", "_law_turn", "_law_lots", "_law_again", "_law_good", "_law_found", "_law_things", "_law_tree", "_law_some", "_law_bent_here", "_law_many", "_law_row", "_law_lap"]
abbrev p_law : List Str := ["_law_script"]
abbrev s_law_take : Stmt := top 14
abbrev n_law_take : List Str := ["_law_draw", "_law_many"]
abbrev p_law_take : List Str := ["_law_draw", "_law_many"]
abbrev s_law_rows : Stmt := top 23
abbrev n_law_rows : List Str := ["_law_many", "_law_found", "_law_number_here", "_law_row"]
abbrev p_law_rows : List Str := ["_law_many"]
abbrev s_law_meets : Stmt := top 24
abbrev n_law_meets : List Str := ["_law_lots", "_law_things", "_law_lot", "_law_thing"]
abbrev p_law_meets : List Str := ["_law_lots", "_law_things"]
abbrev s_fewest_meeting : Stmt := top 9
abbrev n_fewest_meeting : List Str := ["lots", "most", "many", "found", "lot"]
abbrev p_fewest_meeting : List Str := ["lots", "most"]
abbrev s_is_fewest_meeting : Stmt := top 11
abbrev n_is_fewest_meeting : List Str := ["lots", "things", "tree", "at", "thing"]
abbrev p_is_fewest_meeting : List Str := ["lots", "things", "tree"]
abbrev s_law_bent : Stmt := top 25
abbrev n_law_bent : List Str := ["_law_draw", "_law_tree", "_law_kind", "_law_at", "_law_thing", "_law_late", "_law_part"]
abbrev p_law_bent : List Str := ["_law_draw", "_law_tree"]
abbrev s_law_is_tree : Stmt := top 26
abbrev n_law_is_tree : List Str := ["_law_lots", "_law_things", "_law_many", "_law_tree", "_law_lot", "_law_thing", "_law_late"]
abbrev p_law_is_tree : List Str := ["_law_lots", "_law_things", "_law_many", "_law_tree"]
abbrev s_law_pick : Stmt := top 15
abbrev n_law_pick : List Str := ["_law_draw", "_law_items"]
abbrev p_law_pick : List Str := ["_law_draw", "_law_items"]
abbrev s_law_number : Stmt := top 13
abbrev n_law_number : List Str := ["_law_script", "_law_index", "_law_cell", "_law_blend"]
abbrev p_law_number : List Str := ["_law_script", "_law_index"]
abbrev s_check_most : Stmt := top 3
abbrev n_check_most : List Str := ["most"]
abbrev p_check_most : List Str := ["most"]
abbrev s_Walk_met : Stmt := inClass (top 8) 1
abbrev n_Walk_met : List Str := ["self", "things", "many", "number", "thing", "found"]
abbrev p_Walk_met : List Str := ["self", "things", "many"]
abbrev s_Walk__init__b : Stmt := inClass (top 8) 0
abbrev n_Walk__init__b : List Str := ["self", "lots", "most"]
abbrev p_Walk__init__b : List Str := ["self", "lots", "most"]
abbrev s_Walk_tree : Stmt := inClass (top 8) 2
abbrev n_Walk_tree : List Str := ["self", "things", "many", "number", "lot", "thing"]
abbrev p_Walk_tree : List Str := ["self", "things", "many"]
abbrev s_unmet : Stmt := top 7
abbrev n_unmet : List Str := ["lots", "things", "number", "lot", "thing"]
abbrev p_unmet : List Str := ["lots", "things"]
abbrev s_shows_tree : Stmt := top 10
abbrev n_shows_tree : List Str := ["lots", "things", "many", "tree", "lot", "told", "branch", "thing", "late"]
abbrev p_shows_tree : List Str := ["lots", "things", "many", "tree"]
abbrev s_is_whole : Stmt := top 5
abbrev n_is_whole : List Str := ["thing", "low", "high"]
abbrev p_is_whole : List Str := ["thing", "low", "high"]
def Xs (e_TooMany e_Walk : Addr) : Nat → Option (Addr × List Str) := fun i => ([(e_TooMany, (["most"] : List Str))] : List (Addr × List Str))[i]?
theorem x_look_TooMany_0 (vs : List V) (h : vs.length = (["most"] : List Str).length) : ((["most"] : List Str).zip vs).lookup ("most" : Str) = vs[0]? := by
  match vs, h with
  | [_], _ => rfl
/-- what the top has made -/
structure Nms (K : PySem.W.Frag) (mg : Str → Option Value) : Prop where
  b_abs : mg "abs" = none
  b_all : mg "all" = none
  b_any : mg "any" = none
  b_bool : mg "bool" = none
  b_enumerate : mg "enumerate" = none
  b_int : mg "int" = none
  b_isinstance : mg "isinstance" = none
  b_len : mg "len" = none
  b_range : mg "range" = none
  b_set : mg "set" = none
  b_sorted : mg "sorted" = none
  b_tuple : mg "tuple" = none
  yes : True
structure Txt (P : Program) (w : World) (K : PySem.W.Frag) (mg : Str → Option Value) (base : Heap) (n : Nat) (e_TooMany e_Walk : Addr) : Prop extends Nms K mg where
  f_law : Fnc P w K mg base ⟨K, run tab n, Xs e_TooMany e_Walk, none⟩ n 0 1 "law"
  f_law_take : Fnc P w K mg base ⟨K, run tab n, Xs e_TooMany e_Walk, none⟩ n 1 2 "_law_take"
  f_law_rows : Fnc P w K mg base ⟨K, run tab n, Xs e_TooMany e_Walk, none⟩ n 2 1 "_law_rows"
  f_law_meets : Fnc P w K mg base ⟨K, run tab n, Xs e_TooMany e_Walk, none⟩ n 3 2 "_law_meets"
  f_fewest_meeting : Fnc P w K mg base ⟨K, run tab n, Xs e_TooMany e_Walk, none⟩ n 4 2 "fewest_meeting"
  f_is_fewest_meeting : Fnc P w K mg base ⟨K, run tab n, Xs e_TooMany e_Walk, none⟩ n 5 3 "is_fewest_meeting"
  f_law_bent : Fnc P w K mg base ⟨K, run tab n, Xs e_TooMany e_Walk, none⟩ n 6 2 "_law_bent"
  f_law_is_tree : Fnc P w K mg base ⟨K, run tab n, Xs e_TooMany e_Walk, none⟩ n 7 4 "_law_is_tree"
  f_law_pick : Fnc P w K mg base ⟨K, run tab n, Xs e_TooMany e_Walk, none⟩ n 8 2 "_law_pick"
  f_law_number : Fnc P w K mg base ⟨K, run tab n, Xs e_TooMany e_Walk, none⟩ n 9 2 "_law_number"
  f_check_most : Fnc P w K mg base ⟨K, run tab n, Xs e_TooMany e_Walk, none⟩ n 10 1 "check_most"
  f_Walk_met : Mth P w K mg base ⟨K, run tab n, Xs e_TooMany e_Walk, none⟩ n 11 3 e_Walk "met"
  f_Walk__init : Ini P w K mg base ⟨K, run tab n, Xs e_TooMany e_Walk, none⟩ n 12 3 e_Walk
  f_Walk__init__b : IniB P w K mg base ⟨K, run tab n, Xs e_TooMany e_Walk, none⟩ n 13 3 e_Walk
  f_Walk_tree : Mth P w K mg base ⟨K, run tab n, Xs e_TooMany e_Walk, none⟩ n 14 3 e_Walk "tree"
  f_unmet : Fnc P w K mg base ⟨K, run tab n, Xs e_TooMany e_Walk, none⟩ n 15 2 "unmet"
  f_shows_tree : Fnc P w K mg base ⟨K, run tab n, Xs e_TooMany e_Walk, none⟩ n 16 4 "shows_tree"
  f_is_whole : Fnc P w K mg base ⟨K, run tab n, Xs e_TooMany e_Walk, none⟩ n 17 3 "is_whole"
  m_TooMany : mg "TooMany" = some (.ref e_TooMany)
  X_TooMany : Xs e_TooMany e_Walk 0 = some (e_TooMany, (["most"] : List Str))
  exm_TooMany : ∀ c C ns, Xs e_TooMany e_Walk c = some (C, ns) → PySem.W.exmOne K (.ref C) (.ref e_TooMany) = some (decide (c = 0))
  T_TooMany : XfC K e_TooMany
  no_TooMany_0 : PySem.W.findIn K (.ref e_TooMany) "most" = some none
  mk_TooMany : ∀ {X : Cx} {a : Expr} {es : List Expr} {fs : EvA} {W : WX} {p pos : Pos}, X.prog = P → X.K = K → X.mg = mg → Room n X.A → PA X (a :: es) (semA ⟨K, run tab n, Xs e_TooMany e_Walk, none⟩ W fs) → lenA fs 1 → Gl X "TooMany" → starEach (a :: es) X.env = (false, eval a X.env) :: starEach es X.env → (backTo pos (starEach es X.env)).any (·.1) = false → L2N.PMk X (.Call (.Name "TooMany" p) (a :: es) [] pos) (semX ⟨K, run tab n, Xs e_TooMany e_Walk, none⟩ W 0 fs)
  c_Walk : ClsT K mg "Walk" e_Walk
  nf_Walk_looked : NoAttr K e_Walk "looked"
  nf_Walk_most : NoAttr K e_Walk "most"
  nf_Walk_lots : NoAttr K e_Walk "lots"
theorem sc_law : FnScope n_law p_law (defScope s_law) := ⟨rfl, rfl, rfl, by decide +kernel, rfl, by decide +kernel, by decide +kernel⟩
theorem sc_law_take : FnScope n_law_take p_law_take (defScope s_law_take) := ⟨rfl, rfl, rfl, by decide +kernel, rfl, by decide +kernel, by decide +kernel⟩
theorem sc_law_rows : FnScope n_law_rows p_law_rows (defScope s_law_rows) := ⟨rfl, rfl, rfl, by decide +kernel, rfl, by decide +kernel, by decide +kernel⟩
theorem sc_law_meets : FnScope n_law_meets p_law_meets (defScope s_law_meets) := ⟨rfl, rfl, rfl, by decide +kernel, rfl, by decide +kernel, by decide +kernel⟩
theorem sc_fewest_meeting : FnScope n_fewest_meeting p_fewest_meeting (defScope s_fewest_meeting) := ⟨rfl, rfl, rfl, by decide +kernel, rfl, by decide +kernel, by decide +kernel⟩
theorem sc_is_fewest_meeting : FnScope n_is_fewest_meeting p_is_fewest_meeting (defScope s_is_fewest_meeting) := ⟨rfl, rfl, rfl, by decide +kernel, rfl, by decide +kernel, by decide +kernel⟩
theorem sc_law_bent : FnScope n_law_bent p_law_bent (defScope s_law_bent) := ⟨rfl, rfl, rfl, by decide +kernel, rfl, by decide +kernel, by decide +kernel⟩
theorem sc_law_is_tree : FnScope n_law_is_tree p_law_is_tree (defScope s_law_is_tree) := ⟨rfl, rfl, rfl, by decide +kernel, rfl, by decide +kernel, by decide +kernel⟩
theorem sc_law_pick : FnScope n_law_pick p_law_pick (defScope s_law_pick) := ⟨rfl, rfl, rfl, by decide +kernel, rfl, by decide +kernel, by decide +kernel⟩
theorem sc_law_number : FnScope n_law_number p_law_number (defScope s_law_number) := ⟨rfl, rfl, rfl, by decide +kernel, rfl, by decide +kernel, by decide +kernel⟩
theorem sc_check_most : FnScope n_check_most p_check_most (defScope s_check_most) := ⟨rfl, rfl, rfl, by decide +kernel, rfl, by decide +kernel, by decide +kernel⟩
theorem sc_Walk_met : FnScope n_Walk_met p_Walk_met (defScope s_Walk_met) := ⟨rfl, rfl, rfl, by decide +kernel, rfl, by decide +kernel, by decide +kernel⟩
theorem sc_Walk__init__b : FnScope n_Walk__init__b p_Walk__init__b (defScope s_Walk__init__b) := ⟨rfl, rfl, rfl, by decide +kernel, rfl, by decide +kernel, by decide +kernel⟩
theorem sc_Walk_tree : FnScope n_Walk_tree p_Walk_tree (defScope s_Walk_tree) := ⟨rfl, rfl, rfl, by decide +kernel, rfl, by decide +kernel, by decide +kernel⟩
theorem sc_unmet : FnScope n_unmet p_unmet (defScope s_unmet) := ⟨rfl, rfl, rfl, by decide +kernel, rfl, by decide +kernel, by decide +kernel⟩
theorem sc_shows_tree : FnScope n_shows_tree p_shows_tree (defScope s_shows_tree) := ⟨rfl, rfl, rfl, by decide +kernel, rfl, by decide +kernel, by decide +kernel⟩
theorem sc_is_whole : FnScope n_is_whole p_is_whole (defScope s_is_whole) := ⟨rfl, rfl, rfl, by decide +kernel, rfl, by decide +kernel, by decide +kernel⟩
theorem d_law {P : Program} {w : World} {K : PySem.W.Frag} {mg : Str → Option Value} {base : Heap} {n : Nat} {e_TooMany e_Walk : Addr} (TT : Txt P w K mg base n e_TooMany e_Walk) (f : Addr) (cdv : Value) (A : Around) (outer : List PySem.Env) (s : Shared) (H : Hp) (E : XK) (R : Room n (A.deeper (PyProof.Rows.envOfC "law" (defScope s_law) s.heap.objs.size f cdv))) (Sn : Snap) :
    PSs (cxG P w K mg base n_law "law" (defScope s_law) f cdv A outer s H E true []) (defBody s_law) (semS ⟨K, run tab n, Xs e_TooMany e_Walk, none⟩ (fun c d _ H' => E c d H') Sn B_law) :=
  (dss_cons (ds_own (i := 1) sc_law.nd rfl (by first | exact Or.inl rfl | exact Or.inr rfl) (df_lst (da_cons (de_var (i := 0) rfl (by first | exact Or.inl rfl | exact Or.inr (Or.inl rfl) | exact Or.inr (Or.inr rfl))) (da_cons de_int da_nil))) (Or.inl rfl))
  (dss_sto (i := 1) (dss_cons (ds_for passesG rfl (di_rng1 rfl TT.b_range (da_cons de_int da_nil)) (dg_name (i := 2) sc_law.nd rfl (by first | exact Or.inl rfl | exact Or.inr rfl) (by first | exact Or.inl rfl | exact Or.inr rfl)) (fun _ =>
  (dss_cons (ds_own (i := 3) sc_law.nd rfl (by first | exact Or.inl rfl | exact Or.inr rfl) (df_lst da_nil) (Or.inl rfl))
  (dss_cons (ds_for passesG rfl (di_rng1 rfl TT.b_range (da_cons (de_fn TT.f_law_take R takesG rfl (da_cons (de_var (i := 1) rfl (by first | exact Or.inl rfl | exact Or.inr (Or.inl rfl) | exact Or.inr (Or.inr rfl))) (da_cons de_int da_nil)) (lenA_cons (lenA_cons lenA_nil))) da_nil)) (dg_name (i := 4) sc_law.nd rfl (by first | exact Or.inl rfl | exact Or.inr rfl) (by first | exact Or.inl rfl | exact Or.inr rfl)) (fun _ =>
  (dss_one (ds_app (i := 3) rfl rfl (by first | exact Or.inl rfl | exact Or.inr (Or.inl rfl) | exact Or.inr (Or.inr rfl)) (de_bt cb_tuple rfl rfl TT.b_tuple (by decide +kernel) (db_cons (de_sub (de_frz (df_lcV rfl sc_law.nd (⟨rfl, by decide +kernel, by decide +kernel, by decide +kernel, by decide +kernel⟩ : BlkOk n_law (defScope s_law) _ [("_law_lap", 13)]) rfl (di_rng1 rfl TT.b_range (da_cons (de_bin od_addA rfl (de_sub de_int) (de_sub (de_fn TT.f_law_take R takesG rfl (da_cons (de_var (i := 1) rfl (by first | exact Or.inl rfl | exact Or.inr (Or.inl rfl) | exact Or.inr (Or.inr rfl))) (da_cons de_int da_nil)) (lenA_cons (lenA_cons lenA_nil))))) da_nil)) rfl (fun _ _ _ _ _ => (dg_name (i := 13) sc_law.nd rfl (by first | exact Or.inl rfl | exact Or.inr rfl) (by first | exact Or.inl rfl | exact Or.inr rfl))) (fun _ _ _ _ _ => dts_nil) (fun _ _ _ _ _ => (de_fn TT.f_law_take R takes0 rfl (da_cons (de_var (i := 1) rfl (by first | exact Or.inl rfl | exact Or.inr (Or.inl rfl) | exact Or.inr (Or.inr rfl))) (da_cons de_int da_nil)) (lenA_cons (lenA_cons lenA_nil))))))) db_nil))))))
  (dss_frz (i := 3) (dss_cons (ds_setLcV rfl sc_law.nd (i := 5) rfl rfl (by first | rfl | exact sw_true rfl rfl rfl (by decide +kernel)) (⟨rfl, by decide +kernel, by decide +kernel, by decide +kernel, by decide +kernel⟩ : BlkOk n_law (defScope s_law) _ [("_law_row", 12)]) rfl (di_seq rfl (de_fn TT.f_law_rows R takesG rfl (da_cons de_int da_nil) (lenA_cons lenA_nil))) rfl (fun _ _ _ _ _ => (dg_name (i := 12) sc_law.nd rfl (by first | exact Or.inl rfl | exact Or.inr rfl) (by first | exact Or.inl rfl | exact Or.inr rfl))) (fun _ _ _ _ _ => (dts_one (dt_val (de_fn TT.f_law_meets R takes0 rfl (da_cons (de_var (i := 3) rfl (by first | exact Or.inl rfl | exact Or.inr (Or.inl rfl) | exact Or.inr (Or.inr rfl))) (da_cons (de_var (i := 12) rfl (by first | exact Or.inl rfl | exact Or.inr (Or.inl rfl) | exact Or.inr (Or.inr rfl))) da_nil)) (lenA_cons (lenA_cons lenA_nil)))))) (fun _ _ _ _ _ => (de_var (i := 12) rfl (by first | exact Or.inl rfl | exact Or.inr (Or.inl rfl) | exact Or.inr (Or.inr rfl)))))
  (dss_cons (ds_set (i := 6) sc_law.nd rfl (by first | exact Or.inl rfl | exact Or.inr rfl) (de_fn TT.f_fewest_meeting R takesG rfl (da_cons (de_var (i := 3) rfl (by first | exact Or.inl rfl | exact Or.inr (Or.inl rfl) | exact Or.inr (Or.inr rfl))) (da_cons (de_bin od_pow rfl (de_sub de_int) (de_sub de_int)) da_nil)) (lenA_cons (lenA_cons lenA_nil))) (Or.inl rfl))
  (dss_cons (ds_asg (de_var (i := 6) rfl (by first | exact Or.inl rfl | exact Or.inr (Or.inl rfl) | exact Or.inr (Or.inr rfl))) (dg_tup rfl rfl (dgs_cons (dg_name (i := 7) sc_law.nd rfl (by first | exact Or.inl rfl | exact Or.inr rfl) (by first | exact Or.inl rfl | exact Or.inr rfl)) (dgs_cons (dg_name (i := 8) sc_law.nd rfl (by first | exact Or.inl rfl | exact Or.inr rfl) (by first | exact Or.inl rfl | exact Or.inr rfl)) dgs_nil))))
  (dss_cons (ds_if (PW.pt (dw_or (dt_cmp (od_ne (hu65 R)) rfl (de_sub (de_bb cb_len rfl rfl TT.b_len (by decide +kernel) (db_cons (de_brw (i := 7) rfl (by first | exact Or.inl rfl | exact Or.inr (Or.inl rfl) | exact Or.inr (Or.inr rfl))) db_nil))) (de_sub (de_bb cb_len rfl rfl TT.b_len (by decide +kernel) (db_cons (de_sub (de_ix id_ix rfl (de_brw (i := 5) rfl (by first | exact Or.inl rfl | exact Or.inr (Or.inl rfl) | exact Or.inr (Or.inr rfl))) (de_sub de_int) (fun _ _ => rfl))) db_nil))) (nomark _)) (dw_or (dt_not (dt_val (de_fn TT.f_law_meets R takesG rfl (da_cons (de_var (i := 3) rfl (by first | exact Or.inl rfl | exact Or.inr (Or.inl rfl) | exact Or.inr (Or.inr rfl))) (da_cons (de_var (i := 7) rfl (by first | exact Or.inl rfl | exact Or.inr (Or.inl rfl) | exact Or.inr (Or.inr rfl))) da_nil)) (lenA_cons (lenA_cons lenA_nil))))) (dt_or1 (dt_cmp (od_ne (hu65 R)) rfl (de_brw (i := 7) rfl (by first | exact Or.inl rfl | exact Or.inr (Or.inl rfl) | exact Or.inr (Or.inr rfl))) (de_sub (de_bt cb_tuple rfl rfl TT.b_tuple (by decide +kernel) (db_cons (de_sub (de_bb (cb_sort2 (hu65 R)) rfl rfl TT.b_sorted (by decide +kernel) (db_cons (de_brw (i := 7) rfl (by first | exact Or.inl rfl | exact Or.inr (Or.inl rfl) | exact Or.inr (Or.inr rfl))) db_nil))) db_nil))) (nomark _))))))
  (dss_one (ds_ret de_bl))
  dss_nil)
  (dss_cons (ds_if (PW.pt (dw_or (dt_not (dt_val (de_fn TT.f_is_fewest_meeting R takesG rfl (da_cons (de_var (i := 3) rfl (by first | exact Or.inl rfl | exact Or.inr (Or.inl rfl) | exact Or.inr (Or.inr rfl))) (da_cons (de_var (i := 7) rfl (by first | exact Or.inl rfl | exact Or.inr (Or.inl rfl) | exact Or.inr (Or.inr rfl))) (da_cons (de_var (i := 8) rfl (by first | exact Or.inl rfl | exact Or.inr (Or.inl rfl) | exact Or.inr (Or.inr rfl))) da_nil))) (lenA_cons (lenA_cons (lenA_cons lenA_nil)))))) (dt_or1 (dt_cmp (od_ne (hu65 R)) rfl (de_sub (de_cmp od_is rfl (de_brw (i := 8) rfl (by first | exact Or.inl rfl | exact Or.inr (Or.inl rfl) | exact Or.inr (Or.inr rfl))) (de_sub de_non) (nomark _))) (de_sub (de_cmp (od_eq (hu65 R)) rfl (de_brw (i := 7) rfl (by first | exact Or.inl rfl | exact Or.inr (Or.inl rfl) | exact Or.inr (Or.inr rfl))) (de_sub (de_tup da_nil)) (nomark _))) (nomark _)))))
  (dss_one (ds_ret de_bl))
  dss_nil)
  (dss_cons (ds_if (dt_cmp od_isNot rfl (de_brw (i := 8) rfl (by first | exact Or.inl rfl | exact Or.inr (Or.inl rfl) | exact Or.inr (Or.inr rfl))) (de_sub de_non) (nomark _))
  (dss_cons (ds_set (i := 10) sc_law.nd rfl (by first | exact Or.inl rfl | exact Or.inr rfl) (de_fn TT.f_law_bent R takesG rfl (da_cons (de_var (i := 1) rfl (by first | exact Or.inl rfl | exact Or.inr (Or.inl rfl) | exact Or.inr (Or.inr rfl))) (da_cons (de_var (i := 8) rfl (by first | exact Or.inl rfl | exact Or.inr (Or.inl rfl) | exact Or.inr (Or.inr rfl))) da_nil)) (lenA_cons (lenA_cons lenA_nil))) (Or.inl rfl))
  (dss_cons (ds_if (dt_cmp (od_ne (hu65 R)) rfl (de_sub (de_fn TT.f_is_fewest_meeting R takesG rfl (da_cons (de_var (i := 3) rfl (by first | exact Or.inl rfl | exact Or.inr (Or.inl rfl) | exact Or.inr (Or.inr rfl))) (da_cons (de_var (i := 7) rfl (by first | exact Or.inl rfl | exact Or.inr (Or.inl rfl) | exact Or.inr (Or.inr rfl))) (da_cons (de_var (i := 10) rfl (by first | exact Or.inl rfl | exact Or.inr (Or.inl rfl) | exact Or.inr (Or.inr rfl))) da_nil))) (lenA_cons (lenA_cons (lenA_cons lenA_nil))))) (de_sub (de_fn TT.f_law_is_tree R takesG rfl (da_cons (de_var (i := 3) rfl (by first | exact Or.inl rfl | exact Or.inr (Or.inl rfl) | exact Or.inr (Or.inr rfl))) (da_cons (de_tup da_nil) (da_cons (de_bin od_sub rfl (de_sub (de_bb cb_len rfl rfl TT.b_len (by decide +kernel) (db_cons (de_brw (i := 7) rfl (by first | exact Or.inl rfl | exact Or.inr (Or.inl rfl) | exact Or.inr (Or.inr rfl))) db_nil))) (de_sub de_int)) (da_cons (de_var (i := 10) rfl (by first | exact Or.inl rfl | exact Or.inr (Or.inl rfl) | exact Or.inr (Or.inr rfl))) da_nil)))) (lenA_cons (lenA_cons (lenA_cons (lenA_cons lenA_nil)))))) (nomark _))
  (dss_one (ds_ret de_bl))
  dss_nil)
  (dss_one (ds_if (PW.pt (dw_or (dt_val (de_fn TT.f_is_fewest_meeting R takesG rfl (da_cons (de_var (i := 3) rfl (by first | exact Or.inl rfl | exact Or.inr (Or.inl rfl) | exact Or.inr (Or.inr rfl))) (da_cons (de_var (i := 7) rfl (by first | exact Or.inl rfl | exact Or.inr (Or.inl rfl) | exact Or.inr (Or.inr rfl))) (da_cons de_non da_nil))) (lenA_cons (lenA_cons (lenA_cons lenA_nil))))) (dw_or (dt_val (de_fn TT.f_is_fewest_meeting R takesG rfl (da_cons (de_var (i := 3) rfl (by first | exact Or.inl rfl | exact Or.inr (Or.inl rfl) | exact Or.inr (Or.inr rfl))) (da_cons (de_slA rfl (de_brw (i := 7) rfl (by first | exact Or.inl rfl | exact Or.inr (Or.inl rfl) | exact Or.inr (Or.inr rfl))) (do_some de_int) do_none) (da_cons (de_var (i := 8) rfl (by first | exact Or.inl rfl | exact Or.inr (Or.inl rfl) | exact Or.inr (Or.inr rfl))) da_nil))) (lenA_cons (lenA_cons (lenA_cons lenA_nil))))) (dt_or1 (dt_val (de_fn TT.f_is_fewest_meeting R takesG rfl (da_cons (de_var (i := 3) rfl (by first | exact Or.inl rfl | exact Or.inr (Or.inl rfl) | exact Or.inr (Or.inr rfl))) (da_cons (de_bin od_addA rfl (de_brw (i := 7) rfl (by first | exact Or.inl rfl | exact Or.inr (Or.inl rfl) | exact Or.inr (Or.inr rfl))) (de_sub (de_tup (da_cons de_int da_nil)))) (da_cons (de_var (i := 8) rfl (by first | exact Or.inl rfl | exact Or.inr (Or.inl rfl) | exact Or.inr (Or.inr rfl))) da_nil))) (lenA_cons (lenA_cons (lenA_cons lenA_nil)))))))))
  (dss_one (ds_ret de_bl))
  dss_nil))))
  dss_nil)
  (dss_cons (ds_set (i := 9) sc_law.nd rfl (by first | exact Or.inl rfl | exact Or.inr rfl) (de_fn TT.f_law_pick R takesG rfl (da_cons (de_var (i := 1) rfl (by first | exact Or.inl rfl | exact Or.inr (Or.inl rfl) | exact Or.inr (Or.inr rfl))) (da_cons (de_var (i := 5) rfl (by first | exact Or.inl rfl | exact Or.inr (Or.inl rfl) | exact Or.inr (Or.inr rfl))) da_nil)) (lenA_cons (lenA_cons lenA_nil))) (Or.inl rfl))
  (dss_cons (ds_if (dt_cmp (od_ne (hu65 R)) rfl (de_sub (de_fn TT.f_is_fewest_meeting R takesG rfl (da_cons (de_var (i := 3) rfl (by first | exact Or.inl rfl | exact Or.inr (Or.inl rfl) | exact Or.inr (Or.inr rfl))) (da_cons (de_var (i := 9) rfl (by first | exact Or.inl rfl | exact Or.inr (Or.inl rfl) | exact Or.inr (Or.inr rfl))) (da_cons (de_var (i := 8) rfl (by first | exact Or.inl rfl | exact Or.inr (Or.inl rfl) | exact Or.inr (Or.inr rfl))) da_nil))) (lenA_cons (lenA_cons (lenA_cons lenA_nil))))) (de_sub (de_cmp (od_eq (hu65 R)) rfl (de_sub (de_bb cb_len rfl rfl TT.b_len (by decide +kernel) (db_cons (de_brw (i := 9) rfl (by first | exact Or.inl rfl | exact Or.inr (Or.inl rfl) | exact Or.inr (Or.inr rfl))) db_nil))) (de_sub (de_bb cb_len rfl rfl TT.b_len (by decide +kernel) (db_cons (de_brw (i := 7) rfl (by first | exact Or.inl rfl | exact Or.inr (Or.inl rfl) | exact Or.inr (Or.inr rfl))) db_nil))) (nomark _))) (nomark _))
  (dss_one (ds_ret de_bl))
  dss_nil)
  (dss_cons (ds_if (dt_cmp od_isNot rfl (de_sub (de_fn TT.f_fewest_meeting R takesG rfl (da_cons (de_bin od_addA rfl (de_brw (i := 3) rfl (by first | exact Or.inl rfl | exact Or.inr (Or.inl rfl) | exact Or.inr (Or.inr rfl))) (de_sub (de_frz (df_lst (da_cons (de_tup da_nil) da_nil))))) (da_cons (de_bin od_pow rfl (de_sub de_int) (de_sub de_int)) da_nil)) (lenA_cons (lenA_cons lenA_nil)))) (de_sub de_non) (nomark _))
  (dss_one (ds_ret de_bl))
  dss_nil)
  (dss_one (ds_try (i := 11) rfl rfl sc_law.nd rfl rfl ⟨rfl, by decide, Or.inl TT.m_TooMany⟩ takesG rfl rfl TT.X_TooMany TT.exm_TooMany (fun W0_ E_ pn xe tk po =>
  (dss_cons (ds_expr (de_fn TT.f_fewest_meeting R tk rfl (da_cons (de_var (i := 3) rfl (by first | exact Or.inl rfl | exact Or.inr (Or.inl rfl) | exact Or.inr (Or.inr rfl))) (da_cons de_int da_nil)) (lenA_cons (lenA_cons lenA_nil))))
  (dss_one (ds_ret de_bl)))) (fun E_ a d oe pn hz ho =>
  have RH : L2H.RoomH n _ := roomS R (h := some (.ref a))
  (dss_one (ds_if (dt_cmp (od_ne (hu65H RH)) rfl (de_sub (de_xf TT.T_TooMany TT.no_TooMany_0 hz ho rfl (by first | exact Or.inl rfl | exact Or.inr (Or.inl rfl) | exact Or.inr (Or.inr rfl)) (x_look_TooMany_0) rfl)) (de_sub de_int) (nomark _))
  (dss_one (ds_ret de_bl))
  dss_nil)))))))))))))))))))
  (dss_one (ds_ret de_bl)))))
theorem d_law_take {P : Program} {w : World} {K : PySem.W.Frag} {mg : Str → Option Value} {base : Heap} {n : Nat} {e_TooMany e_Walk : Addr} (TT : Txt P w K mg base n e_TooMany e_Walk) (f : Addr) (cdv : Value) (A : Around) (outer : List PySem.Env) (s : Shared) (H : Hp) (E : XK) (R : Room n (A.deeper (PyProof.Rows.envOfC "_law_take" (defScope s_law_take) s.heap.objs.size f cdv))) (Sn : Snap) :
    PSs (cxG P w K mg base n_law_take "_law_take" (defScope s_law_take) f cdv A outer s H E true []) (defBody s_law_take) (semS ⟨K, run tab n, Xs e_TooMany e_Walk, none⟩ (fun c d _ H' => E c d H') Sn B_law_take) :=
  (dss_cons (ds_stoAug oi_add rfl (de_var (i := 0) rfl (by first | exact Or.inl rfl | exact Or.inr (Or.inl rfl) | exact Or.inr (Or.inr rfl))) de_int de_int)
  (dss_one (ds_ret (de_bin od_mod rfl (de_sub (de_bt cb_int rfl rfl TT.b_int (by decide +kernel) (db_cons (de_sub (de_fn TT.f_law_number R takesG rfl (da_cons (de_ix id_ix rfl (de_brw (i := 0) rfl (by first | exact Or.inl rfl | exact Or.inr (Or.inl rfl) | exact Or.inr (Or.inr rfl))) (de_sub de_int) (fun _ _ => rfl)) (da_cons (de_bt cb_int rfl rfl TT.b_int (by decide +kernel) (db_cons (de_sub (de_ix id_ix rfl (de_brw (i := 0) rfl (by first | exact Or.inl rfl | exact Or.inr (Or.inl rfl) | exact Or.inr (Or.inr rfl))) (de_sub de_int) (fun _ _ => rfl))) db_nil)) da_nil)) (lenA_cons (lenA_cons lenA_nil)))) db_nil))) (de_brw (i := 1) rfl (by first | exact Or.inl rfl | exact Or.inr (Or.inl rfl) | exact Or.inr (Or.inr rfl)))))))
theorem d_law_rows {P : Program} {w : World} {K : PySem.W.Frag} {mg : Str → Option Value} {base : Heap} {n : Nat} {e_TooMany e_Walk : Addr} (TT : Txt P w K mg base n e_TooMany e_Walk) (f : Addr) (cdv : Value) (A : Around) (outer : List PySem.Env) (s : Shared) (H : Hp) (E : XK) (R : Room n (A.deeper (PyProof.Rows.envOfC "_law_rows" (defScope s_law_rows) s.heap.objs.size f cdv))) (Sn : Snap) :
    PSs (cxG P w K mg base n_law_rows "_law_rows" (defScope s_law_rows) f cdv A outer s H E true []) (defBody s_law_rows) (semS ⟨K, run tab n, Xs e_TooMany e_Walk, none⟩ (fun c d _ H' => E c d H') Sn B_law_rows) :=
  (dss_cons (ds_own (i := 1) sc_law_rows.nd rfl (by first | exact Or.inl rfl | exact Or.inr rfl) (df_lst (da_cons (de_tup da_nil) da_nil)) (Or.inl rfl))
  (dss_cons (ds_for passesG rfl (di_rng1 rfl TT.b_range (da_cons (de_var (i := 0) rfl (by first | exact Or.inl rfl | exact Or.inr (Or.inl rfl) | exact Or.inr (Or.inr rfl))) da_nil)) (dg_name (i := 2) sc_law_rows.nd rfl (by first | exact Or.inl rfl | exact Or.inr rfl) (by first | exact Or.inl rfl | exact Or.inr rfl)) (fun _ =>
  (dss_one (ds_ext (i := 1) sc_law_rows.nd rfl (by first | exact Or.inl rfl | exact Or.inr rfl) (de_frz (df_lc2 rfl sc_law_rows.nd (⟨rfl, by decide +kernel, by decide +kernel, by decide +kernel, by decide +kernel⟩ : BlkOk n_law_rows (defScope s_law_rows) _ [("_law_row", 3)]) rfl (di_own (i := 1) rfl rfl (by first | exact Or.inl rfl | exact Or.inr (Or.inl rfl) | exact Or.inr (Or.inr rfl))) rfl (fun _ _ _ _ _ => (dg_name (i := 3) sc_law_rows.nd rfl (by first | exact Or.inl rfl | exact Or.inr rfl) (by first | exact Or.inl rfl | exact Or.inr rfl))) (fun _ _ _ _ _ => dts_nil) (fun _ _ _ _ _ => (de_bin od_addA rfl (de_brw (i := 3) rfl (by first | exact Or.inl rfl | exact Or.inr (Or.inl rfl) | exact Or.inr (Or.inr rfl))) (de_sub (de_tup (da_cons (de_var (i := 2) rfl (by first | exact Or.inl rfl | exact Or.inr (Or.inl rfl) | exact Or.inr (Or.inr rfl))) da_nil))))))) (Or.inl rfl)))))
  (dss_one (ds_ret (de_frz (df_sortLen (hu65 R) rfl rfl TT.b_sorted rfl TT.b_len (by decide +kernel) (by decide +kernel) (de_bb (cb_sort2 (hu65 R)) rfl rfl TT.b_sorted (by decide +kernel) (db_cons (de_brw (i := 1) rfl (by first | exact Or.inl rfl | exact Or.inr (Or.inl rfl) | exact Or.inr (Or.inr rfl))) db_nil))))))))
theorem d_law_meets {P : Program} {w : World} {K : PySem.W.Frag} {mg : Str → Option Value} {base : Heap} {n : Nat} {e_TooMany e_Walk : Addr} (TT : Txt P w K mg base n e_TooMany e_Walk) (f : Addr) (cdv : Value) (A : Around) (outer : List PySem.Env) (s : Shared) (H : Hp) (E : XK) (R : Room n (A.deeper (PyProof.Rows.envOfC "_law_meets" (defScope s_law_meets) s.heap.objs.size f cdv))) (Sn : Snap) :
    PSs (cxG P w K mg base n_law_meets "_law_meets" (defScope s_law_meets) f cdv A outer s H E true []) (defBody s_law_meets) (semS ⟨K, run tab n, Xs e_TooMany e_Walk, none⟩ (fun c d _ H' => E c d H') Sn B_law_meets) :=
  (dss_one (ds_ret (de_bb (cb_all rfl) rfl rfl TT.b_all (by decide +kernel) (db_cons (de_sub (de_frz (df_lcV rfl sc_law_meets.nd (⟨rfl, by decide +kernel, by decide +kernel, by decide +kernel, by decide +kernel⟩ : BlkOk n_law_meets (defScope s_law_meets) _ [("_law_lot", 2)]) rfl (di_seq rfl (de_var (i := 0) rfl (by first | exact Or.inl rfl | exact Or.inr (Or.inl rfl) | exact Or.inr (Or.inr rfl)))) rfl (fun _ _ _ _ _ => (dg_name (i := 2) sc_law_meets.nd rfl (by first | exact Or.inl rfl | exact Or.inr rfl) (by first | exact Or.inl rfl | exact Or.inr rfl))) (fun _ _ _ _ _ => dts_nil) (fun _ _ _ _ _ => (de_bb (cb_any rfl) rfl rfl TT.b_any (by decide +kernel) (db_cons (de_sub (de_frz (df_lcV rfl sc_law_meets.nd (blkOk_by (by kernel_rfl) : BlkOk n_law_meets _ _ [("_law_thing", 3)]) rfl (di_seq rfl (de_var (i := 2) rfl (by first | exact Or.inl rfl | exact Or.inr (Or.inl rfl) | exact Or.inr (Or.inr rfl)))) rfl (fun _ _ _ _ _ => (dg_name (i := 3) sc_law_meets.nd rfl (by first | exact Or.inl rfl | exact Or.inr rfl) (by first | exact Or.inl rfl | exact Or.inr rfl))) (fun _ _ _ _ _ => dts_nil) (fun _ _ _ _ _ => (de_cmp (od_in (hu65 R)) rfl (de_brw (i := 3) rfl (by first | exact Or.inl rfl | exact Or.inr (Or.inl rfl) | exact Or.inr (Or.inr rfl))) (de_brw (i := 1) rfl (by first | exact Or.inl rfl | exact Or.inr (Or.inl rfl) | exact Or.inr (Or.inr rfl))) (by with_unfolding_all rfl)))))) db_nil)))))) db_nil))))
theorem d_fewest_meeting {P : Program} {w : World} {K : PySem.W.Frag} {mg : Str → Option Value} {base : Heap} {n : Nat} {e_TooMany e_Walk : Addr} (TT : Txt P w K mg base n e_TooMany e_Walk) (f : Addr) (cdv : Value) (A : Around) (outer : List PySem.Env) (s : Shared) (H : Hp) (E : XK) (R : Room n (A.deeper (PyProof.Rows.envOfC "fewest_meeting" (defScope s_fewest_meeting) s.heap.objs.size f cdv))) (Sn : Snap) :
    PSs (cxG P w K mg base n_fewest_meeting "fewest_meeting" (defScope s_fewest_meeting) f cdv A outer s H E true []) (defBody s_fewest_meeting) (semS ⟨K, run tab n, Xs e_TooMany e_Walk, none⟩ (fun c d _ H' => E c d H') Sn B_fewest_meeting) :=
  (dss_cons (ds_expr (de_fn TT.f_check_most R takesG rfl (da_cons (de_var (i := 1) rfl (by first | exact Or.inl rfl | exact Or.inr (Or.inl rfl) | exact Or.inr (Or.inr rfl))) da_nil) (lenA_cons lenA_nil)))
  (dss_cons (ds_if (dt_val (de_bb (cb_any rfl) rfl rfl TT.b_any (by decide +kernel) (db_cons (de_sub (de_frz (df_lcV rfl sc_fewest_meeting.nd (⟨rfl, by decide +kernel, by decide +kernel, by decide +kernel, by decide +kernel⟩ : BlkOk n_fewest_meeting (defScope s_fewest_meeting) _ [("lot", 4)]) rfl (di_seq rfl (de_var (i := 0) rfl (by first | exact Or.inl rfl | exact Or.inr (Or.inl rfl) | exact Or.inr (Or.inr rfl)))) rfl (fun _ _ _ _ _ => (dg_name (i := 4) sc_fewest_meeting.nd rfl (by first | exact Or.inl rfl | exact Or.inr rfl) (by first | exact Or.inl rfl | exact Or.inr rfl))) (fun _ _ _ _ _ => dts_nil) (fun _ _ _ _ _ => (de_cmp (od_eq (hu65 R)) rfl (de_sub (de_bb cb_len rfl rfl TT.b_len (by decide +kernel) (db_cons (de_brw (i := 4) rfl (by first | exact Or.inl rfl | exact Or.inr (Or.inl rfl) | exact Or.inr (Or.inr rfl))) db_nil))) (de_sub de_int) (nomark _)))))) db_nil)))
  (dss_one (ds_ret de_non))
  dss_nil)
  (dss_cons (ds_set (i := 2) sc_fewest_meeting.nd rfl (by first | exact Or.inl rfl | exact Or.inr rfl) de_int (Or.inl rfl))
  (dss_cons (ds_while passesG (dt_val de_bl)
  (dss_cons (ds_set (i := 3) sc_fewest_meeting.nd rfl (by first | exact Or.inl rfl | exact Or.inr rfl) (de_met TT.c_Walk TT.f_Walk_met R takesG rfl (de_new TT.c_Walk TT.f_Walk__init R takesG rfl rfl (da_cons (de_var (i := 0) rfl (by first | exact Or.inl rfl | exact Or.inr (Or.inl rfl) | exact Or.inr (Or.inr rfl))) (da_cons (de_var (i := 1) rfl (by first | exact Or.inl rfl | exact Or.inr (Or.inl rfl) | exact Or.inr (Or.inr rfl))) da_nil)) (lenA_cons (lenA_cons lenA_nil))) (da_cons (de_tup da_nil) (da_cons (de_var (i := 2) rfl (by first | exact Or.inl rfl | exact Or.inr (Or.inl rfl) | exact Or.inr (Or.inr rfl))) da_nil)) (lenA_cons (lenA_cons lenA_nil))) (Or.inl rfl))
  (dss_cons (ds_if (dt_cmp od_isNot rfl (de_brw (i := 3) rfl (by first | exact Or.inl rfl | exact Or.inr (Or.inl rfl) | exact Or.inr (Or.inr rfl))) (de_sub de_non) (nomark _))
  (dss_one ds_break)
  dss_nil)
  (dss_one (ds_set (i := 2) sc_fewest_meeting.nd rfl (by first | exact Or.inl rfl | exact Or.inr rfl) (de_bin od_addA rfl (de_brw (i := 2) rfl (by first | exact Or.inl rfl | exact Or.inr (Or.inl rfl) | exact Or.inr (Or.inr rfl))) (de_sub de_int)) (Or.inl rfl))))))
  (dss_one (ds_ret (de_tup (da_cons (de_bt cb_tuple rfl rfl TT.b_tuple (by decide +kernel) (db_cons (de_sub (de_bb (cb_sort2 (hu65 R)) rfl rfl TT.b_sorted (by decide +kernel) (db_cons (de_brw (i := 3) rfl (by first | exact Or.inl rfl | exact Or.inr (Or.inl rfl) | exact Or.inr (Or.inr rfl))) db_nil))) db_nil)) (da_cons (de_if (dt_cmp (od_eq (hu65 R)) rfl (de_brw (i := 2) rfl (by first | exact Or.inl rfl | exact Or.inr (Or.inl rfl) | exact Or.inr (Or.inr rfl))) (de_sub de_int) (nomark _)) de_non (de_met TT.c_Walk TT.f_Walk_tree R takesG rfl (de_new TT.c_Walk TT.f_Walk__init R takesG rfl rfl (da_cons (de_var (i := 0) rfl (by first | exact Or.inl rfl | exact Or.inr (Or.inl rfl) | exact Or.inr (Or.inr rfl))) (da_cons (de_var (i := 1) rfl (by first | exact Or.inl rfl | exact Or.inr (Or.inl rfl) | exact Or.inr (Or.inr rfl))) da_nil)) (lenA_cons (lenA_cons lenA_nil))) (da_cons (de_tup da_nil) (da_cons (de_bin od_sub rfl (de_brw (i := 2) rfl (by first | exact Or.inl rfl | exact Or.inr (Or.inl rfl) | exact Or.inr (Or.inr rfl))) (de_sub de_int)) da_nil)) (lenA_cons (lenA_cons lenA_nil)))) da_nil)))))))))
theorem d_is_fewest_meeting {P : Program} {w : World} {K : PySem.W.Frag} {mg : Str → Option Value} {base : Heap} {n : Nat} {e_TooMany e_Walk : Addr} (TT : Txt P w K mg base n e_TooMany e_Walk) (f : Addr) (cdv : Value) (A : Around) (outer : List PySem.Env) (s : Shared) (H : Hp) (E : XK) (R : Room n (A.deeper (PyProof.Rows.envOfC "is_fewest_meeting" (defScope s_is_fewest_meeting) s.heap.objs.size f cdv))) (Sn : Snap) :
    PSs (cxG P w K mg base n_is_fewest_meeting "is_fewest_meeting" (defScope s_is_fewest_meeting) f cdv A outer s H E true []) (defBody s_is_fewest_meeting) (semS ⟨K, run tab n, Xs e_TooMany e_Walk, none⟩ (fun c d _ H' => E c d H') Sn B_is_fewest_meeting) :=
  (dss_cons (ds_if (PW.pt (dw_or (dt_not (dt_val (de_isi rfl rfl TT.b_isinstance rfl TT.b_tuple (by decide +kernel) (de_brw (i := 1) rfl (by first | exact Or.inl rfl | exact Or.inr (Or.inl rfl) | exact Or.inr (Or.inr rfl)))))) (dt_or1 (dt_cmp od_isNot rfl (de_sub (de_fn TT.f_unmet R takesG rfl (da_cons (de_var (i := 0) rfl (by first | exact Or.inl rfl | exact Or.inr (Or.inl rfl) | exact Or.inr (Or.inr rfl))) (da_cons (de_var (i := 1) rfl (by first | exact Or.inl rfl | exact Or.inr (Or.inl rfl) | exact Or.inr (Or.inr rfl))) da_nil)) (lenA_cons (lenA_cons lenA_nil)))) (de_sub de_non) (nomark _)))))
  (dss_one (ds_ret de_bl))
  dss_nil)
  (dss_cons (ds_if (dt_val (de_bb (cb_any rfl) rfl rfl TT.b_any (by decide +kernel) (db_cons (de_sub (de_frz (df_lcV rfl sc_is_fewest_meeting.nd (⟨rfl, by decide +kernel, by decide +kernel, by decide +kernel, by decide +kernel⟩ : BlkOk n_is_fewest_meeting (defScope s_is_fewest_meeting) _ [("at", 3), ("thing", 4)]) rfl (di_enum rfl rfl TT.b_enumerate (da_cons (de_var (i := 1) rfl (by first | exact Or.inl rfl | exact Or.inr (Or.inl rfl) | exact Or.inr (Or.inr rfl))) da_nil)) rfl (fun _ _ _ _ _ => (dg_tup rfl rfl (dgs_cons (dg_name (i := 3) sc_is_fewest_meeting.nd rfl (by first | exact Or.inl rfl | exact Or.inr rfl) (by first | exact Or.inl rfl | exact Or.inr rfl)) (dgs_cons (dg_name (i := 4) sc_is_fewest_meeting.nd rfl (by first | exact Or.inl rfl | exact Or.inr rfl) (by first | exact Or.inl rfl | exact Or.inr rfl)) dgs_nil)))) (fun _ _ _ _ _ => dts_nil) (fun _ _ _ _ _ => (de_cmp (od_in (hu65 R)) rfl (de_brw (i := 4) rfl (by first | exact Or.inl rfl | exact Or.inr (Or.inl rfl) | exact Or.inr (Or.inr rfl))) (de_sub (de_slA rfl (de_brw (i := 1) rfl (by first | exact Or.inl rfl | exact Or.inr (Or.inl rfl) | exact Or.inr (Or.inr rfl))) do_none (do_some (de_var (i := 3) rfl (by first | exact Or.inl rfl | exact Or.inr (Or.inl rfl) | exact Or.inr (Or.inr rfl)))))) (by with_unfolding_all rfl)))))) db_nil)))
  (dss_one (ds_ret de_bl))
  dss_nil)
  (dss_cons (ds_if (dt_cmp (od_eq (hu65 R)) rfl (de_brw (i := 1) rfl (by first | exact Or.inl rfl | exact Or.inr (Or.inl rfl) | exact Or.inr (Or.inr rfl))) (de_sub (de_tup da_nil)) (nomark _))
  (dss_one (ds_ret (de_cmp od_is rfl (de_brw (i := 2) rfl (by first | exact Or.inl rfl | exact Or.inr (Or.inl rfl) | exact Or.inr (Or.inr rfl))) (de_sub de_non) (nomark _))))
  dss_nil)
  (dss_one (ds_ret (de_fn TT.f_shows_tree R takesG rfl (da_cons (de_var (i := 0) rfl (by first | exact Or.inl rfl | exact Or.inr (Or.inl rfl) | exact Or.inr (Or.inr rfl))) (da_cons (de_tup da_nil) (da_cons (de_bin od_sub rfl (de_sub (de_bb cb_len rfl rfl TT.b_len (by decide +kernel) (db_cons (de_brw (i := 1) rfl (by first | exact Or.inl rfl | exact Or.inr (Or.inl rfl) | exact Or.inr (Or.inr rfl))) db_nil))) (de_sub de_int)) (da_cons (de_var (i := 2) rfl (by first | exact Or.inl rfl | exact Or.inr (Or.inl rfl) | exact Or.inr (Or.inr rfl))) da_nil)))) (lenA_cons (lenA_cons (lenA_cons (lenA_cons lenA_nil))))))))))
theorem d_law_bent {P : Program} {w : World} {K : PySem.W.Frag} {mg : Str → Option Value} {base : Heap} {n : Nat} {e_TooMany e_Walk : Addr} (TT : Txt P w K mg base n e_TooMany e_Walk) (f : Addr) (cdv : Value) (A : Around) (outer : List PySem.Env) (s : Shared) (H : Hp) (E : XK) (R : Room n (A.deeper (PyProof.Rows.envOfC "_law_bent" (defScope s_law_bent) s.heap.objs.size f cdv))) (Sn : Snap) :
    PSs (cxG P w K mg base n_law_bent "_law_bent" (defScope s_law_bent) f cdv A outer s H E true []) (defBody s_law_bent) (semS ⟨K, run tab n, Xs e_TooMany e_Walk, none⟩ (fun c d _ H' => E c d H') Sn B_law_bent) :=
  (dss_cons (ds_set (i := 2) sc_law_bent.nd rfl (by first | exact Or.inl rfl | exact Or.inr rfl) (de_fn TT.f_law_take R takesG rfl (da_cons (de_var (i := 0) rfl (by first | exact Or.inl rfl | exact Or.inr (Or.inl rfl) | exact Or.inr (Or.inr rfl))) (da_cons de_int da_nil)) (lenA_cons (lenA_cons lenA_nil))) (Or.inl rfl))
  (dss_cons (ds_if (PW.pt (dw_or (dt_cmp (od_eq (hu65 R)) rfl (de_brw (i := 2) rfl (by first | exact Or.inl rfl | exact Or.inr (Or.inl rfl) | exact Or.inr (Or.inr rfl))) (de_sub de_int) (nomark _)) (dt_or1 (dt_cmp (od_eq (hu65 R)) rfl (de_sub (de_ix id_ix rfl (de_brw (i := 1) rfl (by first | exact Or.inl rfl | exact Or.inr (Or.inl rfl) | exact Or.inr (Or.inr rfl))) (de_sub de_int) (fun _ _ => rfl))) (de_sub (de_tup da_nil)) (nomark _)))))
  (dss_one (ds_ret (de_tup (da_cons (de_bin od_addA rfl (de_sub (de_ix id_ix rfl (de_brw (i := 1) rfl (by first | exact Or.inl rfl | exact Or.inr (Or.inl rfl) | exact Or.inr (Or.inr rfl))) (de_sub de_int) (fun _ _ => rfl))) (de_sub de_int)) (da_cons (de_ix id_ix rfl (de_brw (i := 1) rfl (by first | exact Or.inl rfl | exact Or.inr (Or.inl rfl) | exact Or.inr (Or.inr rfl))) (de_sub de_int) (fun _ _ => rfl)) da_nil)))))
  dss_nil)
  (dss_cons (ds_if (dt_cmp (od_eq (hu65 R)) rfl (de_brw (i := 2) rfl (by first | exact Or.inl rfl | exact Or.inr (Or.inl rfl) | exact Or.inr (Or.inr rfl))) (de_sub de_int) (nomark _))
  (dss_one (ds_ret (de_tup (da_cons (de_ix id_ix rfl (de_brw (i := 1) rfl (by first | exact Or.inl rfl | exact Or.inr (Or.inl rfl) | exact Or.inr (Or.inr rfl))) (de_sub de_int) (fun _ _ => rfl)) (da_cons (de_slA rfl (de_sub (de_ix id_ix rfl (de_brw (i := 1) rfl (by first | exact Or.inl rfl | exact Or.inr (Or.inl rfl) | exact Or.inr (Or.inr rfl))) (de_sub de_int) (fun _ _ => rfl))) (do_some de_int) do_none) da_nil)))))
  dss_nil)
  (dss_cons (ds_set (i := 3) sc_law_bent.nd rfl (by first | exact Or.inl rfl | exact Or.inr rfl) (de_fn TT.f_law_take R takesG rfl (da_cons (de_var (i := 0) rfl (by first | exact Or.inl rfl | exact Or.inr (Or.inl rfl) | exact Or.inr (Or.inr rfl))) (da_cons (de_bb cb_len rfl rfl TT.b_len (by decide +kernel) (db_cons (de_sub (de_ix id_ix rfl (de_brw (i := 1) rfl (by first | exact Or.inl rfl | exact Or.inr (Or.inl rfl) | exact Or.inr (Or.inr rfl))) (de_sub de_int) (fun _ _ => rfl))) db_nil)) da_nil)) (lenA_cons (lenA_cons lenA_nil))) (Or.inl rfl))
  (dss_cons (ds_asg (de_ix id_ix rfl (de_sub (de_ix id_ix rfl (de_brw (i := 1) rfl (by first | exact Or.inl rfl | exact Or.inr (Or.inl rfl) | exact Or.inr (Or.inr rfl))) (de_sub de_int) (fun _ _ => rfl))) (de_brw (i := 3) rfl (by first | exact Or.inl rfl | exact Or.inr (Or.inl rfl) | exact Or.inr (Or.inr rfl))) (fun _ _ => rfl)) (dg_tup rfl rfl (dgs_cons (dg_name (i := 4) sc_law_bent.nd rfl (by first | exact Or.inl rfl | exact Or.inr rfl) (by first | exact Or.inl rfl | exact Or.inr rfl)) (dgs_cons (dg_name (i := 5) sc_law_bent.nd rfl (by first | exact Or.inl rfl | exact Or.inr rfl) (by first | exact Or.inl rfl | exact Or.inr rfl)) dgs_nil))))
  (dss_cons (ds_set (i := 6) sc_law_bent.nd rfl (by first | exact Or.inl rfl | exact Or.inr rfl) (de_if (dt_cmp (od_eq (hu65 R)) rfl (de_brw (i := 2) rfl (by first | exact Or.inl rfl | exact Or.inr (Or.inl rfl) | exact Or.inr (Or.inr rfl))) (de_sub de_int) (nomark _)) (de_tup (da_cons (de_var (i := 4) rfl (by first | exact Or.inl rfl | exact Or.inr (Or.inl rfl) | exact Or.inr (Or.inr rfl))) (da_cons (de_fn TT.f_law_bent R takesG rfl (da_cons (de_var (i := 0) rfl (by first | exact Or.inl rfl | exact Or.inr (Or.inl rfl) | exact Or.inr (Or.inr rfl))) (da_cons (de_var (i := 5) rfl (by first | exact Or.inl rfl | exact Or.inr (Or.inl rfl) | exact Or.inr (Or.inr rfl))) da_nil)) (lenA_cons (lenA_cons lenA_nil))) da_nil))) (de_tup (da_cons (de_bin od_addA rfl (de_brw (i := 4) rfl (by first | exact Or.inl rfl | exact Or.inr (Or.inl rfl) | exact Or.inr (Or.inr rfl))) (de_sub de_int)) (da_cons (de_var (i := 5) rfl (by first | exact Or.inl rfl | exact Or.inr (Or.inl rfl) | exact Or.inr (Or.inr rfl))) da_nil)))) (Or.inl rfl))
  (dss_one (ds_ret (de_tup (da_cons (de_ix id_ix rfl (de_brw (i := 1) rfl (by first | exact Or.inl rfl | exact Or.inr (Or.inl rfl) | exact Or.inr (Or.inr rfl))) (de_sub de_int) (fun _ _ => rfl)) (da_cons (de_bin od_addA rfl (de_sub (de_bin od_addA rfl (de_sub (de_slA rfl (de_sub (de_ix id_ix rfl (de_brw (i := 1) rfl (by first | exact Or.inl rfl | exact Or.inr (Or.inl rfl) | exact Or.inr (Or.inr rfl))) (de_sub de_int) (fun _ _ => rfl))) do_none (do_some (de_var (i := 3) rfl (by first | exact Or.inl rfl | exact Or.inr (Or.inl rfl) | exact Or.inr (Or.inr rfl)))))) (de_sub (de_tup (da_cons (de_var (i := 6) rfl (by first | exact Or.inl rfl | exact Or.inr (Or.inl rfl) | exact Or.inr (Or.inr rfl))) da_nil))))) (de_sub (de_slA rfl (de_sub (de_ix id_ix rfl (de_brw (i := 1) rfl (by first | exact Or.inl rfl | exact Or.inr (Or.inl rfl) | exact Or.inr (Or.inr rfl))) (de_sub de_int) (fun _ _ => rfl))) (do_some (de_bin od_addA rfl (de_brw (i := 3) rfl (by first | exact Or.inl rfl | exact Or.inr (Or.inl rfl) | exact Or.inr (Or.inr rfl))) (de_sub de_int))) do_none))) da_nil)))))))))))
theorem d_law_is_tree {P : Program} {w : World} {K : PySem.W.Frag} {mg : Str → Option Value} {base : Heap} {n : Nat} {e_TooMany e_Walk : Addr} (TT : Txt P w K mg base n e_TooMany e_Walk) (f : Addr) (cdv : Value) (A : Around) (outer : List PySem.Env) (s : Shared) (H : Hp) (E : XK) (R : Room n (A.deeper (PyProof.Rows.envOfC "_law_is_tree" (defScope s_law_is_tree) s.heap.objs.size f cdv))) (Sn : Snap) :
    PSs (cxG P w K mg base n_law_is_tree "_law_is_tree" (defScope s_law_is_tree) f cdv A outer s H E true []) (defBody s_law_is_tree) (semS ⟨K, run tab n, Xs e_TooMany e_Walk, none⟩ (fun c d _ H' => E c d H') Sn B_law_is_tree) :=
  (dss_cons (ds_if (PW.pt (dw_or (dt_not (dt_val (de_isi rfl rfl TT.b_isinstance rfl TT.b_tuple (by decide +kernel) (de_brw (i := 3) rfl (by first | exact Or.inl rfl | exact Or.inr (Or.inl rfl) | exact Or.inr (Or.inr rfl)))))) (dw_or (dt_cmp (od_ne (hu65 R)) rfl (de_sub (de_bb cb_len rfl rfl TT.b_len (by decide +kernel) (db_cons (de_brw (i := 3) rfl (by first | exact Or.inl rfl | exact Or.inr (Or.inl rfl) | exact Or.inr (Or.inr rfl))) db_nil))) (de_sub de_int) (nomark _)) (dt_or1 (dt_not (dt_chain od_le od_lt rfl (de_sub de_int) (de_sub (de_ix id_ix rfl (de_brw (i := 3) rfl (by first | exact Or.inl rfl | exact Or.inr (Or.inl rfl) | exact Or.inr (Or.inr rfl))) (de_sub de_int) (fun _ _ => rfl))) (de_sub (de_bb cb_len rfl rfl TT.b_len (by decide +kernel) (db_cons (de_brw (i := 0) rfl (by first | exact Or.inl rfl | exact Or.inr (Or.inl rfl) | exact Or.inr (Or.inr rfl))) db_nil)))))))))
  (dss_one (ds_ret de_bl))
  dss_nil)
  (dss_cons (ds_set (i := 4) sc_law_is_tree.nd rfl (by first | exact Or.inl rfl | exact Or.inr rfl) (de_ix id_ix rfl (de_brw (i := 0) rfl (by first | exact Or.inl rfl | exact Or.inr (Or.inl rfl) | exact Or.inr (Or.inr rfl))) (de_sub (de_ix id_ix rfl (de_brw (i := 3) rfl (by first | exact Or.inl rfl | exact Or.inr (Or.inl rfl) | exact Or.inr (Or.inr rfl))) (de_sub de_int) (fun _ _ => rfl))) (fun _ _ => rfl)) (Or.inl rfl))
  (dss_cons (ds_if (dt_val (de_bb (cb_any rfl) rfl rfl TT.b_any (by decide +kernel) (db_cons (de_sub (de_frz (df_lcV rfl sc_law_is_tree.nd (⟨rfl, by decide +kernel, by decide +kernel, by decide +kernel, by decide +kernel⟩ : BlkOk n_law_is_tree (defScope s_law_is_tree) _ [("_law_thing", 5)]) rfl (di_seq rfl (de_var (i := 4) rfl (by first | exact Or.inl rfl | exact Or.inr (Or.inl rfl) | exact Or.inr (Or.inr rfl)))) rfl (fun _ _ _ _ _ => (dg_name (i := 5) sc_law_is_tree.nd rfl (by first | exact Or.inl rfl | exact Or.inr rfl) (by first | exact Or.inl rfl | exact Or.inr rfl))) (fun _ _ _ _ _ => dts_nil) (fun _ _ _ _ _ => (de_cmp (od_in (hu65 R)) rfl (de_brw (i := 5) rfl (by first | exact Or.inl rfl | exact Or.inr (Or.inl rfl) | exact Or.inr (Or.inr rfl))) (de_brw (i := 1) rfl (by first | exact Or.inl rfl | exact Or.inr (Or.inl rfl) | exact Or.inr (Or.inr rfl))) (by with_unfolding_all rfl)))))) db_nil)))
  (dss_one (ds_ret de_bl))
  dss_nil)
  (dss_cons (ds_if (dt_cmp (od_eq (hu65 R)) rfl (de_brw (i := 2) rfl (by first | exact Or.inl rfl | exact Or.inr (Or.inl rfl) | exact Or.inr (Or.inr rfl))) (de_sub de_int) (nomark _))
  (dss_one (ds_ret (de_cmp (od_eq (hu65 R)) rfl (de_sub (de_ix id_ix rfl (de_brw (i := 3) rfl (by first | exact Or.inl rfl | exact Or.inr (Or.inl rfl) | exact Or.inr (Or.inr rfl))) (de_sub de_int) (fun _ _ => rfl))) (de_sub (de_tup da_nil)) (nomark _))))
  dss_nil)
  (dss_cons (ds_if (dt_cmp (od_ne (hu65 R)) rfl (de_sub (de_frz (df_sortSet rfl rfl rfl TT.b_sorted (by decide +kernel) rfl TT.b_set (by decide +kernel) (de_frz (df_lcV rfl sc_law_is_tree.nd (⟨rfl, by decide +kernel, by decide +kernel, by decide +kernel, by decide +kernel⟩ : BlkOk n_law_is_tree (defScope s_law_is_tree) _ [("_law_thing", 5), ("_law_late", 6)]) rfl (di_seq rfl (de_ix id_ix rfl (de_brw (i := 3) rfl (by first | exact Or.inl rfl | exact Or.inr (Or.inl rfl) | exact Or.inr (Or.inr rfl))) (de_sub de_int) (fun _ _ => rfl))) rfl (fun _ _ _ _ _ => (dg_tup rfl rfl (dgs_cons (dg_name (i := 5) sc_law_is_tree.nd rfl (by first | exact Or.inl rfl | exact Or.inr rfl) (by first | exact Or.inl rfl | exact Or.inr rfl)) (dgs_cons (dg_name (i := 6) sc_law_is_tree.nd rfl (by first | exact Or.inl rfl | exact Or.inr rfl) (by first | exact Or.inl rfl | exact Or.inr rfl)) dgs_nil)))) (fun _ _ _ _ _ => dts_nil) (fun _ _ _ _ _ => (de_var (i := 5) rfl (by first | exact Or.inl rfl | exact Or.inr (Or.inl rfl) | exact Or.inr (Or.inr rfl))))))))) (de_sub (de_frz (df_sortSet rfl rfl rfl TT.b_sorted (by decide +kernel) rfl TT.b_set (by decide +kernel) (de_var (i := 4) rfl (by first | exact Or.inl rfl | exact Or.inr (Or.inl rfl) | exact Or.inr (Or.inr rfl)))))) (nomark _))
  (dss_one (ds_ret de_bl))
  dss_nil)
  (dss_one (ds_ret (de_bb (cb_all rfl) rfl rfl TT.b_all (by decide +kernel) (db_cons (de_sub (de_frz (df_lcV rfl sc_law_is_tree.nd (⟨rfl, by decide +kernel, by decide +kernel, by decide +kernel, by decide +kernel⟩ : BlkOk n_law_is_tree (defScope s_law_is_tree) _ [("_law_thing", 5), ("_law_late", 6)]) rfl (di_seq rfl (de_ix id_ix rfl (de_brw (i := 3) rfl (by first | exact Or.inl rfl | exact Or.inr (Or.inl rfl) | exact Or.inr (Or.inr rfl))) (de_sub de_int) (fun _ _ => rfl))) rfl (fun _ _ _ _ _ => (dg_tup rfl rfl (dgs_cons (dg_name (i := 5) sc_law_is_tree.nd rfl (by first | exact Or.inl rfl | exact Or.inr rfl) (by first | exact Or.inl rfl | exact Or.inr rfl)) (dgs_cons (dg_name (i := 6) sc_law_is_tree.nd rfl (by first | exact Or.inl rfl | exact Or.inr rfl) (by first | exact Or.inl rfl | exact Or.inr rfl)) dgs_nil)))) (fun _ _ _ _ _ => dts_nil) (fun _ _ _ _ _ => (de_fn TT.f_law_is_tree R takes0 rfl (da_cons (de_var (i := 0) rfl (by first | exact Or.inl rfl | exact Or.inr (Or.inl rfl) | exact Or.inr (Or.inr rfl))) (da_cons (de_bin od_addA rfl (de_brw (i := 1) rfl (by first | exact Or.inl rfl | exact Or.inr (Or.inl rfl) | exact Or.inr (Or.inr rfl))) (de_sub (de_tup (da_cons (de_var (i := 5) rfl (by first | exact Or.inl rfl | exact Or.inr (Or.inl rfl) | exact Or.inr (Or.inr rfl))) da_nil)))) (da_cons (de_bin od_sub rfl (de_brw (i := 2) rfl (by first | exact Or.inl rfl | exact Or.inr (Or.inl rfl) | exact Or.inr (Or.inr rfl))) (de_sub de_int)) (da_cons (de_var (i := 6) rfl (by first | exact Or.inl rfl | exact Or.inr (Or.inl rfl) | exact Or.inr (Or.inr rfl))) da_nil)))) (lenA_cons (lenA_cons (lenA_cons (lenA_cons lenA_nil))))))))) db_nil)))))))))
theorem d_law_pick {P : Program} {w : World} {K : PySem.W.Frag} {mg : Str → Option Value} {base : Heap} {n : Nat} {e_TooMany e_Walk : Addr} (TT : Txt P w K mg base n e_TooMany e_Walk) (f : Addr) (cdv : Value) (A : Around) (outer : List PySem.Env) (s : Shared) (H : Hp) (E : XK) (R : Room n (A.deeper (PyProof.Rows.envOfC "_law_pick" (defScope s_law_pick) s.heap.objs.size f cdv))) (Sn : Snap) :
    PSs (cxG P w K mg base n_law_pick "_law_pick" (defScope s_law_pick) f cdv A outer s H E true []) (defBody s_law_pick) (semS ⟨K, run tab n, Xs e_TooMany e_Walk, none⟩ (fun c d _ H' => E c d H') Sn B_law_pick) :=
  (dss_one (ds_ret (de_ix id_ix rfl (de_brw (i := 1) rfl (by first | exact Or.inl rfl | exact Or.inr (Or.inl rfl) | exact Or.inr (Or.inr rfl))) (de_sub (de_fn TT.f_law_take R takesG rfl (da_cons (de_var (i := 0) rfl (by first | exact Or.inl rfl | exact Or.inr (Or.inl rfl) | exact Or.inr (Or.inr rfl))) (da_cons (de_bb cb_len rfl rfl TT.b_len (by decide +kernel) (db_cons (de_brw (i := 1) rfl (by first | exact Or.inl rfl | exact Or.inr (Or.inl rfl) | exact Or.inr (Or.inr rfl))) db_nil)) da_nil)) (lenA_cons (lenA_cons lenA_nil)))) (fun _ _ => rfl))))
theorem d_law_number {P : Program} {w : World} {K : PySem.W.Frag} {mg : Str → Option Value} {base : Heap} {n : Nat} {e_TooMany e_Walk : Addr} (TT : Txt P w K mg base n e_TooMany e_Walk) (f : Addr) (cdv : Value) (A : Around) (outer : List PySem.Env) (s : Shared) (H : Hp) (E : XK) (R : Room n (A.deeper (PyProof.Rows.envOfC "_law_number" (defScope s_law_number) s.heap.objs.size f cdv))) (Sn : Snap) :
    PSs (cxG P w K mg base n_law_number "_law_number" (defScope s_law_number) f cdv A outer s H E true []) (defBody s_law_number) (semS ⟨K, run tab n, Xs e_TooMany e_Walk, none⟩ (fun c d _ H' => E c d H') Sn B_law_number) :=
  (dss_cons (ds_if (dt_cmp (od_eq (hu65 R)) rfl (de_brw (i := 0) rfl (by first | exact Or.inl rfl | exact Or.inr (Or.inl rfl) | exact Or.inr (Or.inr rfl))) (de_sub (de_frz (df_lst da_nil))) (nomark _))
  (dss_one (ds_ret (de_bt cb_int rfl rfl TT.b_int (by decide +kernel) (db_cons (de_sub (de_bin od_mod rfl (de_sub (de_bin od_addA rfl (de_sub (de_bin od_mul rfl (de_brw (i := 1) rfl (by first | exact Or.inl rfl | exact Or.inr (Or.inl rfl) | exact Or.inr (Or.inr rfl))) (de_sub de_int))) (de_sub de_int))) (de_sub de_int))) db_nil))))
  dss_nil)
  (dss_cons (ds_set (i := 2) sc_law_number.nd rfl (by first | exact Or.inl rfl | exact Or.inr rfl) (de_ix id_ix rfl (de_brw (i := 0) rfl (by first | exact Or.inl rfl | exact Or.inr (Or.inl rfl) | exact Or.inr (Or.inr rfl))) (de_sub (de_bin od_mod rfl (de_brw (i := 1) rfl (by first | exact Or.inl rfl | exact Or.inr (Or.inl rfl) | exact Or.inr (Or.inr rfl))) (de_sub (de_bb cb_len rfl rfl TT.b_len (by decide +kernel) (db_cons (de_brw (i := 0) rfl (by first | exact Or.inl rfl | exact Or.inr (Or.inl rfl) | exact Or.inr (Or.inr rfl))) db_nil))))) (fun _ _ => rfl)) (Or.inl rfl))
  (dss_cons (ds_if (dt_cmp od_ge rfl (de_sub (de_bb cb_abs rfl rfl TT.b_abs (by decide +kernel) (db_cons (de_brw (i := 2) rfl (by first | exact Or.inl rfl | exact Or.inr (Or.inl rfl) | exact Or.inr (Or.inr rfl))) db_nil))) (de_sub (de_bin od_pow rfl (de_sub de_int) (de_sub de_int))) (nomark _))
  (dss_one (ds_set (i := 2) sc_law_number.nd rfl (by first | exact Or.inl rfl | exact Or.inr rfl) (de_bin od_mod rfl (de_brw (i := 2) rfl (by first | exact Or.inl rfl | exact Or.inr (Or.inl rfl) | exact Or.inr (Or.inr rfl))) (de_sub (de_bin od_pow rfl (de_sub de_int) (de_sub de_int)))) (Or.inl rfl)))
  dss_nil)
  (dss_cons (ds_set (i := 3) sc_law_number.nd rfl (by first | exact Or.inl rfl | exact Or.inr rfl) (de_bin od_mod rfl (de_sub (de_bin od_addA rfl (de_sub (de_bin od_mul rfl (de_sub (de_bin od_addA rfl (de_brw (i := 2) rfl (by first | exact Or.inl rfl | exact Or.inr (Or.inl rfl) | exact Or.inr (Or.inr rfl))) (de_sub (de_bin od_mul rfl (de_sub de_int) (de_brw (i := 1) rfl (by first | exact Or.inl rfl | exact Or.inr (Or.inl rfl) | exact Or.inr (Or.inr rfl))))))) (de_sub de_int))) (de_sub (de_bin od_mul rfl (de_sub de_int) (de_sub (de_bb cb_len rfl rfl TT.b_len (by decide +kernel) (db_cons (de_brw (i := 0) rfl (by first | exact Or.inl rfl | exact Or.inr (Or.inl rfl) | exact Or.inr (Or.inr rfl))) db_nil))))))) (de_sub de_int)) (Or.inl rfl))
  (dss_one (ds_ret (de_bt cb_int rfl rfl TT.b_int (by decide +kernel) (db_cons (de_sub (de_bin od_mod rfl (de_sub (de_bin od_addA rfl (de_sub (de_bin od_mul rfl (de_sub (de_bin od_mod rfl (de_sub (de_bin od_mul rfl (de_brw (i := 3) rfl (by first | exact Or.inl rfl | exact Or.inr (Or.inl rfl) | exact Or.inr (Or.inr rfl))) (de_sub de_int))) (de_sub de_int))) (de_sub de_int))) (de_brw (i := 1) rfl (by first | exact Or.inl rfl | exact Or.inr (Or.inl rfl) | exact Or.inr (Or.inr rfl))))) (de_sub de_int))) db_nil))))))))
theorem d_check_most {P : Program} {w : World} {K : PySem.W.Frag} {mg : Str → Option Value} {base : Heap} {n : Nat} {e_TooMany e_Walk : Addr} (TT : Txt P w K mg base n e_TooMany e_Walk) (f : Addr) (cdv : Value) (A : Around) (outer : List PySem.Env) (s : Shared) (H : Hp) (E : XK) (R : Room n (A.deeper (PyProof.Rows.envOfC "check_most" (defScope s_check_most) s.heap.objs.size f cdv))) (Sn : Snap) :
    PSs (cxG P w K mg base n_check_most "check_most" (defScope s_check_most) f cdv A outer s H E true []) (defBody s_check_most) (semS ⟨K, run tab n, Xs e_TooMany e_Walk, none⟩ (fun c d _ H' => E c d H') Sn B_check_most) :=
  (dss_one (ds_if (dt_cmp od_lt rfl (de_brw (i := 0) rfl (by first | exact Or.inl rfl | exact Or.inr (Or.inl rfl) | exact Or.inr (Or.inr rfl))) (de_sub de_int) (nomark _))
  (dss_one (ds_raise rfl takesG (TT.mk_TooMany rfl rfl rfl R (da_cons (de_var (i := 0) rfl (by first | exact Or.inl rfl | exact Or.inr (Or.inl rfl) | exact Or.inr (Or.inr rfl))) da_nil) (lenA_cons lenA_nil) rfl rfl rfl)))
  dss_nil))
theorem d_Walk_met {P : Program} {w : World} {K : PySem.W.Frag} {mg : Str → Option Value} {base : Heap} {n : Nat} {e_TooMany e_Walk : Addr} (TT : Txt P w K mg base n e_TooMany e_Walk) (f : Addr) (cdv : Value) (A : Around) (outer : List PySem.Env) (s : Shared) (H : Hp) (E : XK) (R : Room n (A.deeper (PyProof.Rows.envOfC "Walk.met" (defScope s_Walk_met) s.heap.objs.size f cdv))) (Sn : Snap) :
    PSs (cxG P w K mg base n_Walk_met "Walk.met" (defScope s_Walk_met) f cdv A outer s H E true []) (defBody s_Walk_met) (semS ⟨K, run tab n, Xs e_TooMany e_Walk, none⟩ (fun c d _ H' => E c d H') Sn B_Walk_met) :=
  (dss_cons (ds_if (dt_cmp (od_eq (hu65 R)) rfl (de_sub (de_fld TT.c_Walk TT.nf_Walk_looked rfl (de_var (i := 0) rfl (by first | exact Or.inl rfl | exact Or.inr (Or.inl rfl) | exact Or.inr (Or.inr rfl))))) (de_sub (de_fld TT.c_Walk TT.nf_Walk_most rfl (de_var (i := 0) rfl (by first | exact Or.inl rfl | exact Or.inr (Or.inl rfl) | exact Or.inr (Or.inr rfl))))) (nomark _))
  (dss_one (ds_raise rfl takesG (TT.mk_TooMany rfl rfl rfl R (da_cons (de_fld TT.c_Walk TT.nf_Walk_most rfl (de_var (i := 0) rfl (by first | exact Or.inl rfl | exact Or.inr (Or.inl rfl) | exact Or.inr (Or.inr rfl)))) da_nil) (lenA_cons lenA_nil) rfl rfl rfl)))
  dss_nil)
  (dss_cons (ds_fldAug TT.c_Walk TT.nf_Walk_looked oi_add rfl (de_var (i := 0) rfl (by first | exact Or.inl rfl | exact Or.inr (Or.inl rfl) | exact Or.inr (Or.inr rfl))) de_int)
  (dss_cons (ds_set (i := 3) sc_Walk_met.nd rfl (by first | exact Or.inl rfl | exact Or.inr rfl) (de_fn TT.f_unmet R takesG rfl (da_cons (de_fld TT.c_Walk TT.nf_Walk_lots rfl (de_var (i := 0) rfl (by first | exact Or.inl rfl | exact Or.inr (Or.inl rfl) | exact Or.inr (Or.inr rfl)))) (da_cons (de_var (i := 1) rfl (by first | exact Or.inl rfl | exact Or.inr (Or.inl rfl) | exact Or.inr (Or.inr rfl))) da_nil)) (lenA_cons (lenA_cons lenA_nil))) (Or.inl rfl))
  (dss_cons (ds_if (dt_cmp od_is rfl (de_brw (i := 3) rfl (by first | exact Or.inl rfl | exact Or.inr (Or.inl rfl) | exact Or.inr (Or.inr rfl))) (de_sub de_non) (nomark _))
  (dss_one (ds_ret (de_var (i := 1) rfl (by first | exact Or.inl rfl | exact Or.inr (Or.inl rfl) | exact Or.inr (Or.inr rfl)))))
  dss_nil)
  (dss_cons (ds_if (dt_cmp (od_eq (hu65 R)) rfl (de_brw (i := 2) rfl (by first | exact Or.inl rfl | exact Or.inr (Or.inl rfl) | exact Or.inr (Or.inr rfl))) (de_sub de_int) (nomark _))
  (dss_one (ds_ret de_non))
  dss_nil)
  (dss_cons (ds_for passesG rfl (di_seq rfl (de_bb (cb_sort2 (hu65 R)) rfl rfl TT.b_sorted (by decide +kernel) (db_cons (de_sub (de_ix id_ix rfl (de_sub (de_fld TT.c_Walk TT.nf_Walk_lots rfl (de_var (i := 0) rfl (by first | exact Or.inl rfl | exact Or.inr (Or.inl rfl) | exact Or.inr (Or.inr rfl))))) (de_brw (i := 3) rfl (by first | exact Or.inl rfl | exact Or.inr (Or.inl rfl) | exact Or.inr (Or.inr rfl))) (fun _ _ => rfl))) db_nil))) (dg_name (i := 4) sc_Walk_met.nd rfl (by first | exact Or.inl rfl | exact Or.inr rfl) (by first | exact Or.inl rfl | exact Or.inr rfl)) (fun _ =>
  (dss_cons (ds_set (i := 5) sc_Walk_met.nd rfl (by first | exact Or.inl rfl | exact Or.inr rfl) (de_met TT.c_Walk TT.f_Walk_met R takesG rfl (de_var (i := 0) rfl (by first | exact Or.inl rfl | exact Or.inr (Or.inl rfl) | exact Or.inr (Or.inr rfl))) (da_cons (de_tup (da_star rfl (de_var (i := 1) rfl (by first | exact Or.inl rfl | exact Or.inr (Or.inl rfl) | exact Or.inr (Or.inr rfl))) (da_cons (de_var (i := 4) rfl (by first | exact Or.inl rfl | exact Or.inr (Or.inl rfl) | exact Or.inr (Or.inr rfl))) da_nil))) (da_cons (de_bin od_sub rfl (de_brw (i := 2) rfl (by first | exact Or.inl rfl | exact Or.inr (Or.inl rfl) | exact Or.inr (Or.inr rfl))) (de_sub de_int)) da_nil)) (lenA_cons (lenA_cons lenA_nil))) (Or.inl rfl))
  (dss_one (ds_if (dt_cmp od_isNot rfl (de_brw (i := 5) rfl (by first | exact Or.inl rfl | exact Or.inr (Or.inl rfl) | exact Or.inr (Or.inr rfl))) (de_sub de_non) (nomark _))
  (dss_one (ds_ret (de_var (i := 5) rfl (by first | exact Or.inl rfl | exact Or.inr (Or.inl rfl) | exact Or.inr (Or.inr rfl)))))
  dss_nil)))))
  (dss_one (ds_ret de_non))))))))
theorem d_Walk__init__b {P : Program} {w : World} {K : PySem.W.Frag} {mg : Str → Option Value} {base : Heap} {n : Nat} {e_TooMany e_Walk : Addr} (TT : Txt P w K mg base n e_TooMany e_Walk) (f : Addr) (cdv : Value) (A : Around) (outer : List PySem.Env) (s : Shared) (H : Hp) (E : XK) (R : Room n (A.deeper (PyProof.Rows.envOfC "Walk.__init__" (defScope s_Walk__init__b) s.heap.objs.size f cdv))) (Sn : Snap) :
    PSs (cxG P w K mg base n_Walk__init__b "Walk.__init__" (defScope s_Walk__init__b) f cdv A outer s H E true []) (defBody s_Walk__init__b) (semS ⟨K, run tab n, Xs e_TooMany e_Walk, none⟩ (fun c d _ H' => E c d H') Sn B_Walk__init__b) :=
  (dss_cons (ds_fld TT.c_Walk TT.nf_Walk_lots rfl (de_var (i := 0) rfl (by first | exact Or.inl rfl | exact Or.inr (Or.inl rfl) | exact Or.inr (Or.inr rfl))) (de_var (i := 1) rfl (by first | exact Or.inl rfl | exact Or.inr (Or.inl rfl) | exact Or.inr (Or.inr rfl))))
  (dss_cons (ds_fld TT.c_Walk TT.nf_Walk_most rfl (de_var (i := 0) rfl (by first | exact Or.inl rfl | exact Or.inr (Or.inl rfl) | exact Or.inr (Or.inr rfl))) (de_var (i := 2) rfl (by first | exact Or.inl rfl | exact Or.inr (Or.inl rfl) | exact Or.inr (Or.inr rfl))))
  (dss_one (ds_fld TT.c_Walk TT.nf_Walk_looked rfl (de_var (i := 0) rfl (by first | exact Or.inl rfl | exact Or.inr (Or.inl rfl) | exact Or.inr (Or.inr rfl))) de_int))))
theorem d_Walk_tree {P : Program} {w : World} {K : PySem.W.Frag} {mg : Str → Option Value} {base : Heap} {n : Nat} {e_TooMany e_Walk : Addr} (TT : Txt P w K mg base n e_TooMany e_Walk) (f : Addr) (cdv : Value) (A : Around) (outer : List PySem.Env) (s : Shared) (H : Hp) (E : XK) (R : Room n (A.deeper (PyProof.Rows.envOfC "Walk.tree" (defScope s_Walk_tree) s.heap.objs.size f cdv))) (Sn : Snap) :
    PSs (cxG P w K mg base n_Walk_tree "Walk.tree" (defScope s_Walk_tree) f cdv A outer s H E true []) (defBody s_Walk_tree) (semS ⟨K, run tab n, Xs e_TooMany e_Walk, none⟩ (fun c d _ H' => E c d H') Sn B_Walk_tree) :=
  (dss_cons (ds_if (dt_cmp (od_eq (hu65 R)) rfl (de_sub (de_fld TT.c_Walk TT.nf_Walk_looked rfl (de_var (i := 0) rfl (by first | exact Or.inl rfl | exact Or.inr (Or.inl rfl) | exact Or.inr (Or.inr rfl))))) (de_sub (de_fld TT.c_Walk TT.nf_Walk_most rfl (de_var (i := 0) rfl (by first | exact Or.inl rfl | exact Or.inr (Or.inl rfl) | exact Or.inr (Or.inr rfl))))) (nomark _))
  (dss_one (ds_raise rfl takesG (TT.mk_TooMany rfl rfl rfl R (da_cons (de_fld TT.c_Walk TT.nf_Walk_most rfl (de_var (i := 0) rfl (by first | exact Or.inl rfl | exact Or.inr (Or.inl rfl) | exact Or.inr (Or.inr rfl)))) da_nil) (lenA_cons lenA_nil) rfl rfl rfl)))
  dss_nil)
  (dss_cons (ds_fldAug TT.c_Walk TT.nf_Walk_looked oi_add rfl (de_var (i := 0) rfl (by first | exact Or.inl rfl | exact Or.inr (Or.inl rfl) | exact Or.inr (Or.inr rfl))) de_int)
  (dss_cons (ds_set (i := 3) sc_Walk_tree.nd rfl (by first | exact Or.inl rfl | exact Or.inr rfl) (de_fn TT.f_unmet R takesG rfl (da_cons (de_fld TT.c_Walk TT.nf_Walk_lots rfl (de_var (i := 0) rfl (by first | exact Or.inl rfl | exact Or.inr (Or.inl rfl) | exact Or.inr (Or.inr rfl)))) (da_cons (de_var (i := 1) rfl (by first | exact Or.inl rfl | exact Or.inr (Or.inl rfl) | exact Or.inr (Or.inr rfl))) da_nil)) (lenA_cons (lenA_cons lenA_nil))) (Or.inl rfl))
  (dss_cons (ds_if (dt_cmp (od_eq (hu65 R)) rfl (de_brw (i := 2) rfl (by first | exact Or.inl rfl | exact Or.inr (Or.inl rfl) | exact Or.inr (Or.inr rfl))) (de_sub de_int) (nomark _))
  (dss_one (ds_ret (de_tup (da_cons (de_var (i := 3) rfl (by first | exact Or.inl rfl | exact Or.inr (Or.inl rfl) | exact Or.inr (Or.inr rfl))) (da_cons (de_tup da_nil) da_nil)))))
  dss_nil)
  (dss_cons (ds_set (i := 4) sc_Walk_tree.nd rfl (by first | exact Or.inl rfl | exact Or.inr rfl) (de_frz (df_sortDc rfl rfl rfl TT.b_sorted (by decide +kernel) sc_Walk_tree.nd (⟨rfl, by decide +kernel, by decide +kernel, by decide +kernel, by decide +kernel⟩ : BlkOk n_Walk_tree (defScope s_Walk_tree) _ [("thing", 5)]) (fun _ _ _ _ _ => pg_name (i := 5) sc_Walk_tree.nd rfl (by first | exact Or.inl rfl | exact Or.inr rfl) (by first | exact Or.inl rfl | exact Or.inr rfl)) (fun _ _ _ _ _ => pe_var (i := 5) rfl (by first | exact Or.inl rfl | exact Or.inr (Or.inl rfl) | exact Or.inr (Or.inr rfl))) (fun _ _ _ _ _ => pe_bl) (de_ix id_ix rfl (de_sub (de_fld TT.c_Walk TT.nf_Walk_lots rfl (de_var (i := 0) rfl (by first | exact Or.inl rfl | exact Or.inr (Or.inl rfl) | exact Or.inr (Or.inr rfl))))) (de_brw (i := 3) rfl (by first | exact Or.inl rfl | exact Or.inr (Or.inl rfl) | exact Or.inr (Or.inr rfl))) (fun _ _ => rfl)))) (Or.inl rfl))
  (dss_one (ds_ret (de_tup (da_cons (de_var (i := 3) rfl (by first | exact Or.inl rfl | exact Or.inr (Or.inl rfl) | exact Or.inr (Or.inr rfl))) (da_cons (de_bt cb_tuple rfl rfl TT.b_tuple (by decide +kernel) (db_cons (de_sub (de_frz (df_lcV rfl sc_Walk_tree.nd (⟨rfl, by decide +kernel, by decide +kernel, by decide +kernel, by decide +kernel⟩ : BlkOk n_Walk_tree (defScope s_Walk_tree) _ [("thing", 5)]) rfl (di_seq rfl (de_var (i := 4) rfl (by first | exact Or.inl rfl | exact Or.inr (Or.inl rfl) | exact Or.inr (Or.inr rfl)))) rfl (fun _ _ _ _ _ => (dg_name (i := 5) sc_Walk_tree.nd rfl (by first | exact Or.inl rfl | exact Or.inr rfl) (by first | exact Or.inl rfl | exact Or.inr rfl))) (fun _ _ _ _ _ => dts_nil) (fun _ _ _ _ _ => (de_tup (da_cons (de_var (i := 5) rfl (by first | exact Or.inl rfl | exact Or.inr (Or.inl rfl) | exact Or.inr (Or.inr rfl))) (da_cons (de_met TT.c_Walk TT.f_Walk_tree R takes0 rfl (de_var (i := 0) rfl (by first | exact Or.inl rfl | exact Or.inr (Or.inl rfl) | exact Or.inr (Or.inr rfl))) (da_cons (de_tup (da_star rfl (de_var (i := 1) rfl (by first | exact Or.inl rfl | exact Or.inr (Or.inl rfl) | exact Or.inr (Or.inr rfl))) (da_cons (de_var (i := 5) rfl (by first | exact Or.inl rfl | exact Or.inr (Or.inl rfl) | exact Or.inr (Or.inr rfl))) da_nil))) (da_cons (de_bin od_sub rfl (de_brw (i := 2) rfl (by first | exact Or.inl rfl | exact Or.inr (Or.inl rfl) | exact Or.inr (Or.inr rfl))) (de_sub de_int)) da_nil)) (lenA_cons (lenA_cons lenA_nil))) da_nil))))))) db_nil)) da_nil))))))))))
theorem d_unmet {P : Program} {w : World} {K : PySem.W.Frag} {mg : Str → Option Value} {base : Heap} {n : Nat} {e_TooMany e_Walk : Addr} (TT : Txt P w K mg base n e_TooMany e_Walk) (f : Addr) (cdv : Value) (A : Around) (outer : List PySem.Env) (s : Shared) (H : Hp) (E : XK) (R : Room n (A.deeper (PyProof.Rows.envOfC "unmet" (defScope s_unmet) s.heap.objs.size f cdv))) (Sn : Snap) :
    PSs (cxG P w K mg base n_unmet "unmet" (defScope s_unmet) f cdv A outer s H E true []) (defBody s_unmet) (semS ⟨K, run tab n, Xs e_TooMany e_Walk, none⟩ (fun c d _ H' => E c d H') Sn B_unmet) :=
  (dss_cons (ds_for passesG rfl (di_enum rfl rfl TT.b_enumerate (da_cons (de_var (i := 0) rfl (by first | exact Or.inl rfl | exact Or.inr (Or.inl rfl) | exact Or.inr (Or.inr rfl))) da_nil)) (dg_tup rfl rfl (dgs_cons (dg_name (i := 2) sc_unmet.nd rfl (by first | exact Or.inl rfl | exact Or.inr rfl) (by first | exact Or.inl rfl | exact Or.inr rfl)) (dgs_cons (dg_name (i := 3) sc_unmet.nd rfl (by first | exact Or.inl rfl | exact Or.inr rfl) (by first | exact Or.inl rfl | exact Or.inr rfl)) dgs_nil))) (fun _ =>
  (dss_one (ds_if (dt_not (dt_val (de_bb (cb_any rfl) rfl rfl TT.b_any (by decide +kernel) (db_cons (de_sub (de_frz (df_lcV rfl sc_unmet.nd (⟨rfl, by decide +kernel, by decide +kernel, by decide +kernel, by decide +kernel⟩ : BlkOk n_unmet (defScope s_unmet) _ [("thing", 4)]) rfl (di_seq rfl (de_var (i := 3) rfl (by first | exact Or.inl rfl | exact Or.inr (Or.inl rfl) | exact Or.inr (Or.inr rfl)))) rfl (fun _ _ _ _ _ => (dg_name (i := 4) sc_unmet.nd rfl (by first | exact Or.inl rfl | exact Or.inr rfl) (by first | exact Or.inl rfl | exact Or.inr rfl))) (fun _ _ _ _ _ => dts_nil) (fun _ _ _ _ _ => (de_cmp (od_in (hu65 R)) rfl (de_brw (i := 4) rfl (by first | exact Or.inl rfl | exact Or.inr (Or.inl rfl) | exact Or.inr (Or.inr rfl))) (de_brw (i := 1) rfl (by first | exact Or.inl rfl | exact Or.inr (Or.inl rfl) | exact Or.inr (Or.inr rfl))) (by with_unfolding_all rfl)))))) db_nil))))
  (dss_one (ds_ret (de_var (i := 2) rfl (by first | exact Or.inl rfl | exact Or.inr (Or.inl rfl) | exact Or.inr (Or.inr rfl)))))
  dss_nil))))
  (dss_one (ds_ret de_non)))
theorem d_shows_tree {P : Program} {w : World} {K : PySem.W.Frag} {mg : Str → Option Value} {base : Heap} {n : Nat} {e_TooMany e_Walk : Addr} (TT : Txt P w K mg base n e_TooMany e_Walk) (f : Addr) (cdv : Value) (A : Around) (outer : List PySem.Env) (s : Shared) (H : Hp) (E : XK) (R : Room n (A.deeper (PyProof.Rows.envOfC "shows_tree" (defScope s_shows_tree) s.heap.objs.size f cdv))) (Sn : Snap) :
    PSs (cxG P w K mg base n_shows_tree "shows_tree" (defScope s_shows_tree) f cdv A outer s H E true []) (defBody s_shows_tree) (semS ⟨K, run tab n, Xs e_TooMany e_Walk, none⟩ (fun c d _ H' => E c d H') Sn B_shows_tree) :=
  (dss_cons (ds_if (PW.pt (dw_or (dt_not (dt_val (de_isi rfl rfl TT.b_isinstance rfl TT.b_tuple (by decide +kernel) (de_brw (i := 3) rfl (by first | exact Or.inl rfl | exact Or.inr (Or.inl rfl) | exact Or.inr (Or.inr rfl)))))) (dw_or (dt_cmp (od_ne (hu65 R)) rfl (de_sub (de_bb cb_len rfl rfl TT.b_len (by decide +kernel) (db_cons (de_brw (i := 3) rfl (by first | exact Or.inl rfl | exact Or.inr (Or.inl rfl) | exact Or.inr (Or.inr rfl))) db_nil))) (de_sub de_int) (nomark _)) (dt_or1 (dt_not (dt_val (de_fn TT.f_is_whole R takesG rfl (da_cons (de_ix id_ix rfl (de_brw (i := 3) rfl (by first | exact Or.inl rfl | exact Or.inr (Or.inl rfl) | exact Or.inr (Or.inr rfl))) (de_sub de_int) (fun _ _ => rfl)) (da_cons de_int (da_cons (de_bin od_sub rfl (de_sub (de_bb cb_len rfl rfl TT.b_len (by decide +kernel) (db_cons (de_brw (i := 0) rfl (by first | exact Or.inl rfl | exact Or.inr (Or.inl rfl) | exact Or.inr (Or.inr rfl))) db_nil))) (de_sub de_int)) da_nil))) (lenA_cons (lenA_cons (lenA_cons lenA_nil))))))))))
  (dss_one (ds_ret de_bl))
  dss_nil)
  (dss_cons (ds_set (i := 4) sc_shows_tree.nd rfl (by first | exact Or.inl rfl | exact Or.inr rfl) (de_ix id_ix rfl (de_brw (i := 0) rfl (by first | exact Or.inl rfl | exact Or.inr (Or.inl rfl) | exact Or.inr (Or.inr rfl))) (de_sub (de_ix id_ix rfl (de_brw (i := 3) rfl (by first | exact Or.inl rfl | exact Or.inr (Or.inl rfl) | exact Or.inr (Or.inr rfl))) (de_sub de_int) (fun _ _ => rfl))) (fun _ _ => rfl)) (Or.inl rfl))
  (dss_cons (ds_if (PW.pt (dw_or (dt_val (de_bb (cb_any rfl) rfl rfl TT.b_any (by decide +kernel) (db_cons (de_sub (de_frz (df_lcV rfl sc_shows_tree.nd (⟨rfl, by decide +kernel, by decide +kernel, by decide +kernel, by decide +kernel⟩ : BlkOk n_shows_tree (defScope s_shows_tree) _ [("thing", 7)]) rfl (di_seq rfl (de_var (i := 4) rfl (by first | exact Or.inl rfl | exact Or.inr (Or.inl rfl) | exact Or.inr (Or.inr rfl)))) rfl (fun _ _ _ _ _ => (dg_name (i := 7) sc_shows_tree.nd rfl (by first | exact Or.inl rfl | exact Or.inr rfl) (by first | exact Or.inl rfl | exact Or.inr rfl))) (fun _ _ _ _ _ => dts_nil) (fun _ _ _ _ _ => (de_cmp (od_in (hu65 R)) rfl (de_brw (i := 7) rfl (by first | exact Or.inl rfl | exact Or.inr (Or.inl rfl) | exact Or.inr (Or.inr rfl))) (de_brw (i := 1) rfl (by first | exact Or.inl rfl | exact Or.inr (Or.inl rfl) | exact Or.inr (Or.inr rfl))) (by with_unfolding_all rfl)))))) db_nil))) (dt_or1 (dt_not (dt_val (de_isi rfl rfl TT.b_isinstance rfl TT.b_tuple (by decide +kernel) (de_sub (de_ix id_ix rfl (de_brw (i := 3) rfl (by first | exact Or.inl rfl | exact Or.inr (Or.inl rfl) | exact Or.inr (Or.inr rfl))) (de_sub de_int) (fun _ _ => rfl)))))))))
  (dss_one (ds_ret de_bl))
  dss_nil)
  (dss_cons (ds_if (dt_cmp (od_eq (hu65 R)) rfl (de_brw (i := 2) rfl (by first | exact Or.inl rfl | exact Or.inr (Or.inl rfl) | exact Or.inr (Or.inr rfl))) (de_sub de_int) (nomark _))
  (dss_one (ds_ret (de_cmp (od_eq (hu65 R)) rfl (de_sub (de_ix id_ix rfl (de_brw (i := 3) rfl (by first | exact Or.inl rfl | exact Or.inr (Or.inl rfl) | exact Or.inr (Or.inr rfl))) (de_sub de_int) (fun _ _ => rfl))) (de_sub (de_tup da_nil)) (nomark _))))
  dss_nil)
  (dss_cons (ds_if (dt_not (dt_val (de_bb (cb_all rfl) rfl rfl TT.b_all (by decide +kernel) (db_cons (de_sub (de_frz (df_lcV rfl sc_shows_tree.nd (⟨rfl, by decide +kernel, by decide +kernel, by decide +kernel, by decide +kernel⟩ : BlkOk n_shows_tree (defScope s_shows_tree) _ [("branch", 6)]) rfl (di_seq rfl (de_ix id_ix rfl (de_brw (i := 3) rfl (by first | exact Or.inl rfl | exact Or.inr (Or.inl rfl) | exact Or.inr (Or.inr rfl))) (de_sub de_int) (fun _ _ => rfl))) rfl (fun _ _ _ _ _ => (dg_name (i := 6) sc_shows_tree.nd rfl (by first | exact Or.inl rfl | exact Or.inr rfl) (by first | exact Or.inl rfl | exact Or.inr rfl))) (fun _ _ _ _ _ => dts_nil) (fun _ _ _ _ _ => (de_and (de_isi rfl rfl TT.b_isinstance rfl TT.b_tuple (by decide +kernel) (de_brw (i := 6) rfl (by first | exact Or.inl rfl | exact Or.inr (Or.inl rfl) | exact Or.inr (Or.inr rfl)))) (de_one (de_cmp (od_eq (hu65 R)) rfl (de_sub (de_bb cb_len rfl rfl TT.b_len (by decide +kernel) (db_cons (de_brw (i := 6) rfl (by first | exact Or.inl rfl | exact Or.inr (Or.inl rfl) | exact Or.inr (Or.inr rfl))) db_nil))) (de_sub de_int) (nomark _)))))))) db_nil))))
  (dss_one (ds_ret de_bl))
  dss_nil)
  (dss_cons (ds_set (i := 5) sc_shows_tree.nd rfl (by first | exact Or.inl rfl | exact Or.inr rfl) (de_frz (df_lcV rfl sc_shows_tree.nd (⟨rfl, by decide +kernel, by decide +kernel, by decide +kernel, by decide +kernel⟩ : BlkOk n_shows_tree (defScope s_shows_tree) _ [("branch", 6)]) rfl (di_seq rfl (de_ix id_ix rfl (de_brw (i := 3) rfl (by first | exact Or.inl rfl | exact Or.inr (Or.inl rfl) | exact Or.inr (Or.inr rfl))) (de_sub de_int) (fun _ _ => rfl))) rfl (fun _ _ _ _ _ => (dg_name (i := 6) sc_shows_tree.nd rfl (by first | exact Or.inl rfl | exact Or.inr rfl) (by first | exact Or.inl rfl | exact Or.inr rfl))) (fun _ _ _ _ _ => dts_nil) (fun _ _ _ _ _ => (de_ix id_ix rfl (de_brw (i := 6) rfl (by first | exact Or.inl rfl | exact Or.inr (Or.inl rfl) | exact Or.inr (Or.inr rfl))) (de_sub de_int) (fun _ _ => rfl))))) (Or.inl rfl))
  (dss_cons (ds_if (PW.pt (dw_or (dt_not (dt_val (de_bb (cb_all rfl) rfl rfl TT.b_all (by decide +kernel) (db_cons (de_sub (de_frz (df_lcV rfl sc_shows_tree.nd (⟨rfl, by decide +kernel, by decide +kernel, by decide +kernel, by decide +kernel⟩ : BlkOk n_shows_tree (defScope s_shows_tree) _ [("thing", 7)]) rfl (di_seq rfl (de_var (i := 4) rfl (by first | exact Or.inl rfl | exact Or.inr (Or.inl rfl) | exact Or.inr (Or.inr rfl)))) rfl (fun _ _ _ _ _ => (dg_name (i := 7) sc_shows_tree.nd rfl (by first | exact Or.inl rfl | exact Or.inr rfl) (by first | exact Or.inl rfl | exact Or.inr rfl))) (fun _ _ _ _ _ => dts_nil) (fun _ _ _ _ _ => (de_cmp (od_in (hu65 R)) rfl (de_brw (i := 7) rfl (by first | exact Or.inl rfl | exact Or.inr (Or.inl rfl) | exact Or.inr (Or.inr rfl))) (de_brw (i := 5) rfl (by first | exact Or.inl rfl | exact Or.inr (Or.inl rfl) | exact Or.inr (Or.inr rfl))) (by with_unfolding_all rfl)))))) db_nil)))) (dt_or1 (dt_not (dt_val (de_bb (cb_all rfl) rfl rfl TT.b_all (by decide +kernel) (db_cons (de_sub (de_frz (df_lcV rfl sc_shows_tree.nd (⟨rfl, by decide +kernel, by decide +kernel, by decide +kernel, by decide +kernel⟩ : BlkOk n_shows_tree (defScope s_shows_tree) _ [("thing", 7)]) rfl (di_seq rfl (de_var (i := 5) rfl (by first | exact Or.inl rfl | exact Or.inr (Or.inl rfl) | exact Or.inr (Or.inr rfl)))) rfl (fun _ _ _ _ _ => (dg_name (i := 7) sc_shows_tree.nd rfl (by first | exact Or.inl rfl | exact Or.inr rfl) (by first | exact Or.inl rfl | exact Or.inr rfl))) (fun _ _ _ _ _ => dts_nil) (fun _ _ _ _ _ => (de_cmp (od_in (hu65 R)) rfl (de_brw (i := 7) rfl (by first | exact Or.inl rfl | exact Or.inr (Or.inl rfl) | exact Or.inr (Or.inr rfl))) (de_brw (i := 4) rfl (by first | exact Or.inl rfl | exact Or.inr (Or.inl rfl) | exact Or.inr (Or.inr rfl))) (by with_unfolding_all rfl)))))) db_nil)))))))
  (dss_one (ds_ret de_bl))
  dss_nil)
  (dss_one (ds_ret (de_bb (cb_all rfl) rfl rfl TT.b_all (by decide +kernel) (db_cons (de_sub (de_frz (df_lcV rfl sc_shows_tree.nd (⟨rfl, by decide +kernel, by decide +kernel, by decide +kernel, by decide +kernel⟩ : BlkOk n_shows_tree (defScope s_shows_tree) _ [("thing", 7), ("late", 8)]) rfl (di_seq rfl (de_ix id_ix rfl (de_brw (i := 3) rfl (by first | exact Or.inl rfl | exact Or.inr (Or.inl rfl) | exact Or.inr (Or.inr rfl))) (de_sub de_int) (fun _ _ => rfl))) rfl (fun _ _ _ _ _ => (dg_tup rfl rfl (dgs_cons (dg_name (i := 7) sc_shows_tree.nd rfl (by first | exact Or.inl rfl | exact Or.inr rfl) (by first | exact Or.inl rfl | exact Or.inr rfl)) (dgs_cons (dg_name (i := 8) sc_shows_tree.nd rfl (by first | exact Or.inl rfl | exact Or.inr rfl) (by first | exact Or.inl rfl | exact Or.inr rfl)) dgs_nil)))) (fun _ _ _ _ _ => dts_nil) (fun _ _ _ _ _ => (de_fn TT.f_shows_tree R takes0 rfl (da_cons (de_var (i := 0) rfl (by first | exact Or.inl rfl | exact Or.inr (Or.inl rfl) | exact Or.inr (Or.inr rfl))) (da_cons (de_tup (da_star rfl (de_var (i := 1) rfl (by first | exact Or.inl rfl | exact Or.inr (Or.inl rfl) | exact Or.inr (Or.inr rfl))) (da_cons (de_var (i := 7) rfl (by first | exact Or.inl rfl | exact Or.inr (Or.inl rfl) | exact Or.inr (Or.inr rfl))) da_nil))) (da_cons (de_bin od_sub rfl (de_brw (i := 2) rfl (by first | exact Or.inl rfl | exact Or.inr (Or.inl rfl) | exact Or.inr (Or.inr rfl))) (de_sub de_int)) (da_cons (de_var (i := 8) rfl (by first | exact Or.inl rfl | exact Or.inr (Or.inl rfl) | exact Or.inr (Or.inr rfl))) da_nil)))) (lenA_cons (lenA_cons (lenA_cons (lenA_cons lenA_nil))))))))) db_nil)))))))))))
theorem d_is_whole {P : Program} {w : World} {K : PySem.W.Frag} {mg : Str → Option Value} {base : Heap} {n : Nat} {e_TooMany e_Walk : Addr} (TT : Txt P w K mg base n e_TooMany e_Walk) (f : Addr) (cdv : Value) (A : Around) (outer : List PySem.Env) (s : Shared) (H : Hp) (E : XK) (R : Room n (A.deeper (PyProof.Rows.envOfC "is_whole" (defScope s_is_whole) s.heap.objs.size f cdv))) (Sn : Snap) :
    PSs (cxG P w K mg base n_is_whole "is_whole" (defScope s_is_whole) f cdv A outer s H E true []) (defBody s_is_whole) (semS ⟨K, run tab n, Xs e_TooMany e_Walk, none⟩ (fun c d _ H' => E c d H') Sn B_is_whole) :=
  (dss_one (ds_ret (de_and (de_isi rfl rfl TT.b_isinstance rfl TT.b_int (by decide +kernel) (de_brw (i := 0) rfl (by first | exact Or.inl rfl | exact Or.inr (Or.inl rfl) | exact Or.inr (Or.inr rfl)))) (de_and (de_not (de_isi rfl rfl TT.b_isinstance rfl TT.b_bool (by decide +kernel) (de_brw (i := 0) rfl (by first | exact Or.inl rfl | exact Or.inr (Or.inl rfl) | exact Or.inr (Or.inr rfl))))) (de_one (de_chain od_le od_le rfl (de_brw (i := 1) rfl (by first | exact Or.inl rfl | exact Or.inr (Or.inl rfl) | exact Or.inr (Or.inr rfl))) (de_brw (i := 0) rfl (by first | exact Or.inl rfl | exact Or.inr (Or.inl rfl) | exact Or.inr (Or.inr rfl))) (de_brw (i := 2) rfl (by first | exact Or.inl rfl | exact Or.inr (Or.inl rfl) | exact Or.inr (Or.inr rfl)))))))))
end Dn.K55
namespace Dn.K55
open PySem L2
/-! From what the top has written to the law (printed by pr.py). -/
structure Sta (P : Program) (K : PySem.W.Frag) (mg : Str → Option Value) (e_TooMany e_Walk : Addr) : Prop extends Nms K mg where
  F_law : ∃ a fd, Fun K "law" "law" s_law a fd ∧ mg "law" = some (.ref a) ∧ PySem.W.keepIn K (.ref a) = true ∧ Binds K fd p_law []
  F_law_take : ∃ a fd, Fun K "_law_take" "_law_take" s_law_take a fd ∧ mg "_law_take" = some (.ref a) ∧ PySem.W.keepIn K (.ref a) = true ∧ Binds K fd p_law_take []
  F_law_rows : ∃ a fd, Fun K "_law_rows" "_law_rows" s_law_rows a fd ∧ mg "_law_rows" = some (.ref a) ∧ PySem.W.keepIn K (.ref a) = true ∧ Binds K fd p_law_rows []
  F_law_meets : ∃ a fd, Fun K "_law_meets" "_law_meets" s_law_meets a fd ∧ mg "_law_meets" = some (.ref a) ∧ PySem.W.keepIn K (.ref a) = true ∧ Binds K fd p_law_meets []
  F_fewest_meeting : ∃ a fd, Fun K "fewest_meeting" "fewest_meeting" s_fewest_meeting a fd ∧ mg "fewest_meeting" = some (.ref a) ∧ PySem.W.keepIn K (.ref a) = true ∧ Binds K fd p_fewest_meeting []
  F_is_fewest_meeting : ∃ a fd, Fun K "is_fewest_meeting" "is_fewest_meeting" s_is_fewest_meeting a fd ∧ mg "is_fewest_meeting" = some (.ref a) ∧ PySem.W.keepIn K (.ref a) = true ∧ Binds K fd p_is_fewest_meeting []
  F_law_bent : ∃ a fd, Fun K "_law_bent" "_law_bent" s_law_bent a fd ∧ mg "_law_bent" = some (.ref a) ∧ PySem.W.keepIn K (.ref a) = true ∧ Binds K fd p_law_bent []
  F_law_is_tree : ∃ a fd, Fun K "_law_is_tree" "_law_is_tree" s_law_is_tree a fd ∧ mg "_law_is_tree" = some (.ref a) ∧ PySem.W.keepIn K (.ref a) = true ∧ Binds K fd p_law_is_tree []
  F_law_pick : ∃ a fd, Fun K "_law_pick" "_law_pick" s_law_pick a fd ∧ mg "_law_pick" = some (.ref a) ∧ PySem.W.keepIn K (.ref a) = true ∧ Binds K fd p_law_pick []
  F_law_number : ∃ a fd, Fun K "_law_number" "_law_number" s_law_number a fd ∧ mg "_law_number" = some (.ref a) ∧ PySem.W.keepIn K (.ref a) = true ∧ Binds K fd p_law_number []
  F_check_most : ∃ a fd, Fun K "check_most" "check_most" s_check_most a fd ∧ mg "check_most" = some (.ref a) ∧ PySem.W.keepIn K (.ref a) = true ∧ Binds K fd p_check_most []
  F_Walk_met : ∃ a fd, Fun K "met" "Walk.met" s_Walk_met a fd ∧ Meth K e_Walk "met" a ∧ Binds K fd p_Walk_met []
  F_Walk__init__b : ∃ a fd, Fun K "__init__" "Walk.__init__" s_Walk__init__b a fd ∧ Mk K e_Walk a ∧ Binds K fd p_Walk__init__b []
  F_Walk_tree : ∃ a fd, Fun K "tree" "Walk.tree" s_Walk_tree a fd ∧ Meth K e_Walk "tree" a ∧ Binds K fd p_Walk_tree []
  F_unmet : ∃ a fd, Fun K "unmet" "unmet" s_unmet a fd ∧ mg "unmet" = some (.ref a) ∧ PySem.W.keepIn K (.ref a) = true ∧ Binds K fd p_unmet []
  F_shows_tree : ∃ a fd, Fun K "shows_tree" "shows_tree" s_shows_tree a fd ∧ mg "shows_tree" = some (.ref a) ∧ PySem.W.keepIn K (.ref a) = true ∧ Binds K fd p_shows_tree []
  F_is_whole : ∃ a fd, Fun K "is_whole" "is_whole" s_is_whole a fd ∧ mg "is_whole" = some (.ref a) ∧ PySem.W.keepIn K (.ref a) = true ∧ Binds K fd p_is_whole []
  m_TooMany : mg "TooMany" = some (.ref e_TooMany)
  exm_TooMany : ∀ c C ns, Xs e_TooMany e_Walk c = some (C, ns) → PySem.W.exmOne K (.ref C) (.ref e_TooMany) = some (decide (c = 0))
  T_TooMany : XfC K e_TooMany
  no_TooMany_0 : PySem.W.findIn K (.ref e_TooMany) "most" = some none
  t_TooMany : PySem.DnX.ErrTxt P K mg "TooMany" "most" e_TooMany
  c_Walk : ClsT K mg "Walk" e_Walk
  nf_Walk_looked : NoAttr K e_Walk "looked"
  nf_Walk_most : NoAttr K e_Walk "most"
  nf_Walk_lots : NoAttr K e_Walk "lots"
theorem txt {P : Program} {w : World} {K : PySem.W.Frag} {mg : Str → Option Value} {base : Heap} {e_TooMany e_Walk : Addr} (S : Sta P K mg e_TooMany e_Walk) : ∀ n, Txt P w K mg base n e_TooMany e_Walk
  | 0 => { S.toNms with
    f_law := ⟨by obtain ⟨a, fd, F, hm, hk, hb⟩ := S.F_law; exact ⟨a, fd, p_law, fn_zero rfl, hm, hk, hb⟩⟩
    f_law_take := ⟨by obtain ⟨a, fd, F, hm, hk, hb⟩ := S.F_law_take; exact ⟨a, fd, p_law_take, fn_zero rfl, hm, hk, hb⟩⟩
    f_law_rows := ⟨by obtain ⟨a, fd, F, hm, hk, hb⟩ := S.F_law_rows; exact ⟨a, fd, p_law_rows, fn_zero rfl, hm, hk, hb⟩⟩
    f_law_meets := ⟨by obtain ⟨a, fd, F, hm, hk, hb⟩ := S.F_law_meets; exact ⟨a, fd, p_law_meets, fn_zero rfl, hm, hk, hb⟩⟩
    f_fewest_meeting := ⟨by obtain ⟨a, fd, F, hm, hk, hb⟩ := S.F_fewest_meeting; exact ⟨a, fd, p_fewest_meeting, fn_zero rfl, hm, hk, hb⟩⟩
    f_is_fewest_meeting := ⟨by obtain ⟨a, fd, F, hm, hk, hb⟩ := S.F_is_fewest_meeting; exact ⟨a, fd, p_is_fewest_meeting, fn_zero rfl, hm, hk, hb⟩⟩
    f_law_bent := ⟨by obtain ⟨a, fd, F, hm, hk, hb⟩ := S.F_law_bent; exact ⟨a, fd, p_law_bent, fn_zero rfl, hm, hk, hb⟩⟩
    f_law_is_tree := ⟨by obtain ⟨a, fd, F, hm, hk, hb⟩ := S.F_law_is_tree; exact ⟨a, fd, p_law_is_tree, fn_zero rfl, hm, hk, hb⟩⟩
    f_law_pick := ⟨by obtain ⟨a, fd, F, hm, hk, hb⟩ := S.F_law_pick; exact ⟨a, fd, p_law_pick, fn_zero rfl, hm, hk, hb⟩⟩
    f_law_number := ⟨by obtain ⟨a, fd, F, hm, hk, hb⟩ := S.F_law_number; exact ⟨a, fd, p_law_number, fn_zero rfl, hm, hk, hb⟩⟩
    f_check_most := ⟨by obtain ⟨a, fd, F, hm, hk, hb⟩ := S.F_check_most; exact ⟨a, fd, p_check_most, fn_zero rfl, hm, hk, hb⟩⟩
    f_Walk_met := ⟨by obtain ⟨a, fd, F, hm, hb⟩ := S.F_Walk_met; exact ⟨a, fd, p_Walk_met, fn_zero rfl, hm, hb⟩⟩
    f_Walk__init := ini_zero (f := 13) ⟨by obtain ⟨a, fd, F, hm, hb⟩ := S.F_Walk__init__b; exact ⟨a, fd, p_Walk__init__b, fn_zero rfl, hm, hb⟩⟩
    f_Walk__init__b := ⟨by obtain ⟨a, fd, F, hm, hb⟩ := S.F_Walk__init__b; exact ⟨a, fd, p_Walk__init__b, fn_zero rfl, hm, hb⟩⟩
    f_Walk_tree := ⟨by obtain ⟨a, fd, F, hm, hb⟩ := S.F_Walk_tree; exact ⟨a, fd, p_Walk_tree, fn_zero rfl, hm, hb⟩⟩
    f_unmet := ⟨by obtain ⟨a, fd, F, hm, hk, hb⟩ := S.F_unmet; exact ⟨a, fd, p_unmet, fn_zero rfl, hm, hk, hb⟩⟩
    f_shows_tree := ⟨by obtain ⟨a, fd, F, hm, hk, hb⟩ := S.F_shows_tree; exact ⟨a, fd, p_shows_tree, fn_zero rfl, hm, hk, hb⟩⟩
    f_is_whole := ⟨by obtain ⟨a, fd, F, hm, hk, hb⟩ := S.F_is_whole; exact ⟨a, fd, p_is_whole, fn_zero rfl, hm, hk, hb⟩⟩
    m_TooMany := S.m_TooMany
    X_TooMany := rfl
    exm_TooMany := S.exm_TooMany
    T_TooMany := S.T_TooMany
    no_TooMany_0 := S.no_TooMany_0
    mk_TooMany := fun e1 e2 e3 hr ha hn hg he hp => by subst e1 e2 e3; exact de_mk S.t_TooMany rfl rfl hr ha (fun e m => hn _ e m) hg he hp
    c_Walk := S.c_Walk
    nf_Walk_looked := S.nf_Walk_looked
    nf_Walk_most := S.nf_Walk_most
    nf_Walk_lots := S.nf_Walk_lots }
  | n + 1 => let TT : Txt P w K mg base n e_TooMany e_Walk := txt S n
    { S.toNms with
    f_law := ⟨by obtain ⟨a, fd, F, hm, hk, hb⟩ := S.F_law; exact ⟨a, fd, p_law, fn_step (T := tab) (f := 0) (d := ⟨1, 14, B_law⟩) F sc_law rfl rfl rfl (fun cdv A outer s H E R Sn => d_law TT a cdv A outer s H E R Sn), hm, hk, hb⟩⟩
    f_law_take := ⟨by obtain ⟨a, fd, F, hm, hk, hb⟩ := S.F_law_take; exact ⟨a, fd, p_law_take, fn_step (T := tab) (f := 1) (d := ⟨2, 2, B_law_take⟩) F sc_law_take rfl rfl rfl (fun cdv A outer s H E R Sn => d_law_take TT a cdv A outer s H E R Sn), hm, hk, hb⟩⟩
    f_law_rows := ⟨by obtain ⟨a, fd, F, hm, hk, hb⟩ := S.F_law_rows; exact ⟨a, fd, p_law_rows, fn_step (T := tab) (f := 2) (d := ⟨1, 4, B_law_rows⟩) F sc_law_rows rfl rfl rfl (fun cdv A outer s H E R Sn => d_law_rows TT a cdv A outer s H E R Sn), hm, hk, hb⟩⟩
    f_law_meets := ⟨by obtain ⟨a, fd, F, hm, hk, hb⟩ := S.F_law_meets; exact ⟨a, fd, p_law_meets, fn_step (T := tab) (f := 3) (d := ⟨2, 4, B_law_meets⟩) F sc_law_meets rfl rfl rfl (fun cdv A outer s H E R Sn => d_law_meets TT a cdv A outer s H E R Sn), hm, hk, hb⟩⟩
    f_fewest_meeting := ⟨by obtain ⟨a, fd, F, hm, hk, hb⟩ := S.F_fewest_meeting; exact ⟨a, fd, p_fewest_meeting, fn_step (T := tab) (f := 4) (d := ⟨2, 5, B_fewest_meeting⟩) F sc_fewest_meeting rfl rfl rfl (fun cdv A outer s H E R Sn => d_fewest_meeting TT a cdv A outer s H E R Sn), hm, hk, hb⟩⟩
    f_is_fewest_meeting := ⟨by obtain ⟨a, fd, F, hm, hk, hb⟩ := S.F_is_fewest_meeting; exact ⟨a, fd, p_is_fewest_meeting, fn_step (T := tab) (f := 5) (d := ⟨3, 5, B_is_fewest_meeting⟩) F sc_is_fewest_meeting rfl rfl rfl (fun cdv A outer s H E R Sn => d_is_fewest_meeting TT a cdv A outer s H E R Sn), hm, hk, hb⟩⟩
    f_law_bent := ⟨by obtain ⟨a, fd, F, hm, hk, hb⟩ := S.F_law_bent; exact ⟨a, fd, p_law_bent, fn_step (T := tab) (f := 6) (d := ⟨2, 7, B_law_bent⟩) F sc_law_bent rfl rfl rfl (fun cdv A outer s H E R Sn => d_law_bent TT a cdv A outer s H E R Sn), hm, hk, hb⟩⟩
    f_law_is_tree := ⟨by obtain ⟨a, fd, F, hm, hk, hb⟩ := S.F_law_is_tree; exact ⟨a, fd, p_law_is_tree, fn_step (T := tab) (f := 7) (d := ⟨4, 7, B_law_is_tree⟩) F sc_law_is_tree rfl rfl rfl (fun cdv A outer s H E R Sn => d_law_is_tree TT a cdv A outer s H E R Sn), hm, hk, hb⟩⟩
    f_law_pick := ⟨by obtain ⟨a, fd, F, hm, hk, hb⟩ := S.F_law_pick; exact ⟨a, fd, p_law_pick, fn_step (T := tab) (f := 8) (d := ⟨2, 2, B_law_pick⟩) F sc_law_pick rfl rfl rfl (fun cdv A outer s H E R Sn => d_law_pick TT a cdv A outer s H E R Sn), hm, hk, hb⟩⟩
    f_law_number := ⟨by obtain ⟨a, fd, F, hm, hk, hb⟩ := S.F_law_number; exact ⟨a, fd, p_law_number, fn_step (T := tab) (f := 9) (d := ⟨2, 4, B_law_number⟩) F sc_law_number rfl rfl rfl (fun cdv A outer s H E R Sn => d_law_number TT a cdv A outer s H E R Sn), hm, hk, hb⟩⟩
    f_check_most := ⟨by obtain ⟨a, fd, F, hm, hk, hb⟩ := S.F_check_most; exact ⟨a, fd, p_check_most, fn_step (T := tab) (f := 10) (d := ⟨1, 1, B_check_most⟩) F sc_check_most rfl rfl rfl (fun cdv A outer s H E R Sn => d_check_most TT a cdv A outer s H E R Sn), hm, hk, hb⟩⟩
    f_Walk_met := ⟨by obtain ⟨a, fd, F, hm, hb⟩ := S.F_Walk_met; exact ⟨a, fd, p_Walk_met, fn_step (T := tab) (f := 11) (d := ⟨3, 6, B_Walk_met⟩) F sc_Walk_met rfl rfl rfl (fun cdv A outer s H E R Sn => d_Walk_met TT a cdv A outer s H E R Sn), hm, hb⟩⟩
    f_Walk__init := ini_step TT.f_Walk__init__b rfl
    f_Walk__init__b := ⟨by obtain ⟨a, fd, F, hm, hb⟩ := S.F_Walk__init__b; exact ⟨a, fd, p_Walk__init__b, fn_step (T := tab) (f := 13) (d := ⟨3, 3, B_Walk__init__b⟩) F sc_Walk__init__b rfl rfl rfl (fun cdv A outer s H E R Sn => d_Walk__init__b TT a cdv A outer s H E R Sn), hm, hb⟩⟩
    f_Walk_tree := ⟨by obtain ⟨a, fd, F, hm, hb⟩ := S.F_Walk_tree; exact ⟨a, fd, p_Walk_tree, fn_step (T := tab) (f := 14) (d := ⟨3, 6, B_Walk_tree⟩) F sc_Walk_tree rfl rfl rfl (fun cdv A outer s H E R Sn => d_Walk_tree TT a cdv A outer s H E R Sn), hm, hb⟩⟩
    f_unmet := ⟨by obtain ⟨a, fd, F, hm, hk, hb⟩ := S.F_unmet; exact ⟨a, fd, p_unmet, fn_step (T := tab) (f := 15) (d := ⟨2, 5, B_unmet⟩) F sc_unmet rfl rfl rfl (fun cdv A outer s H E R Sn => d_unmet TT a cdv A outer s H E R Sn), hm, hk, hb⟩⟩
    f_shows_tree := ⟨by obtain ⟨a, fd, F, hm, hk, hb⟩ := S.F_shows_tree; exact ⟨a, fd, p_shows_tree, fn_step (T := tab) (f := 16) (d := ⟨4, 9, B_shows_tree⟩) F sc_shows_tree rfl rfl rfl (fun cdv A outer s H E R Sn => d_shows_tree TT a cdv A outer s H E R Sn), hm, hk, hb⟩⟩
    f_is_whole := ⟨by obtain ⟨a, fd, F, hm, hk, hb⟩ := S.F_is_whole; exact ⟨a, fd, p_is_whole, fn_step (T := tab) (f := 17) (d := ⟨3, 3, B_is_whole⟩) F sc_is_whole rfl rfl rfl (fun cdv A outer s H E R Sn => d_is_whole TT a cdv A outer s H E R Sn), hm, hk, hb⟩⟩
    m_TooMany := S.m_TooMany
    X_TooMany := rfl
    exm_TooMany := S.exm_TooMany
    T_TooMany := S.T_TooMany
    no_TooMany_0 := S.no_TooMany_0
    mk_TooMany := fun e1 e2 e3 hr ha hn hg he hp => by subst e1 e2 e3; exact de_mk S.t_TooMany rfl rfl hr ha (fun e m => hn _ e m) hg he hp
    c_Walk := S.c_Walk
    nf_Walk_looked := S.nf_Walk_looked
    nf_Walk_most := S.nf_Walk_most
    nf_Walk_lots := S.nf_Walk_lots }
set_option maxHeartbeats 0 in
theorem all_mk {w : World} {K : PySem.W.Frag} {h : Heap} {mg : Str → Option Value} {fa : Addr} (X : K.In h) (G : h.Ns mainGlobals mg) (hfa : mg "law" = some (.ref fa))
    {e_Walk : Addr}
    {fa_law : Addr} {od_law an_law : Option Addr} {sl_law : Array (Option Value)} {oc_law kV_law dc_law pm_law cd_law ct_law : Value}
    {fa_law_take : Addr} {od_law_take an_law_take : Option Addr} {sl_law_take : Array (Option Value)} {oc_law_take kV_law_take dc_law_take pm_law_take cd_law_take ct_law_take : Value}
    {fa_law_rows : Addr} {od_law_rows an_law_rows : Option Addr} {sl_law_rows : Array (Option Value)} {oc_law_rows kV_law_rows dc_law_rows pm_law_rows cd_law_rows ct_law_rows : Value}
    {fa_law_meets : Addr} {od_law_meets an_law_meets : Option Addr} {sl_law_meets : Array (Option Value)} {oc_law_meets kV_law_meets dc_law_meets pm_law_meets cd_law_meets ct_law_meets : Value}
    {fa_fewest_meeting : Addr} {od_fewest_meeting an_fewest_meeting : Option Addr} {sl_fewest_meeting : Array (Option Value)} {oc_fewest_meeting kV_fewest_meeting dc_fewest_meeting pm_fewest_meeting cd_fewest_meeting ct_fewest_meeting : Value}
    {fa_is_fewest_meeting : Addr} {od_is_fewest_meeting an_is_fewest_meeting : Option Addr} {sl_is_fewest_meeting : Array (Option Value)} {oc_is_fewest_meeting kV_is_fewest_meeting dc_is_fewest_meeting pm_is_fewest_meeting cd_is_fewest_meeting ct_is_fewest_meeting : Value}
    {fa_law_bent : Addr} {od_law_bent an_law_bent : Option Addr} {sl_law_bent : Array (Option Value)} {oc_law_bent kV_law_bent dc_law_bent pm_law_bent cd_law_bent ct_law_bent : Value}
    {fa_law_is_tree : Addr} {od_law_is_tree an_law_is_tree : Option Addr} {sl_law_is_tree : Array (Option Value)} {oc_law_is_tree kV_law_is_tree dc_law_is_tree pm_law_is_tree cd_law_is_tree ct_law_is_tree : Value}
    {fa_law_pick : Addr} {od_law_pick an_law_pick : Option Addr} {sl_law_pick : Array (Option Value)} {oc_law_pick kV_law_pick dc_law_pick pm_law_pick cd_law_pick ct_law_pick : Value}
    {fa_law_number : Addr} {od_law_number an_law_number : Option Addr} {sl_law_number : Array (Option Value)} {oc_law_number kV_law_number dc_law_number pm_law_number cd_law_number ct_law_number : Value}
    {fa_check_most : Addr} {od_check_most an_check_most : Option Addr} {sl_check_most : Array (Option Value)} {oc_check_most kV_check_most dc_check_most pm_check_most cd_check_most ct_check_most : Value}
    {fa_Walk_met : Addr} {od_Walk_met an_Walk_met : Option Addr} {sl_Walk_met : Array (Option Value)} {oc_Walk_met kV_Walk_met dc_Walk_met pm_Walk_met cd_Walk_met ct_Walk_met : Value}
    {fa_Walk__init__b : Addr} {od_Walk__init__b an_Walk__init__b : Option Addr} {sl_Walk__init__b : Array (Option Value)} {oc_Walk__init__b kV_Walk__init__b dc_Walk__init__b pm_Walk__init__b cd_Walk__init__b ct_Walk__init__b : Value}
    {fa_Walk_tree : Addr} {od_Walk_tree an_Walk_tree : Option Addr} {sl_Walk_tree : Array (Option Value)} {oc_Walk_tree kV_Walk_tree dc_Walk_tree pm_Walk_tree cd_Walk_tree ct_Walk_tree : Value}
    {fa_unmet : Addr} {od_unmet an_unmet : Option Addr} {sl_unmet : Array (Option Value)} {oc_unmet kV_unmet dc_unmet pm_unmet cd_unmet ct_unmet : Value}
    {fa_shows_tree : Addr} {od_shows_tree an_shows_tree : Option Addr} {sl_shows_tree : Array (Option Value)} {oc_shows_tree kV_shows_tree dc_shows_tree pm_shows_tree cd_shows_tree ct_shows_tree : Value}
    {fa_is_whole : Addr} {od_is_whole an_is_whole : Option Addr} {sl_is_whole : Array (Option Value)} {oc_is_whole kV_is_whole dc_is_whole pm_is_whole cd_is_whole ct_is_whole : Value}
    {e_TooMany O_TooMany xf_TooMany xc_TooMany xd_TooMany : Addr} {xnm_TooMany xq_TooMany : Str} {xN_TooMany : Addr} {xbs_TooMany : List Value} {xsn_TooMany : List Str} {xsub_TooMany : List Value} {xab_TooMany : Bool} {xcol_TooMany : Option Bool} {xdd_TooMany : Option Addr} {xm0_TooMany xm1_TooMany xm2_TooMany xm3_TooMany xm5_TooMany : Option Value} {xoc_TooMany xdc_TooMany xpm_TooMany xct_TooMany xcl_TooMany xccl_TooMany : Value} {xod_TooMany xan_TooMany xcld_TooMany xcdd_TooMany : Option Addr} {xosl_TooMany xcsl_TooMany xccs_TooMany : Array (Option Value)} {xvs_TooMany : Array Value} {xfile_TooMany : Str} {xtf_TooMany : Tok} {ynm_TooMany yq_TooMany : Str} {yN_TooMany : Addr} {ybs_TooMany : List Value} {yhd_TooMany : Bool} {ysn_TooMany : List Str} {ysub_TooMany : List Value} {yab_TooMany : Bool} {ycol_TooMany : Option Bool} {ydd_TooMany : Option Addr} {ym0_TooMany ym1_TooMany ym2_TooMany ym3_TooMany ym5_TooMany : Option Value} {yw_TooMany : String}
    (zb_abs : PySem.W.nsIn K mainGlobals "abs" = some none)
    (zb_all : PySem.W.nsIn K mainGlobals "all" = some none)
    (zb_any : PySem.W.nsIn K mainGlobals "any" = some none)
    (zb_bool : PySem.W.nsIn K mainGlobals "bool" = some none)
    (zb_enumerate : PySem.W.nsIn K mainGlobals "enumerate" = some none)
    (zb_int : PySem.W.nsIn K mainGlobals "int" = some none)
    (zb_isinstance : PySem.W.nsIn K mainGlobals "isinstance" = some none)
    (zb_len : PySem.W.nsIn K mainGlobals "len" = some none)
    (zb_range : PySem.W.nsIn K mainGlobals "range" = some none)
    (zb_set : PySem.W.nsIn K mainGlobals "set" = some none)
    (zb_sorted : PySem.W.nsIn K mainGlobals "sorted" = some none)
    (zb_tuple : PySem.W.nsIn K mainGlobals "tuple" = some none)
    (zx_Walk : PySem.W.nsIn K mainGlobals "Walk" = some (some (.ref e_Walk)))
    (zpg_Walk : PySem.W.plainGet K e_Walk Str.empty = true)
    (zhd_Walk : PySem.W.hasDictIn K e_Walk = true)
    (zpo_Walk : PySem.W.plainOver K e_Walk = true)
    (zsa_Walk : PySem.W.findIn K (.ref e_Walk) "__setattr__" = some (some (.builtin "object.__setattr__")))
    (zmk_Walk : PySem.W.makesIn K e_Walk = true)
    (zkC_Walk : PySem.W.keepIn K (.ref e_Walk) = true)
    (znf_Walk_looked : PySem.W.findIn K (.ref e_Walk) "looked" = some none)
    (znf_Walk_most : PySem.W.findIn K (.ref e_Walk) "most" = some none)
    (znf_Walk_lots : PySem.W.findIn K (.ref e_Walk) "lots" = some none)
    (za_law : PySem.W.nsIn K mainGlobals "law" = some (some (.ref fa_law)))
    (zl_law : K.lookup fa_law = some ⟨oc_law, od_law, .func (PySem.W.fnOf "law" "law" (defArgs s_law) (defBody s_law) (defScope s_law) .none kV_law dc_law pm_law an_law cd_law ct_law), sl_law⟩)
    (zc_law : PySem.W.codeIn K cd_law "law" = true)
    (zk_law : PySem.W.keepIn K (.ref fa_law) = true)
    (za_law_take : PySem.W.nsIn K mainGlobals "_law_take" = some (some (.ref fa_law_take)))
    (zl_law_take : K.lookup fa_law_take = some ⟨oc_law_take, od_law_take, .func (PySem.W.fnOf "_law_take" "_law_take" (defArgs s_law_take) (defBody s_law_take) (defScope s_law_take) .none kV_law_take dc_law_take pm_law_take an_law_take cd_law_take ct_law_take), sl_law_take⟩)
    (zc_law_take : PySem.W.codeIn K cd_law_take "_law_take" = true)
    (zk_law_take : PySem.W.keepIn K (.ref fa_law_take) = true)
    (za_law_rows : PySem.W.nsIn K mainGlobals "_law_rows" = some (some (.ref fa_law_rows)))
    (zl_law_rows : K.lookup fa_law_rows = some ⟨oc_law_rows, od_law_rows, .func (PySem.W.fnOf "_law_rows" "_law_rows" (defArgs s_law_rows) (defBody s_law_rows) (defScope s_law_rows) .none kV_law_rows dc_law_rows pm_law_rows an_law_rows cd_law_rows ct_law_rows), sl_law_rows⟩)
    (zc_law_rows : PySem.W.codeIn K cd_law_rows "_law_rows" = true)
    (zk_law_rows : PySem.W.keepIn K (.ref fa_law_rows) = true)
    (za_law_meets : PySem.W.nsIn K mainGlobals "_law_meets" = some (some (.ref fa_law_meets)))
    (zl_law_meets : K.lookup fa_law_meets = some ⟨oc_law_meets, od_law_meets, .func (PySem.W.fnOf "_law_meets" "_law_meets" (defArgs s_law_meets) (defBody s_law_meets) (defScope s_law_meets) .none kV_law_meets dc_law_meets pm_law_meets an_law_meets cd_law_meets ct_law_meets), sl_law_meets⟩)
    (zc_law_meets : PySem.W.codeIn K cd_law_meets "_law_meets" = true)
    (zk_law_meets : PySem.W.keepIn K (.ref fa_law_meets) = true)
    (za_fewest_meeting : PySem.W.nsIn K mainGlobals "fewest_meeting" = some (some (.ref fa_fewest_meeting)))
    (zl_fewest_meeting : K.lookup fa_fewest_meeting = some ⟨oc_fewest_meeting, od_fewest_meeting, .func (PySem.W.fnOf "fewest_meeting" "fewest_meeting" (defArgs s_fewest_meeting) (defBody s_fewest_meeting) (defScope s_fewest_meeting) .none kV_fewest_meeting dc_fewest_meeting pm_fewest_meeting an_fewest_meeting cd_fewest_meeting ct_fewest_meeting), sl_fewest_meeting⟩)
    (zc_fewest_meeting : PySem.W.codeIn K cd_fewest_meeting "fewest_meeting" = true)
    (zk_fewest_meeting : PySem.W.keepIn K (.ref fa_fewest_meeting) = true)
    (za_is_fewest_meeting : PySem.W.nsIn K mainGlobals "is_fewest_meeting" = some (some (.ref fa_is_fewest_meeting)))
    (zl_is_fewest_meeting : K.lookup fa_is_fewest_meeting = some ⟨oc_is_fewest_meeting, od_is_fewest_meeting, .func (PySem.W.fnOf "is_fewest_meeting" "is_fewest_meeting" (defArgs s_is_fewest_meeting) (defBody s_is_fewest_meeting) (defScope s_is_fewest_meeting) .none kV_is_fewest_meeting dc_is_fewest_meeting pm_is_fewest_meeting an_is_fewest_meeting cd_is_fewest_meeting ct_is_fewest_meeting), sl_is_fewest_meeting⟩)
    (zc_is_fewest_meeting : PySem.W.codeIn K cd_is_fewest_meeting "is_fewest_meeting" = true)
    (zk_is_fewest_meeting : PySem.W.keepIn K (.ref fa_is_fewest_meeting) = true)
    (za_law_bent : PySem.W.nsIn K mainGlobals "_law_bent" = some (some (.ref fa_law_bent)))
    (zl_law_bent : K.lookup fa_law_bent = some ⟨oc_law_bent, od_law_bent, .func (PySem.W.fnOf "_law_bent" "_law_bent" (defArgs s_law_bent) (defBody s_law_bent) (defScope s_law_bent) .none kV_law_bent dc_law_bent pm_law_bent an_law_bent cd_law_bent ct_law_bent), sl_law_bent⟩)
    (zc_law_bent : PySem.W.codeIn K cd_law_bent "_law_bent" = true)
    (zk_law_bent : PySem.W.keepIn K (.ref fa_law_bent) = true)
    (za_law_is_tree : PySem.W.nsIn K mainGlobals "_law_is_tree" = some (some (.ref fa_law_is_tree)))
    (zl_law_is_tree : K.lookup fa_law_is_tree = some ⟨oc_law_is_tree, od_law_is_tree, .func (PySem.W.fnOf "_law_is_tree" "_law_is_tree" (defArgs s_law_is_tree) (defBody s_law_is_tree) (defScope s_law_is_tree) .none kV_law_is_tree dc_law_is_tree pm_law_is_tree an_law_is_tree cd_law_is_tree ct_law_is_tree), sl_law_is_tree⟩)
    (zc_law_is_tree : PySem.W.codeIn K cd_law_is_tree "_law_is_tree" = true)
    (zk_law_is_tree : PySem.W.keepIn K (.ref fa_law_is_tree) = true)
    (za_law_pick : PySem.W.nsIn K mainGlobals "_law_pick" = some (some (.ref fa_law_pick)))
    (zl_law_pick : K.lookup fa_law_pick = some ⟨oc_law_pick, od_law_pick, .func (PySem.W.fnOf "_law_pick" "_law_pick" (defArgs s_law_pick) (defBody s_law_pick) (defScope s_law_pick) .none kV_law_pick dc_law_pick pm_law_pick an_law_pick cd_law_pick ct_law_pick), sl_law_pick⟩)
    (zc_law_pick : PySem.W.codeIn K cd_law_pick "_law_pick" = true)
    (zk_law_pick : PySem.W.keepIn K (.ref fa_law_pick) = true)
    (za_law_number : PySem.W.nsIn K mainGlobals "_law_number" = some (some (.ref fa_law_number)))
    (zl_law_number : K.lookup fa_law_number = some ⟨oc_law_number, od_law_number, .func (PySem.W.fnOf "_law_number" "_law_number" (defArgs s_law_number) (defBody s_law_number) (defScope s_law_number) .none kV_law_number dc_law_number pm_law_number an_law_number cd_law_number ct_law_number), sl_law_number⟩)
    (zc_law_number : PySem.W.codeIn K cd_law_number "_law_number" = true)
    (zk_law_number : PySem.W.keepIn K (.ref fa_law_number) = true)
    (za_check_most : PySem.W.nsIn K mainGlobals "check_most" = some (some (.ref fa_check_most)))
    (zl_check_most : K.lookup fa_check_most = some ⟨oc_check_most, od_check_most, .func (PySem.W.fnOf "check_most" "check_most" (defArgs s_check_most) (defBody s_check_most) (defScope s_check_most) .none kV_check_most dc_check_most pm_check_most an_check_most cd_check_most ct_check_most), sl_check_most⟩)
    (zc_check_most : PySem.W.codeIn K cd_check_most "check_most" = true)
    (zk_check_most : PySem.W.keepIn K (.ref fa_check_most) = true)
    (za_Walk_met : PySem.W.findIn K (.ref e_Walk) "met" = some (some (.ref fa_Walk_met)))
    (zf_Walk_met : PySem.W.isFn K (.ref fa_Walk_met) = true)
    (zl_Walk_met : K.lookup fa_Walk_met = some ⟨oc_Walk_met, od_Walk_met, .func (PySem.W.fnOf "met" "Walk.met" (defArgs s_Walk_met) (defBody s_Walk_met) (defScope s_Walk_met) .none kV_Walk_met dc_Walk_met pm_Walk_met an_Walk_met cd_Walk_met ct_Walk_met), sl_Walk_met⟩)
    (zc_Walk_met : PySem.W.codeIn K cd_Walk_met "Walk.met" = true)
    (zk_Walk_met : PySem.W.keepIn K (.ref fa_Walk_met) = true)
    (za_Walk__init__b : PySem.W.findIn K (.ref e_Walk) "__init__" = some (some (.ref fa_Walk__init__b)))
    (zf_Walk__init__b : PySem.W.isFn K (.ref fa_Walk__init__b) = true)
    (zl_Walk__init__b : K.lookup fa_Walk__init__b = some ⟨oc_Walk__init__b, od_Walk__init__b, .func (PySem.W.fnOf "__init__" "Walk.__init__" (defArgs s_Walk__init__b) (defBody s_Walk__init__b) (defScope s_Walk__init__b) .none kV_Walk__init__b dc_Walk__init__b pm_Walk__init__b an_Walk__init__b cd_Walk__init__b ct_Walk__init__b), sl_Walk__init__b⟩)
    (zc_Walk__init__b : PySem.W.codeIn K cd_Walk__init__b "Walk.__init__" = true)
    (zk_Walk__init__b : PySem.W.keepIn K (.ref fa_Walk__init__b) = true)
    (za_Walk_tree : PySem.W.findIn K (.ref e_Walk) "tree" = some (some (.ref fa_Walk_tree)))
    (zf_Walk_tree : PySem.W.isFn K (.ref fa_Walk_tree) = true)
    (zl_Walk_tree : K.lookup fa_Walk_tree = some ⟨oc_Walk_tree, od_Walk_tree, .func (PySem.W.fnOf "tree" "Walk.tree" (defArgs s_Walk_tree) (defBody s_Walk_tree) (defScope s_Walk_tree) .none kV_Walk_tree dc_Walk_tree pm_Walk_tree an_Walk_tree cd_Walk_tree ct_Walk_tree), sl_Walk_tree⟩)
    (zc_Walk_tree : PySem.W.codeIn K cd_Walk_tree "Walk.tree" = true)
    (zk_Walk_tree : PySem.W.keepIn K (.ref fa_Walk_tree) = true)
    (za_unmet : PySem.W.nsIn K mainGlobals "unmet" = some (some (.ref fa_unmet)))
    (zl_unmet : K.lookup fa_unmet = some ⟨oc_unmet, od_unmet, .func (PySem.W.fnOf "unmet" "unmet" (defArgs s_unmet) (defBody s_unmet) (defScope s_unmet) .none kV_unmet dc_unmet pm_unmet an_unmet cd_unmet ct_unmet), sl_unmet⟩)
    (zc_unmet : PySem.W.codeIn K cd_unmet "unmet" = true)
    (zk_unmet : PySem.W.keepIn K (.ref fa_unmet) = true)
    (za_shows_tree : PySem.W.nsIn K mainGlobals "shows_tree" = some (some (.ref fa_shows_tree)))
    (zl_shows_tree : K.lookup fa_shows_tree = some ⟨oc_shows_tree, od_shows_tree, .func (PySem.W.fnOf "shows_tree" "shows_tree" (defArgs s_shows_tree) (defBody s_shows_tree) (defScope s_shows_tree) .none kV_shows_tree dc_shows_tree pm_shows_tree an_shows_tree cd_shows_tree ct_shows_tree), sl_shows_tree⟩)
    (zc_shows_tree : PySem.W.codeIn K cd_shows_tree "shows_tree" = true)
    (zk_shows_tree : PySem.W.keepIn K (.ref fa_shows_tree) = true)
    (za_is_whole : PySem.W.nsIn K mainGlobals "is_whole" = some (some (.ref fa_is_whole)))
    (zl_is_whole : K.lookup fa_is_whole = some ⟨oc_is_whole, od_is_whole, .func (PySem.W.fnOf "is_whole" "is_whole" (defArgs s_is_whole) (defBody s_is_whole) (defScope s_is_whole) .none kV_is_whole dc_is_whole pm_is_whole an_is_whole cd_is_whole ct_is_whole), sl_is_whole⟩)
    (zc_is_whole : PySem.W.codeIn K cd_is_whole "is_whole" = true)
    (zk_is_whole : PySem.W.keepIn K (.ref fa_is_whole) = true)
    (zsuper : PySem.W.nsIn K mainGlobals "super" = some none)
    (zopq : PySem.W.nsIn K PySem.cStatics "thirdparty.any" = some none)
    (zx_TooMany : PySem.W.nsIn K mainGlobals "TooMany" = some (some (.ref e_TooMany)))
    (zcl_TooMany : K.lookup e_TooMany = some (PySem.excClassObj xnm_TooMany xq_TooMany e_TooMany xN_TooMany xbs_TooMany (PySem.DnX.exT2 O_TooMany) true xsn_TooMany xsub_TooMany xab_TooMany xcol_TooMany xdd_TooMany xm0_TooMany xm1_TooMany xm2_TooMany xm3_TooMany xm5_TooMany "Exception.__new__"))
    (zsa_TooMany : PySem.W.findIn K (.ref e_TooMany) "__setattr__" = some (some (.builtin "object.__setattr__")))
    (zga_TooMany : PySem.W.findIn K (.ref e_TooMany) "__getattribute__" = some (some (.builtin "BaseException.__getattribute__")))
    (zgg_TooMany : PySem.W.findIn K (.ref e_TooMany) "__getattr__" = some none)
    (zno_TooMany : PySem.W.findIn K (.ref e_TooMany) "most" = some none)
    (zlo_TooMany : K.lookup O_TooMany = some (PySem.excClassObj ynm_TooMany yq_TooMany O_TooMany yN_TooMany ybs_TooMany PySem.ESX.exTail yhd_TooMany ysn_TooMany ysub_TooMany yab_TooMany ycol_TooMany ydd_TooMany ym0_TooMany ym1_TooMany ym2_TooMany ym3_TooMany ym5_TooMany yw_TooMany))
    (zfo_TooMany : PySem.W.findIn K (.ref O_TooMany) "__init__" = some (some (.builtin "Exception.__init__")))
    (zkC_TooMany : PySem.W.keepIn K (.ref e_TooMany) = true)
    (zeC_TooMany : PySem.W.subIn K (.ref e_TooMany) (.type "BaseException") = some true)
    (ztC_TooMany : PySem.W.typeIn K (.ref e_TooMany) = some (.type "type"))
    (zhC_TooMany : PySem.W.hasDictIn K e_TooMany = true)
    (ziC_TooMany : PySem.W.isClsIn K e_TooMany = true)
    (zsC_TooMany : PySem.W.subIn K (.ref e_TooMany) (.ref e_TooMany) = some true)
    (zin_TooMany : PySem.W.findIn K (.ref e_TooMany) "__init__" = some (some (.ref xf_TooMany)))
    (zit_TooMany : PySem.W.typeIn K (.ref xf_TooMany) = some (.type "function"))
    (zif_TooMany : K.lookup xf_TooMany = some ⟨xoc_TooMany, xod_TooMany, .func (PySem.W.ksFn "__init__" "TooMany.__init__" (defArgs (inClass (top 2) 0)) (defBody (inClass (top 2) 0)) (defScope (inClass (top 2) 0)) .none .none xdc_TooMany xpm_TooMany xan_TooMany (.ref xd_TooMany) xct_TooMany xc_TooMany), xosl_TooMany⟩)
    (zic_TooMany : PySem.W.codeIn K (.ref xd_TooMany) "TooMany.__init__" = true)
    (zco_TooMany : K.lookup xd_TooMany = some ⟨xccl_TooMany, xcdd_TooMany, .fields xvs_TooMany, xccs_TooMany⟩)
    (zvs_TooMany : xvs_TooMany[2]? = some (.str xfile_TooMany xtf_TooMany))
    (zfi_TooMany : ((PySem.Challenge.pw_twicedated_k55_whole_meeting.main.file : Str) == xfile_TooMany) = true)
    (zcc_TooMany : K.lookup xc_TooMany = some ⟨xcl_TooMany, xcld_TooMany, .cell (some (.ref e_TooMany)), xcsl_TooMany⟩) :
    ∃ fd : FuncData, (∀ (s : Shared) (v : Value), BindsTo s fd ⟨[v], []⟩ [("_law_script", v)]) ∧ ∀ base : Heap, K.In base → base.Ns mainGlobals mg → FnOk PySem.Challenge.pw_twicedated_k55_whole_meeting w K mg base (L2N.CX PySem.Challenge.pw_twicedated_k55_whole_meeting w) 13 fa fd p_law (spLaw K) := by
  have e := hfa.symm.trans (PySem.W.mg_of X G za_law)
  cases e
  have S : Sta PySem.Challenge.pw_twicedated_k55_whole_meeting K mg e_TooMany e_Walk := {
    b_abs := PySem.W.mg_none_of X G zb_abs
    b_all := PySem.W.mg_none_of X G zb_all
    b_any := PySem.W.mg_none_of X G zb_any
    b_bool := PySem.W.mg_none_of X G zb_bool
    b_enumerate := PySem.W.mg_none_of X G zb_enumerate
    b_int := PySem.W.mg_none_of X G zb_int
    b_isinstance := PySem.W.mg_none_of X G zb_isinstance
    b_len := PySem.W.mg_none_of X G zb_len
    b_range := PySem.W.mg_none_of X G zb_range
    b_set := PySem.W.mg_none_of X G zb_set
    b_sorted := PySem.W.mg_none_of X G zb_sorted
    b_tuple := PySem.W.mg_none_of X G zb_tuple
    yes := trivial
    c_Walk := ⟨cAt_of zx_Walk, PySem.W.mg_of X G zx_Walk, ⟨zpg_Walk, zhd_Walk, zpo_Walk, zsa_Walk⟩⟩
    nf_Walk_looked := znf_Walk_looked
    nf_Walk_most := znf_Walk_most
    nf_Walk_lots := znf_Walk_lots
    F_law := fun_sta X G za_law zl_law zc_law zk_law fun _ _ _ _ _ _ us hl => match us, hl with | [_], _ => rfl
    F_law_take := fun_sta X G za_law_take zl_law_take zc_law_take zk_law_take fun _ _ _ _ _ _ us hl => match us, hl with | [_, _], _ => rfl
    F_law_rows := fun_sta X G za_law_rows zl_law_rows zc_law_rows zk_law_rows fun _ _ _ _ _ _ us hl => match us, hl with | [_], _ => rfl
    F_law_meets := fun_sta X G za_law_meets zl_law_meets zc_law_meets zk_law_meets fun _ _ _ _ _ _ us hl => match us, hl with | [_, _], _ => rfl
    F_fewest_meeting := fun_sta X G za_fewest_meeting zl_fewest_meeting zc_fewest_meeting zk_fewest_meeting fun _ _ _ _ _ _ us hl => match us, hl with | [_, _], _ => rfl
    F_is_fewest_meeting := fun_sta X G za_is_fewest_meeting zl_is_fewest_meeting zc_is_fewest_meeting zk_is_fewest_meeting fun _ _ _ _ _ _ us hl => match us, hl with | [_, _, _], _ => rfl
    F_law_bent := fun_sta X G za_law_bent zl_law_bent zc_law_bent zk_law_bent fun _ _ _ _ _ _ us hl => match us, hl with | [_, _], _ => rfl
    F_law_is_tree := fun_sta X G za_law_is_tree zl_law_is_tree zc_law_is_tree zk_law_is_tree fun _ _ _ _ _ _ us hl => match us, hl with | [_, _, _, _], _ => rfl
    F_law_pick := fun_sta X G za_law_pick zl_law_pick zc_law_pick zk_law_pick fun _ _ _ _ _ _ us hl => match us, hl with | [_, _], _ => rfl
    F_law_number := fun_sta X G za_law_number zl_law_number zc_law_number zk_law_number fun _ _ _ _ _ _ us hl => match us, hl with | [_, _], _ => rfl
    F_check_most := fun_sta X G za_check_most zl_check_most zc_check_most zk_check_most fun _ _ _ _ _ _ us hl => match us, hl with | [_], _ => rfl
    F_Walk_met := mth_sta za_Walk_met zf_Walk_met zl_Walk_met zc_Walk_met zk_Walk_met fun _ _ _ _ _ _ us hl => match us, hl with | [_, _, _], _ => rfl
    F_Walk__init__b := ini_sta za_Walk__init__b zf_Walk__init__b zl_Walk__init__b zc_Walk__init__b zk_Walk__init__b zmk_Walk zkC_Walk fun _ _ _ _ _ _ us hl => match us, hl with | [_, _, _], _ => rfl
    F_Walk_tree := mth_sta za_Walk_tree zf_Walk_tree zl_Walk_tree zc_Walk_tree zk_Walk_tree fun _ _ _ _ _ _ us hl => match us, hl with | [_, _, _], _ => rfl
    F_unmet := fun_sta X G za_unmet zl_unmet zc_unmet zk_unmet fun _ _ _ _ _ _ us hl => match us, hl with | [_, _], _ => rfl
    F_shows_tree := fun_sta X G za_shows_tree zl_shows_tree zc_shows_tree zk_shows_tree fun _ _ _ _ _ _ us hl => match us, hl with | [_, _, _, _], _ => rfl
    F_is_whole := fun_sta X G za_is_whole zl_is_whole zc_is_whole zk_is_whole fun _ _ _ _ _ _ us hl => match us, hl with | [_, _, _], _ => rfl
    m_TooMany := PySem.W.mg_of X G zx_TooMany
    exm_TooMany := fun c C ns hx => by
      match c, hx with
      | 0, hx => cases hx; exact exm_self zeC_TooMany ziC_TooMany ztC_TooMany zsC_TooMany
      | c + 1, hx => cases hx
    T_TooMany := ⟨zga_TooMany, zgg_TooMany, zeC_TooMany, zhC_TooMany⟩
    no_TooMany_0 := zno_TooMany
    t_TooMany := { gC := PySem.W.mg_of X G zx_TooMany, cls := ⟨_, _, _, _, _, _, _, _, _, _, _, _, _, _, _, zcl_TooMany⟩, sa := zsa_TooMany, noN := zno_TooMany, sup := PySem.DnX.sup_of zcl_TooMany zlo_TooMany zfo_TooMany, opq := zopq, kC := zkC_TooMany, exC := zeC_TooMany, tyC := ztC_TooMany, fn := ⟨_, _, _, _, _, _, _, _, _, _, _, _, _, _, _, _, _, _, _, _, _, _, _, _, _, _, _, _, _, _, _, _, _, _, zin_TooMany, zit_TooMany, zif_TooMany, zic_TooMany, zco_TooMany, zvs_TooMany, zfi_TooMany, zcc_TooMany, rfl⟩, nm := PySem.W.mg_none_of X G zsuper, top := rfl, fs := ⟨by decide, by decide, by decide, by decide⟩, sw := fun _ _ _ _ _ => rfl, bnd := fun _ _ _ _ _ _ _ _ _ _ _ _ => rfl } }
  exact ⟨_, fun s v => .of_eq rfl, fun base _ _ => law_ok (T := tab) (Xs := Xs e_TooMany e_Walk) (f := 0) (fn_step (T := tab) (f := 0) (d := ⟨1, 14, B_law⟩) (fun_mk zl_law zc_law zk_law) sc_law rfl rfl rfl (fun cdv A outer s H E R Sn => d_law (txt S 12) _ cdv A outer s H E R Sn)) rfl (fun ns hl => mirror ns hl)⟩
theorem walk {l : PySem.W.OpenLaw} {q : Program} {loose : List Str} {XP : (Str → Option Value) → Heap → Prop} {YP : World → Heap → Prop} {d : DefRec} {K : Params → PySem.W.Frag} (hn : l.most = some 63) (hdf : d.params.defaults = [])
    (hY : ∀ (w : World) (h : Heap), YP w h → (K w.params).In h)
    (F : ∀ (w : World) (mg : Str → Option Value) (fa : Addr) (h : Heap), (K w.params).In h → h.Ns mainGlobals mg → mg d.name = some (.ref fa) →
      ∃ fd : FuncData, (∀ (s : Shared) (u : Value), BindsTo s fd ⟨[u], []⟩ [("_law_script", u)]) ∧ ∀ base : Heap, (K w.params).In base → base.Ns mainGlobals mg → FnOk l.prog w (K w.params) mg base (L2N.CX l.prog w) 13 fa fd p_law (spLaw (K w.params))) :
    PySem.W.WalkO q loose XP YP l.row.toRowW d [] (fun f vs => PySem.call f vs) :=
  L2.walk_of (n := 63) (k := 13) (x := "_law_script") (CX := fun w => L2N.CX l.prog w) (sp := fun w => spLaw (K w.params)) hn (by decide) hdf ⟨rfl, by decide, by decide⟩ hY F (fun _ _ a ns hl _ hS => ⟨a, ns, rfl, hS, hl, fun _ => rfl⟩) fun _ _ _ _ _ z => cx_no z
end Dn.K55
open PySem PySem.W PyProof.Rows
set_option maxRecDepth 100000 in
set_option maxHeartbeats 0 in
theorem PySem.Challenge.cw_twicedated_k55_whole_meeting_holds : PySem.Challenge.rw_twicedated_k55_whole_meeting.Holds := by
  w_on; o_law; k_head; (case hw => w_witness2)
  k_fill
  refine Dn.K55.walk (l := PySem.Challenge.rw_twicedated_k55_whole_meeting) rfl rfl (fun w h Y => PySem.W.kIn_of Y) ?F
  case F =>
    intro w mg fa h KX G hmg
    refine' Dn.K55.all_mk KX G hmg ?zb_abs ?zb_all ?zb_any ?zb_bool ?zb_enumerate ?zb_int ?zb_isinstance ?zb_len ?zb_range ?zb_set ?zb_sorted ?zb_tuple ?zx_Walk ?zpg_Walk ?zhd_Walk ?zpo_Walk ?zsa_Walk ?zmk_Walk ?zkC_Walk ?znf_Walk_looked ?znf_Walk_most ?znf_Walk_lots ?za_law ?zl_law ?zc_law ?zk_law ?za_law_take ?zl_law_take ?zc_law_take ?zk_law_take ?za_law_rows ?zl_law_rows ?zc_law_rows ?zk_law_rows ?za_law_meets ?zl_law_meets ?zc_law_meets ?zk_law_meets ?za_fewest_meeting ?zl_fewest_meeting ?zc_fewest_meeting ?zk_fewest_meeting ?za_is_fewest_meeting ?zl_is_fewest_meeting ?zc_is_fewest_meeting ?zk_is_fewest_meeting ?za_law_bent ?zl_law_bent ?zc_law_bent ?zk_law_bent ?za_law_is_tree ?zl_law_is_tree ?zc_law_is_tree ?zk_law_is_tree ?za_law_pick ?zl_law_pick ?zc_law_pick ?zk_law_pick ?za_law_number ?zl_law_number ?zc_law_number ?zk_law_number ?za_check_most ?zl_check_most ?zc_check_most ?zk_check_most ?za_Walk_met ?zf_Walk_met ?zl_Walk_met ?zc_Walk_met ?zk_Walk_met ?za_Walk__init__b ?zf_Walk__init__b ?zl_Walk__init__b ?zc_Walk__init__b ?zk_Walk__init__b ?za_Walk_tree ?zf_Walk_tree ?zl_Walk_tree ?zc_Walk_tree ?zk_Walk_tree ?za_unmet ?zl_unmet ?zc_unmet ?zk_unmet ?za_shows_tree ?zl_shows_tree ?zc_shows_tree ?zk_shows_tree ?za_is_whole ?zl_is_whole ?zc_is_whole ?zk_is_whole ?zsuper ?zopq ?zx_TooMany ?zcl_TooMany ?zsa_TooMany ?zga_TooMany ?zgg_TooMany ?zno_TooMany ?zlo_TooMany ?zfo_TooMany ?zkC_TooMany ?zeC_TooMany ?ztC_TooMany ?zhC_TooMany ?ziC_TooMany ?zsC_TooMany ?zin_TooMany ?zit_TooMany ?zif_TooMany ?zic_TooMany ?zco_TooMany ?zvs_TooMany ?zfi_TooMany ?zcc_TooMany
    (case zb_abs => k_is)
    (case zb_all => k_is)
    (case zb_any => k_is)
    (case zb_bool => k_is)
    (case zb_enumerate => k_is)
    (case zb_int => k_is)
    (case zb_isinstance => k_is)
    (case zb_len => k_is)
    (case zb_range => k_is)
    (case zb_set => k_is)
    (case zb_sorted => k_is)
    (case zb_tuple => k_is)
    (case zx_Walk => k_is)
    (case zpg_Walk => k_is)
    (case zhd_Walk => k_is)
    (case zpo_Walk => k_is)
    (case zsa_Walk => k_is)
    (case zmk_Walk => k_is)
    (case zkC_Walk => k_is)
    (case znf_Walk_looked => k_is)
    (case znf_Walk_most => k_is)
    (case znf_Walk_lots => k_is)
    (case za_law => k_is)
    (case zl_law => k_is)
    (case zc_law => k_is)
    (case zk_law => k_is)
    (case za_law_take => k_is)
    (case zl_law_take => k_is)
    (case zc_law_take => k_is)
    (case zk_law_take => k_is)
    (case za_law_rows => k_is)
    (case zl_law_rows => k_is)
    (case zc_law_rows => k_is)
    (case zk_law_rows => k_is)
    (case za_law_meets => k_is)
    (case zl_law_meets => k_is)
    (case zc_law_meets => k_is)
    (case zk_law_meets => k_is)
    (case za_fewest_meeting => k_is)
    (case zl_fewest_meeting => k_is)
    (case zc_fewest_meeting => k_is)
    (case zk_fewest_meeting => k_is)
    (case za_is_fewest_meeting => k_is)
    (case zl_is_fewest_meeting => k_is)
    (case zc_is_fewest_meeting => k_is)
    (case zk_is_fewest_meeting => k_is)
    (case za_law_bent => k_is)
    (case zl_law_bent => k_is)
    (case zc_law_bent => k_is)
    (case zk_law_bent => k_is)
    (case za_law_is_tree => k_is)
    (case zl_law_is_tree => k_is)
    (case zc_law_is_tree => k_is)
    (case zk_law_is_tree => k_is)
    (case za_law_pick => k_is)
    (case zl_law_pick => k_is)
    (case zc_law_pick => k_is)
    (case zk_law_pick => k_is)
    (case za_law_number => k_is)
    (case zl_law_number => k_is)
    (case zc_law_number => k_is)
    (case zk_law_number => k_is)
    (case za_check_most => k_is)
    (case zl_check_most => k_is)
    (case zc_check_most => k_is)
    (case zk_check_most => k_is)
    (case za_Walk_met => k_is)
    (case zf_Walk_met => k_is)
    (case zl_Walk_met => k_is)
    (case zc_Walk_met => k_is)
    (case zk_Walk_met => k_is)
    (case za_Walk__init__b => k_is)
    (case zf_Walk__init__b => k_is)
    (case zl_Walk__init__b => k_is)
    (case zc_Walk__init__b => k_is)
    (case zk_Walk__init__b => k_is)
    (case za_Walk_tree => k_is)
    (case zf_Walk_tree => k_is)
    (case zl_Walk_tree => k_is)
    (case zc_Walk_tree => k_is)
    (case zk_Walk_tree => k_is)
    (case za_unmet => k_is)
    (case zl_unmet => k_is)
    (case zc_unmet => k_is)
    (case zk_unmet => k_is)
    (case za_shows_tree => k_is)
    (case zl_shows_tree => k_is)
    (case zc_shows_tree => k_is)
    (case zk_shows_tree => k_is)
    (case za_is_whole => k_is)
    (case zl_is_whole => k_is)
    (case zc_is_whole => k_is)
    (case zk_is_whole => k_is)
    (case zsuper => k_is)
    (case zopq => k_is)
    (case zx_TooMany => k_is)
    (case zcl_TooMany => k_is)
    (case zsa_TooMany => k_is)
    (case zga_TooMany => k_is)
    (case zgg_TooMany => k_is)
    (case zno_TooMany => k_is)
    (case zlo_TooMany => k_is)
    (case zfo_TooMany => k_is)
    (case zkC_TooMany => k_is)
    (case zeC_TooMany => k_is)
    (case ztC_TooMany => k_is)
    (case zhC_TooMany => k_is)
    (case ziC_TooMany => k_is)
    (case zsC_TooMany => first | rfl | k_is)
    (case zin_TooMany => k_is)
    (case zit_TooMany => k_is)
    (case zif_TooMany => k_is)
    (case zic_TooMany => k_is)
    (case zco_TooMany => k_is)
    (case zvs_TooMany => rfl)
    (case zfi_TooMany => (first | rfl | decide +kernel))
    (case zcc_TooMany => k_is)
