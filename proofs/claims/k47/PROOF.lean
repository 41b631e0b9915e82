import PyProof.Rows.All
import Wide.All
import OpenK.AllK
import Wide.FinOn
import HandS.ForMost
import HandS.ForExc
import KE.KDictKeyed
import HandS.Style
import HandS.NoneIn
import HandS.ExcCtx
import HandS.HotCalls
import HandS.Zip
import KE.GoesMore
import HandS.ExcField
import HandS.TupAny
import HandS.Deep
import HandS.TupLe
import HandS.IsInst
import HandS.Star
import HandS.Conv
import HandS.SortRule
import KE.SortData
import HandS.Small
import HandS.Words
import HandS.ExcSuper
import HandS.HeadWalk
import HandS.CallRecv
import KE.KSuper
import HandS.ExcOwn
import KE.SortKeyHeap
import HandS.SortKw
import HandS.DictComp
import KE.OsSorts
import HandS.SetFor
import HandS.Strs
import HandS.List
import KE.SortLaws
import HandS.SortInts
import HandS.Dict
import HandS.DictTup
import HandS.SlotsOwn
import HandS.OwnEq
import PyProof.InstNe
import HandS.DictEq
import KE.KDictCopyH
import PyProof.MeetsDictList
import KE.KDictZip
import KE.KTurns
import HandS.RaiseMore
import PyProof.CollectStr
import PySem.Challenge.RW_twicedated_k47_whole_words
set_option Elab.async false
set_option linter.all false
set_option maxRecDepth 100000
set_option maxHeartbeats 4000000
/-! Data by themselves: what a run computes, with lists, tuples and texts as plain values. -/
namespace Dn
open PySem L2

inductive D where
  | non | bl (b : Bool) | int (i : Int) | str (s : Str) | tup (xs : List D) | lst (xs : List D) | frz (xs : List D)
  | dct (kvs : List (D × D)) | ins (c : Str) (fs : List (Str × D)) | ref (n : Nat)

/-- a thing of the store: it may change -/
inductive Ob where
  | lst (xs : List D) | ins (c : Str) (fs : List (Str × D)) | dct (kvs : List (D × D)) | gone
abbrev Store := List Ob

/-- a slot -/
inductive Cell where
  | em | dat (d : D) | own (d : D) | exn (c : Nat) (fs : List D)
abbrev Env := List Cell

inductive R (α : Type) where
  | ok (a : α) (m : Store) | exc (c : Nat) (fs : List D) (m : Store) | stuck
inductive SR where
  | nx (e : Env) (m : Store) | ret (d : D) (m : Store) | brk (e : Env) (m : Store) | ct (e : Env) (m : Store) | exc (c : Nat) (fs : List D) (e : Env) (m : Store) | stuck
abbrev Orc := Nat → List D → Store → R D
abbrev EvE := Orc → Env → Store → R D
abbrev EvA := Orc → Env → Store → R (List D)
abbrev EvT := Orc → Env → Store → R Bool
abbrev EvS := Orc → Env → Store → SR

def R.bind {α β : Type} (r : R α) (f : α → Store → R β) : R β := match r with
  | .ok a m => f a m
  | .exc c fs m => .exc c fs m
  | .stuck => .stuck
@[simp] theorem R.bind_ok {α β : Type} (a : α) (m : Store) (f : α → Store → R β) : (R.ok a m).bind f = f a m := rfl
@[simp] theorem R.bind_exc {α β : Type} (c : Nat) (fs : List D) (m : Store) (f : α → Store → R β) : (R.exc c fs m).bind f = .exc c fs m := rfl
@[simp] theorem R.bind_stuck {α β : Type} (f : α → Store → R β) : (R.stuck : R α).bind f = .stuck := rfl
def R.of {α : Type} (o : Option α) (m : Store) : R α := match o with
  | some a => .ok a m
  | none => .stuck
@[simp] theorem R.of_some {α : Type} (a : α) (m : Store) : R.of (some a) m = .ok a m := rfl
@[simp] theorem R.of_none {α : Type} (m : Store) : R.of (none : Option α) m = .stuck := rfl

/-! ### what stands for what -/
/-- what the top has written, and the world -/
structure KW where
  K : PySem.W.Frag
  w : World
instance : Coe KW PySem.W.Frag := ⟨KW.K⟩
@[reducible] def _root_.L2.Cx.kw (X : Cx) : KW := ⟨X.K, X.w⟩
/-- the names of the store's things -/
abbrev Th := Nat → Option Addr

/-- where the class of that name stands -/
def cAt (K : PySem.W.Frag) (c : Str) : Option Addr := match PySem.W.nsIn K mainGlobals c with
  | some (some (.ref C)) => some C
  | _ => none

/-! ### dicts: their one object, its rows -/
/-- a key -/
inductive DKey where
  | leaf (k : Key) | tup (k : NestedKey)
  deriving DecidableEq
def DKey.hash (w : World) : DKey → Int
  | .leaf k => keyH w k
  | .tup k => k.hash w
mutual
def toN : D → Option NestedKey
  | .non => some .none
  | .bl b => some (.num (if b = true then 1 else 0))
  | .int i => some (.num i)
  | .str x => some (.text x)
  | .tup xs => (toNs xs).map .tup
  | _ => none
def toNs : List D → Option (List NestedKey)
  | [] => some []
  | d :: ds => (toN d).bind fun k => (toNs ds).map fun ks => k :: ks
end
/-- a datum as a key -/
def toK : D → Option DKey
  | .int i => some (.leaf (.inl i))
  | .str x => some (.leaf (.inr x))
  | .tup xs => match toN (.tup xs) with
    | some k => if k.depth ≤ 8 then some (.tup k) else none
    | none => none
  | _ => none
structure RowsO (w : World) (o : Obj) (rows : List (DKey × V × V)) : Prop where
  ex : o.ExactDict
  at_ : ∃ es ep, o.data = .dict es ep ∧ Paired (fun (r : DKey × V × V) (e : DictEntry) => e.hash = r.1.hash w ∧ RelV r.2.1 e.key ∧ RelV r.2.2 e.val) rows es.toList
  nd : (rows.map (·.1)).Nodup
  sz : rows.length ≤ sizeLine
/-- the object at a, wholly known -/
abbrev dO (a : Addr) (o : Obj) : HO := .ext fun h => h.get? a = some o
mutual
inductive DR (K : KW) (S : Hp) (t : Th) : V → D → Prop
  | non : DR K S t .non .non
  | bl (b : Bool) : DR K S t (.bl b) (.bl b)
  | int (i : Int) : DR K S t (.int i) (.int i)
  | str (x : Str) : DR K S t (.str x) (.str x)
  | lst {a : Addr} {vs : List V} {ds : List D} : S a = some (.lst vs) → DRs K S t vs ds → DR K S t (.ref a) (.lst ds)
  | frz {a : Addr} {vs : List V} {ds : List D} : SqL K S a vs → DRs K S t vs ds → DR K S t (.ref a) (.frz ds)
  | tup {a : Addr} {vs : List V} {ds : List D} : SqT K S a vs → DRs K S t vs ds → DR K S t (.ref a) (.tup ds)
  | ref {n : Nat} {a : Addr} : t n = some a → DR K S t (.ref a) (.ref n)
  | dct {a : Addr} {o : Obj} {rows : List (DKey × V × V)} {kvs : List (D × D)} : (a == sysModules) = false → S a = some (dO a o) → RowsO K.w o rows → DKV K S t rows kvs → DR K S t (.ref a) (.dct kvs)
  | ins {a C dx : Addr} {c : Str} {vs : List (Str × V)} {fs : List (Str × D)} : cAt K c = some C → S a = some (.ins C dx vs) → FRs K S t vs fs → DR K S t (.ref a) (.ins c fs)
inductive DRs (K : KW) (S : Hp) (t : Th) : List V → List D → Prop
  | nil : DRs K S t [] []
  | cons {v : V} {vs : List V} {d : D} {ds : List D} : DR K S t v d → DRs K S t vs ds → DRs K S t (v :: vs) (d :: ds)
/-- fields -/
inductive FRs (K : KW) (S : Hp) (t : Th) : List (Str × V) → List (Str × D) → Prop
  | nil : FRs K S t [] []
  | cons {f : Str} {v : V} {vs : List (Str × V)} {d : D} {ds : List (Str × D)} : DR K S t v d → FRs K S t vs ds → FRs K S t ((f, v) :: vs) ((f, d) :: ds)
/-- rows of a dict -/
inductive DKV (K : KW) (S : Hp) (t : Th) : List (DKey × V × V) → List (D × D) → Prop
  | nil : DKV K S t [] []
  | cons {k : DKey} {u v : V} {c d : D} {rs : List (DKey × V × V)} {kvs : List (D × D)} : toK c = some k → DR K S t u c → DR K S t v d → DKV K S t rs kvs → DKV K S t ((k, u, v) :: rs) ((c, d) :: kvs)
end

def Sub (S S' : Hp) : Prop := ∀ a o, S a = some o → S' a = some o
def TSub (t t' : Th) : Prop := ∀ n a, t n = some a → t' n = some a
theorem Sub.refl (S : Hp) : Sub S S := fun _ _ h => h
theorem Sub.trans {S S1 S2 : Hp} (a : Sub S S1) (b : Sub S1 S2) : Sub S S2 := fun x o h => b x o (a x o h)
theorem TSub.refl (t : Th) : TSub t t := fun _ _ h => h
theorem TSub.trans {t t1 t2 : Th} (a : TSub t t1) (b : TSub t1 t2) : TSub t t2 := fun n x h => b n x (a n x h)
section
variable {K : KW} {S S' H : Hp} {t t' : Th}
theorem Sub.sqL {K : PySem.W.Frag} {a : Addr} {vs : List V} (e : Sub S S') (h : SqL K S a vs) : SqL K S' a vs := by
  rcases h with (h | ⟨o, h⟩) | h
  · exact .inl (.inl (e _ _ h))
  · exact .inl (.inr ⟨o, e _ _ h⟩)
  · exact .inr h
theorem Sub.sqT {K : PySem.W.Frag} {a : Addr} {vs : List V} (e : Sub S S') (h : SqT K S a vs) : SqT K S' a vs := by
  rcases h with (h | ⟨o, h⟩) | h
  · exact .inl (.inl (e _ _ h))
  · exact .inl (.inr ⟨o, e _ _ h⟩)
  · exact .inr h
mutual
theorem DR.mono (e : Sub S S') (f : TSub t t') : ∀ {v : V} {d : D}, DR K S t v d → DR K S' t' v d
  | _, _, .non => .non
  | _, _, .bl b => .bl b
  | _, _, .int i => .int i
  | _, _, .str x => .str x
  | _, _, .lst h hs => .lst (e _ _ h) (DRs.mono e f hs)
  | _, _, .frz h hs => .frz (e.sqL h) (DRs.mono e f hs)
  | _, _, .tup h hs => .tup (e.sqT h) (DRs.mono e f hs)
  | _, _, .ref h => .ref (f _ _ h)
  | _, _, .ins c h hs => .ins c (e _ _ h) (FRs.mono e f hs)
  | _, _, .dct z h r hs => .dct z (e _ _ h) r (DKV.mono e f hs)
theorem DRs.mono (e : Sub S S') (f : TSub t t') : ∀ {vs : List V} {ds : List D}, DRs K S t vs ds → DRs K S' t' vs ds
  | _, _, .nil => .nil
  | _, _, .cons h hs => .cons (DR.mono e f h) (DRs.mono e f hs)
theorem FRs.mono (e : Sub S S') (f : TSub t t') : ∀ {vs : List (Str × V)} {ds : List (Str × D)}, FRs K S t vs ds → FRs K S' t' vs ds
  | _, _, .nil => .nil
  | _, _, .cons h hs => .cons (DR.mono e f h) (FRs.mono e f hs)
theorem DKV.mono (e : Sub S S') (f : TSub t t') : ∀ {vs : List (DKey × V × V)} {ds : List (D × D)}, DKV K S t vs ds → DKV K S' t' vs ds
  | _, _, .nil => .nil
  | _, _, .cons k h g hs => .cons k (DR.mono e f h) (DR.mono e f g) (DKV.mono e f hs)
end
/-- a field's value is put -/
def putD (f : Str) (d : D) : List (Str × D) → List (Str × D)
  | [] => [(f, d)]
  | (g, x) :: r => if g = f then (g, d) :: r else (g, x) :: putD f d r
theorem FRs.length {vs : List (Str × V)} : ∀ {ds : List (Str × D)}, FRs K S t vs ds → vs.length = ds.length := by
  induction vs with
  | nil => intro ds h; cases h; rfl
  | cons v vs ih => intro ds h; cases h with | cons h hs => simp [ih hs]
theorem FRs.lookup {vs : List (Str × V)} : ∀ {ds : List (Str × D)} {f : Str} {d : D}, FRs K S t vs ds → ds.lookup f = some d → ∃ v, vs.lookup f = some v ∧ DR K S t v d := by
  induction vs with
  | nil => intro ds f d h e; cases h; cases e
  | cons v vs ih =>
    intro ds f d h e
    cases h with
    | @cons g x _ y _ h hs =>
      by_cases z : f == g
      · simp only [List.lookup_cons, z] at e ⊢
        cases e
        exact ⟨x, rfl, h⟩
      · have z : (f == g) = false := by simpa using z
        simp only [List.lookup_cons, z] at e ⊢
        exact ih hs e
theorem FRs.put {vs : List (Str × V)} {f : Str} {v : V} {d : D} (g : DR K S t v d) : ∀ {ds : List (Str × D)}, FRs K S t vs ds → FRs K S t (putF f v vs) (putD f d ds) := by
  induction vs with
  | nil => intro ds h; cases h; exact .cons g .nil
  | cons v vs ih =>
    intro ds h
    cases h with
    | @cons k x _ y _ h hs =>
      unfold putF putD
      by_cases z : k = f
      · rw [if_pos z, if_pos z]; exact .cons g hs
      · rw [if_neg z, if_neg z]; exact .cons h (ih hs)
theorem FRs.lookup_none {vs : List (Str × V)} : ∀ {ds : List (Str × D)} {f : Str}, FRs K S t vs ds → ds.lookup f = none → vs.lookup f = none := by
  induction vs with
  | nil => intro ds f h e; rfl
  | cons v vs ih =>
    intro ds f h e
    cases h with
    | @cons g x _ y _ h hs =>
      by_cases z : f == g
      · simp only [List.lookup_cons, z] at e; cases e
      · have z : (f == g) = false := by simpa using z
        simp only [List.lookup_cons, z] at e ⊢
        exact ih hs e
theorem DRs.length {vs : List V} : ∀ {ds : List D}, DRs K S t vs ds → vs.length = ds.length := by
  induction vs with
  | nil => intro ds h; cases h; rfl
  | cons v vs ih => intro ds h; cases h with | cons h hs => simp [ih hs]
theorem DRs.get {vs : List V} : ∀ {ds : List D} {i : Nat} {d : D}, DRs K S t vs ds → ds[i]? = some d → ∃ v, vs[i]? = some v ∧ DR K S t v d := by
  induction vs with
  | nil => intro ds i d h e; cases h; simp at e
  | cons v vs ih =>
    intro ds i d h e
    cases h with
    | cons h hs =>
      cases i with
      | zero => simp at e; subst e; exact ⟨v, by simp, h⟩
      | succ i => obtain ⟨w, e1, r⟩ := ih hs (i := i) (d := d) (by simpa using e); exact ⟨w, by simpa using e1, r⟩
theorem DRs.get' {vs : List V} : ∀ {ds : List D} {i : Nat} {v : V}, DRs K S t vs ds → vs[i]? = some v → ∃ d, ds[i]? = some d ∧ DR K S t v d := by
  induction vs with
  | nil => intro ds i d h e; cases h; simp at e
  | cons v vs ih =>
    intro ds i d h e
    cases h with
    | cons h hs =>
      cases i with
      | zero => simp at e; subst e; exact ⟨_, by simp, h⟩
      | succ i => obtain ⟨w, e1, r⟩ := ih hs (i := i) (by simpa using e); exact ⟨w, by simpa using e1, r⟩
theorem DRs.append {vs ws : List V} {ds es : List D} (h : DRs K S t vs ds) (g : DRs K S t ws es) : DRs K S t (vs ++ ws) (ds ++ es) := by
  induction vs generalizing ds with
  | nil => cases h; exact g
  | cons v vs ih => cases h with | cons h hs => exact .cons h (ih hs)
theorem DRs.take {vs : List V} {ds : List D} (n : Nat) (h : DRs K S t vs ds) : DRs K S t (vs.take n) (ds.take n) := by
  induction vs generalizing ds n with
  | nil => cases h; simp; exact .nil
  | cons v vs ih =>
    cases h with
    | cons h hs =>
      cases n with
      | zero => simp; exact .nil
      | succ n => simp only [List.take_succ_cons]; exact .cons h (ih n hs)
theorem DRs.drop {vs : List V} {ds : List D} (n : Nat) (h : DRs K S t vs ds) : DRs K S t (vs.drop n) (ds.drop n) := by
  induction vs generalizing ds n with
  | nil => cases h; simp; exact .nil
  | cons v vs ih =>
    cases h with
    | cons h hs =>
      cases n with
      | zero => simp; exact .cons h hs
      | succ n => simp only [List.drop_succ_cons]; exact ih n hs
theorem DRs.set {vs : List V} {ds : List D} {v : V} {d : D} (n : Nat) (h : DRs K S t vs ds) (g : DR K S t v d) : DRs K S t (vs.set n v) (ds.set n d) := by
  induction vs generalizing ds n with
  | nil => cases h; simp; exact .nil
  | cons v vs ih =>
    cases h with
    | cons h hs =>
      cases n with
      | zero => simp; exact .cons g hs
      | succ n => simp only [List.set_cons_succ]; exact .cons h (ih n hs)
theorem DRs.reverse {vs : List V} {ds : List D} (h : DRs K S t vs ds) : DRs K S t vs.reverse ds.reverse := by
  induction vs generalizing ds with
  | nil => cases h; exact .nil
  | cons v vs ih =>
    cases h with
    | cons h hs => simp only [List.reverse_cons]; exact (ih hs).append (.cons h .nil)
end

/-! ### the state: S what is settled (it never changes), H all that is tracked, t the store's addresses -/
/-- a thing of the heap as a thing of the store -/
inductive ObR (K : KW) (S : Hp) (t : Th) (a : Addr) : HO → Ob → Prop
  | lst {vs : List V} {xs : List D} : DRs K S t vs xs → ObR K S t a (.lst vs) (.lst xs)
  | dct {o : Obj} {rows : List (DKey × V × V)} {kvs : List (D × D)} : (a == sysModules) = false → RowsO K.w o rows → DKV K S t rows kvs → ObR K S t a (dO a o) (.dct kvs)
  | ins {C dx : Addr} {c : Str} {vs : List (Str × V)} {fs : List (Str × D)} : cAt K c = some C → FRs K S t vs fs → ObR K S t a (.ins C dx vs) (.ins c fs)
theorem ObR.mono {K : KW} {S S' : Hp} {t t' : Th} {a : Addr} {u : HO} {o : Ob} (e : Sub S S') (f : TSub t t') (h : ObR K S t a u o) : ObR K S' t' a u o := by
  cases h with
  | lst h => exact .lst (h.mono e f)
  | dct z r h => exact .dct z r (h.mono e f)
  | ins c h => exact .ins c (h.mono e f)
structure HI (K : KW) (S H : Hp) (t : Th) (m : Store) : Prop where
  sub : Sub S H
  stb : ∀ n o, m[n]? = some o → o ≠ .gone → ∃ a u, t n = some a ∧ S a = none ∧ H a = some u ∧ ObR K S t a u o
  off : ∀ n a, t n = some a → H a ≠ none
  inj : ∀ n k a, t n = some a → t k = some a → n = k
  out : ∀ n, m.length ≤ n → t n = none
theorem HI.sto {K : KW} {S H : Hp} {t : Th} {m : Store} (i : HI K S H t m) (n : Nat) (xs : List D) (h : m[n]? = some (.lst xs)) : ∃ a vs, t n = some a ∧ H a = some (.lst vs) ∧ DRs K S t vs xs := by
  obtain ⟨a, u, h1, _, h2, h3⟩ := i.stb n _ h (by simp)
  cases h3 with
  | lst h3 => exact ⟨a, _, h1, h2, h3⟩
theorem HI.sti {K : KW} {S H : Hp} {t : Th} {m : Store} (i : HI K S H t m) (n : Nat) (c : Str) (fs : List (Str × D)) (h : m[n]? = some (.ins c fs)) :
    ∃ a C dx vs, t n = some a ∧ cAt K c = some C ∧ H a = some (.ins C dx vs) ∧ FRs K S t vs fs := by
  obtain ⟨a, u, h1, _, h2, h3⟩ := i.stb n _ h (by simp)
  cases h3 with
  | ins hc h3 => exact ⟨a, _, _, _, h1, hc, h2, h3⟩
/-- what an expression leaves -/
structure Stp (S H : Hp) (t : Th) (S' H' : Hp) (t' : Th) : Prop where
  keep : ∀ a o, H a = some o → (∀ n, t n ≠ some a) → H' a = some o
  dom : ∀ a, H a ≠ none → H' a ≠ none
  hs : ∀ a, H a ≠ none → S' a = S a
  th : TSub t t'
  thn : ∀ n a, t' n = some a → t n = none → H a = none
section
variable {K : KW} {S S' S2 H H' H2 : Hp} {t t' t2 : Th} {m m' : Store}
theorem Stp.refl : Stp S H t S H t := ⟨fun _ _ h _ => h, fun _ h => h, fun _ _ => rfl, .refl t, fun _ _ h g => by rw [g] at h; cases h⟩
theorem Stp.trans (a : Stp S H t S' H' t') (b : Stp S' H' t' S2 H2 t2) : Stp S H t S2 H2 t2 := by
  have off : ∀ n x, H x ≠ none → (∀ k, t k ≠ some x) → t' n ≠ some x := fun n x hx hn e => by
    cases q : t n with
    | none => exact hx (a.thn n x e q)
    | some y =>
      have := a.th n y q
      rw [e] at this
      cases this
      exact hn n q
  refine ⟨fun x o h hn => b.keep x o (a.keep x o h hn) fun n => off n x (by rw [h]; simp) hn, fun x h => b.dom x (a.dom x h), fun x h => (b.hs x (a.dom x h)).trans (a.hs x h), a.th.trans b.th, fun n x h g => ?_⟩
  cases q : t' n with
  | none =>
    have z := b.thn n x h q
    cases e : H x with
    | none => rfl
    | some o => exact absurd z (a.dom x (by rw [e]; simp))
  | some y =>
    have := b.th n y q
    rw [h] at this
    cases this
    exact a.thn n x q g
theorem HI.ssub (i : HI K S H t m) (p : Stp S H t S' H' t') : Sub S S' := fun a o h => (p.hs a (by rw [i.sub a o h]; simp)).trans h
theorem DR.stp {v : V} {d : D} (i : HI K S H t m) (p : Stp S H t S' H' t') (h : DR K S t v d) : DR K S' t' v d := h.mono (i.ssub p) p.th
theorem DRs.stp {v : List V} {d : List D} (i : HI K S H t m) (p : Stp S H t S' H' t') (h : DRs K S t v d) : DRs K S' t' v d := h.mono (i.ssub p) p.th
/-- a thing of its own keeps off the store -/
theorem Stp.offs {a : Addr} (p : Stp S H t S' H' t') (h : H a ≠ none) (hn : ∀ n, t n ≠ some a) : ∀ n, t' n ≠ some a := fun n e => by
  cases q : t n with
  | none => exact h (p.thn n a e q)
  | some y =>
    have := p.th n y q
    rw [e] at this
    cases this
    exact hn n q
/-- something new is laid and settled -/
theorem new_hi {p : Addr} {o : HO} (i : HI K S H t m) (h : H p = none) : HI K (upd S p o) (upd H p o) t m ∧ Stp S H t (upd S p o) (upd H p o) t := by
  have hS : S p = none := by
    cases e : S p with
    | none => rfl
    | some o => rw [i.sub p o e] at h; cases h
  have ss : Sub S (upd S p o) := fun a u e => by rw [upd_ne (ne_of_none e hS)]; exact e
  refine ⟨⟨fun a u e => ?_, fun n u e g => ?_, fun n a e => ?_, i.inj, i.out⟩, ⟨fun a u e _ => ?_, fun a e => ?_, fun a e => ?_, .refl t, fun n a e g => by rw [g] at e; cases e⟩⟩
  · by_cases z : a = p
    · subst z; rw [upd_same] at e ⊢; exact e
    · rw [upd_ne z] at e ⊢; exact i.sub a u e
  · obtain ⟨a, v, e1, e2, e3, e4⟩ := i.stb n u e g
    have z := ne_of_none e3 h
    exact ⟨a, v, e1, by rw [upd_ne z]; exact e2, by rw [upd_ne z]; exact e3, e4.mono ss (.refl t)⟩
  · have e2 := i.off n a e
    have z : a ≠ p := fun z => e2 (by rw [z]; exact h)
    rw [upd_ne z]
    exact e2
  · rw [upd_ne (ne_of_none e h)]; exact e
  · have z : a ≠ p := fun z => e (by rw [z]; exact h)
    rw [upd_ne z]; exact e
  · have z : a ≠ p := fun z => e (by rw [z]; exact h)
    rw [upd_ne z]
/-- something new is laid, not settled -/
theorem new_hi0 {p : Addr} {o : HO} (i : HI K S H t m) (h : H p = none) : HI K S (upd H p o) t m ∧ Stp S H t S (upd H p o) t := by
  refine ⟨⟨fun a u e => ?_, fun n u e g => ?_, fun n a e => ?_, i.inj, i.out⟩, ⟨fun a u e _ => ?_, fun a e => ?_, fun a e => rfl, .refl t, fun n a e g => by rw [g] at e; cases e⟩⟩
  · have e' := i.sub a u e
    rw [upd_ne (ne_of_none e' h)]; exact e'
  · obtain ⟨a, v, e1, e2, e3, e4⟩ := i.stb n u e g
    exact ⟨a, v, e1, e2, by rw [upd_ne (ne_of_none e3 h)]; exact e3, e4⟩
  · have e2 := i.off n a e
    have z : a ≠ p := fun z => e2 (by rw [z]; exact h)
    rw [upd_ne z]
    exact e2
  · rw [upd_ne (ne_of_none e h)]; exact e
  · have z : a ≠ p := fun z => e (by rw [z]; exact h)
    rw [upd_ne z]; exact e
/-- a list of one's own is changed -/
theorem own_hi {p : Addr} {o : HO} (i : HI K S H t m) (hS : S p = none) (hp : H p ≠ none) (ht : ∀ n, t n ≠ some p) : HI K S (upd H p o) t m := by
  refine ⟨fun a u e => ?_, fun n u e g => ?_, fun n a e => ?_, i.inj, i.out⟩
  · rw [upd_ne (ne_of_none e hS)]; exact i.sub a u e
  · obtain ⟨a, v, e1, e2, e3, e4⟩ := i.stb n u e g
    exact ⟨a, v, e1, e2, by rw [upd_ne (fun z => ht n (by rw [e1, z]))]; exact e3, e4⟩
  · have e2 := i.off n a e
    rw [upd_ne (fun z => ht n (by rw [e, z]))]
    exact e2
/-- it is settled -/
theorem settle_hi {p : Addr} {o : HO} (i : HI K S H t m) (hS : S p = none) (hp : H p = some o) (ht : ∀ n, t n ≠ some p) : HI K (upd S p o) H t m := by
  have ss : Sub S (upd S p o) := fun a u e => by rw [upd_ne (ne_of_none e hS)]; exact e
  refine ⟨fun a u e => ?_, fun n u e g => ?_, i.off, i.inj, i.out⟩
  · by_cases z : a = p
    · subst z; rw [upd_same] at e; cases e; exact hp
    · rw [upd_ne z] at e; exact i.sub a u e
  · obtain ⟨a, v, e1, e2, e3, e4⟩ := i.stb n u e g
    exact ⟨a, v, e1, by rw [upd_ne (fun z => ht n (by rw [e1, z]))]; exact e2, e3, e4.mono ss (.refl t)⟩
/-- it goes into the store -/
theorem store_ob {p : Addr} {u : HO} {o : Ob} (i : HI K S H t m) (hS : S p = none) (hp : H p = some u) (ht : ∀ n, t n ≠ some p) (hd : ObR K S t p u o) :
    HI K S H (fun n => if n = m.length then some p else t n) (m ++ [o]) ∧ TSub t (fun n => if n = m.length then some p else t n) := by
  have ts : TSub t (fun n => if n = m.length then some p else t n) := fun n a e => by
    by_cases z : n = m.length
    · rw [i.out n (by omega)] at e; cases e
    · simp only [z, if_false]; exact e
  refine ⟨⟨i.sub, fun n u' e g => ?_, fun n a e => ?_, fun n k a e g => ?_, fun n e => ?_⟩, ts⟩
  · by_cases z : n < m.length
    · rw [List.getElem?_append_left z] at e
      obtain ⟨a, v, e1, e2, e3, e4⟩ := i.stb n u' e g
      exact ⟨a, v, ts _ _ e1, e2, e3, e4.mono (.refl S) ts⟩
    · by_cases z' : n = m.length
      · subst z'
        simp at e
        subst e
        exact ⟨p, u, by simp, hS, hp, hd.mono (.refl S) ts⟩
      · rw [List.getElem?_eq_none (by simp; omega)] at e; cases e
  · by_cases z : n = m.length
    · simp [z] at e; subst e; rw [hp]; simp
    · simp [z] at e; exact i.off n a e
  · by_cases z : n = m.length <;> by_cases z' : k = m.length
    · omega
    · simp [z] at e; simp [z'] at g; subst e; exact absurd g (ht k)
    · simp [z] at e; simp [z'] at g; subst g; exact absurd e (ht n)
    · simp [z] at e; simp [z'] at g; exact i.inj n k a e g
  · have h1 : m.length + 1 ≤ n := by simpa using e
    have z : n ≠ m.length := by omega
    simp only [z, if_false]
    exact i.out n (by omega)
theorem store_hi {p : Addr} {vs : List V} {xs : List D} (i : HI K S H t m) (hS : S p = none) (hp : H p = some (.lst vs)) (ht : ∀ n, t n ≠ some p) (hd : DRs K S t vs xs) :
    HI K S H (fun n => if n = m.length then some p else t n) (m ++ [.lst xs]) ∧ TSub t (fun n => if n = m.length then some p else t n) := store_ob i hS hp ht (.lst hd)
/-- a thing of the store is changed -/
theorem sto_ob {n : Nat} {p : Addr} {u : HO} {o o' : Ob} (i : HI K S H t m) (ht : t n = some p) (hm : m[n]? = some o') (hg : o' ≠ .gone) (hd : ObR K S t p u o) : HI K S (upd H p u) t (m.set n o) ∧ Stp S H t S (upd H p u) t := by
  have hp := i.off n p ht
  have hS : S p = none := by
    obtain ⟨a, v, e1, e2, _⟩ := i.stb n _ hm hg
    rw [ht] at e1
    cases e1
    exact e2
  refine ⟨⟨fun a u e => ?_, fun k u' e g => ?_, fun k a e => ?_, i.inj, fun k e => i.out k (by simpa using e)⟩, ⟨fun a u e hn => ?_, fun a e => ?_, fun a e => rfl, .refl t, fun n a e g => by rw [g] at e; cases e⟩⟩
  · rw [upd_ne (ne_of_none e hS)]; exact i.sub a u e
  · by_cases z : k = n
    · subst z
      by_cases hl : k < m.length
      · rw [List.getElem?_set_self hl] at e
        cases e
        exact ⟨p, u, ht, hS, upd_same, hd⟩
      · rw [List.getElem?_eq_none (by simpa using hl)] at e; cases e
    · rw [List.getElem?_set_ne (Ne.symm z)] at e
      obtain ⟨a, v, e1, e2, e3, e4⟩ := i.stb k u' e g
      exact ⟨a, v, e1, e2, by rw [upd_ne (fun q => z (i.inj k n p (by rw [e1, q]) ht))]; exact e3, e4⟩
  · have e2 := i.off k a e
    by_cases z : a = p
    · subst z; rw [upd_same]; simp
    · rw [upd_ne z]; exact e2
  · rw [upd_ne (fun z => hn n (by rw [ht, z]))]; exact e
  · by_cases z : a = p
    · subst z; rw [upd_same]; simp
    · rw [upd_ne z]; exact e
theorem sto_hi {n : Nat} {p : Addr} {vs : List V} {xs ys : List D} (i : HI K S H t m) (ht : t n = some p) (hm : m[n]? = some (.lst ys)) (hd : DRs K S t vs xs) : HI K S (upd H p (.lst vs)) t (m.set n (.lst xs)) ∧ Stp S H t S (upd H p (.lst vs)) t :=
  sto_ob i ht hm (by simp) (.lst hd)
end

/-! ### the slots -/
inductive OwR (K : KW) (S H : Hp) (t : Th) (a : Addr) : D → Prop
  | lst {vs : List V} {xs : List D} : H a = some (.lst vs) → DRs K S t vs xs → OwR K S H t a (.lst xs)
  | dct {o : Obj} {rows : List (DKey × V × V)} {kvs : List (D × D)} : (a == sysModules) = false → H a = some (dO a o) → RowsO K.w o rows → DKV K S t rows kvs → OwR K S H t a (.dct kvs)
/-- a list or a dict of one's own, at a -/
structure OwnAt (K : KW) (S H : Hp) (t : Th) (a : Addr) (d : D) : Prop where
  off : S a = none
  nt : ∀ n, t n ≠ some a
  at_ : OwR K S H t a d
theorem OwR.upd {K : KW} {S H : Hp} {t : Th} {a p : Addr} {d : D} {u : HO} (h : OwR K S H t a d) (n : a ≠ p) : OwR K S (upd H p u) t a d := by
  cases h with
  | lst e r => exact .lst (by rw [upd_ne n]; exact e) r
  | dct z e o r => exact .dct z (by rw [upd_ne n]; exact e) o r
theorem OwR.mono {K : KW} {S S' H : Hp} {t t' : Th} {a : Addr} {d : D} (e : Sub S S') (f : TSub t t') (h : OwR K S H t a d) : OwR K S' H t' a d := by
  cases h with
  | lst q r => exact .lst q (r.mono e f)
  | dct z q o r => exact .dct z q o (r.mono e f)
/-- what it is once settled -/
theorem OwR.dr {K : KW} {S H : Hp} {t : Th} {a : Addr} {d : D} (h : OwR K S H t a d) : ∃ u, H a = some u ∧ ∀ S', Sub S S' → S' a = some u → DR K S' t (.ref a) d := by
  cases h with
  | lst q r => exact ⟨_, q, fun S' ss e => .lst e (r.mono ss (.refl t))⟩
  | dct z q o r => exact ⟨_, q, fun S' ss e => .dct z e o (r.mono ss (.refl t))⟩
def obOf : D → Ob
  | .lst xs => .lst xs
  | .dct kvs => .dct kvs
  | _ => .gone
theorem OwR.ob {K : KW} {S H : Hp} {t : Th} {a : Addr} {d : D} (h : OwR K S H t a d) : ∃ u, H a = some u ∧ ObR K S t a u (obOf d) := by
  cases h with
  | lst q r => exact ⟨_, q, .lst r⟩
  | dct z q o r => exact ⟨_, q, .dct z o r⟩
theorem OwnAt.lst' {K : KW} {S H : Hp} {t : Th} {a : Addr} {zs : List D} (h : OwnAt K S H t a (.lst zs)) : ∃ xs vs, D.lst zs = .lst xs ∧ H a = some (.lst vs) ∧ DRs K S t vs xs := by
  cases h.at_ with
  | lst h1 h2 => exact ⟨_, _, rfl, h1, h2⟩
theorem OwnAt.dct' {K : KW} {S H : Hp} {t : Th} {a : Addr} {kvs : List (D × D)} (h : OwnAt K S H t a (.dct kvs)) : ∃ o rows, (a == sysModules) = false ∧ H a = some (dO a o) ∧ RowsO K.w o rows ∧ DKV K S t rows kvs := by
  cases h.at_ with
  | dct h1 h2 h3 h4 => exact ⟨_, _, h1, h2, h3, h4⟩
/-- within an except suite: where the error stands, its own dict, its fields' names -/
abbrev Gh := Option (Addr × Addr × List Str)
structure XAt (K : KW) (x : Gh) (S : Hp) (t : Th) (v : V) (fs : List D) : Prop where
  ex : ∃ a d ns vs, x = some (a, d, ns) ∧ v = .ref a ∧ S d = some (.xd (ns.zip vs)) ∧ DRs K S t vs fs ∧ vs.length = ns.length
structure SI (K : KW) (x : Gh) (S H : Hp) (t : Th) (m : Store) (σ : St) (e : Env) : Prop where
  hi : HI K S H t m
  len : σ.length = e.length
  dat : ∀ (i : Nat) d, e[i]? = some (.dat d) → ∃ v, σ[i]? = some (some v) ∧ DR K S t v d
  own : ∀ (i : Nat) d, e[i]? = some (.own d) → ∃ a, σ[i]? = some (some (.ref a)) ∧ OwnAt K S H t a d
  apart : ∀ (i j : Nat) d c a, e[i]? = some (.own d) → e[j]? = some (.own c) → σ[i]? = some (some (.ref a)) → σ[j]? = some (some (.ref a)) → i = j
  exn : ∀ (i : Nat) c fs, e[i]? = some (.exn c fs) → ∃ v, σ[i]? = some (some v) ∧ XAt K x S t v fs
section
variable {K : KW} {x : Gh} {S S' S2 H H' H2 : Hp} {t t' t2 : Th} {m m' : Store} {σ : St} {e : Env}
theorem OwnAt.there {a : Addr} {d : D} (h : OwnAt K S H t a d) : H a ≠ none := by
  cases h.at_ with
  | lst e _ => rw [e]; simp
  | dct _ e _ _ => rw [e]; simp
theorem OwnAt.stp {a : Addr} {d : D} (i : HI K S H t m) (p : Stp S H t S' H' t') (h : OwnAt K S H t a d) : OwnAt K S' H' t' a d := by
  have th := h.there
  refine ⟨(p.hs a th).trans h.off, p.offs th h.nt, ?_⟩
  cases h.at_ with
  | lst e r => exact .lst (p.keep a _ e h.nt) (r.stp i p)
  | dct z e o r => exact .dct z (p.keep a _ e h.nt) o (r.mono (i.ssub p) p.th)
theorem XAt.mono {v : V} {fs : List D} (e : Sub S S') (f : TSub t t') (h : XAt K x S t v fs) : XAt K x S' t' v fs := by
  obtain ⟨a, d, ns, vs, h1, h2, h3, h4, h5⟩ := h.ex
  exact ⟨a, d, ns, vs, h1, h2, e _ _ h3, h4.mono e f, h5⟩
theorem XAt.stp {v : V} {fs : List D} (i : HI K S H t m) (p : Stp S H t S' H' t') (h : XAt K x S t v fs) : XAt K x S' t' v fs := h.mono (i.ssub p) p.th
theorem SI.stp (i : SI K x S H t m σ e) (p : Stp S H t S' H' t') (h : HI K S' H' t' m') : SI K x S' H' t' m' σ e :=
  ⟨h, i.len, fun k d q => let ⟨v, h1, h2⟩ := i.dat k d q; ⟨v, h1, h2.stp i.hi p⟩, fun k d q => let ⟨a, h1, h2⟩ := i.own k d q; ⟨a, h1, h2.stp i.hi p⟩, i.apart, fun k c fs q => let ⟨v, h1, h2⟩ := i.exn k c fs q; ⟨v, h1, h2.stp i.hi p⟩⟩
end
end Dn
/-! What an expression computes, by data. -/
namespace Dn
open PySem L2

/-- K what the top has written; C the defs, by number; X the own errors: where the class stands, its fields -/
structure Cfg where
  K : KW
  C : Orc
  X : Nat → Option (Addr × List Str)
  x : Gh := none
theorem kw_K {X : Cx} {k : KW} (h : X.kw = k) : X.K = k.K := congrArg KW.K h
/-- an error and its own dict -/
def EXR (G : Cfg) (S H : Hp) (t : Th) (c : Nat) (fs : List D) (cls : Value) (dx : Option Addr) : Prop :=
  ∃ C ns d vs, G.X c = some (C, ns) ∧ cls = .ref C ∧ dx = some d ∧ S d = some (.xd (ns.zip vs)) ∧ DRs G.K S t vs fs ∧ vs.length = ns.length
/-- good by W (errors) and P (values) -/
def Gd {α : Type} (G : Cfg) (W : WX) (σ : St) (S H : Hp) (t : Th) (r : R α) (P : Hp → Hp → Th → Store → α → Prop) : Prop := match r with
  | .ok a m' => ∀ S' H' t', Stp S H t S' H' t' → HI G.K S' H' t' m' → P S' H' t' m' a
  | .exc c fs m' => ∀ S' H' t' cls dx, Stp S H t S' H' t' → HI G.K S' H' t' m' → EXR G S' H' t' c fs cls dx → W cls dx σ H'
  | .stuck => False
section
variable {G : Cfg} {W : WX} {σ : St} {S S1 H H1 : Hp} {t t1 : Th} {m m1 : Store} {α β : Type}
theorem Gd.from {r : R α} {P : Hp → Hp → Th → Store → α → Prop} (p : Stp S H t S1 H1 t1) (h : Gd G W σ S H t r P) : Gd G W σ S1 H1 t1 r P := by
  cases r with
  | ok a m' => exact fun S' H' t' q i => h S' H' t' (p.trans q) i
  | exc c fs m' => exact fun S' H' t' cls dx q i x => h S' H' t' cls dx (p.trans q) i x
  | stuck => exact h
theorem Gd.split {r : R α} {f : α → Store → R β} {P : Hp → Hp → Th → Store → β → Prop} (h : Gd G W σ S H t (r.bind f) P) :
    Gd G W σ S H t r (fun S1 H1 t1 m1 a => Stp S H t S1 H1 t1 ∧ HI G.K S1 H1 t1 m1 ∧ Gd G W σ S1 H1 t1 (f a m1) P) := by
  cases r with
  | ok a m' => exact fun S' H' t' q i => ⟨q, i, Gd.from q h⟩
  | exc c fs m' => exact h
  | stuck => exact h
theorem Gd.imp {r : R α} {P P' : Hp → Hp → Th → Store → α → Prop} (h : Gd G W σ S H t r P) (w : ∀ S' H' t' m' a, Stp S H t S' H' t' → HI G.K S' H' t' m' → P S' H' t' m' a → P' S' H' t' m' a) : Gd G W σ S H t r P' := by
  cases r with
  | ok a m' => exact fun S' H' t' q i => w _ _ _ _ _ q i (h S' H' t' q i)
  | exc c fs m' => exact h
  | stuck => exact h
theorem Gd.now {a : α} {P : Hp → Hp → Th → Store → α → Prop} (h : Gd G W σ S H t (.ok a m) P) (i : HI G.K S H t m) : P S H t m a := h S H t .refl i
end

/-- what may be read: settled, or a list of one's own -/
def BR (K : KW) (S H : Hp) (t : Th) (v : V) (d : D) : Prop := DR K S t v d ∨ ∃ a, v = .ref a ∧ OwnAt K S H t a d
inductive BRs (K : KW) (S H : Hp) (t : Th) : List V → List D → Prop
  | nil : BRs K S H t [] []
  | cons {v : V} {vs : List V} {d : D} {ds : List D} : BR K S H t v d → BRs K S H t vs ds → BRs K S H t (v :: vs) (d :: ds)
section
variable {K : KW} {S S' S2 H H' H2 : Hp} {t t' t2 : Th} {m m' : Store}
theorem BR.stp {v : V} {d : D} (i : HI K S H t m) (p : Stp S H t S' H' t') (h : BR K S H t v d) : BR K S' H' t' v d := by
  rcases h with h | ⟨a, e, h⟩
  · exact .inl (h.stp i p)
  · exact .inr ⟨a, e, h.stp i p⟩
theorem BRs.stp {v : List V} {d : List D} (i : HI K S H t m) (p : Stp S H t S' H' t') (h : BRs K S H t v d) : BRs K S' H' t' v d := by
  induction h with
  | nil => exact .nil
  | cons h _ ih => exact .cons (h.stp i p) ih
theorem BRs.of {vs : List V} : ∀ {ds : List D}, DRs K S t vs ds → BRs K S H t vs ds := by
  induction vs with
  | nil => intro ds h; cases h; exact .nil
  | cons v vs ih => intro ds h; cases h with | cons h hs => exact .cons (.inl h) (ih hs)
end

section
variable (G : Cfg) (W : WX)
def semE (f : EvE) : TE := fun σ H Q => ∃ S t m e, SI G.K G.x S H t m σ e ∧ Gd G W σ S H t (f G.C e m) fun S' H' t' _ d => ∀ v, DR G.K S' t' v d → Q v H'
def semB (f : EvE) : TE := fun σ H Q => ∃ S t m e, SI G.K G.x S H t m σ e ∧ Gd G W σ S H t (f G.C e m) fun S' H' t' _ d => ∀ v, BR G.K S' H' t' v d → Q v H'
/-- a new list -/
def semF (f : EvA) : TE := fun σ H Q => ∃ S t m e, SI G.K G.x S H t m σ e ∧ Gd G W σ S H t (f G.C e m) fun S' H' t' _ xs => ∀ p, OwnAt G.K S' H' t' p (.lst xs) → H p = none → Q (.ref p) H'
def semT (f : EvT) : TT := fun σ H Q => ∃ S t m e, SI G.K G.x S H t m σ e ∧ Gd G W σ S H t (f G.C e m) fun _ H' _ _ b => Q b H'
def semA (f : EvA) : TA := fun σ H Q => ∃ S t m e, SI G.K G.x S H t m σ e ∧ Gd G W σ S H t (f G.C e m) fun S' H' t' _ ds => ∀ vs, DRs G.K S' t' vs ds → Q vs H'
def semAB (f : EvA) : TA := fun σ H Q => ∃ S t m e, SI G.K G.x S H t m σ e ∧ Gd G W σ S H t (f G.C e m) fun S' H' t' _ ds => ∀ vs, BRs G.K S' H' t' vs ds → Q vs H'
end

theorem _root_.L2.PE.imp {X : Cx} {e : Expr} {t t' : TE} (h : PE X e t) (w : ∀ σ H Q, t' σ H Q → t σ H Q) : PE X e t' := ⟨fun pins s σ H Q I q => h.run pins s σ H Q I (w σ H Q q)⟩
theorem _root_.L2.PT.imp {X : Cx} {e : Expr} {t t' : TT} (h : PT X e t) (w : ∀ σ H Q, t' σ H Q → t σ H Q) : PT X e t' := ⟨fun pins s σ H Q I q => h.run pins s σ H Q I (w σ H Q q)⟩
theorem _root_.L2.PA.imp {X : Cx} {e : List Expr} {t t' : TA} (h : PA X e t) (w : ∀ σ H Q, t' σ H Q → t σ H Q) : PA X e t' := ⟨fun pos pins s σ H Q I q => h.run pos pins s σ H Q I (w σ H Q q)⟩

/-! ### combinators -/
@[simp] def varE (i : Nat) : EvE := fun _ e m => match e[i]? with
  | some (.dat d) => .ok d m
  | _ => .stuck
@[simp] def brwE (i : Nat) : EvE := fun _ e m => match e[i]? with
  | some (.dat d) => .ok d m
  | some (.own d) => .ok d m
  | _ => .stuck
@[simp] def conE (d : D) : EvE := fun _ _ m => .ok d m
@[simp] def bin (g : Store → D → D → Option D) (a b : EvE) : EvE := fun C e m => (a C e m).bind fun x m1 => (b C e m1).bind fun y m2 => .of (g m2 x y) m2
@[simp] def una (g : Store → D → Option D) (a : EvE) : EvE := fun C e m => (a C e m).bind fun x m1 => .of (g m1 x) m1
@[simp] def nilA : EvA := fun _ _ m => .ok [] m
@[simp] def consA (a : EvE) (r : EvA) : EvA := fun C e m => (a C e m).bind fun x m1 => (r C e m1).bind fun xs m2 => .ok (x :: xs) m2
@[simp] def tupE (a : EvA) : EvE := fun C e m => (a C e m).bind fun xs m1 => .ok (.tup xs) m1
@[simp] def frzE (a : EvA) : EvE := fun C e m => (a C e m).bind fun xs m1 => .ok (.lst xs) m1
@[simp] def fnE (f : Nat) (a : EvA) : EvE := fun C e m => (a C e m).bind fun xs m1 => C f xs m1
@[simp] def bltE (g : Store → List D → Option D) (a : EvA) : EvE := fun C e m => (a C e m).bind fun xs m1 => .of (g m1 xs) m1
@[simp] def bltF (g : Store → List D → Option (List D)) (a : EvA) : EvA := fun C e m => (a C e m).bind fun xs m1 => .of (g m1 xs) m1
@[simp] def binF (g : Store → D → D → Option (List D)) (a b : EvE) : EvA := fun C e m => (a C e m).bind fun x m1 => (b C e m1).bind fun y m2 => .of (g m2 x y) m2
@[simp] def ifE (c : EvT) (a b : EvE) : EvE := fun C e m => (c C e m).bind fun k m1 => if k = true then a C e m1 else b C e m1
@[simp] def andT (a b : EvT) : EvT := fun C e m => (a C e m).bind fun k m1 => if k = true then b C e m1 else .ok false m1
@[simp] def orT (a b : EvT) : EvT := fun C e m => (a C e m).bind fun k m1 => if k = true then .ok true m1 else b C e m1
@[simp] def notT (a : EvT) : EvT := fun C e m => (a C e m).bind fun k m1 => .ok (!k) m1
@[simp] def isB : D → Option Bool
  | .bl b => some b
  | _ => none
/-- a value that is True or False, as a test -/
@[simp] def blT (a : EvE) : EvT := fun C e m => (a C e m).bind fun x m1 => .of (isB x) m1
@[simp] def andE (a b : EvE) : EvE := fun C e m => (a C e m).bind fun x m1 => (R.of (isB x) m1).bind fun k m1 => if k = true then b C e m1 else .ok (.bl false) m1
@[simp] def orE (a b : EvE) : EvE := fun C e m => (a C e m).bind fun x m1 => (R.of (isB x) m1).bind fun k m1 => if k = true then .ok (.bl true) m1 else b C e m1
@[simp] def notE (a : EvE) : EvE := fun C e m => (a C e m).bind fun x m1 => (R.of (isB x) m1).bind fun k m1 => .ok (.bl (!k)) m1
/-- a op b op' c -/
@[simp] def chainE (g g' : Store → D → D → Option D) (a b c : EvE) : EvE := fun C e m => (a C e m).bind fun x m1 => (b C e m1).bind fun y m2 => (R.of (g m2 x y) m2).bind fun z m2 => (R.of (isB z) m2).bind fun k m2 =>
  if k = true then (c C e m2).bind fun w m3 => .of (g' m3 y w) m3 else .ok (.bl false) m2

section
variable {X : Cx} {G : Cfg} {W : WX} {a b c : Expr} {es : List Expr} {fa fb fc : EvE} {fs : EvA} {pos : Pos}
/-! ### names, constants -/
theorem de_sub {e : Expr} {f : EvE} (h : PE X e (semE G W f)) : PE X e (semB G W f) := h.imp fun σ H Q ⟨S, t, m, e, si, g⟩ => ⟨S, t, m, e, si, g.imp fun _ _ _ _ _ _ _ q v r => q v (.inl r)⟩
theorem de_brw {i : Nat} {x : Str} (hN : X.N[i]? = some x) (hv : Vis X.env.scope x) (hd : (x == ("__debug__" : Str)) = false := by decide) (hcd : (x == ("__classdict__" : Str)) = false := by decide) : PE X (.Name x pos) (semB G W (brwE i)) := by
  refine (pe_var (i := i) hN hv hd hcd).imp fun σ H Q ⟨S, t, m, e, si, g⟩ => ?_
  unfold brwE at g
  split at g
  · rename_i d h
    obtain ⟨v, h1, h2⟩ := si.dat i d h
    exact ⟨v, h1, g.now si.hi v (.inl h2)⟩
  · rename_i d h
    obtain ⟨v, h1, h2⟩ := si.own i d h
    exact ⟨_, h1, g.now si.hi _ (.inr ⟨v, rfl, h2⟩)⟩
  · exact g.elim
theorem de_var {i : Nat} {x : Str} (hN : X.N[i]? = some x) (hv : Vis X.env.scope x) (hd : (x == ("__debug__" : Str)) = false := by decide) (hcd : (x == ("__classdict__" : Str)) = false := by decide) : PE X (.Name x pos) (semE G W (varE i)) := by
  refine (pe_var (i := i) hN hv hd hcd).imp fun σ H Q ⟨S, t, m, e, si, g⟩ => ?_
  unfold varE at g
  split at g
  · rename_i d h
    obtain ⟨v, h1, h2⟩ := si.dat i d h
    exact ⟨v, h1, g.now si.hi v h2⟩
  · exact g.elim
theorem de_con {v : V} {d : D} {e : Expr} (h : PE X e (tC v)) (r : ∀ S t, DR G.K S t v d) : PE X e (semE G W (conE d)) :=
  h.imp fun σ H Q ⟨S, t, m, e, si, g⟩ => g.now si.hi v (r S t)
theorem de_int {i j pos} : PE X (.Constant (.int i) j pos) (semE G W (conE (.int i))) := de_con pe_int fun _ _ => .int i
theorem de_bl {b j pos} : PE X (.Constant (.bool b) j pos) (semE G W (conE (.bl b))) := de_con pe_bl fun _ _ => .bl b
theorem de_non {j pos} : PE X (.Constant .none j pos) (semE G W (conE .non)) := de_con pe_non fun _ _ => .non
theorem de_str {x j pos} : PE X (.Constant (.str x) j pos) (semE G W (conE (.str x))) := de_con pe_str fun _ _ => .str x

/-! ### operators -/
/-- an operator by data -/
def OpD (X : Cx) (f : Value → Value → Sem Value) (g : Store → D → D → Option D) : Prop :=
  ∃ r : R2, OpR X f r ∧ ∀ S H t m x y d e z (Q : VK), HI X.kw S H t m → BR X.kw S H t x d → BR X.kw S H t y e → g m d e = some z → (∀ v S' H', Stp S H t S' H' t → HI X.kw S' H' t m → DR X.kw S' t v z → Q v H') → r x y H Q
def IxD (X : Cx) (g : Store → D → D → Option D) : Prop :=
  ∃ r : R2, IxR X r ∧ ∀ S H t m x y d e z (Q : VK), HI X.kw S H t m → BR X.kw S H t x d → BR X.kw S H t y e → g m d e = some z → (∀ v S' H', Stp S H t S' H' t → HI X.kw S' H' t m → DR X.kw S' t v z → Q v H') → r x y H Q
def UnD (X : Cx) (f : Value → Sem Value) (g : Store → D → Option D) : Prop :=
  ∃ r : V → Hp → VK → Prop, UnR X f r ∧ ∀ S H t m x d z (Q : VK), HI X.kw S H t m → BR X.kw S H t x d → g m d = some z → (∀ v S' H', Stp S H t S' H' t → HI X.kw S' H' t m → DR X.kw S' t v z → Q v H') → r x H Q
/-- .. that makes a new list -/
def OpF (X : Cx) (f : Value → Value → Sem Value) (g : Store → D → D → Option (List D)) : Prop :=
  ∃ r : R2, OpR X f r ∧ ∀ S H t m x y d e zs (Q : VK), HI X.kw S H t m → BR X.kw S H t x d → BR X.kw S H t y e → g m d e = some zs → (∀ p S' H', Stp S H t S' H' t → HI X.kw S' H' t m → OwnAt X.kw S' H' t p (.lst zs) → H p = none → Q (.ref p) H') → r x y H Q
/-- a call of a built-in by data -/
def CallD (X : Cx) (f : Value) (g : Store → List D → Option D) : Prop :=
  ∃ r : List V → Hp → VK → Prop, CallR X f r ∧ ∀ S H t m xs ds z (Q : VK), HI X.kw S H t m → BRs X.kw S H t xs ds → g m ds = some z → (∀ v S' H', Stp S H t S' H' t → HI X.kw S' H' t m → DR X.kw S' t v z → Q v H') → r xs H Q
def CallF (X : Cx) (f : Value) (g : Store → List D → Option (List D)) : Prop :=
  ∃ r : List V → Hp → VK → Prop, CallR X f r ∧ ∀ S H t m xs ds zs (Q : VK), HI X.kw S H t m → BRs X.kw S H t xs ds → g m ds = some zs → (∀ p S' H', Stp S H t S' H' t → HI X.kw S' H' t m → OwnAt X.kw S' H' t p (.lst zs) → H p = none → Q (.ref p) H') → r xs H Q
@[simp] def orO {α β γ δ : Type} (g g' : α → β → γ → Option δ) : α → β → γ → Option δ := fun a b c => match g a b c with
  | some z => some z
  | none => g' a b c
theorem OpD.or {f : Value → Value → Sem Value} {g g' : Store → D → D → Option D} (h : OpD X f g) (h' : OpD X f g') : OpD X f (orO g g') := by
  obtain ⟨r, r1, r2⟩ := h
  obtain ⟨r', r1', r2'⟩ := h'
  refine ⟨_, r1.or r1', fun S H t m x y d e z Q i bx b_y hz q => ?_⟩
  unfold orO at hz
  split at hz
  · rename_i w hw
    exact .inl (r2 S H t m x y d e z Q i bx b_y (hw.trans hz) q)
  · exact .inr (r2' S H t m x y d e z Q i bx b_y hz q)
theorem IxD.or {g g' : Store → D → D → Option D} (h : IxD X g) (h' : IxD X g') : IxD X (orO g g') := by
  obtain ⟨r, r1, r2⟩ := h
  obtain ⟨r', r1', r2'⟩ := h'
  refine ⟨_, r1.or r1', fun S H t m x y d e z Q i bx b_y hz q => ?_⟩
  unfold orO at hz
  split at hz
  · rename_i w hw
    exact .inl (r2 S H t m x y d e z Q i bx b_y (hw.trans hz) q)
  · exact .inr (r2' S H t m x y d e z Q i bx b_y hz q)

/-- two operands, then what the operator makes of them -/
theorem sem2 {g : Store → D → D → Option D} {r : R2} {σ : St} {H : Hp} {Q : VK} (hK : X.kw = G.K)
    (hr : ∀ S H t m x y d e z (Q : VK), HI X.kw S H t m → BR X.kw S H t x d → BR X.kw S H t y e → g m d e = some z → (∀ v S' H', Stp S H t S' H' t → HI X.kw S' H' t m → DR X.kw S' t v z → Q v H') → r x y H Q)
    (h : semE G W (bin g fa fb) σ H Q) : tOp r (semB G W fa) (semB G W fb) σ H Q := by
  obtain ⟨S, t, m, e, si, h⟩ := h
  refine ⟨S, t, m, e, si, (Gd.split h).imp fun S1 H1 t1 m1 x p1 i1 ⟨_, _, h1⟩ v rv => ?_⟩
  refine ⟨S1, t1, m1, e, si.stp p1 i1, (Gd.split h1).imp fun S2 H2 t2 m2 y p2 i2 ⟨_, _, h2⟩ w rw' => ?_⟩
  cases hz : g m2 x y with
  | none => rw [hz] at h2; exact h2.elim
  | some z =>
    rw [hz] at h2
    exact hr S2 H2 t2 m2 v w x y z Q (hK ▸ i2) (hK ▸ rv.stp i1 p2) (hK ▸ rw') hz fun u S' H' p i ru => h2 S' H' t2 p (hK ▸ i) u (hK ▸ ru)
theorem de_bin {op : Operator} {g : Store → D → D → Option D} (ho : OpD X (binaryOp op) g) (hK : X.kw = G.K) (ha : PE X a (semB G W fa)) (hb : PE X b (semB G W fb)) : PE X (.BinOp a op b pos) (semE G W (bin g fa fb)) := by
  obtain ⟨r, h1, h2⟩ := ho
  exact (pe_op h1 ha hb).imp fun σ H Q h => sem2 hK h2 h
theorem de_cmp {op : CmpOp} {g : Store → D → D → Option D} (ho : OpD X (compareOp op) g) (hK : X.kw = G.K) (ha : PE X a (semB G W fa)) (hb : PE X b (semB G W fb)) (hm : behindInMarks op b = false) : PE X (.Compare a [op] [b] pos) (semE G W (bin g fa fb)) := by
  obtain ⟨r, h1, h2⟩ := ho
  exact (pe_cmpR h1 ha hb hm).imp fun σ H Q h => sem2 hK h2 h
theorem de_ix {g : Store → D → D → Option D} (ho : IxD X g) (hK : X.kw = G.K) (ha : PE X a (semB G W fa)) (hb : PE X b (semB G W fb)) (hs : PlainIx b) : PE X (.Subscript a b pos) (semE G W (bin g fa fb)) := by
  obtain ⟨r, h1, h2⟩ := ho
  exact (pe_ix h1 ha hb hs).imp fun σ H Q h => sem2 hK h2 h
theorem de_un {op : UnaryOp} {g : Store → D → Option D} (ho : UnD X (unaryOp op) g) (hK : X.kw = G.K) (ha : PE X a (semB G W fa)) : PE X (.UnaryOp op a pos) (semE G W (una g fa)) := by
  obtain ⟨r, h1, h2⟩ := ho
  refine (pe_un h1 ha).imp fun σ H Q ⟨S, t, m, e, si, h⟩ => ?_
  refine ⟨S, t, m, e, si, (Gd.split h).imp fun S1 H1 t1 m1 x p1 i1 ⟨_, _, h2'⟩ v rv => ?_⟩
  cases hz : g m1 x with
  | none => rw [hz] at h2'; exact h2'.elim
  | some z =>
    rw [hz] at h2'
    exact h2 S1 H1 t1 m1 v x z Q (hK ▸ i1) (hK ▸ rv) hz fun u S' H' p i ru => h2' S' H' t1 p (hK ▸ i) u (hK ▸ ru)
theorem sem2F {g : Store → D → D → Option (List D)} {r : R2} {σ : St} {H : Hp} {Q : VK} (hK : X.kw = G.K)
    (hr : ∀ S H t m x y d e zs (Q : VK), HI X.kw S H t m → BR X.kw S H t x d → BR X.kw S H t y e → g m d e = some zs → (∀ p S' H', Stp S H t S' H' t → HI X.kw S' H' t m → OwnAt X.kw S' H' t p (.lst zs) → H p = none → Q (.ref p) H') → r x y H Q)
    (h : semF G W (binF g fa fb) σ H Q) : tOp r (semB G W fa) (semB G W fb) σ H Q := by
  obtain ⟨S, t, m, e, si, h⟩ := h
  refine ⟨S, t, m, e, si, (Gd.split h).imp fun S1 H1 t1 m1 x p1 i1 ⟨_, _, h1⟩ v rv => ?_⟩
  refine ⟨S1, t1, m1, e, si.stp p1 i1, (Gd.split h1).imp fun S2 H2 t2 m2 y p2 i2 ⟨_, _, h2⟩ w rw' => ?_⟩
  cases hz : g m2 x y with
  | none => rw [hz] at h2; exact h2.elim
  | some z =>
    rw [hz] at h2
    refine hr S2 H2 t2 m2 v w x y z Q (hK ▸ i2) (hK ▸ rv.stp i1 p2) (hK ▸ rw') hz fun u S' H' p i ru hn => h2 S' H' t2 p (hK ▸ i) u (hK ▸ ru) ?_
    cases q : H u with
    | none => rfl
    | some o => exact absurd hn (p2.dom u (p1.dom u (by rw [q]; simp)))
theorem df_bin {op : Operator} {g : Store → D → D → Option (List D)} (ho : OpF X (binaryOp op) g) (hK : X.kw = G.K) (ha : PE X a (semB G W fa)) (hb : PE X b (semB G W fb)) : PE X (.BinOp a op b pos) (semF G W (binF g fa fb)) := by
  obtain ⟨r, h1, h2⟩ := ho
  exact (pe_op h1 ha hb).imp fun σ H Q h => sem2F hK h2 h

/-! ### tests -/
theorem dt_val {e : Expr} {f : EvE} (h : PE X e (semE G W f)) (he : ∀ whole, isTrue e X.env whole = (do let v ← whole; standAt e.pos; holding [v] (truthy v)) := by intro _; rfl) : PT X e (semT G W (blT f)) := by
  refine (pt_val h he).imp fun σ H Q ⟨S, t, m, e, si, g⟩ => ⟨S, t, m, e, si, (Gd.split g).imp fun S1 H1 t1 m1 x p1 i1 ⟨_, _, h2⟩ v rv => ?_⟩
  cases x with
  | bl b => cases rv; exact ⟨b, rfl, Gd.now h2 i1⟩
  | _ => exact h2.elim
theorem dt_cmp {op : CmpOp} {g : Store → D → D → Option D} (ho : OpD X (compareOp op) g) (hK : X.kw = G.K) (ha : PE X a (semB G W fa)) (hb : PE X b (semB G W fb)) (hm : behindInMarks op b = false) : PT X (.Compare a [op] [b] pos) (semT G W (blT (bin g fa fb))) := by
  obtain ⟨r, h1, h2⟩ := ho
  refine (pt_cmpR h1 ha hb hm).imp fun σ H Q ⟨S, t, m, e, si, h⟩ => ?_
  refine sem2 (Q := fun x H' => ∃ k, x = .bl k ∧ Q k H') hK h2 ⟨S, t, m, e, si, (Gd.split h).imp fun S1 H1 t1 m1 x p1 i1 ⟨_, _, h2⟩ v rv => ?_⟩
  cases x with
  | bl b => cases rv; exact ⟨b, rfl, Gd.now h2 i1⟩
  | _ => exact h2.elim
variable {ta tb tc : EvT}
theorem dt_not (ha : PT X a (semT G W ta)) : PT X (.UnaryOp .Not a pos) (semT G W (notT ta)) :=
  (pt_not ha).imp fun σ H Q ⟨S, t, m, e, si, g⟩ => ⟨S, t, m, e, si, (Gd.split g).imp fun S1 H1 t1 m1 x p1 i1 ⟨_, _, h2⟩ => h2.now i1⟩
theorem _root_.L2.PW.imp {X : Cx} {e : Expr} {t t' : TT} (h : PW X e t) (w : ∀ σ H Q, t' σ H Q → t σ H Q) : PW X e t' := ⟨fun wh pins s σ H Q I q => h.run wh pins s σ H Q I (w σ H Q q)⟩
theorem dw_and {rest : List Expr} (ha : PT X a (semT G W ta)) (hb : PW X (.BoolOp .And (b :: rest) pos) (semT G W tb)) : PW X (.BoolOp .And (a :: b :: rest) pos) (semT G W (andT ta tb)) := by
  refine (pw_and ha hb).imp fun σ H Q ⟨S, t, m, e, si, g⟩ => ⟨S, t, m, e, si, (Gd.split g).imp fun S1 H1 t1 m1 x p1 i1 ⟨_, _, h2⟩ => ?_⟩
  cases x with
  | true => exact ⟨S1, t1, m1, e, si.stp p1 i1, h2⟩
  | false => exact h2.now i1
theorem dw_or {rest : List Expr} (ha : PT X a (semT G W ta)) (hb : PW X (.BoolOp .Or (b :: rest) pos) (semT G W tb)) : PW X (.BoolOp .Or (a :: b :: rest) pos) (semT G W (orT ta tb)) := by
  refine (pw_or ha hb).imp fun σ H Q ⟨S, t, m, e, si, g⟩ => ⟨S, t, m, e, si, (Gd.split g).imp fun S1 H1 t1 m1 x p1 i1 ⟨_, _, h2⟩ => ?_⟩
  cases x with
  | true => exact h2.now i1
  | false => exact ⟨S1, t1, m1, e, si.stp p1 i1, h2⟩
theorem de_not (ha : PE X a (semE G W fa)) : PE X (.UnaryOp .Not a pos) (semE G W (notE fa)) := by
  refine (pe_not ha).imp fun σ H Q ⟨S, t, m, e, si, g⟩ => ⟨S, t, m, e, si, (Gd.split g).imp fun S1 H1 t1 m1 x p1 i1 ⟨_, _, h2⟩ v rv => ?_⟩
  cases x with
  | bl b => cases rv; exact ⟨b, rfl, Gd.now h2 i1 _ (.bl _)⟩
  | _ => exact h2.elim
theorem de_and {rest : List Expr} (ha : PE X a (semE G W fa)) (hb : PE X (.BoolOp .And (b :: rest) pos) (semE G W fb)) : PE X (.BoolOp .And (a :: b :: rest) pos) (semE G W (andE fa fb)) := by
  refine (pe_and ha hb).imp fun σ H Q ⟨S, t, m, e, si, g⟩ => ⟨S, t, m, e, si, (Gd.split g).imp fun S1 H1 t1 m1 x p1 i1 ⟨_, _, h2⟩ v rv => ?_⟩
  cases x with
  | bl b =>
    cases rv
    refine ⟨b, rfl, ?_⟩
    cases b with
    | true => exact ⟨S1, t1, m1, e, si.stp p1 i1, h2⟩
    | false => exact Gd.now h2 i1 _ (.bl false)
  | _ => exact h2.elim
theorem de_or {rest : List Expr} (ha : PE X a (semE G W fa)) (hb : PE X (.BoolOp .Or (b :: rest) pos) (semE G W fb)) : PE X (.BoolOp .Or (a :: b :: rest) pos) (semE G W (orE fa fb)) := by
  refine (pe_or ha hb).imp fun σ H Q ⟨S, t, m, e, si, g⟩ => ⟨S, t, m, e, si, (Gd.split g).imp fun S1 H1 t1 m1 x p1 i1 ⟨_, _, h2⟩ v rv => ?_⟩
  cases x with
  | bl b =>
    cases rv
    refine ⟨b, rfl, ?_⟩
    cases b with
    | true => exact Gd.now h2 i1 _ (.bl true)
    | false => exact ⟨S1, t1, m1, e, si.stp p1 i1, h2⟩
  | _ => exact h2.elim
theorem de_if (hc : PT X c (semT G W tc)) (ha : PE X a (semE G W fa)) (hb : PE X b (semE G W fb)) : PE X (.IfExp c a b pos) (semE G W (ifE tc fa fb)) := by
  refine (pe_ifExp hc ha hb).imp fun σ H Q ⟨S, t, m, e, si, g⟩ => ⟨S, t, m, e, si, (Gd.split g).imp fun S1 H1 t1 m1 x p1 i1 ⟨_, _, h2⟩ => ?_⟩
  cases x with
  | true => exact ⟨S1, t1, m1, e, si.stp p1 i1, h2⟩
  | false => exact ⟨S1, t1, m1, e, si.stp p1 i1, h2⟩
theorem sem3 {g g' : Store → D → D → Option D} {r r' : R2} {σ : St} {H : Hp} {Q : VK} (hK : X.kw = G.K)
    (hr : ∀ S H t m x y d e z (Q : VK), HI X.kw S H t m → BR X.kw S H t x d → BR X.kw S H t y e → g m d e = some z → (∀ v S' H', Stp S H t S' H' t → HI X.kw S' H' t m → DR X.kw S' t v z → Q v H') → r x y H Q)
    (hr' : ∀ S H t m x y d e z (Q : VK), HI X.kw S H t m → BR X.kw S H t x d → BR X.kw S H t y e → g' m d e = some z → (∀ v S' H', Stp S H t S' H' t → HI X.kw S' H' t m → DR X.kw S' t v z → Q v H') → r' x y H Q)
    (h : semE G W (chainE g g' fa fb fc) σ H Q) : tChain r r' (semB G W fa) (semB G W fb) (semB G W fc) σ H Q := by
  obtain ⟨S, t, m, e, si, h⟩ := h
  refine ⟨S, t, m, e, si, (Gd.split h).imp fun S1 H1 t1 m1 x p1 i1 ⟨_, _, h1⟩ v rv => ?_⟩
  have si1 := si.stp p1 i1
  refine ⟨S1, t1, m1, e, si1, (Gd.split h1).imp fun S2 H2 t2 m2 y p2 i2 ⟨_, _, h2⟩ w rw' => ?_⟩
  have si2 := si1.stp p2 i2
  cases hz : g m2 x y with
  | none => rw [hz] at h2; exact h2.elim
  | some z =>
    rw [hz] at h2
    refine hr S2 H2 t2 m2 v w x y z _ (hK ▸ i2) (hK ▸ rv.stp i1 p2) (hK ▸ rw') hz fun u S3 H3 p3 i3 ru => ?_
    have i3 : HI G.K S3 H3 t2 m2 := hK ▸ i3
    have si3 := si2.stp p3 i3
    cases z with
    | bl k =>
      cases ru
      refine ⟨k, rfl, ?_⟩
      have h3 := Gd.from p3 h2
      cases k with
      | false => exact Gd.now h3 i3 _ (.bl false)
      | true =>
        have h3 : Gd G W σ S3 H3 t2 ((fc G.C e m2).bind fun w m3 => R.of (g' m3 y w) m3) _ := h3
        refine ⟨S3, t2, m2, e, si3, (Gd.split h3).imp fun S4 H4 t4 m4 c p4 i4 ⟨_, _, h4⟩ c' rc => ?_⟩
        cases hz' : g' m4 y c with
        | none => rw [hz'] at h4; exact h4.elim
        | some z' =>
          rw [hz'] at h4
          exact hr' S4 H4 t4 m4 w c' y c z' Q (hK ▸ i4) (hK ▸ ((rw'.stp i2 p3).stp i3 p4)) (hK ▸ rc) hz' fun u' S' H' p i ru' => h4 S' H' t4 p (hK ▸ i) u' (hK ▸ ru')
    | _ => exact h2.elim
end
end Dn
/-! Arguments, displays, calls. -/
namespace Dn
open PySem L2

section
variable {X : Cx} {G : Cfg} {W : WX} {a b c : Expr} {es : List Expr} {fa fb fc : EvE} {fs : EvA} {pos : Pos}
/-! ### arguments -/
theorem da_nil : PA X [] (semA G W nilA) := (pa_nil (X := X)).imp fun σ H Q ⟨S, t, m, e, si, g⟩ => g.now si.hi [] .nil
theorem da_cons (ha : PE X a (semE G W fa)) (hr : PA X es (semA G W fs)) (hs : starEach (a :: es) X.env = (false, eval a X.env) :: starEach es X.env := by rfl) : PA X (a :: es) (semA G W (consA fa fs)) := by
  refine (pa_cons ha hr hs).imp fun σ H Q ⟨S, t, m, e, si, g⟩ => ⟨S, t, m, e, si, (Gd.split g).imp fun S1 H1 t1 m1 x p1 i1 ⟨_, _, h1⟩ v rv => ?_⟩
  refine ⟨S1, t1, m1, e, si.stp p1 i1, (Gd.split h1).imp fun S2 H2 t2 m2 xs p2 i2 ⟨_, _, h2⟩ vs rs => ?_⟩
  exact Gd.now h2 i2 (v :: vs) (.cons (rv.stp i1 p2) rs)
theorem db_nil : PA X [] (semAB G W nilA) := (pa_nil (X := X)).imp fun σ H Q ⟨S, t, m, e, si, g⟩ => g.now si.hi [] .nil
theorem db_cons (ha : PE X a (semB G W fa)) (hr : PA X es (semAB G W fs)) (hs : starEach (a :: es) X.env = (false, eval a X.env) :: starEach es X.env := by rfl) : PA X (a :: es) (semAB G W (consA fa fs)) := by
  refine (pa_cons ha hr hs).imp fun σ H Q ⟨S, t, m, e, si, g⟩ => ⟨S, t, m, e, si, (Gd.split g).imp fun S1 H1 t1 m1 x p1 i1 ⟨_, _, h1⟩ v rv => ?_⟩
  refine ⟨S1, t1, m1, e, si.stp p1 i1, (Gd.split h1).imp fun S2 H2 t2 m2 xs p2 i2 ⟨_, _, h2⟩ vs rs => ?_⟩
  exact Gd.now h2 i2 (v :: vs) (.cons (rv.stp i1 p2) rs)

/-! ### displays -/
/-- at most this many items are written in a display -/
def short {α : Type} (xs : List α) : Bool := decide (xs.length ≤ 100000)
theorem short_le {α : Type} {xs : List α} (h : short xs = true) : xs.length ≤ sizeLine := by
  have := of_decide_eq_true h
  exact Nat.le_trans this (by decide)
@[simp] def tupG : Store → List D → Option D := fun _ xs => if short xs = true then some (.tup xs) else none
@[simp] def lstG : Store → List D → Option (List D) := fun _ xs => if short xs = true then some xs else none
theorem de_tup {x1} (h : PA X es (semA G W fs)) : PE X (.Tuple es x1 pos) (semE G W (bltE tupG fs)) := by
  refine (pe_tup h).imp fun σ H Q ⟨S, t, m, e, si, g⟩ => ⟨S, t, m, e, si, (Gd.split g).imp fun S1 H1 t1 m1 xs p1 i1 ⟨_, _, h1⟩ vs rs => ?_⟩
  unfold tupG at h1
  by_cases c : short xs = true
  · rw [if_pos c] at h1
    refine ⟨by rw [rs.length]; exact short_le c, fun p hp => ?_⟩
    obtain ⟨i2, p2⟩ := new_hi (o := .tup vs) i1 hp
    exact h1 _ _ _ p2 i2 _ (.tup (SqT.of upd_same) (rs.stp i1 p2))
  · rw [if_neg c] at h1; exact h1.elim
theorem df_lst (h : PA X es (semA G W fs)) : PE X (.List es pos) (semF G W (bltF lstG fs)) := by
  refine (pe_lst h).imp fun σ H Q ⟨S, t, m, e, si, g⟩ => ⟨S, t, m, e, si, (Gd.split g).imp fun S1 H1 t1 m1 xs p1 i1 ⟨_, _, h1⟩ vs rs => ?_⟩
  unfold lstG at h1
  by_cases c : short xs = true
  · rw [if_pos c] at h1
    refine ⟨by rw [rs.length]; exact short_le c, fun p hp => ?_⟩
    obtain ⟨i2, p2⟩ := new_hi0 (o := .lst vs) i1 hp
    have hS : S1 p = none := by
      cases q : S1 p with
      | none => rfl
      | some o => rw [i1.sub p o q] at hp; cases hp
    refine h1 _ _ _ p2 i2 p ⟨hS, fun n q => i1.off n p q hp, .lst upd_same rs⟩ ?_
    cases q : H p with
    | none => rfl
    | some o => exact absurd hp (p1.dom p (by rw [q]; simp))
  · rw [if_neg c] at h1; exact h1.elim
/-- a new list, settled at once -/
theorem OwnAt.settle {K : KW} {S S' H H' : Hp} {t t' : Th} {m : Store} {p : Addr} {xs : List D} (i : HI K S' H' t' m) (q : Stp S H t S' H' t') (ho : OwnAt K S' H' t' p (.lst xs)) (hn : H p = none) :
    ∃ S2, Stp S H t S2 H' t' ∧ HI K S2 H' t' m ∧ DR K S2 t' (.ref p) (.lst xs) := by
  obtain ⟨xs', vs, e, hp, r⟩ := ho.lst'
  have off := ho.off
  have nt := ho.nt
  cases e
  refine ⟨upd S' p (.lst vs), ⟨q.keep, q.dom, fun a ha => ?_, q.th, q.thn⟩, settle_hi i off hp nt, .lst upd_same (r.mono (fun a o e => ?_) (.refl t'))⟩
  · rw [upd_ne (fun z => ha (by rw [z]; exact hn))]; exact q.hs a ha
  · rw [upd_ne (ne_of_none e off)]; exact e
theorem de_frz {e : Expr} (h : PE X e (semF G W fs)) : PE X e (semE G W (frzE fs)) := by
  refine h.imp fun σ H Q ⟨S, t, m, e, si, g⟩ => ⟨S, t, m, e, si, ?_⟩
  unfold frzE at g
  revert g
  cases fs G.C e m with
  | ok ys m2 =>
    intro g S' H' t' q i p ho hn
    obtain ⟨S2, q2, i2, r⟩ := ho.settle i q hn
    exact g S2 H' t' q2 i2 _ r
  | exc c fs m' => exact id
  | stuck => exact id

/-! ### built-ins -/
theorem de_blt {id x : Str} {pp : Pos} {f : Value} {g : Store → List D → Option D} (ho : CallD X f g) (hK : X.kw = G.K)
    (hp : ∀ r : List V → Hp → VK → Prop, CallR X f r → ∀ t, PA X (a :: es) t → PE X (.Call (.Name x pp) (a :: es) [] pos) (tCB r t)) (ha : PA X (a :: es) (semAB G W fs)) : PE X (.Call (.Name x pp) (a :: es) [] pos) (semE G W (bltE g fs)) := by
  obtain ⟨r, h1, h2⟩ := ho
  refine (hp r h1 _ ha).imp fun σ H Q ⟨S, t, m, e, si, h⟩ => ⟨S, t, m, e, si, (Gd.split h).imp fun S1 H1 t1 m1 xs p1 i1 ⟨_, _, h3⟩ vs rs => ?_⟩
  cases hz : g m1 xs with
  | none => rw [hz] at h3; exact h3.elim
  | some z =>
    rw [hz] at h3
    exact h2 S1 H1 t1 m1 vs xs z Q (hK ▸ i1) (hK ▸ rs) hz fun u S' H' p i ru => h3 S' H' t1 p (hK ▸ i) u (hK ▸ ru)
theorem df_blt {id x : Str} {pp : Pos} {f : Value} {g : Store → List D → Option (List D)} (ho : CallF X f g) (hK : X.kw = G.K)
    (hp : ∀ r : List V → Hp → VK → Prop, CallR X f r → ∀ t, PA X (a :: es) t → PE X (.Call (.Name x pp) (a :: es) [] pos) (tCB r t)) (ha : PA X (a :: es) (semAB G W fs)) : PE X (.Call (.Name x pp) (a :: es) [] pos) (semF G W (bltF g fs)) := by
  obtain ⟨r, h1, h2⟩ := ho
  refine (hp r h1 _ ha).imp fun σ H Q ⟨S, t, m, e, si, h⟩ => ⟨S, t, m, e, si, (Gd.split h).imp fun S1 H1 t1 m1 xs p1 i1 ⟨_, _, h3⟩ vs rs => ?_⟩
  cases hz : g m1 xs with
  | none => rw [hz] at h3; exact h3.elim
  | some z =>
    rw [hz] at h3
    refine h2 S1 H1 t1 m1 vs xs z Q (hK ▸ i1) (hK ▸ rs) hz fun u S' H' p i ru hn => h3 S' H' t1 p (hK ▸ i) u (hK ▸ ru) ?_
    cases q : H u with
    | none => rfl
    | some o => exact absurd hn (p1.dom u (by rw [q]; simp))

/-! ### the defs of the program -/
/-- a def's promise -/
def spD (G : Cfg) (f np : Nat) : Sp := fun vs H Q E => vs.length = np ∧ ∃ S t m ds, HI G.K S H t m ∧ DRs G.K S t vs ds ∧ Gd G (fun c d _ H' => E c d H') [] S H t (G.C f ds m) fun S' H' t' _ d => ∀ v, DR G.K S' t' v d → Q v H'
/-- what is known of a def -/
structure Fnc (P : Program) (w : World) (K : PySem.W.Frag) (mg : Str → Option Value) (base : Heap) (G : Cfg) (n f np : Nat) (x : Str) : Prop where
  ok : ∃ (a : Addr) (fd : FuncData) (ps : List Str), FnOk P w K mg base (L2N.CX P w) n a fd ps (spD G f np) ∧ mg x = some (.ref a) ∧ PySem.W.keepIn K (.ref a) = true ∧ Binds K fd ps []
/-- .. and within an except suite -/
structure FncH (P : Program) (w : World) (K : PySem.W.Frag) (mg : Str → Option Value) (base : Heap) (G : Cfg) (n f np : Nat) (x : Str) : Prop where
  ok : ∃ (a : Addr) (fd : FuncData) (ps : List Str), L2H.FnH P w K mg base (L2N.CX P w) n a fd ps (spD G f np) ∧ mg x = some (.ref a) ∧ PySem.W.keepIn K (.ref a) = true ∧ Binds K fd ps []
theorem fn_use {np f : Nat} {σ : St} {H : Hp} {Q : VK} (np_ok : ∀ e m xs m', fs G.C e m = .ok xs m' → xs.length = np) (h : semE G W (fnE f fs) σ H Q) : tCallS (spD G f np) (WE W) (semA G W fs) σ H Q := by
  obtain ⟨S, t, m, e, si, h⟩ := h
  refine ⟨S, t, m, e, si, ?_⟩
  have k := np_ok e m
  unfold fnE at h
  revert h k
  cases fs G.C e m with
  | ok ys m2 =>
    intro h k S1 H1 t1 q i vs rs
    refine ⟨rs.length.trans (k ys m2 rfl), S1, t1, m2, ys, i, rs, ?_⟩
    have h' := Gd.from q h
    revert h'
    show Gd G W σ S1 H1 t1 (G.C f ys m2) _ → _
    cases G.C f ys m2 with
    | ok d m3 => exact id
    | exc c gs m3 => exact id
    | stuck => exact id
  | exc c fs m' => exact fun h _ => h
  | stuck => exact fun h _ => h
/-- f(e, ..), n arguments -/
def lenA (f : EvA) (n : Nat) : Prop := ∀ C e m xs m', f C e m = .ok xs m' → xs.length = n
theorem lenA_nil : lenA nilA 0 := fun C e m xs m' h => by cases h; rfl
theorem lenA_cons {n : Nat} (h : lenA fs n) : lenA (consA fa fs) (n + 1) := fun C e m xs m' q => by
  unfold consA at q
  cases q1 : fa C e m with
  | ok x m1 =>
    rw [q1] at q
    simp only [R.bind_ok] at q
    cases q2 : fs C e m1 with
    | ok ys m2 =>
      rw [q2] at q
      simp only [R.bind_ok] at q
      cases q
      simp [h C e m1 ys _ q2]
    | exc c gs m2 => rw [q2] at q; cases q
    | stuck => rw [q2] at q; cases q
  | exc c gs m2 => rw [q1] at q; cases q
  | stuck => rw [q1] at q; cases q
theorem de_fn {n f np : Nat} {x : Str} {p : Pos} (F : Fnc X.prog X.w X.K X.mg X.base G n f np x) (hr : Room n X.A) (tk : L2N.Takes X W) (hg : Gl X x) (ha : PA X (a :: es) (semA G W fs)) (hn : lenA fs np)
    (hdb : (x == ("__debug__" : Str)) = false := by decide) (he : starEach (a :: es) X.env = (false, eval a X.env) :: starEach es X.env := by rfl) (hpl : (backTo pos (starEach es X.env)).any (·.1) = false := by rfl) :
    PE X (.Call (.Name x p) (a :: es) [] pos) (semE G W (fnE f fs)) := by
  obtain ⟨ad, fd, ps, F, hm, hk, hb⟩ := F.ok
  exact (pe_callS F hr hg hm hk hb (fun σ => L2N.passAt tk σ) ha hdb he hpl).imp fun σ H Q h => fn_use (fun e m xs m' q => hn G.C e m xs m' q) h
/-- f() -/
theorem de_fn0 {n f : Nat} {x : Str} {p : Pos} (F : Fnc X.prog X.w X.K X.mg X.base G n f 0 x) (hr : Room n X.A) (tk : L2N.Takes X W) (hg : Gl X x) (hdb : (x == ("__debug__" : Str)) = false := by decide) :
    PE X (.Call (.Name x p) [] [] pos) (semE G W (fnE f nilA)) := by
  obtain ⟨ad, fd, ps, F, hm, hk, hb⟩ := F.ok
  refine ⟨fun pins s σ H Q I h => ?_⟩
  obtain ⟨S, t, m, e, si, h⟩ := h
  refine wpAny_Call_Name_kw (ld_glob I hg hm ?_ hdb)
  refine PySem.W.callWith_K0 I.kIn hk (run_fnS (E := WE W) (us := []) (vs := []) F hr hb (L2N.passAt tk σ) I .nil ⟨rfl, S, t, m, [], si.hi, .nil, ?_⟩)
  have h' : Gd G W σ S H t (G.C f [] m) _ := h
  revert h'
  cases G.C f [] m with
  | ok d m3 => exact id
  | exc c gs m3 => exact id
  | stuck => exact id
theorem de_fnH {n f np : Nat} {x : Str} {p : Pos} (F : FncH X.prog X.w X.K X.mg X.base G n f np x) (hr : L2H.RoomH n X.A) (hc : L2H.HotC X) (tk : L2N.Takes X W) (hg : Gl X x) (ha : PA X (a :: es) (semA G W fs)) (hn : lenA fs np)
    (hdb : (x == ("__debug__" : Str)) = false := by decide) (he : starEach (a :: es) X.env = (false, eval a X.env) :: starEach es X.env := by rfl) (hpl : (backTo pos (starEach es X.env)).any (·.1) = false := by rfl) :
    PE X (.Call (.Name x p) (a :: es) [] pos) (semE G W (fnE f fs)) := by
  obtain ⟨ad, fd, ps, F, hm, hk, hb⟩ := F.ok
  exact (L2H.pe_callH F hr hc hg hm hk hb (fun σ => L2N.passAt tk σ) ha hdb he hpl).imp fun σ H Q h => fn_use (fun e m xs m' q => hn G.C e m xs m' q) h
end
end Dn
/-! What is walked; targets; comprehensions. -/
namespace PySem
set_option maxHeartbeats 4000000 in
theorem dn_enum_newB {v : Value} {o : Obj} {H : Heap → Prop} (B : Begins v o H) :
    Meets (Builtin.«enumerate.__new__» ⟨[.type "enumerate", v], []⟩) (fun _ R s => H s.heap ∧
      R (.ok (.ret (.ref (s.heap.push o).objs.size))) { s with heap := (s.heap.push o).push { cls := .type "enumerate", data := .fields #[.none, .bool false, .ref s.heap.objs.size, rawInt 0, .none, .none] } }) :=
  .of_wp fun prog w A R s h => by
    obtain ⟨hp, g, d, tk, os⟩ := s; obtain ⟨h1, h⟩ := h
    have hsub := sub_enumerate
    have q1 : ∀ {A' : Around} {E : Value → Shared → Prop} {Q : Value → Shared → Prop}, Q (.ref hp.objs.size) ⟨hp.push o, g, d, tk, os⟩ → wpAny (model prog w) A' (pyIter v) Q E ⟨hp, g, d, tk, os⟩ :=
      fun q => B.iter prog w _ _ ⟨hp, g, d, tk, os⟩ _ h1 q
    wp_walk using q1
    refine wpAny_stack_any fun st => wpAny_pure ?_
    split
    · rename_i c _ _ _ _ _
      cases (c == Value.type "enumerate")
      · wp_walk using q1
        exact ⟨_, rfl, h⟩
      · wp_walk using q1
        exact ⟨_, rfl, h⟩
    · wp_walk using q1
      exact ⟨_, rfl, h⟩
section
variable {prog : Program} {w : World} {A : Around} {E : Value → Shared → Prop} {s : Shared}
theorem dn_call_enum {v : Value} {o : Obj} {H : Heap → Prop} {Q : Value → Shared → Prop} (B : Begins v o H) (h1 : H s.heap)
    (h : ∀ h', IsEnum h' (s.heap.objs.size + 1) s.heap.objs.size 0 .none → h'.get? s.heap.objs.size = some o → h'.objs.size = s.heap.objs.size + 2 →
      (∀ b o, s.heap.get? b = some o → h'.get? b = some o) → Q (.ref (s.heap.objs.size + 1)) { s with heap := h' }) :
    wpAny (model prog w) A (call (.type "enumerate") [v]) Q E s := by
  refine callType_new F.called_enumerate (by decide) (F.typeCall_enumerate_1 _) (F.newCall_enumerate_1 _) (fun obj => F.args_object_init_2 obj _) F.entry_enumerate_new
    (dn_enum_newB B) ⟨h1, ?_⟩
  have hz : (s.heap.push o).objs.size = s.heap.objs.size + 1 := Heap.size_push ..
  show _ ∧ _
  rw [hz]
  have he : IsEnum ((s.heap.push o).push { cls := .type "enumerate", data := .fields #[.none, .bool false, .ref s.heap.objs.size, rawInt 0, .none, .none] }) (s.heap.objs.size + 1) s.heap.objs.size 0 .none := by
    have := Heap.get?_push_size (s.heap.push o) (o := { cls := .type "enumerate", data := .fields #[.none, .bool false, .ref s.heap.objs.size, rawInt 0, .none, .none] }) rfl
    rw [hz] at this; exact this
  refine ⟨⟨_, he, rfl⟩, h _ he (Heap.get?_push_of_some _ (Heap.get?_push_size _ B.free)) (by rw [Heap.size_push, hz]) fun b o x => Heap.get?_push_of_some _ (Heap.get?_push_of_some _ x)⟩
end
end PySem

namespace Dn
open PySem L2
/-- the tuple at a, its items in new pairs with their numbers -/
def IteT (K : PySem.W.Frag) (a : Addr) : It :=
  ⟨fun i H => ∃ xs x, SqT K H a xs ∧ xs[i]? = some x, fun i H v H' => ∃ T x, v = .ref T ∧ H T = none ∧ H' = upd H T (.tup [.int (i : Nat), x]) ∧ ∀ xs, SqT K H a xs → xs[i]? = some x, fun i H => ∃ xs, SqT K H a xs ∧ xs.length ≤ i⟩
theorem turn_enumT {P : Program} {w : World} {K : PySem.W.Frag} {elts : List Expr} {kk : Nat} {tpos : Pos} (a e it : Addr) :
    Turn P w K (.Tuple elts kk tpos) (IteT K a) [e, it] e (fun i h => (∃ old, IsEnum h e it ((i : Nat) : Int) old) ∧ h.IsTupleIter it a i ∧ e ≠ it ∧ e ≠ a ∧ a ≠ it) where
  mem := by simp
  obj := fun i h st b hb => by
    obtain ⟨⟨old, he⟩, ⟨o, ho, hc, hd⟩, _⟩ := st
    have e' : b = e ∨ b = it := by simpa using hb
    rcases e' with z | z
    · rw [z]; exact ⟨_, he, fun v q => nomatch q⟩
    · rw [z]; exact ⟨o, ho, fun v q => by rw [hd] at q; cases q⟩
  keep := fun i h h' st k => let ⟨⟨old, he⟩, hi, hne⟩ := st; ⟨⟨old, k e (by simp) _ he⟩, hi.at fun o q => k it (by simp) o q, hne⟩
  item := by
    intro X hP hw hK hc i pins s σ H E I hf st hg
    subst hP hw hK
    obtain ⟨⟨old, he⟩, hit, hne, hea, hai⟩ := st
    obtain ⟨xs, x, hq, hx⟩ := hg
    obtain ⟨its, rv, p, hz⟩ := I.tuple hq
    obtain ⟨u, hu, ru⟩ := rv.get hx
    have hel : e < s.heap.objs.size := Heap.lt_size he
    have hil : it < s.heap.objs.size := by obtain ⟨_, q, _⟩ := hit; exact Heap.lt_size q
    have pt : s.heap.IsTuple a its.toArray := p
    have hlt : i < its.toArray.size := by
      have := (List.getElem?_eq_some_iff.mp hu).1
      simpa using this
    refine wpAny_pyNext_enum_itemD (Draws.tuple (prog := X.prog) (w := X.w) (A := X.A.in1) (I.ok.hd hc) it a hai its.toArray) he ⟨hit, pt⟩ hlt hne (by simp [hne, hea]) fun x' h' tk hP ho hit' hT hsz hk => ?_
    have hxu : x' = u := by
      have h1 : its.toArray[i]? = some u := by simpa using hu
      have hP' : its.toArray[i]? = some x' := hP
      rw [h1] at hP'; exact (Option.some.inj hP').symm
    subst hxu
    refine ⟨_, rfl, wpAny_letOwnedTupleGo_enum (s := { s with heap := h', toks := tk + 1 }) ho fun h'' he' sb => ?_⟩
    have hT2 : h''.get? s.heap.objs.size = some { cls := .type "tuple", data := .seq #[.int i tk, x'] } := (sb.2 _ (Nat.ne_of_gt hel)).trans hT
    have new : ObjOk X.prog X.w (upd H s.heap.objs.size (.tup [.int (i : Nat), x])) h'' s.heap.objs.size (.tup [.int (i : Nat), x]) :=
      ⟨by show 2 ≤ sizeLine; decide, [.int i tk, x'], .cons ⟨_, rfl⟩ (.cons ru .nil), ⟨_, hT2, rfl, _, rfl⟩⟩
    have I1 : Inv X pins σ (upd H s.heap.objs.size (.tup [.int (i : Nat), x])) { s with heap := h'', toks := tk + 1 } :=
      I.turnedNew (ch := [e, it]) (fun b ob hb q => (sb.2 b (fun z => hb (by simp [z]))).trans (hk b ob (fun z => hb (by simp [z])) (fun z => hb (by simp [z])) q)) hf (Nat.le_refl _) new
    refine ⟨.ref s.heap.objs.size, _, I1, rfl, ⟨_, x, rfl, I.hok.fresh (Nat.le_refl _), rfl, fun ys hy => by rw [I.tuple_inj hy hq]; exact hx⟩, ⟨⟨x', ?_⟩, hit'.1.at fun o q => (sb.2 it (Ne.symm hne)).trans q, hne, hea, hai⟩, fun b hb => ?_⟩
    · have e1 : ((i + 1 : Nat) : Int) = (i : Int) + 1 := by omega
      rw [e1]; exact he'
    · have hb' : b < s.heap.objs.size := by
        have e' : b = e ∨ b = it := by simpa using hb
        rcases e' with z | z
        · rw [z]; exact hel
        · rw [z]; exact hil
      rw [upd_ne (Nat.ne_of_lt hb')]
      exact (hf b hb).1
  done := by
    intro X hP hw hK hc i pins s σ H E I hf st hg
    subst hP hw hK
    obtain ⟨⟨old, he⟩, hit, hne, hea, hai⟩ := st
    obtain ⟨xs, hq, hx⟩ := hg
    obtain ⟨its, rv, p, hz⟩ := I.tuple hq
    obtain ⟨f0, f1, f2, f3, f4, f5⟩ := hf it (by simp)
    have hl := rv.length
    have pt : s.heap.IsTuple a its.toArray := p
    unfold pyNext
    refine wpAny_bind (wpAny_attempt (wpAny_callSpecial?_slot (name := Str.ofString "__next__") ⟨_, he, rfl⟩ F.slot_enumerate_next
      (wpAny_call_entry F.slot_enumerate_next ⟨_, he, rfl⟩ F.entry_enumerate_next ?_ (F.args_enumerate_next_1 _))))
    show wpAny _ _ (field (.ref e) 2 >>= _) _ _ _
    refine wpAny_bind (wpAny_field he rfl (x := .ref it) rfl ?_)
    refine wpAny_bind (wpAny_nextOf_tuple_end (show X.A.in1.handled = none from I.ok.hd hc) hit pt (by simp; omega) fun h' x eb hx' => ?_)
    obtain ⟨o, ho, hc'⟩ := hx'
    refine wpAny_bind (wpAny_isInstance (T := "StopIteration") (b := true) ⟨o, ho, hc'⟩ isSubtype_stop ?_)
    exact wpAny_pure ⟨rfl, I.turned (t' := s.toks) (fun b o hb q => eb b o hb q) f0 f1 f3 f4 f5⟩
  self := fun A i s Q E st h => let ⟨⟨_, he⟩, _⟩ := st; wpAny_pyIter_enum he h
end Dn
/-! What is walked, by data; targets. -/
namespace Dn
open PySem L2

theorem Gd.sp {G : Cfg} {W : WX} {σ : St} {S H : Hp} {t : Th} {α β : Type} {r : R α} {f : α → Store → R β} {P : Hp → Hp → Th → Store → β → Prop} (h : Gd G W σ S H t (r.bind f) P) :
    Gd G W σ S H t r (fun S1 H1 t1 m1 a => Gd G W σ S1 H1 t1 (f a m1) P) := (Gd.split h).imp fun _ _ _ _ _ _ _ q => q.2.2
/-- what J yields are these, from now on -/
structure ItR (K : KW) (S : Hp) (t : Th) (J : It) (ds : List D) : Prop where
  len : ds.length ≤ sizeLine
  go : ∀ (i : Nat) d S2 H2 t2 m2, ds[i]? = some d → Sub S S2 → TSub t t2 → HI K S2 H2 t2 m2 → J.go i H2 ∧ ∀ x H', J.yld i H2 x H' → ∃ S', Stp S2 H2 t2 S' H' t2 ∧ HI K S' H' t2 m2 ∧ DR K S' t2 x d
  stop : ∀ S2 H2 t2 m2, Sub S S2 → TSub t t2 → HI K S2 H2 t2 m2 → J.stop ds.length H2
def semI (G : Cfg) (W : WX) (f : EvA) : TI := fun σ H R => ∃ S t m e, SI G.K G.x S H t m σ e ∧ Gd G W σ S H t (f G.C e m) fun S' H' t' _ ds => ∀ J, ItR G.K S' t' J ds → R J H'
/-- .. as long as nothing of one's own is changed -/
structure ItR2 (K : KW) (S H : Hp) (t : Th) (J : It) (ds : List D) : Prop where
  len : ds.length ≤ sizeLine
  go : ∀ (i : Nat) d S2 H2 t2 m2, ds[i]? = some d → Stp S H t S2 H2 t2 → HI K S2 H2 t2 m2 → J.go i H2 ∧ ∀ x H', J.yld i H2 x H' → ∃ S', Stp S2 H2 t2 S' H' t2 ∧ HI K S' H' t2 m2 ∧ DR K S' t2 x d
  stop : ∀ S2 H2 t2 m2, Stp S H t S2 H2 t2 → HI K S2 H2 t2 m2 → J.stop ds.length H2
def semI2 (G : Cfg) (W : WX) (f : EvA) : TI := fun σ H R => ∃ S t m e, SI G.K G.x S H t m σ e ∧ Gd G W σ S H t (f G.C e m) fun S' H' t' _ ds => ∀ J, ItR2 G.K S' H' t' J ds → R J H'
theorem semI2_of {G : Cfg} {W : WX} {f : EvA} {σ : St} {H : Hp} {R : It → Hp → Prop} (h : semI2 G W f σ H R) : semI G W f σ H R := by
  obtain ⟨S, t, m, e, si, g⟩ := h
  exact ⟨S, t, m, e, si, g.imp fun S1 H1 t1 m1 ds p1 i1 q J it => q J ⟨it.len, fun i d S2 H2 t2 m2 hx p i2 => it.go i d S2 H2 t2 m2 hx (i1.ssub p) p.th i2, fun S2 H2 t2 m2 p i2 => it.stop S2 H2 t2 m2 (i1.ssub p) p.th i2⟩⟩
theorem _root_.L2.PI.imp {X : Cx} {tg e : Expr} {t t' : TI} (h : PI X tg e t) (w : ∀ σ H R, t' σ H R → t σ H R) : PI X tg e t' := ⟨fun pins s σ H R I q => h.run pins s σ H R I (w σ H R q)⟩

/-- a list, a tuple or a text -/
def iSeq (K : PySem.W.Frag) (tl : TE) : TI := fun σ H R => tl σ H fun x H1 =>
  (∃ a xs, x = .ref a ∧ SqL K H1 a xs ∧ (xs.length ≤ sizeLine → R (Itl K a) H1)) ∨ (∃ a xs, x = .ref a ∧ SqT K H1 a xs ∧ (xs.length ≤ sizeLine → R (Itt K a) H1)) ∨ ∃ z, x = .str z ∧ R (Its z) H1
theorem pi_seq {X : Cx} {tg l : Expr} {tl : TE} (hl : PE X l tl) : PI X tg l (iSeq X.K tl) := by
  refine ⟨fun pins s σ H R I h => ?_⟩
  refine thn (hl.run pins s σ H _ I h) fun v s1 ⟨x, H1, I1, r1, q1⟩ => ?_
  rcases q1 with ⟨a, xs, e, hq, q⟩ | ⟨a, xs, e, hq, q⟩ | ⟨z, e, q⟩
  · subst e
    cases r1
    obtain ⟨its, rv, p, hz⟩ := I1.list hq
    refine wpAny_pyIter_list p.isList ?_
    refine ⟨s1.heap.objs.size, [s1.heap.objs.size], _, _, H1, rfl, I1.kept (t' := s1.toks) fun b o e => Heap.get?_push_of_some _ e, turn_list a _, ⟨_, Heap.get?_push_size _ rfl, rfl, rfl⟩, fun b hb => ?_, q hz⟩
    have e : b = s1.heap.objs.size := by simpa using hb
    subst e
    exact I1.fpOk (Nat.le_refl _) (I1.hok.fresh (Nat.le_refl _))
  · subst e
    cases r1
    obtain ⟨its, rv, p, hz⟩ := I1.tuple hq
    refine wpAny_pyIter_tuple (show s1.heap.IsTuple a its.toArray from p) ?_
    refine ⟨s1.heap.objs.size, [s1.heap.objs.size], _, _, H1, rfl, I1.kept (t' := s1.toks) fun b o e => Heap.get?_push_of_some _ e, turn_tuple a _, ⟨_, Heap.get?_push_size _ rfl, rfl, rfl⟩, fun b hb => ?_, q hz⟩
    have e : b = s1.heap.objs.size := by simpa using hb
    subst e
    exact I1.fpOk (Nat.le_refl _) (I1.hok.fresh (Nat.le_refl _))
  · subst e
    obtain ⟨t, rfl⟩ := r1
    cases ha : z.cps.all (· < 128)
    · exact wpAny_pyIter_wide ha (pi_one (tk := s1.toks) I1 _ (turn_str _ z t "str_iterator" (.inr rfl)) ⟨_, Heap.get?_push_size _ rfl, rfl, rfl⟩ q)
    · exact wpAny_pyIter_ascii ha (pi_one (tk := s1.toks) I1 _ (turn_str _ z t "str_ascii_iterator" (.inl rfl)) ⟨_, Heap.get?_push_size _ rfl, rfl, rfl⟩ q)

section
variable {K : KW} {S H : Hp} {t : Th} {m : Store}
theorem itr_list {a : Addr} {vs : List V} {ds : List D} (h : SqL K S a vs) (hd : DRs K S t vs ds) (hl : vs.length ≤ sizeLine) : ItR K S t (Itl K a) ds where
  len := by rw [← hd.length]; exact hl
  go := fun i d S2 H2 t2 m2 e ss ts i2 => by
    obtain ⟨v, h1, h2⟩ := hd.get e
    have q : SqL K H2 a vs := i2.sub.sqL (ss.sqL h)
    refine ⟨⟨vs, v, q, h1⟩, fun x H' ⟨e1, e2⟩ => ?_⟩
    subst e1
    have := e2 vs q
    rw [h1] at this
    cases this
    exact ⟨S2, .refl, i2, h2.mono ss ts⟩
  stop := fun S2 H2 t2 m2 ss ts i2 => ⟨vs, i2.sub.sqL (ss.sqL h), by rw [hd.length]; exact Nat.le_refl _⟩
theorem itr_tup {a : Addr} {vs : List V} {ds : List D} (h : SqT K S a vs) (hd : DRs K S t vs ds) (hl : vs.length ≤ sizeLine) : ItR K S t (Itt K a) ds where
  len := by rw [← hd.length]; exact hl
  go := fun i d S2 H2 t2 m2 e ss ts i2 => by
    obtain ⟨v, h1, h2⟩ := hd.get e
    have q : SqT K H2 a vs := i2.sub.sqT (ss.sqT h)
    refine ⟨⟨vs, v, q, h1⟩, fun x H' ⟨e1, e2⟩ => ?_⟩
    subst e1
    have := e2 vs q
    rw [h1] at this
    cases this
    exact ⟨S2, .refl, i2, h2.mono ss ts⟩
  stop := fun S2 H2 t2 m2 ss ts i2 => ⟨vs, i2.sub.sqT (ss.sqT h), by rw [hd.length]; exact Nat.le_refl _⟩
/-- the signs of a text -/
def signs (z : Str) : List D := z.cps.toList.map fun c => .str ⟨#[c]⟩
theorem itr_str {z : Str} (hl : z.length ≤ sizeLine) : ItR K S t (Its z) (signs z) where
  len := by unfold signs; simpa [Str.length] using hl
  go := fun i d S2 H2 t2 m2 e ss ts i2 => by
    unfold signs at e
    rw [List.getElem?_map] at e
    cases q : z.cps.toList[i]? with
    | none => rw [q] at e; cases e
    | some c =>
      rw [q] at e
      cases e
      have hi : i < z.cps.size := by simpa using (List.getElem?_eq_some_iff.mp q).1
      refine ⟨hi, fun x H' ⟨e1, c', e2, e3⟩ => ?_⟩
      subst e1 e3
      have : c' = c := by
        have q' : z.cps[i]? = some c := by simpa using q
        rw [q'] at e2; exact (Option.some.inj e2).symm
      subst this
      exact ⟨S2, .refl, i2, .str _⟩
  stop := fun S2 H2 t2 m2 ss ts i2 => by
    show z.cps.size ≤ (signs z).length
    unfold signs; simp
def rng (lo : Int) (n : Nat) : List D := (List.range n).map fun i : Nat => .int (lo + i)
theorem itr_range {lo : Int} {n : Nat} (hl : n ≤ sizeLine) : ItR K S t (Itr lo n) (rng lo n) where
  len := by unfold rng; simpa using hl
  go := fun i d S2 H2 t2 m2 e ss ts i2 => by
    unfold rng at e
    rw [List.getElem?_map] at e
    by_cases h : i < n
    · rw [List.getElem?_range h] at e
      cases e
      refine ⟨h, fun x H' ⟨e1, e2⟩ => ?_⟩
      subst e1 e2
      exact ⟨S2, .refl, i2, .int _⟩
    · rw [List.getElem?_eq_none (by simpa using h)] at e; cases e
  stop := fun S2 H2 t2 m2 ss ts i2 => by
    show n ≤ (rng lo n).length
    unfold rng; simp
def rngC (lo c : Int) (n : Nat) : List D := (List.range n).map fun i : Nat => .int (lo + i * c)
theorem itr_rangeC {lo c : Int} {n : Nat} (hl : n ≤ sizeLine) : ItR K S t (Itc lo c n) (rngC lo c n) where
  len := by unfold rngC; simpa using hl
  go := fun i d S2 H2 t2 m2 e ss ts i2 => by
    unfold rngC at e
    rw [List.getElem?_map] at e
    by_cases h : i < n
    · rw [List.getElem?_range h] at e
      cases e
      refine ⟨h, fun x H' ⟨e1, e2⟩ => ?_⟩
      subst e1 e2
      exact ⟨S2, .refl, i2, .int _⟩
    · rw [List.getElem?_eq_none (by simpa using h)] at e; cases e
  stop := fun S2 H2 t2 m2 ss ts i2 => by
    show n ≤ (rngC lo c n).length
    unfold rngC; simp
/-- with their numbers -/
@[simp] def nums : Nat → List D → List D
  | _, [] => []
  | k, d :: ds => .tup [.int (k : Nat), d] :: nums (k + 1) ds
theorem nums_len : ∀ (ds : List D) (k : Nat), (nums k ds).length = ds.length
  | [], _ => rfl
  | d :: ds, k => by simp [nums, nums_len ds (k + 1)]
theorem nums_get : ∀ (ds : List D) (k i : Nat), (nums k ds)[i]? = (ds[i]?).map fun d => .tup [.int ((k + i : Nat) : Int), d]
  | [], _, _ => by simp [nums]
  | d :: ds, k, 0 => by simp [nums]
  | d :: ds, k, i + 1 => by
    simp only [nums, List.getElem?_cons_succ]
    rw [nums_get ds (k + 1) i]
    have : k + 1 + i = k + (i + 1) := by omega
    rw [this]
/-- a new pair -/
theorem new_pair {T : Addr} {x y : V} {d c : D} (i : HI K S H t m) (h : H T = none) (hx : DR K S t x d) (hy : DR K S t y c) :
    Stp S H t (upd S T (.tup [x, y])) (upd H T (.tup [x, y])) t ∧ HI K (upd S T (.tup [x, y])) (upd H T (.tup [x, y])) t m ∧ DR K (upd S T (.tup [x, y])) t (.ref T) (.tup [d, c]) := by
  obtain ⟨i2, p2⟩ := new_hi (o := .tup [x, y]) i h
  exact ⟨p2, i2, .tup (SqT.of upd_same) (.cons (hx.stp i p2) (.cons (hy.stp i p2) .nil))⟩
theorem itr_enumL {a : Addr} {vs : List V} {ds : List D} (h : SqL K S a vs) (hd : DRs K S t vs ds) (hl : vs.length ≤ sizeLine) : ItR K S t (Ite K a) (nums 0 ds) where
  len := by rw [nums_len, ← hd.length]; exact hl
  go := fun i d S2 H2 t2 m2 e ss ts i2 => by
    rw [nums_get] at e
    cases q : ds[i]? with
    | none => rw [q] at e; cases e
    | some c =>
      rw [q] at e
      cases e
      obtain ⟨v, h1, h2⟩ := hd.get q
      have sq : SqL K H2 a vs := i2.sub.sqL (ss.sqL h)
      refine ⟨⟨vs, v, sq, h1⟩, fun x H' ⟨T, y, e1, e2, e3, e4⟩ => ?_⟩
      subst e1 e3
      have := e4 vs sq
      rw [h1] at this
      cases this
      have e0 : ((0 + i : Nat) : Int) = (i : Nat) := by omega
      rw [e0]
      exact ⟨_, new_pair i2 e2 (.int _) (h2.mono ss ts)⟩
  stop := fun S2 H2 t2 m2 ss ts i2 => ⟨vs, i2.sub.sqL (ss.sqL h), by rw [nums_len, hd.length]; exact Nat.le_refl _⟩
theorem itr_enumT {a : Addr} {vs : List V} {ds : List D} (h : SqT K S a vs) (hd : DRs K S t vs ds) (hl : vs.length ≤ sizeLine) : ItR K S t (IteT K a) (nums 0 ds) where
  len := by rw [nums_len, ← hd.length]; exact hl
  go := fun i d S2 H2 t2 m2 e ss ts i2 => by
    rw [nums_get] at e
    cases q : ds[i]? with
    | none => rw [q] at e; cases e
    | some c =>
      rw [q] at e
      cases e
      obtain ⟨v, h1, h2⟩ := hd.get q
      have sq : SqT K H2 a vs := i2.sub.sqT (ss.sqT h)
      refine ⟨⟨vs, v, sq, h1⟩, fun x H' ⟨T, y, e1, e2, e3, e4⟩ => ?_⟩
      subst e1 e3
      have := e4 vs sq
      rw [h1] at this
      cases this
      have e0 : ((0 + i : Nat) : Int) = (i : Nat) := by omega
      rw [e0]
      exact ⟨_, new_pair i2 e2 (.int _) (h2.mono ss ts)⟩
  stop := fun S2 H2 t2 m2 ss ts i2 => ⟨vs, i2.sub.sqT (ss.sqT h), by rw [nums_len, hd.length]; exact Nat.le_refl _⟩
/-- two by two -/
@[simp] def zips : List D → List D → List D
  | d :: ds, c :: cs => .tup [d, c] :: zips ds cs
  | _, _ => []
theorem zips_get : ∀ (ds cs : List D) (i : Nat) z, (zips ds cs)[i]? = some z → ∃ d c, ds[i]? = some d ∧ cs[i]? = some c ∧ z = .tup [d, c]
  | d :: ds, c :: cs, 0, z, h => by simp [zips] at h; exact ⟨d, c, by simp, by simp, h.symm⟩
  | d :: ds, c :: cs, i + 1, z, h => by
    simp only [zips, List.getElem?_cons_succ] at h
    obtain ⟨d', c', h1, h2, h3⟩ := zips_get ds cs i z h
    exact ⟨d', c', by simpa using h1, by simpa using h2, h3⟩
  | [], _, _, _, h => by simp [zips] at h
  | _ :: _, [], _, _, h => by simp [zips] at h
theorem zips_len : ∀ (ds cs : List D), (zips ds cs).length = min ds.length cs.length
  | d :: ds, c :: cs => by simp only [zips, List.length_cons, zips_len ds cs]; omega
  | [], _ => by simp [zips]
  | _ :: _, [] => by simp [zips]
theorem itr_zipL {a b : Addr} {vs ws : List V} {ds cs : List D} (h : SqL K S a vs) (hd : DRs K S t vs ds) (g : SqL K S b ws) (gd : DRs K S t ws cs) (hl : (zips ds cs).length ≤ sizeLine) : ItR K S t (Itz K a b) (zips ds cs) where
  len := hl
  go := fun i d S2 H2 t2 m2 e ss ts i2 => by
    obtain ⟨d1, c1, e1, e2, rfl⟩ := zips_get ds cs i d e
    obtain ⟨v, h1, h2⟩ := hd.get e1
    obtain ⟨w, g1, g2⟩ := gd.get e2
    have sq : SqL K H2 a vs := i2.sub.sqL (ss.sqL h)
    have sq' : SqL K H2 b ws := i2.sub.sqL (ss.sqL g)
    refine ⟨⟨vs, ws, v, w, sq, sq', h1, g1⟩, fun x H' ⟨T, y, y', e3, e4, e5, e6, e7⟩ => ?_⟩
    subst e3 e5
    have := e6 vs sq
    rw [h1] at this
    cases this
    have := e7 ws sq'
    rw [g1] at this
    cases this
    exact ⟨_, new_pair i2 e4 (h2.mono ss ts) (g2.mono ss ts)⟩
  stop := fun S2 H2 t2 m2 ss ts i2 => ⟨vs, ws, i2.sub.sqL (ss.sqL h), i2.sub.sqL (ss.sqL g), by rw [zips_len, hd.length, gd.length]; omega⟩
theorem itr_zipT {a b : Addr} {vs ws : List V} {ds cs : List D} (h : SqT K S a vs) (hd : DRs K S t vs ds) (g : SqT K S b ws) (gd : DRs K S t ws cs) (hl : (zips ds cs).length ≤ sizeLine) : ItR K S t (RZ.ItzT K a b) (zips ds cs) where
  len := hl
  go := fun i d S2 H2 t2 m2 e ss ts i2 => by
    obtain ⟨d1, c1, e1, e2, rfl⟩ := zips_get ds cs i d e
    obtain ⟨v, h1, h2⟩ := hd.get e1
    obtain ⟨w, g1, g2⟩ := gd.get e2
    have sq : SqT K H2 a vs := i2.sub.sqT (ss.sqT h)
    have sq' : SqT K H2 b ws := i2.sub.sqT (ss.sqT g)
    refine ⟨⟨vs, ws, v, w, sq, sq', h1, g1⟩, fun x H' ⟨T, y, y', e3, e4, e5, e6, e7⟩ => ?_⟩
    subst e3 e5
    have := e6 vs sq
    rw [h1] at this
    cases this
    have := e7 ws sq'
    rw [g1] at this
    cases this
    exact ⟨_, new_pair i2 e4 (h2.mono ss ts) (g2.mono ss ts)⟩
  stop := fun S2 H2 t2 m2 ss ts i2 => ⟨vs, ws, i2.sub.sqT (ss.sqT h), i2.sub.sqT (ss.sqT g), by rw [zips_len, hd.length, gd.length]; omega⟩
end

/-! ### the rules -/
@[simp] def itemsOf : D → Option (List D)
  | .lst xs => some xs
  | .tup xs => some xs
  | .frz xs => some xs
  | .str z => if short z.cps.toList = true then some (signs z) else none
  | _ => none
@[simp] def seqI (f : EvE) : EvA := fun C e m => (f C e m).bind fun d m1 => .of (itemsOf d) m1
def bdI (i : Int) : Bool := decide (-(2 ^ 62) ≤ i) && decide (i < 2 ^ 62)
@[simp] def rng1 : List D → Option (List D)
  | [.int n] => if (bdI n && decide (n.toNat ≤ 100000)) = true then some (rng 0 n.toNat) else none
  | _ => none
@[simp] def rng2 : List D → Option (List D)
  | [.int i, .int j] => if (bdI i && bdI j && decide ((j - i).toNat ≤ 100000)) = true then some (rng i (j - i).toNat) else none
  | _ => none
def rng3 : List D → Option (List D)
  | [.int i, .int j, .int c] => if (bdI i && bdI j && decide (c = -1) && decide ((i - j).toNat ≤ 100000)) = true then some (rngC i (-1) (i - j).toNat) else none
  | _ => none
@[simp] def enumG : List D → Option (List D)
  | [.lst xs] => some (nums 0 xs)
  | [.tup xs] => some (nums 0 xs)
  | _ => none
@[simp] def zipG : List D → Option (List D)
  | [.lst xs, .lst ys] => if short (zips xs ys) = true then some (zips xs ys) else none
  | [.tup xs, .tup ys] => if short (zips xs ys) = true then some (zips xs ys) else none
  | _ => none
@[simp] def argI (g : List D → Option (List D)) (f : EvA) : EvA := fun C e m => (f C e m).bind fun ds m1 => .of (g ds) m1
theorem size1e5 {n : Nat} (h : n ≤ 100000) : n ≤ sizeLine := Nat.le_trans h (by decide)
theorem bdI_lo {i : Int} (h : bdI i = true) : -(2 ^ 62) ≤ i ∧ i < 2 ^ 62 := by
  unfold bdI at h
  simp only [Bool.and_eq_true, decide_eq_true_eq] at h
  exact h
section
variable {X : Cx} {G : Cfg} {W : WX} {tg a b c : Expr} {es : List Expr} {fa : EvE} {fs : EvA} {pos p : Pos}
theorem di_seq (hK : X.kw = G.K) (ha : PE X a (semE G W fa)) : PI X tg a (semI G W (seqI fa)) := by
  refine (pi_seq ha).imp fun σ H R ⟨S, t, m, e, si, g⟩ => ⟨S, t, m, e, si, (Gd.sp g).imp fun S1 H1 t1 m1 d p1 i1 h1 v rv => ?_⟩
  rw [kw_K hK]
  cases rv with
  | lst h hs => exact .inl ⟨_, _, rfl, .of (i1.sub _ _ h), fun hl => Gd.now h1 i1 _ (itr_list (.of h) hs hl)⟩
  | frz h hs => exact .inl ⟨_, _, rfl, i1.sub.sqL h, fun hl => Gd.now h1 i1 _ (itr_list h hs hl)⟩
  | tup h hs => exact .inr (.inl ⟨_, _, rfl, i1.sub.sqT h, fun hl => Gd.now h1 i1 _ (itr_tup h hs hl)⟩)
  | str z =>
    refine .inr (.inr ⟨z, rfl, ?_⟩)
    have h1 : Gd G W σ S1 H1 t1 (Dn.R.of (if short z.cps.toList = true then some (signs z) else none) m1) _ := h1
    by_cases c : short z.cps.toList = true
    · rw [if_pos c] at h1
      exact Gd.now h1 i1 _ (itr_str (by have := short_le c; simpa [Str.length] using this))
    · rw [if_neg c] at h1; exact h1.elim
  | non => exact h1.elim
  | bl b => exact h1.elim
  | int b => exact h1.elim
  | ref b => exact h1.elim
  | ins _ _ _ => exact h1.elim
  | dct _ _ _ _ => exact h1.elim
theorem di_rng1 (hg : Gl X "range") (hm : X.mg "range" = none) (ha : PA X [a] (semA G W fs)) (hs : starEach [a] X.env = [(false, eval a X.env)] := by rfl) : PI X tg (.Call (.Name "range" p) [a] [] pos) (semI G W (argI rng1 fs)) := by
  refine (pi_range1 hg hm ha hs).imp fun σ H R ⟨S, t, m, e, si, g⟩ => ⟨S, t, m, e, si, (Gd.sp g).imp fun S1 H1 t1 m1 ds p1 i1 h1 vs rs => ?_⟩
  unfold rng1 at h1
  split at h1
  · rename_i n
    cases rs with
    | cons r1 r2 =>
      cases r2
      cases r1
      split at h1
      · rename_i hc
        simp only [Bool.and_eq_true, decide_eq_true_eq] at hc
        obtain ⟨b1, b2⟩ := bdI_lo hc.1
        exact ⟨n, rfl, b1, b2, Gd.now h1 i1 _ (itr_range (size1e5 hc.2))⟩
      · exact h1.elim
  · exact h1.elim
theorem di_rng2 (hg : Gl X "range") (hm : X.mg "range" = none) (ha : PA X [a, b] (semA G W fs)) (hs : starEach [a, b] X.env = [(false, eval a X.env), (false, eval b X.env)] := by rfl) (hs2 : starEach [b] X.env = [(false, eval b X.env)] := by rfl) :
    PI X tg (.Call (.Name "range" p) [a, b] [] pos) (semI G W (argI rng2 fs)) := by
  refine (pi_range2 hg hm ha hs hs2).imp fun σ H R ⟨S, t, m, e, si, g⟩ => ⟨S, t, m, e, si, (Gd.sp g).imp fun S1 H1 t1 m1 ds p1 i1 h1 vs rs => ?_⟩
  unfold rng2 at h1
  split at h1
  · rename_i i j
    cases rs with
    | cons r1 r2 =>
      cases r2 with
      | cons r2 r3 =>
        cases r3
        cases r1
        cases r2
        split at h1
        · rename_i hc
          simp only [Bool.and_eq_true, decide_eq_true_eq] at hc
          obtain ⟨b1, b2⟩ := bdI_lo hc.1.1
          obtain ⟨b3, b4⟩ := bdI_lo hc.1.2
          exact ⟨i, j, rfl, ⟨b1, b2, b3, b4⟩, Gd.now h1 i1 _ (itr_range (size1e5 hc.2))⟩
        · exact h1.elim
  · exact h1.elim
theorem di_rng3 (hg : Gl X "range") (hm : X.mg "range" = none) (ha : PA X [a, b, c] (semA G W fs)) (hq : PI X tg (.Call (.Name "range" p) [a, b, c] [] pos) (iRng3 (semA G W fs))) : PI X tg (.Call (.Name "range" p) [a, b, c] [] pos) (semI G W (argI rng3 fs)) := by
  refine hq.imp fun σ H R ⟨S, t, m, e, si, g⟩ => ⟨S, t, m, e, si, (Gd.sp g).imp fun S1 H1 t1 m1 ds p1 i1 h1 vs rs => ?_⟩
  unfold rng3 at h1
  split at h1
  · rename_i i j c
    cases rs with
    | cons r1 r2 =>
      cases r2 with
      | cons r2 r3 =>
        cases r3 with
        | cons r3 r4 =>
        cases r4
        cases r1
        cases r2
        cases r3
        split at h1
        · rename_i hc
          simp only [Bool.and_eq_true, decide_eq_true_eq] at hc
          obtain ⟨b1, b2⟩ := bdI_lo hc.1.1.1
          obtain ⟨b3, b4⟩ := bdI_lo hc.1.1.2
          obtain rfl := hc.1.2
          exact ⟨i, j, -1, _, rfl, RgC.neg b1 b2 b3 b4, Gd.now h1 i1 _ (itr_rangeC (size1e5 hc.2))⟩
        · exact h1.elim
  · exact h1.elim
/-- enumerate of a list or a tuple -/
def iEnumA (K : PySem.W.Frag) (ta : TA) : TI := fun σ H R => ta σ H fun vs H1 => ∃ a xs, vs = [.ref a] ∧ ((SqL K H1 a xs ∧ (xs.length ≤ sizeLine → R (Ite K a) H1)) ∨ (SqT K H1 a xs ∧ (xs.length ≤ sizeLine → R (IteT K a) H1)))
theorem pi_enumA {X : Cx} {e : Expr} {ta : TA} {p pos tpos : Pos} {elts : List Expr} {kk : Nat} (hg : Gl X "enumerate") (hm : X.mg "enumerate" = none) (ha : PA X [e] ta) (hs : starEach [e] X.env = [(false, eval e X.env)] := by rfl) :
    PI X (.Tuple elts kk tpos) (.Call (.Name "enumerate" p) [e] [] pos) (iEnumA X.K ta) := by
  refine ⟨fun pins s σ H R I h => ?_⟩
  refine PyProof.Rows.Call_ (ld_blt I hg hm PyProof.Rows.boot_enumerate (PyProof.Rows.callWith_type1 (thn (ha.run pos pins s σ H _ I h) fun us s1 ⟨vs, H1, I1, r1, q1⟩ => ?_) hs rfl))
  obtain ⟨a, xs, ex, q1⟩ := q1
  subst ex
  cases r1 with
  | cons r rr =>
    cases rr
    cases r
    rcases q1 with ⟨hq, q⟩ | ⟨hq, q⟩
    · obtain ⟨its, rv, p', hz⟩ := I1.list hq
      refine call_enumerate_list p'.isList fun h' he hit hsz hk => wpAny_pyIter_enum he ?_
      have I2 : Inv X pins σ H1 { s1 with heap := h' } := I1.kept (t' := s1.toks) hk
      refine ⟨s1.heap.objs.size + 1, [s1.heap.objs.size + 1, s1.heap.objs.size], _, _, H1, rfl, I2, turn_enum a (s1.heap.objs.size + 1) s1.heap.objs.size, ⟨⟨.none, he⟩, hit, Nat.succ_ne_self _⟩, fun b hb => ?_, q hz⟩
      have e' : b = s1.heap.objs.size + 1 ∨ b = s1.heap.objs.size := by simpa using hb
      have hle : s1.heap.objs.size ≤ b := by
        rcases e' with z | z
        · rw [z]; exact Nat.le_add_right _ _
        · rw [z]; exact Nat.le_refl _
      exact I1.fpOk hle (I1.hok.fresh hle)
    · obtain ⟨its, rv, p', hz⟩ := I1.tuple hq
      have hal : a < s1.heap.objs.size := by obtain ⟨o, q', _⟩ := id p'; exact Heap.lt_size q'
      refine dn_call_enum (begins_tuple a its.toArray) p' fun h' he hit hsz hk => wpAny_pyIter_enum he ?_
      have I2 : Inv X pins σ H1 { s1 with heap := h' } := I1.kept (t' := s1.toks) hk
      refine ⟨s1.heap.objs.size + 1, [s1.heap.objs.size + 1, s1.heap.objs.size], _, _, H1, rfl, I2, turn_enumT a (s1.heap.objs.size + 1) s1.heap.objs.size, ⟨⟨.none, he⟩, ⟨_, hit, rfl, rfl⟩, Nat.succ_ne_self _, Nat.ne_of_gt (Nat.lt_succ_of_lt hal), Nat.ne_of_lt hal⟩, fun b hb => ?_, q hz⟩
      have e' : b = s1.heap.objs.size + 1 ∨ b = s1.heap.objs.size := by simpa using hb
      have hle : s1.heap.objs.size ≤ b := by
        rcases e' with z | z
        · rw [z]; exact Nat.le_add_right _ _
        · rw [z]; exact Nat.le_refl _
      exact I1.fpOk hle (I1.hok.fresh hle)
theorem di_enum {tpos : Pos} {elts : List Expr} {kk : Nat} (hK : X.kw = G.K) (hg : Gl X "enumerate") (hm : X.mg "enumerate" = none) (ha : PA X [a] (semA G W fs)) (hs : starEach [a] X.env = [(false, eval a X.env)] := by rfl) :
    PI X (.Tuple elts kk tpos) (.Call (.Name "enumerate" p) [a] [] pos) (semI G W (argI enumG fs)) := by
  refine (pi_enumA hg hm ha hs).imp fun σ H R ⟨S, t, m, e, si, g⟩ => ⟨S, t, m, e, si, (Gd.sp g).imp fun S1 H1 t1 m1 ds p1 i1 h1 vs rs => ?_⟩
  rw [kw_K hK]
  unfold enumG at h1
  split at h1
  · cases rs with
    | cons r1 r2 =>
      cases r2
      cases r1 with
      | lst h hs => exact ⟨_, _, rfl, .inl ⟨.of (i1.sub _ _ h), fun hl => Gd.now h1 i1 _ (itr_enumL (.of h) hs hl)⟩⟩
  · cases rs with
    | cons r1 r2 =>
      cases r2
      cases r1 with
      | tup h hs => exact ⟨_, _, rfl, .inr ⟨i1.sub.sqT h, fun hl => Gd.now h1 i1 _ (itr_enumT h hs hl)⟩⟩
  · exact h1.elim
theorem di_zip {tpos : Pos} {elts : List Expr} {kk : Nat} (hK : X.kw = G.K) (hg : Gl X "zip") (hm : X.mg "zip" = none) (ha : PA X [a, b] (semA G W fs)) (hs : starEach [a, b] X.env = (false, eval a X.env) :: starEach [b] X.env := by rfl) (hpl : (backTo pos (starEach [b] X.env)).any (·.1) = false := by rfl) :
    PI X (.Tuple elts kk tpos) (.Call (.Name "zip" p) [a, b] [] pos) (semI G W (argI zipG fs)) := by
  refine (RZ.pi_zipA hg hm ha hs hpl).imp fun σ H R ⟨S, t, m, e, si, g⟩ => ⟨S, t, m, e, si, (Gd.sp g).imp fun S1 H1 t1 m1 ds p1 i1 h1 vs rs => ?_⟩
  rw [kw_K hK]
  unfold zipG at h1
  split at h1
  · cases rs with
    | cons r1 r2 =>
      cases r2 with
      | cons r2 r3 =>
        cases r3
        split at h1
        · rename_i hc
          cases r1 with
          | lst h hs =>
            cases r2 with
            | lst g gs => exact ⟨_, _, _, _, rfl, .inl ⟨.of (i1.sub _ _ h), .of (i1.sub _ _ g), Gd.now h1 i1 _ (itr_zipL (.of h) hs (.of g) gs (short_le hc))⟩⟩
        · exact h1.elim
  · cases rs with
    | cons r1 r2 =>
      cases r2 with
      | cons r2 r3 =>
        cases r3
        split at h1
        · rename_i hc
          cases r1 with
          | tup h hs =>
            cases r2 with
            | tup g gs => exact ⟨_, _, _, _, rfl, .inr ⟨i1.sub.sqT h, i1.sub.sqT g, Gd.now h1 i1 _ (itr_zipT h hs g gs (short_le hc))⟩⟩
        · exact h1.elim
  · exact h1.elim
end
end Dn
/-! Targets, comprehensions. -/
namespace Dn
open PySem L2

inductive Tg where
  | nm (i : Nat) | tp (ts : List Tg)
mutual
@[simp] def asg : Tg → D → Env → Option Env
  | .nm i, d, e => if i < e.length then some (e.set i (.dat d)) else none
  | .tp ts, .tup ds, e => asgs ts ds e
  | .tp _, _, _ => none
@[simp] def asgs : List Tg → List D → Env → Option Env
  | [], [], e => some e
  | t :: ts, d :: ds, e => (asg t d e).bind fun e1 => asgs ts ds e1
  | _, _, _ => none
end
mutual
theorem asg_len : ∀ (g : Tg) (d : D) (e e' : Env), asg g d e = some e' → e'.length = e.length
  | .nm i, d, e, e', h => by
    unfold asg at h
    split at h
    · cases h; simp
    · cases h
  | .tp ts, .tup ds, e, e', h => by unfold asg at h; exact asgs_len ts ds e e' h
  | .tp _, .non, _, _, h => by unfold asg at h; cases h
  | .tp _, .bl _, _, _, h => by unfold asg at h; cases h
  | .tp _, .int _, _, _, h => by unfold asg at h; cases h
  | .tp _, .str _, _, _, h => by unfold asg at h; cases h
  | .tp _, .lst _, _, _, h => by unfold asg at h; cases h
  | .tp _, .frz _, _, _, h => by unfold asg at h; cases h
  | .tp _, .dct _, _, _, h => by unfold asg at h; cases h
  | .tp _, .ins _ _, _, _, h => by unfold asg at h; cases h
  | .tp _, .ref _, _, _, h => by unfold asg at h; cases h
theorem asgs_len : ∀ (gs : List Tg) (ds : List D) (e e' : Env), asgs gs ds e = some e' → e'.length = e.length
  | [], [], e, e', h => by unfold asgs at h; cases h; rfl
  | t :: ts, d :: ds, e, e', h => by
    unfold asgs at h
    cases h' : asg t d e with
    | none => rw [h'] at h; cases h
    | some e1 => rw [h'] at h; exact (asgs_len ts ds e1 e' h).trans (asg_len t d e e1 h')
  | [], _ :: _, _, _, h => by unfold asgs at h; cases h
  | _ :: _, [], _, _, h => by unfold asgs at h; cases h
end
mutual
def tslots : Tg → List Nat
  | .nm i => [i]
  | .tp ts => tslotss ts
def tslotss : List Tg → List Nat
  | [] => []
  | t :: ts => tslots t ++ tslotss ts
end
/-- but at js the slots are as they were -/
def OutSame (js : List Nat) (σ σ' : St) : Prop := ∀ j, j ∉ js → σ'[j]? = σ[j]?
/-- own lists are those that were -/
def OwnSub (σ : St) (e : Env) (σ' : St) (e' : Env) : Prop := ∀ (i : Nat) d, e'[i]? = some (.own d) → e[i]? = some (.own d) ∧ σ'[i]? = σ[i]?
theorem OwnSub.refl {σ : St} {e : Env} : OwnSub σ e σ e := fun _ _ h => ⟨h, rfl⟩
theorem OwnSub.trans {σ σ1 σ2 : St} {e e1 e2 : Env} (a : OwnSub σ e σ1 e1) (b : OwnSub σ1 e1 σ2 e2) : OwnSub σ e σ2 e2 := fun i d h =>
  let ⟨h1, q1⟩ := b i d h
  let ⟨h2, q2⟩ := a i d h1
  ⟨h2, q1.trans q2⟩
section
variable {K : KW} {x : Gh} {S H : Hp} {t : Th} {m : Store} {σ : St} {e : Env}
/-- a slot gets a value -/
theorem SI.set (i : SI K x S H t m σ e) {j : Nat} {v : V} {d : D} (hj : j < e.length) (r : DR K S t v d) : SI K x S H t m (σ.set j (some v)) (e.set j (.dat d)) ∧ OwnSub σ e (σ.set j (some v)) (e.set j (.dat d)) := by
  have ow : OwnSub σ e (σ.set j (some v)) (e.set j (.dat d)) := fun k c h => by
    by_cases z : k = j
    · subst z; rw [List.getElem?_set_self hj] at h; cases h
    · rw [List.getElem?_set_ne (Ne.symm z)] at h ⊢; exact ⟨h, rfl⟩
  refine ⟨⟨i.hi, by simp [i.len], fun k c h => ?_, fun k c h => ?_, fun k l c c' a h1 h2 h3 h4 => ?_, fun k c fs h => ?_⟩, ow⟩
  · by_cases z : k = j
    · subst z
      rw [List.getElem?_set_self hj] at h
      cases h
      exact ⟨v, List.getElem?_set_self (by rw [i.len]; exact hj), r⟩
    · rw [List.getElem?_set_ne (Ne.symm z)] at h ⊢; exact i.dat k c h
  · obtain ⟨h1, h2⟩ := ow k c h
    rw [h2]; exact i.own k c h1
  · obtain ⟨a1, a2⟩ := ow k c h1
    obtain ⟨b1, b2⟩ := ow l c' h2
    rw [a2] at h3; rw [b2] at h4
    exact i.apart k l c c' a a1 b1 h3 h4
  · by_cases z : k = j
    · subst z; rw [List.getElem?_set_self hj] at h; cases h
    · rw [List.getElem?_set_ne (Ne.symm z)] at h ⊢; exact i.exn k c fs h
end
/-- a target's promise -/
def semG (K : KW) (x : Gh) (g : Tg) : TG := fun v σ H Q => ∃ S t m e d e', SI K x S H t m σ e ∧ DR K S t v d ∧ asg g d e = some e' ∧ ∀ σ', SI K x S H t m σ' e' → OwnSub σ e σ' e' → OutSame (tslots g) σ σ' → Q σ' H
def semGs (K : KW) (x : Gh) (gs : List Tg) : TGs := fun vs σ H Q => ∃ S t m e ds e', SI K x S H t m σ e ∧ DRs K S t vs ds ∧ asgs gs ds e = some e' ∧ ∀ σ', SI K x S H t m σ' e' → OwnSub σ e σ' e' → OutSame (tslotss gs) σ σ' → Q σ' H
section
variable {X : Cx} {K : KW} {x : Gh} {pos : Pos}
theorem _root_.L2.PG.imp {X : Cx} {e : Expr} {t t' : TG} (h : PG X e t) (w : ∀ v σ H Q, t' v σ H Q → t v σ H Q) : PG X e t' := ⟨fun pins s σ H v u Q I r q => h.run pins s σ H v u Q I r (w v σ H Q q)⟩
theorem _root_.L2.PGs.imp {X : Cx} {e : List Expr} {t t' : TGs} (h : PGs X e t) (w : ∀ v σ H Q, t' v σ H Q → t v σ H Q) : PGs X e t' := ⟨fun pins s σ H v u Q I r q => h.run pins s σ H v u Q I r (w v σ H Q q)⟩
theorem dg_name {i : Nat} {y : Str} (hN : X.N.Nodup) (hi : X.N[i]? = some y) (hx : Loc X.env.scope y) (hf : X.fn y = true ∨ X.env.scope.names.lookup y = some .local) : PG X (.Name y pos) (semG K x (.nm i)) := by
  refine (pg_name hN hi hx hf).imp fun v σ H Q ⟨S, t, m, e, d, e', si, r, h, q⟩ => ?_
  unfold asg at h
  split at h
  · rename_i hj
    cases h
    obtain ⟨a, b⟩ := si.set hj r
    exact q _ a b fun j hj => List.getElem?_set_ne fun z => hj (by unfold tslots; simp [z])
  · cases h
theorem dgs_nil : PGs X [] (semGs K x []) := by
  refine pgs_nil.imp fun vs σ H Q ⟨S, t, m, e, ds, e', si, r, h, q⟩ => ?_
  cases r with
  | nil =>
    unfold asgs at h
    cases h
    exact ⟨rfl, q σ si .refl fun _ _ => rfl⟩
  | cons r rs => unfold asgs at h; cases h
theorem dgs_cons {a : Expr} {es : List Expr} {g : Tg} {gs : List Tg} (h1 : PG X a (semG K x g)) (h2 : PGs X es (semGs K x gs)) (hs : (assignEach (a :: es) X.env).map (·.2) = assign a X.env :: (assignEach es X.env).map (·.2) := by rfl) : PGs X (a :: es) (semGs K x (g :: gs)) := by
  refine (pgs_cons h1 h2 hs).imp fun vs σ H Q ⟨S, t, m, e, ds, e', si, r, h, q⟩ => ?_
  cases r with
  | nil => unfold asgs at h; cases h
  | @cons v vs d ds r rs =>
    unfold asgs at h
    cases h' : asg g d e with
    | none => rw [h'] at h; cases h
    | some e1 =>
      rw [h'] at h
      refine ⟨v, vs, rfl, S, t, m, e, d, e1, si, r, h', fun σ1 si1 o1 c1 => ⟨S, t, m, e1, ds, e', si1, rs, h, fun σ' si' o' c' => q σ' si' (o1.trans o') fun j hj => ?_⟩⟩
      unfold tslotss at hj
      rw [List.mem_append, not_or] at hj
      exact (c' j hj.2).trans (c1 j hj.1)
theorem dg_tup {es : List Expr} {k : Nat} {gs : List Tg} (hK : X.kw = K) (hc : X.calm = true) (h : PGs X es (semGs K x gs)) (hn : (assignEach es X.env).length = gs.length := by rfl) (hst : (assignEach es X.env).findIdx? (·.1) = none := by rfl) :
    PG X (.Tuple es k pos) (semG K x (.tp gs)) := by
  refine (pg_tup (n := gs.length) hc h hn hst).imp fun v σ H Q ⟨S, t, m, e, d, e', si, r, h, q⟩ => ?_
  rw [kw_K hK]
  cases r with
  | @tup a vs ds hs rs =>
    unfold asg at h
    refine ⟨a, vs, rfl, si.hi.sub.sqT hs, ?_, S, t, m, e, ds, e', si, rs, h, fun σ' a b c => q σ' a b (by unfold tslots; exact c)⟩
    rw [rs.length]
    revert h
    have lem : ∀ (gs : List Tg) (ds : List D) (e e' : Env), asgs gs ds e = some e' → ds.length = gs.length := by
      intro gs
      induction gs with
      | nil => intro ds e e' h; cases ds with
        | nil => rfl
        | cons d ds => unfold asgs at h; cases h
      | cons g gs ih => intro ds e e' h; cases ds with
        | nil => unfold asgs at h; cases h
        | cons d ds =>
          unfold asgs at h
          cases h' : asg g d e with
          | none => rw [h'] at h; cases h
          | some e1 =>
            rw [h'] at h
            have := ih ds e1 e' h
            simp [this]
    exact lem gs ds e e'
  | _ => unfold asg at h; cases h
end

/-! ### comprehensions -/
def noX {α : Type} : R α → R α
  | .ok a m => .ok a m
  | _ => .stuck
@[simp] theorem noX_ok {α : Type} (a : α) (m : Store) : noX (R.ok a m) = .ok a m := rfl
/-- the comprehension's own names forgotten -/
@[simp] def wipeE (e : Env) : List Nat → Env
  | [] => e
  | v :: vs => (wipeE e vs).set v .em
def lcL (C : Orc) (g : Tg) (tt : EvT) (te : EvE) (e : Env) : List D → Store → R (List D)
  | [], m => .ok [] m
  | d :: ds, m => match asg g d e with
    | none => .stuck
    | some e1 => (noX (tt C e1 m)).bind fun b m1 => if b = true then (noX (te C e1 m1)).bind fun x m2 => (lcL C g tt te e ds m2).bind fun xs m3 => .ok (x :: xs) m3 else lcL C g tt te e ds m1
@[simp] def lcF (it : EvA) (g : Tg) (tt : EvT) (te : EvE) (vs : List Nat) : EvA := fun C e m => (it C e m).bind fun ds m1 => lcL C g tt te (wipeE e vs) ds m1
@[simp] def yesT : EvT := fun _ _ m => .ok true m
/-- no error is wished for -/
abbrev W0 : WX := fun _ _ _ _ => False
section
variable {K : KW} {x : Gh} {S H : Hp} {t : Th} {m : Store} {σ : St} {e : Env}
theorem SI.drop (i : SI K x S H t m σ e) (j : Nat) : SI K x S H t m (σ.set j none) (e.set j .em) := by
  have el : ∀ (k : Nat) c, (e.set j .em)[k]? = some c → c ≠ .em → e[k]? = some c ∧ (σ.set j none)[k]? = σ[k]? := fun k c h hc => by
    by_cases z : k = j
    · subst z
      by_cases hk : k < e.length
      · rw [List.getElem?_set_self hk] at h; cases h; exact absurd rfl hc
      · rw [List.getElem?_eq_none (by simpa using hk)] at h; cases h
    · rw [List.getElem?_set_ne (Ne.symm z)] at h ⊢; exact ⟨h, rfl⟩
  refine ⟨i.hi, by simp [i.len], fun k c h => ?_, fun k c h => ?_, fun k l c c' a h1 h2 h3 h4 => ?_, fun k c fs h => ?_⟩
  · obtain ⟨h1, h2⟩ := el k _ h (by simp)
    rw [h2]; exact i.dat k c h1
  · obtain ⟨h1, h2⟩ := el k _ h (by simp)
    rw [h2]; exact i.own k c h1
  · obtain ⟨a1, a2⟩ := el k _ h1 (by simp)
    obtain ⟨b1, b2⟩ := el l _ h2 (by simp)
    rw [a2] at h3; rw [b2] at h4
    exact i.apart k l c c' a a1 b1 h3 h4
  · obtain ⟨h1, h2⟩ := el k _ h (by simp)
    rw [h2]; exact i.exn k c fs h1
theorem SI.wipe (i : SI K x S H t m σ e) : ∀ vs : List Nat, SI K x S H t m (wipe σ vs) (wipeE e vs)
  | [] => i
  | v :: vs => (SI.wipe i vs).drop v
theorem Gd.nox {G : Cfg} {W : WX} {α : Type} {r : R α} {P : Hp → Hp → Th → Store → α → Prop} (h : Gd G W σ S H t (noX r) P) : Gd G W0 σ S H t r P := by
  cases r with
  | ok a m' => exact h
  | exc c fs m' => exact h.elim
  | stuck => exact h.elim
end
section
variable {X : Cx} {G : Cfg} {W : WX}
theorem wipe_in {σ : St} {j : Nat} : ∀ {vs : List Nat}, j ∈ vs → j < σ.length → (wipe σ vs)[j]? = some none
  | v :: vs, h, hl => by
    unfold L2.wipe
    by_cases z : v = j
    · subst z
      rw [List.getElem?_set_self (by rw [wipe_length]; exact hl)]
    · rw [List.getElem?_set_ne z]
      exact wipe_in ((List.mem_cons.mp h).resolve_left (Ne.symm z)) hl
theorem wipe_un {σ : St} {j : Nat} : ∀ {vs : List Nat}, j ∉ vs → (wipe σ vs)[j]? = σ[j]?
  | [], _ => rfl
  | v :: vs, h => by
    unfold L2.wipe
    rw [List.getElem?_set_ne (fun z => h (by simp [z])), wipe_un (fun z => h (List.mem_cons_of_mem _ z))]
theorem wipe_same {σ σ2 : St} {vs : List Nat} (hl : σ2.length = σ.length) (h : OutSame vs (wipe σ vs) σ2) : wipe σ2 vs = wipe σ vs := by
  apply List.ext_getElem?
  intro j
  by_cases z : j ∈ vs
  · by_cases hj : j < σ.length
    · rw [wipe_in z hj, wipe_in z (by rw [hl]; exact hj)]
    · rw [List.getElem?_eq_none (by rw [wipe_length]; omega), List.getElem?_eq_none (by rw [wipe_length]; omega)]
  · rw [wipe_un z]
    exact h j z
theorem lc_ws {g : Tg} {vs : List Nat} (hv : (tslots g).all (fun j => vs.contains j) = true) (v : V) (σ : St) (H : Hp) (Q : St → Hp → Prop) (h : semG G.K G.x g v (wipe σ vs) H Q) : semG G.K G.x g v (wipe σ vs) H fun σ2 H2 => wipe σ2 vs = wipe σ vs ∧ Q σ2 H2 := by
  obtain ⟨S, t, m, e, d, e', si, r, ha, q⟩ := h
  have hlen : ∀ (g : Tg) (d : D) (e e' : Env), asg g d e = some e' → e'.length = e.length := asg_len
  refine ⟨S, t, m, e, d, e', si, r, ha, fun σ' si' o' c' => ⟨wipe_same ?_ fun j hj => c' j fun z => hj ?_, q σ' si' o' c'⟩⟩
  · rw [si'.len, hlen _ _ _ _ ha, ← si.len, wipe_length]
  · have := List.all_eq_true.mp hv j z
    simpa using this
theorem sem_lc2 {fi : EvA} {g : Tg} {tt : EvT} {te : EvE} {vs : List Nat} {σ : St} {H : Hp} {Q : VK}
    (hws : ∀ v σ H Q, semG G.K G.x g v (wipe σ vs) H Q → semG G.K G.x g v (wipe σ vs) H fun σ2 H2 => wipe σ2 vs = wipe σ vs ∧ Q σ2 H2)
    (h : semF G W (lcF fi g tt te vs) σ H Q) : tLc (semI2 G W fi) (semG G.K G.x g) (semT G W0 tt) (semE G W0 te) vs σ H Q := by
  obtain ⟨S, t, m, e, si, h⟩ := h
  unfold lcF at h
  refine ⟨S, t, m, e, si, ?_⟩
  cases hi : fi G.C e m with
  | exc c fs m' => rw [hi] at h; exact h
  | stuck => rw [hi] at h; exact h
  | ok ds m1 =>
  rw [hi] at h
  intro S1 H1 t1 p1 i1 J it D hD
  have h : Gd G W σ S H t (lcL G.C g tt te (wipeE e vs) ds m1) _ := h
  have nH : H D = none := by
    cases q : H D with
    | none => rfl
    | some o => exact absurd hD (p1.dom D (by rw [q]; simp))
  -- the loop
  refine ⟨fun i k H2 => k = ds.length - i ∧ i ≤ ds.length ∧ ∃ S2 t2 m2 acc xs, HI G.K S2 H2 t2 m2 ∧ Stp S H t S2 H2 t2 ∧ Stp S1 H1 t1 S2 H2 t2 ∧ S2 D = none ∧ (∀ n, t2 n ≠ some D) ∧ H2 D = some (.lst acc) ∧ DRs G.K S2 t2 acc xs ∧ acc.length ≤ i ∧
    Gd G W σ S H t ((lcL G.C g tt te (wipeE e vs) (ds.drop i) m2).bind fun ys m3 => .ok (xs ++ ys) m3) (fun S' H' t' _ zs => ∀ p, OwnAt G.K S' H' t' p (.lst zs) → H p = none → Q (.ref p) H'), ⟨ds.length, by simp, Nat.zero_le _, ?_⟩, ?_⟩
  · obtain ⟨i2, p2⟩ := new_hi0 (o := .lst []) i1 hD
    have hS : S1 D = none := by
      cases q : S1 D with
      | none => rfl
      | some o => rw [i1.sub D o q] at hD; cases hD
    refine ⟨S1, t1, m1, [], [], i2, p1.trans p2, p2, hS, fun n q => i1.off n D q hD, upd_same, .nil, Nat.le_refl _, ?_⟩
    rw [List.drop_zero]
    revert h
    cases lcL G.C g tt te (wipeE e vs) ds m1 with
    | ok ys m3 => exact id
    | exc c fs m3 => exact id
    | stuck => exact id
  · rintro i k H2 ⟨rfl, hi, S2, t2, m2, acc, xs, i2, p2, q2, hS, ht, hH, hd, hl, h2⟩
    by_cases hlt : i < ds.length
    · right
      have hx : ds[i]? = some ds[i] := List.getElem?_eq_getElem hlt
      obtain ⟨hgo, hy⟩ := it.go i _ S2 H2 t2 m2 hx q2 i2
      refine ⟨hgo, _, fun H' q => ⟨ds.length - (i + 1), by omega, q⟩, fun x H3 y => ?_⟩
      obtain ⟨S3, p3, i3, r3⟩ := hy x H3 y
      rw [List.drop_eq_getElem_cons hlt] at h2
      unfold lcL at h2
      cases ha : asg g ds[i] (wipeE e vs) with
      | none => rw [ha] at h2; exact h2.elim
      | some e1 =>
        rw [ha] at h2
        dsimp only at h2
        have nD3 : H3 D = some (.lst acc) := p3.keep D _ hH ht
        have siw : SI G.K G.x S3 H3 t2 m2 (wipe σ vs) (wipeE e vs) := SI.wipe ((si.stp p2 i2).stp p3 i3) vs
        refine hws x σ H3 _ ⟨S3, t2, m2, _, _, e1, siw, r3, ha, fun σ2 si2 o2 _ => ?_⟩
        refine ⟨S3, t2, m2, e1, si2, ?_⟩
        cases hb : tt G.C e1 m2 with
        | exc c fs m' => rw [hb] at h2; exact h2.elim
        | stuck => rw [hb] at h2; exact h2.elim
        | ok b m4 =>
        rw [hb] at h2
        simp only [noX_ok, R.bind_ok] at h2
        intro S4 H4 t4 p4 i4
        have keep4 : H4 D = some (.lst acc) := p4.keep D _ nD3 ht
        have ht4 := p4.offs (by rw [nD3]; simp) ht
        have hS3 : S3 D = none := (p3.hs D (by rw [hH]; simp)).trans hS
        have hS4 : S4 D = none := (p4.hs D (by rw [nD3]; simp)).trans hS3
        have hd4 : DRs G.K S4 t4 acc xs := (hd.stp i2 p3).stp i3 p4
        have q4 := (q2.trans p3).trans p4
        cases b with
        | false =>
          exact ⟨rfl, hlt, S4, t4, m4, acc, xs, i4, (p2.trans p3).trans p4, q4, hS4, ht4, keep4, hd4, by omega, h2⟩
        | true =>
          refine ⟨S4, t4, m4, e1, si2.stp p4 i4, ?_⟩
          rw [if_pos rfl] at h2
          cases hz : te G.C e1 m4 with
          | exc c fs m' => rw [hz] at h2; exact h2.elim
          | stuck => rw [hz] at h2; exact h2.elim
          | ok x5 m5 =>
          rw [hz] at h2
          simp only [noX_ok, R.bind_ok] at h2
          intro S5 H5 t5 p5 i5 v5 r5
          have keep5 : H5 D = some (.lst acc) := p5.keep D _ keep4 ht4
          have ht5 := p5.offs (by rw [keep4]; simp) ht4
          have hS5 : S5 D = none := (p5.hs D (by rw [keep4]; simp)).trans hS4
          have hd5 : DRs G.K S5 t5 acc xs := hd4.stp i4 p5
          have hl5 : acc.length < sizeLine := Nat.lt_of_le_of_lt hl (Nat.lt_of_lt_of_le hlt it.len)
          have i6 := own_hi (o := .lst (acc ++ [v5])) i5 hS5 (by rw [keep5]; simp) ht5
          have p6 : Stp S H t S5 (upd H5 D (.lst (acc ++ [v5]))) t5 := by
            have q := ((p2.trans p3).trans p4).trans p5
            refine ⟨fun a o ha hn => ?_, fun a ha => ?_, q.hs, q.th, q.thn⟩
            · rw [upd_ne (ne_of_none ha nH)]; exact q.keep a o ha hn
            · rw [upd_ne (fun z => ha (by rw [z]; exact nH))]; exact q.dom a ha
          have q6 : Stp S1 H1 t1 S5 (upd H5 D (.lst (acc ++ [v5]))) t5 := by
            have q := q4.trans p5
            refine ⟨fun a o ha hn => ?_, fun a ha => ?_, q.hs, q.th, q.thn⟩
            · rw [upd_ne (ne_of_none ha hD)]; exact q.keep a o ha hn
            · rw [upd_ne (fun z => ha (by rw [z]; exact hD))]; exact q.dom a ha
          refine ⟨acc, keep5, hl5, rfl, hlt, S5, t5, m5, acc ++ [v5], xs ++ [x5], i6, p6, q6, hS5, ht5, upd_same, hd5.append (.cons r5 .nil), by rw [List.length_append, List.length_singleton]; omega, ?_⟩
          revert h2
          cases lcL G.C g tt te (wipeE e vs) (ds.drop (i + 1)) m5 with
          | ok a m' =>
            show Gd G W σ S H t (R.ok (xs ++ x5 :: a) m') _ → Gd G W σ S H t (R.ok ((xs ++ [x5]) ++ a) m') _
            rw [List.append_assoc]
            exact id
          | exc c fs m' => exact id
          | stuck => exact id
    · left
      have e0 : i = ds.length := by omega
      subst e0
      refine ⟨it.stop S2 H2 t2 m2 q2 i2, ?_⟩
      rw [List.drop_length] at h2
      have h3 : Gd G W σ S H t (.ok (xs ++ []) m2) (fun S' H' t' _ zs => ∀ p, OwnAt G.K S' H' t' p (.lst zs) → H p = none → Q (.ref p) H') := h2
      rw [List.append_nil] at h3
      exact h3 S2 H2 t2 p2 i2 D ⟨hS, ht, .lst hH hd⟩ nH
theorem sem_lc {fi : EvA} {g : Tg} {tt : EvT} {te : EvE} {vs : List Nat} {σ : St} {H : Hp} {Q : VK}
    (hws : ∀ v σ H Q, semG G.K G.x g v (wipe σ vs) H Q → semG G.K G.x g v (wipe σ vs) H fun σ2 H2 => wipe σ2 vs = wipe σ vs ∧ Q σ2 H2)
    (h : semF G W (lcF fi g tt te vs) σ H Q) : tLc (semI G W fi) (semG G.K G.x g) (semT G W0 tt) (semE G W0 te) vs σ H Q := semI2_of (sem_lc2 hws h)
/-- [elt for tg in iter if ..] -/
theorem df_lc2 {elt tg iter : Expr} {ifs : List Expr} {scope : Scope} {own : List (Str × Nat)} {ws : List Nat} {pos : Pos} {fi : EvA} {g : Tg} {tt : EvT} {te : EvE} (hc : X.calm = true) (hN : X.N.Nodup) (ok : BlkOk X.N X.env.scope scope own) (hw : own.map (·.2) = ws) (hi : PI X tg iter (semI2 G W fi))
    (hv : (tslots g).all (fun j => ws.contains j) = true)
    (hg : ∀ (s : Shared) (H : Hp) (C : Addr) (cl : List (Str × Addr)) (fp : List Addr), PG (X.blk s H scope (compEnvC scope cl C X.env) fp) tg (semG G.K G.x g)) (ht : ∀ (s : Shared) (H : Hp) (C : Addr) (cl : List (Str × Addr)) (fp : List Addr), PTs (X.blk s H scope (compEnvC scope cl C X.env) fp) ifs (semT G W0 tt))
    (he : ∀ (s : Shared) (H : Hp) (C : Addr) (cl : List (Str × Addr)) (fp : List Addr), PE (X.blk s H scope (compEnvC scope cl C X.env) fp) elt (semE G W0 te)) (hs : ∀ x, foldedSetIterable iter X.env x = pure x := by intro _; rfl) :
    PE X (.ListComp elt [⟨tg, iter, ifs, 0⟩] scope pos) (semF G W (lcF fi g tt te ws)) := by
  subst hw
  exact (pe_lc hc hN hi ok hg ht he hs).imp fun σ H Q h => sem_lc2 (lc_ws hv) h
/-- a list of one's own is walked -/
@[simp] def ownI (i : Nat) : EvA := fun _ e m => match e[i]? with
  | some (.own (.lst xs)) => .ok xs m
  | _ => .stuck
theorem di_own {tg : Expr} {i : Nat} {x : Str} {pos : Pos} (hK : X.kw = G.K) (hN : X.N[i]? = some x) (hv : Vis X.env.scope x) (hd : (x == ("__debug__" : Str)) = false := by decide) (hcd : (x == ("__classdict__" : Str)) = false := by decide) : PI X tg (.Name x pos) (semI2 G W (ownI i)) := by
  refine (pi_seq (pe_var (i := i) hN hv hd hcd)).imp fun σ H R ⟨S, t, m, e, si, g⟩ => ?_
  unfold ownI at g
  split at g
  · rename_i xs h
    obtain ⟨a, h1, h2⟩ := si.own i _ h
    refine ⟨_, h1, ?_⟩
    obtain ⟨ys, vs, e1, hH, hd⟩ := h2.lst'
    have off := h2.off
    have nt := h2.nt
    cases e1
    refine .inl ⟨a, vs, rfl, .of hH, fun hl => Gd.now g si.hi _ ?_⟩
    have hS : Sub S S := .refl S
    refine ⟨by rw [← hd.length]; exact hl, fun j d S2 H2 t2 m2 hj q2 i2 => ?_, fun S2 H2 t2 m2 q2 i2 => ?_⟩
    · obtain ⟨v, hv, rv⟩ := hd.get hj
      have hH2 : H2 a = some (.lst vs) := q2.keep a _ hH nt
      rw [kw_K hK]
      refine ⟨⟨vs, v, .of hH2, hv⟩, fun x H' ⟨e1, e2⟩ => ?_⟩
      subst e1
      have := e2 vs (.of hH2)
      rw [hv] at this
      cases this
      exact ⟨S2, .refl, i2, rv.stp si.hi q2⟩
    · rw [kw_K hK]
      exact ⟨vs, .of (q2.keep a _ hH nt), by rw [hd.length]; exact Nat.le_refl _⟩
  · exact g.elim
/-- [elt for tg in iter if ..] -/
theorem df_lc {elt tg iter : Expr} {ifs : List Expr} {scope : Scope} {own : List (Str × Nat)} {pos : Pos} {fi : EvA} {g : Tg} {tt : EvT} {te : EvE} (hc : X.calm = true) (hN : X.N.Nodup) (hi : PI X tg iter (semI G W fi)) (ok : BlkOk X.N X.env.scope scope own)
    (hv : (tslots g).all (fun j => (own.map (·.2)).contains j) = true)
    (hg : ∀ (s : Shared) (H : Hp) (C : Addr) (cl : List (Str × Addr)) (fp : List Addr), PG (X.blk s H scope (compEnvC scope cl C X.env) fp) tg (semG G.K G.x g)) (ht : ∀ (s : Shared) (H : Hp) (C : Addr) (cl : List (Str × Addr)) (fp : List Addr), PTs (X.blk s H scope (compEnvC scope cl C X.env) fp) ifs (semT G W0 tt))
    (he : ∀ (s : Shared) (H : Hp) (C : Addr) (cl : List (Str × Addr)) (fp : List Addr), PE (X.blk s H scope (compEnvC scope cl C X.env) fp) elt (semE G W0 te)) (hs : ∀ x, foldedSetIterable iter X.env x = pure x := by intro _; rfl) :
    PE X (.ListComp elt [⟨tg, iter, ifs, 0⟩] scope pos) (semF G W (lcF fi g tt te (own.map (·.2)))) :=
  (pe_lc hc hN hi ok hg ht he hs).imp fun σ H Q h => sem_lc (lc_ws hv) h
theorem dts_nil : PTs X [] (semT G W yesT) := ⟨fun pins s σ H Q I ⟨S, t, m, e, si, g⟩ => pts_nil.run pins s σ H Q I (g.now si.hi)⟩
theorem dts_one {c : Expr} {t : EvT} (h : PT X c (semT G W t)) : PTs X [c] (semT G W t) := pts_one h
end
end Dn
/-! What a statement does, by data. -/
namespace Dn
open PySem L2

/-- the state at a def's entry -/
structure Snap where
  S : Hp
  H : Hp
  t : Th
def Own0 (H0 : Hp) (σ : St) (e : Env) : Prop := ∀ (i : Nat) d a, e[i]? = some (.own d) → σ[i]? = some (some (.ref a)) → H0 a = none
theorem Own0.sub {H0 : Hp} {σ σ' : St} {e e' : Env} (h : Own0 H0 σ e) (o : OwnSub σ e σ' e') : Own0 H0 σ' e' := fun i d a h1 h2 => by
  obtain ⟨q1, q2⟩ := o i d h1
  exact h i d a q1 (q2.symm.trans h2)
/-- the state between two statements -/
structure SF (G : Cfg) (E : Snap) (S H : Hp) (t : Th) (m : Store) (σ : St) (e : Env) : Prop where
  si : SI G.K G.x S H t m σ e
  fr : Stp E.S E.H E.t S H t
  ow : Own0 E.H σ e
def GS (G : Cfg) (W : WX) (E : Snap) (D : Ends) (r : SR) : Prop := match r with
  | .nx e m => ∀ S H t σ, SF G E S H t m σ e → D.nx σ H
  | .ret d m => ∀ S H t v, HI G.K S H t m → Stp E.S E.H E.t S H t → DR G.K S t v d → D.rt v H
  | .brk e m => ∀ S H t σ, SF G E S H t m σ e → D.bk σ H
  | .ct e m => ∀ S H t σ, SF G E S H t m σ e → D.ct σ H
  | .exc c fs e m => ∀ S H t σ cls dx, SF G E S H t m σ e → EXR G S H t c fs cls dx → W cls dx σ H
  | .stuck => False
def semS (G : Cfg) (W : WX) (E : Snap) (f : EvS) : TS := fun D σ H => ∃ S t m e, SF G E S H t m σ e ∧ GS G W E D (f G.C e m)
def liftS {α : Type} (r : R α) (e : Env) (k : α → Store → SR) : SR := match r with
  | .ok a m => k a m
  | .exc c fs m => .exc c fs e m
  | .stuck => .stuck
@[simp] theorem liftS_ok {α : Type} (a : α) (m : Store) (e : Env) (k : α → Store → SR) : liftS (R.ok a m) e k = k a m := rfl
@[simp] theorem liftS_exc {α : Type} (c : Nat) (fs : List D) (m : Store) (e : Env) (k : α → Store → SR) : liftS (R.exc c fs m) e k = .exc c fs e m := rfl
@[simp] theorem liftS_stuck {α : Type} (e : Env) (k : α → Store → SR) : liftS (R.stuck : R α) e k = .stuck := rfl
def SR.bind (r : SR) (f : Env → Store → SR) : SR := match r with
  | .nx e m => f e m
  | .ret d m => .ret d m
  | .brk e m => .brk e m
  | .ct e m => .ct e m
  | .exc c fs e m => .exc c fs e m
  | .stuck => .stuck
@[simp] theorem SR.bind_nx (e : Env) (m : Store) (f : Env → Store → SR) : (SR.nx e m).bind f = f e m := rfl
@[simp] theorem SR.bind_ret (d : D) (m : Store) (f : Env → Store → SR) : (SR.ret d m).bind f = .ret d m := rfl
@[simp] theorem SR.bind_brk (e : Env) (m : Store) (f : Env → Store → SR) : (SR.brk e m).bind f = .brk e m := rfl
@[simp] theorem SR.bind_ct (e : Env) (m : Store) (f : Env → Store → SR) : (SR.ct e m).bind f = .ct e m := rfl
@[simp] theorem SR.bind_exc (c : Nat) (fs : List D) (e : Env) (m : Store) (f : Env → Store → SR) : (SR.exc c fs e m).bind f = .exc c fs e m := rfl
@[simp] theorem SR.bind_stuck (f : Env → Store → SR) : SR.stuck.bind f = .stuck := rfl
section
variable {G : Cfg} {W : WX} {E : Snap} {S S' H H' : Hp} {t t' : Th} {m m' : Store} {σ : St} {e : Env} {D : Ends}
theorem SF.stp (h : SF G E S H t m σ e) (p : Stp S H t S' H' t') (i : HI G.K S' H' t' m') : SF G E S' H' t' m' σ e := ⟨h.si.stp p i, h.fr.trans p, h.ow⟩
/-- an expression within a statement -/
theorem GS.lift {α : Type} {r : R α} {k : α → Store → SR} (sf : SF G E S H t m σ e) (h : GS G W E D (liftS r e k)) : Gd G W σ S H t r (fun S' H' t' m' a => GS G W E D (k a m')) := by
  cases r with
  | ok a m' => exact fun _ _ _ _ _ => h
  | exc c fs m' => exact fun S' H' t' cls dx p i x => h S' H' t' σ cls dx (sf.stp p i) x
  | stuck => exact h
/-- what is asked behind may be asked of more -/
theorem GS.bind {r : SR} {f : Env → Store → SR} (h : GS G W E D (r.bind f)) : GS G W E { D with nx := fun σ H => ∃ S t m e, SF G E S H t m σ e ∧ GS G W E D (f e m) } r := by
  cases r with
  | nx e m => exact fun S H t σ sf => ⟨S, t, m, e, sf, h⟩
  | ret d m => exact h
  | brk e m => exact h
  | ct e m => exact h
  | exc c fs e m => exact h
  | stuck => exact h
end

theorem _root_.L2.PS.imp {X : Cx} {st : Stmt} {t t' : TS} (h : PS X st t) (w : ∀ D σ H, t' D σ H → t D σ H) : PS X st t' := ⟨fun pins s σ H D I q => h.run pins s σ H D I (w D σ H q)⟩
theorem _root_.L2.PSs.imp {X : Cx} {st : List Stmt} {t t' : TS} (h : PSs X st t) (w : ∀ D σ H, t' D σ H → t D σ H) : PSs X st t' := ⟨fun pins s σ H D I q => h.run pins s σ H D I (w D σ H q)⟩

/-! ### combinators -/
@[simp] def nxS : EvS := fun _ e m => .nx e m
@[simp] def seqS (f g : EvS) : EvS := fun C e m => (f C e m).bind fun e1 m1 => g C e1 m1
@[simp] def retS (f : EvE) : EvS := fun C e m => liftS (f C e m) e fun d m1 => .ret d m1
@[simp] def dropS (f : EvE) : EvS := fun C e m => liftS (f C e m) e fun _ m1 => .nx e m1
@[simp] def brkS : EvS := fun _ e m => .brk e m
@[simp] def ctS : EvS := fun _ e m => .ct e m
@[simp] def ifS (c : EvT) (a b : EvS) : EvS := fun C e m => liftS (c C e m) e fun k m1 => if k = true then a C e m1 else b C e m1
def SR.of (o : Option Env) (m : Store) : SR := match o with
  | some e => .nx e m
  | none => .stuck
@[simp] theorem SR.of_some (e : Env) (m : Store) : SR.of (some e) m = .nx e m := rfl
@[simp] theorem SR.of_none (m : Store) : SR.of none m = .stuck := rfl
@[simp] def asgS (g : Tg) (f : EvE) : EvS := fun C e m => liftS (f C e m) e fun d m1 => .of (asg g d e) m1
/-- slot i a list of its own -/
@[simp] def ownO (i : Nat) (xs : List D) (e : Env) : Option Env := if i < e.length then some (e.set i (.own (.lst xs))) else none
@[simp] def ownS (i : Nat) (f : EvA) : EvS := fun C e m => liftS (f C e m) e fun xs m1 => .of (ownO i xs e) m1
/-- slot i's own list is settled -/
@[simp] def frzO (i : Nat) (e : Env) : Option Env := match e[i]? with
  | some (.own d) => some (e.set i (.dat d))
  | some (.dat _) => some e
  | _ => none
@[simp] def frzS (i : Nat) : EvS := fun _ e m => .of (frzO i e) m
/-- slot i's own list goes into the store -/
@[simp] def stoS (i : Nat) : EvS := fun _ e m => match e[i]? with
  | some (.own (.lst xs)) => .nx (e.set i (.dat (.ref m.length))) (m ++ [.lst xs])
  | _ => .stuck

section
variable {X : Cx} {G : Cfg} {W : WX} {E : Snap} {a b c : Expr} {st : Stmt} {rest : List Stmt} {fa fb : EvE} {fs : EvA} {tc : EvT} {f g : EvS} {pos : Pos}
theorem dss_nil : PSs X [] (semS G W E nxS) := pss_nil.imp fun D σ H ⟨S, t, m, e, sf, h⟩ => h S H t σ sf
theorem dss_cons (h1 : PS X st (semS G W E f)) (h2 : PSs X rest (semS G W E g)) : PSs X (st :: rest) (semS G W E (seqS f g)) :=
  (pss_cons h1 h2).imp fun D σ H ⟨S, t, m, e, sf, h⟩ => ⟨S, t, m, e, sf, GS.bind h⟩
theorem dss_one (h1 : PS X st (semS G W E f)) : PSs X [st] (semS G W E f) := pss_one h1
theorem ds_pass : PS X (.Pass pos) (semS G W E nxS) := ps_pass.imp fun D σ H ⟨S, t, m, e, sf, h⟩ => h S H t σ sf
theorem ds_doc {x j pos pos'} : PS X (.Expr (.Constant (.str x) j pos) pos') (semS G W E nxS) := ps_doc.imp fun D σ H ⟨S, t, m, e, sf, h⟩ => h S H t σ sf
theorem ds_break : PS X (.Break pos) (semS G W E brkS) := ps_break.imp fun D σ H ⟨S, t, m, e, sf, h⟩ => h S H t σ sf
theorem ds_continue : PS X (.Continue pos) (semS G W E ctS) := ps_continue.imp fun D σ H ⟨S, t, m, e, sf, h⟩ => h S H t σ sf
theorem ds_ret (ha : PE X a (semE G W fa)) : PS X (.Return (some a) pos) (semS G W E (retS fa)) :=
  (ps_ret ha).imp fun D σ H ⟨S, t, m, e, sf, h⟩ => ⟨S, t, m, e, sf.si, (GS.lift sf h).imp fun S1 H1 t1 m1 d p1 i1 h1 v rv => h1 S1 H1 t1 v i1 (sf.fr.trans p1) rv⟩
theorem ds_retN : PS X (.Return none pos) (semS G W E (retS (conE .non))) :=
  ps_retN.imp fun D σ H ⟨S, t, m, e, sf, h⟩ => h S H t .non sf.si.hi sf.fr .non
theorem ds_expr (ha : PE X a (semE G W fa)) (hs : swapsWith a none pos.line X.env = pure false := by rfl) : PS X (.Expr a pos) (semS G W E (dropS fa)) :=
  (ps_expr ha hs).imp fun D σ H ⟨S, t, m, e, sf, h⟩ => ⟨S, t, m, e, sf.si, (GS.lift sf h).imp fun S1 H1 t1 m1 d p1 i1 h1 v rv => h1 S1 H1 t1 σ (sf.stp p1 i1)⟩
theorem ds_if {ss rs : List Stmt} (hc : PT X c (semT G W tc)) (ha : PSs X ss (semS G W E f)) (hb : PSs X rs (semS G W E g)) : PS X (.If c ss rs pos) (semS G W E (ifS tc f g)) := by
  refine (ps_if hc ha hb).imp fun D σ H ⟨S, t, m, e, sf, h⟩ => ⟨S, t, m, e, sf.si, (GS.lift sf h).imp fun S1 H1 t1 m1 k p1 i1 h1 => ?_⟩
  cases k with
  | true => exact ⟨S1, t1, m1, e, sf.stp p1 i1, h1⟩
  | false => exact ⟨S1, t1, m1, e, sf.stp p1 i1, h1⟩
theorem sem_asg {g : Tg} {D : Ends} {σ : St} {H : Hp} (h : semS G W E (asgS g fa) D σ H) : tAsg (semE G W fa) (semG G.K G.x g) D σ H := by
  obtain ⟨S, t, m, e, sf, h⟩ := h
  refine ⟨S, t, m, e, sf.si, (GS.lift sf h).imp fun S1 H1 t1 m1 d p1 i1 h1 v rv => ?_⟩
  cases ha : asg g d e with
  | none => rw [ha] at h1; exact h1.elim
  | some e' =>
    rw [ha] at h1
    have sf1 := sf.stp p1 i1
    exact ⟨S1, t1, m1, e, d, e', sf1.si, rv, ha, fun σ' si' o' _ => h1 S1 H1 t1 σ' ⟨si', sf1.fr, sf1.ow.sub o'⟩⟩
theorem ds_asg {tg : Expr} {g : Tg} (ha : PE X a (semE G W fa)) (hg : PG X tg (semG G.K G.x g)) (hs : swapsWithSole [tg] a pos.line X.env = pure false := by rfl) (hw : swappedStores [tg] a X.env = pure none := by rfl)
    (h1 : (assignEach [tg] X.env).map (·.2) = [assign tg X.env] := by rfl) : PS X (.Assign [tg] a pos) (semS G W E (asgS g fa)) := (ps_asg ha hg hs hw h1).imp fun D σ H h => sem_asg h
theorem sem_set {i : Nat} {D : Ends} {σ : St} {H : Hp} (h : semS G W E (asgS (.nm i) fa) D σ H) : tAsg (semE G W fa) (gName i) D σ H := by
  obtain ⟨S, t, m, e, sf, h⟩ := h
  refine ⟨S, t, m, e, sf.si, (GS.lift sf h).imp fun S1 H1 t1 m1 d p1 i1 h1 v rv => ?_⟩
  unfold asg at h1
  split at h1
  · rename_i hj
    have sf1 := sf.stp p1 i1
    obtain ⟨a, b⟩ := sf1.si.set hj rv
    exact h1 S1 H1 t1 _ ⟨a, sf1.fr, sf1.ow.sub b⟩
  · exact h1.elim
theorem ds_set {i : Nat} {x : Str} {pos' : Pos} (hN : X.N.Nodup) (hi : X.N[i]? = some x) (hx : Loc X.env.scope x) (ha : PE X a (semE G W fa)) (hf : X.fn x = true ∨ X.env.scope.names.lookup x = some .local) (hs : swapsWith a (some (.Name x pos')) pos.line X.env = pure false := by rfl) :
    PS X (.Assign [.Name x pos'] a pos) (semS G W E (asgS (.nm i) fa)) := (ps_set hN hi hx ha hs hf).imp fun D σ H h => sem_set h
end

/-! ### lists of one's own -/
section
variable {K : KW} {x : Gh} {G : Cfg} {W : WX} {E : Snap} {S H : Hp} {t : Th} {m : Store} {σ : St} {e : Env}
/-- slot j gets a list of its own, at p -/
theorem SI.setOwn (i : SI K x S H t m σ e) {j : Nat} {p : Addr} {d : D} (hj : j < e.length) (r : OwnAt K S H t p d) (hp : ∀ (k : Nat) c, k ≠ j → e[k]? = some (.own c) → σ[k]? ≠ some (some (.ref p))) : SI K x S H t m (σ.set j (some (.ref p))) (e.set j (.own d)) := by
  have hs : j < σ.length := by rw [i.len]; exact hj
  refine ⟨i.hi, by simp [i.len], fun k c h => ?_, fun k c h => ?_, fun k l c c' a h1 h2 h3 h4 => ?_, fun k c fs h => ?_⟩
  · by_cases z : k = j
    · subst z; rw [List.getElem?_set_self hj] at h; cases h
    · rw [List.getElem?_set_ne (Ne.symm z)] at h ⊢; exact i.dat k c h
  · by_cases z : k = j
    · subst z
      rw [List.getElem?_set_self hj] at h
      cases h
      exact ⟨p, List.getElem?_set_self hs, r⟩
    · rw [List.getElem?_set_ne (Ne.symm z)] at h ⊢; exact i.own k c h
  · by_cases z : k = j <;> by_cases z' : l = j
    · omega
    · subst z
      rw [List.getElem?_set_self hs] at h3
      cases h3
      rw [List.getElem?_set_ne (Ne.symm z')] at h2 h4
      exact absurd h4 (hp l c' z' h2)
    · subst z'
      rw [List.getElem?_set_self hs] at h4
      cases h4
      rw [List.getElem?_set_ne (Ne.symm z)] at h1 h3
      exact absurd h3 (hp k c z h1)
    · rw [List.getElem?_set_ne (Ne.symm z)] at h1 h3
      rw [List.getElem?_set_ne (Ne.symm z')] at h2 h4
      exact i.apart k l c c' a h1 h2 h3 h4
  · by_cases z : k = j
    · subst z; rw [List.getElem?_set_self hj] at h; cases h
    · rw [List.getElem?_set_ne (Ne.symm z)] at h ⊢; exact i.exn k c fs h
theorem SF.setOwn (h : SF G E S H t m σ e) {j : Nat} {p : Addr} {d : D} (hj : j < e.length) (r : OwnAt G.K S H t p d) (hp : ∀ (k : Nat) c, k ≠ j → e[k]? = some (.own c) → σ[k]? ≠ some (some (.ref p))) (h0 : E.H p = none) : SF G E S H t m (σ.set j (some (.ref p))) (e.set j (.own d)) := by
  refine ⟨h.si.setOwn hj r hp, h.fr, fun k c a h1 h2 => ?_⟩
  by_cases z : k = j
  · subst z
    rw [List.getElem?_set_self (by rw [h.si.len]; exact hj)] at h2
    cases h2
    exact h0
  · rw [List.getElem?_set_ne (Ne.symm z)] at h1 h2
    exact h.ow k c a h1 h2
/-- a new address is nobody's -/
theorem SF.newOwn (h : SF G E S H t m σ e) {p : Addr} (hn : H p = none) : (∀ (k : Nat) c, e[k]? = some (.own c) → σ[k]? ≠ some (some (.ref p))) ∧ E.H p = none := by
  refine ⟨fun k c h1 h2 => ?_, ?_⟩
  · obtain ⟨a, h3, h4⟩ := h.si.own k c h1
    rw [h2] at h3
    cases h3
    exact h4.there hn
  · cases q : E.H p with
    | none => rfl
    | some o => exact absurd hn (h.fr.dom p (by rw [q]; simp))
/-- a thing of one's own is written -/
theorem SF.chg (h : SF G E S H t m σ e) {j : Nat} {p : Addr} {u : HO} {d d' : D} (hj : e[j]? = some (.own d)) (hp : σ[j]? = some (some (.ref p))) (hd : OwR G.K S (upd H p u) t p d') : SF G E S (upd H p u) t m σ (e.set j (.own d')) := by
  obtain ⟨a, h1, ho⟩ := h.si.own j _ hj
  rw [hp] at h1
  cases h1
  have hl : j < e.length := (List.getElem?_eq_some_iff.mp hj).1
  have i2 := own_hi (o := u) h.si.hi ho.off ho.there ho.nt
  have h0 := h.ow j _ p hj hp
  refine ⟨⟨i2, by simp [h.si.len], fun k c q => ?_, fun k c q => ?_, fun k l c c' a h1 h2 h3 h4 => ?_, fun k c fs q => ?_⟩, ⟨fun a o ha hn => ?_, fun a ha => ?_, h.fr.hs, h.fr.th, h.fr.thn⟩, fun k c a h1 h2 => ?_⟩
  · by_cases z : k = j
    · subst z; rw [List.getElem?_set_self hl] at q; cases q
    · rw [List.getElem?_set_ne (Ne.symm z)] at q; exact h.si.dat k c q
  · by_cases z : k = j
    · subst z
      rw [List.getElem?_set_self hl] at q
      cases q
      exact ⟨p, hp, ho.off, ho.nt, hd⟩
    · rw [List.getElem?_set_ne (Ne.symm z)] at q
      obtain ⟨b, h1, h2⟩ := h.si.own k c q
      refine ⟨b, h1, h2.off, h2.nt, ?_⟩
      exact h2.at_.upd fun w => z (h.si.apart k j c _ p q hj (by rw [h1, w]) hp)
  · have el : ∀ (k : Nat) c, (e.set j (.own d'))[k]? = some (.own c) → ∃ c', e[k]? = some (.own c') := fun k c q => by
      by_cases z : k = j
      · subst z; exact ⟨_, hj⟩
      · rw [List.getElem?_set_ne (Ne.symm z)] at q; exact ⟨c, q⟩
    obtain ⟨c1, q1⟩ := el k c h1
    obtain ⟨c2, q2⟩ := el l c' h2
    exact h.si.apart k l c1 c2 a q1 q2 h3 h4
  · by_cases z : k = j
    · subst z; rw [List.getElem?_set_self hl] at q; cases q
    · rw [List.getElem?_set_ne (Ne.symm z)] at q; exact h.si.exn k c fs q
  · rw [upd_ne (ne_of_none ha h0)]; exact h.fr.keep a o ha hn
  · rw [upd_ne (fun z => ha (by rw [z]; exact h0))]; exact h.fr.dom a ha
  · by_cases z : k = j
    · subst z; rw [hp] at h2; cases h2; exact h0
    · rw [List.getElem?_set_ne (Ne.symm z)] at h1
      exact h.ow k c a h1 h2
theorem SF.write (h : SF G E S H t m σ e) {j : Nat} {p : Addr} {vs : List V} {xs ys : List D} (hj : e[j]? = some (.own (.lst xs))) (hp : σ[j]? = some (some (.ref p))) (hd : DRs G.K S t vs ys) : SF G E S (upd H p (.lst vs)) t m σ (e.set j (.own (.lst ys))) :=
  h.chg hj hp (.lst upd_same hd)
/-- .. settled -/
theorem SF.settle (h : SF G E S H t m σ e) {j : Nat} {d : D} (hj : e[j]? = some (.own d)) : ∃ S', SF G E S' H t m σ (e.set j (.dat d)) := by
  obtain ⟨p, hp, ho⟩ := h.si.own j _ hj
  obtain ⟨u, hH, hdr⟩ := ho.at_.dr
  have hl : j < e.length := (List.getElem?_eq_some_iff.mp hj).1
  have i2 := settle_hi h.si.hi ho.off hH ho.nt
  have h0 := h.ow j _ p hj hp
  have ss : Sub S (upd S p u) := fun a u' q => by rw [upd_ne (ne_of_none q ho.off)]; exact q
  have el : ∀ (k : Nat) c, (e.set j (.dat d))[k]? = some (.own c) → k ≠ j ∧ e[k]? = some (.own c) := fun k c q => by
    by_cases z : k = j
    · subst z; rw [List.getElem?_set_self hl] at q; cases q
    · rw [List.getElem?_set_ne (Ne.symm z)] at q; exact ⟨z, q⟩
  refine ⟨upd S p u, ⟨i2, by simp [h.si.len], fun k c q => ?_, fun k c q => ?_, fun k l c c' a h1 h2 h3 h4 => ?_, fun k c fs q => ?_⟩, ⟨h.fr.keep, h.fr.dom, fun a ha => ?_, h.fr.th, h.fr.thn⟩, fun k c a h1 h2 => ?_⟩
  · by_cases z : k = j
    · subst z
      rw [List.getElem?_set_self hl] at q
      cases q
      exact ⟨_, hp, hdr _ ss upd_same⟩
    · rw [List.getElem?_set_ne (Ne.symm z)] at q
      obtain ⟨v, h1, h2⟩ := h.si.dat k c q
      exact ⟨v, h1, h2.mono ss (.refl t)⟩
  · obtain ⟨z, q⟩ := el k c q
    obtain ⟨b, h1, h2⟩ := h.si.own k c q
    have nb : b ≠ p := fun w => z (h.si.apart k j c _ p q hj (by rw [h1, w]) hp)
    exact ⟨b, h1, by rw [upd_ne nb]; exact h2.off, h2.nt, h2.at_.mono ss (.refl t)⟩
  · exact h.si.apart k l c c' a (el k c h1).2 (el l c' h2).2 h3 h4
  · by_cases z : k = j
    · subst z; rw [List.getElem?_set_self hl] at q; cases q
    · rw [List.getElem?_set_ne (Ne.symm z)] at q
      obtain ⟨v, h1, h2⟩ := h.si.exn k c fs q
      exact ⟨v, h1, h2.mono ss (.refl t)⟩
  · rw [upd_ne (fun z => ha (by rw [z]; exact h0))]; exact h.fr.hs a ha
  · exact h.ow k c a (el k c h1).2 h2
/-- .. put into the store -/
theorem SF.store' (h : SF G E S H t m σ e) {j : Nat} {d : D} (hj : e[j]? = some (.own d)) : ∃ t', SF G E S H t' (m ++ [obOf d]) σ (e.set j (.dat (.ref m.length))) := by
  obtain ⟨p, hp, ho⟩ := h.si.own j _ hj
  obtain ⟨u, hH, hd⟩ := ho.at_.ob
  have hl : j < e.length := (List.getElem?_eq_some_iff.mp hj).1
  obtain ⟨i2, ts⟩ := store_ob h.si.hi ho.off hH ho.nt hd
  have h0 := h.ow j _ p hj hp
  have el : ∀ (k : Nat) c, (e.set j (.dat (.ref m.length)))[k]? = some (.own c) → k ≠ j ∧ e[k]? = some (.own c) := fun k c q => by
    by_cases z : k = j
    · subst z; rw [List.getElem?_set_self hl] at q; cases q
    · rw [List.getElem?_set_ne (Ne.symm z)] at q; exact ⟨z, q⟩
  refine ⟨_, ⟨i2, by simp [h.si.len], fun k c q => ?_, fun k c q => ?_, fun k l c c' a h1 h2 h3 h4 => ?_, fun k c fs q => ?_⟩, ⟨h.fr.keep, h.fr.dom, h.fr.hs, h.fr.th.trans ts, fun n a q g => ?_⟩, fun k c a h1 h2 => ?_⟩
  · by_cases z : k = j
    · subst z
      rw [List.getElem?_set_self hl] at q
      cases q
      exact ⟨_, hp, .ref (by simp)⟩
    · rw [List.getElem?_set_ne (Ne.symm z)] at q
      obtain ⟨v, h1, h2⟩ := h.si.dat k c q
      exact ⟨v, h1, h2.mono (.refl S) ts⟩
  · obtain ⟨z, q⟩ := el k c q
    obtain ⟨b, h1, h2⟩ := h.si.own k c q
    have nb : b ≠ p := fun w => z (h.si.apart k j c _ p q hj (by rw [h1, w]) hp)
    refine ⟨b, h1, h2.off, fun n w => ?_, h2.at_.mono (.refl S) ts⟩
    by_cases z : n = m.length
    · simp [z] at w; exact nb w.symm
    · simp [z] at w; exact h2.nt n w
  · exact h.si.apart k l c c' a (el k c h1).2 (el l c' h2).2 h3 h4
  · by_cases z : k = j
    · subst z; rw [List.getElem?_set_self hl] at q; cases q
    · rw [List.getElem?_set_ne (Ne.symm z)] at q
      obtain ⟨v, h1, h2⟩ := h.si.exn k c fs q
      exact ⟨v, h1, h2.mono (.refl S) ts⟩
  · by_cases z : n = m.length
    · simp [z] at q; subst q; exact h0
    · simp [z] at q; exact h.fr.thn n a q g
  · exact h.ow k c a (el k c h1).2 h2
theorem SF.store (h : SF G E S H t m σ e) {j : Nat} {xs : List D} (hj : e[j]? = some (.own (.lst xs))) : ∃ t', SF G E S H t' (m ++ [.lst xs]) σ (e.set j (.dat (.ref m.length))) := h.store' hj
end
section
variable {X : Cx} {G : Cfg} {W : WX} {E : Snap} {a b c : Expr} {st : Stmt} {rest : List Stmt} {fa fb : EvE} {fs : EvA} {tc : EvT} {f g : EvS} {pos : Pos}
theorem sem_own {i : Nat} {D : Ends} {σ : St} {H : Hp} (h : semS G W E (ownS i fs) D σ H) : tAsg (semF G W fs) (gName i) D σ H := by
  obtain ⟨S, t, m, e, sf, h⟩ := h
  refine ⟨S, t, m, e, sf.si, (GS.lift sf h).imp fun S1 H1 t1 m1 xs p1 i1 h1 p ho hn => ?_⟩
  unfold ownO at h1
  split at h1
  · rename_i hj
    have sf1 := sf.stp p1 i1
    obtain ⟨q1, q2⟩ := sf.newOwn hn
    exact h1 S1 H1 t1 _ (sf1.setOwn hj ho (fun k c _ => q1 k c) q2)
  · exact h1.elim
theorem ds_own {i : Nat} {x : Str} {pos' : Pos} (hN : X.N.Nodup) (hi : X.N[i]? = some x) (hx : Loc X.env.scope x) (ha : PE X a (semF G W fs)) (hf : X.fn x = true ∨ X.env.scope.names.lookup x = some .local) (hs : swapsWith a (some (.Name x pos')) pos.line X.env = pure false := by rfl) :
    PS X (.Assign [.Name x pos'] a pos) (semS G W E (ownS i fs)) := (ps_set hN hi hx ha hs hf).imp fun D σ H h => sem_own h
theorem dss_frz {i : Nat} (h : PSs X rest (semS G W E f)) : PSs X rest (semS G W E (seqS (frzS i) f)) := by
  refine h.imp fun D σ H ⟨S, t, m, e, sf, h⟩ => ?_
  unfold seqS frzS frzO at h
  split at h
  · rename_i d hj
    obtain ⟨S', sf'⟩ := sf.settle hj
    exact ⟨S', t, m, _, sf', h⟩
  · exact ⟨S, t, m, e, sf, h⟩
  · exact h.elim
theorem dss_sto {i : Nat} (h : PSs X rest (semS G W E f)) : PSs X rest (semS G W E (seqS (stoS i) f)) := by
  refine h.imp fun D σ H ⟨S, t, m, e, sf, h⟩ => ?_
  unfold seqS stoS at h
  split at h
  · rename_i d hj
    obtain ⟨t', sf'⟩ := sf.store hj
    exact ⟨S, t', _, _, sf', h⟩
  · exact h.elim
end
end Dn
/-! More statements: lists that change, loops. -/
namespace Dn
open PySem L2

/-- lists stay below this -/
def LIM : Nat := 1000000
theorem lim_lt {n : Nat} (h : n < LIM) : n < sizeLine := Nat.lt_of_lt_of_le h (by decide)
theorem lim_le {n : Nat} (h : n ≤ LIM) : n ≤ sizeLine := Nat.le_trans h (by decide)
@[simp] def appS (i : Nat) (f : EvE) : EvS := fun C e m => match e[i]? with
  | some (.own (.lst xs)) => liftS (f C e m) e fun d m1 => if xs.length < LIM then .nx (e.set i (.own (.lst (xs ++ [d])))) m1 else .stuck
  | _ => .stuck
@[simp] def extS (i : Nat) (f : EvE) : EvS := fun C e m => match e[i]? with
  | some (.own (.lst xs)) => liftS (f C e m) e fun d m1 => match d with
    | .lst ys => if xs.length + ys.length ≤ LIM then .nx (e.set i (.own (.lst (xs ++ ys)))) m1 else .stuck
    | _ => .stuck
  | _ => .stuck
@[simp] def augS (g : Store → D → D → Option D) (i : Nat) (f : EvE) : EvS := fun C e m => match e[i]? with
  | some (.dat x) => liftS (f C e m) e fun d m1 => match g m1 x d with
    | some z => .nx (e.set i (.dat z)) m1
    | none => .stuck
  | _ => .stuck
@[simp] def setS (i : Nat) (fk f : EvE) : EvS := fun C e m => match e[i]? with
  | some (.own (.lst xs)) => liftS (f C e m) e fun d m1 => liftS (fk C e m1) e fun k m2 => match k with
    | .int k => match ixN xs.length k with
      | some j => .nx (e.set i (.own (.lst (xs.set j d)))) m2
      | none => .stuck
    | _ => .stuck
  | _ => .stuck
/-- a list of the store, an item of it op= e -/
def stoGet (m : Store) (o k : D) : Option (Nat × List D × Nat × D) := match o, k with
  | .ref n, .int k => match m[n]? with
    | some (.lst xs) => if 0 ≤ k ∧ k < (xs.length : Int) ∧ xs.length ≤ LIM then (xs[k.toNat]?).map fun x => (n, xs, k.toNat, x) else none
    | _ => none
  | _, _ => none
@[simp] def stoAug (g : Store → D → D → Option D) (fo fk f : EvE) : EvS := fun C e m => liftS (fo C e m) e fun o m1 => liftS (fk C e m1) e fun k m2 => match stoGet m2 o k with
  | some (_, _, _, x) => liftS (f C e m2) e fun d m3 => match stoGet m3 o k with
    | some (n, xs, j, _) => match g m3 x d with
      | some z => .nx e (m3.set n (.lst (xs.set j z)))
      | none => .stuck
    | none => .stuck
  | none => .stuck

section
variable {X : Cx} {G : Cfg} {W : WX} {E : Snap} {a b c : Expr} {es : List Expr} {st : Stmt} {rest : List Stmt} {fa fb fk fo : EvE} {fs : EvA} {tc : EvT} {f g : EvS} {pos : Pos}
/-- x.append(e) -/
theorem ds_app {i : Nat} {x : Str} {px apos cpos : Pos} (hK : X.kw = G.K) (hN : X.N[i]? = some x) (hv : Vis X.env.scope x) (ha : PE X a (semE G W fa)) (hd : (x == ("__debug__" : Str)) = false := by decide) (hcd : (x == ("__classdict__" : Str)) = false := by decide)
    (hbase : attributeBase (.Name x px) "append" X.env (eval (.Name x px) X.env) = eval (.Name x px) X.env := by rfl)
    (hfew : ((backTo cpos (starEach [a] X.env)).all (fun x => !x.1) && (backToKw cpos (keywordEach [] X.env)).all (fun x => x.1.isSome)
      && decide ([a].length + ([] : List Keyword).length + (if ([] : List Keyword).isEmpty then 0 else 1) < 30)) = true := by rfl)
    (hline : (apos.endLine == cpos.line) = true := by rfl) (he : starEach [a] X.env = (false, eval a X.env) :: starEach [] X.env := by rfl) (hplain : (backTo cpos (starEach [] X.env)).any (·.1) = false := by rfl)
    (hs : swapsWith (.Call (.Attribute (.Name x px) "append" apos) [a] [] cpos) none pos.line X.env = pure false := by rfl) :
    PS X (.Expr (.Call (.Attribute (.Name x px) "append" apos) [a] [] cpos) pos) (semS G W E (appS i fa)) := by
  refine (ps_expr (pe_bm PySem.F.plainAttrs_list PySem.F.slot_list_append PySem.F.type_list_append mt_append (pe_var (i := i) hN hv hd hcd) (pa_cons ha pa_nil he) hbase hfew hline he hplain) hs).imp fun D σ H ⟨S, t, m, e, sf, h⟩ => ?_
  unfold appS at h
  split at h
  · rename_i xs hi
    obtain ⟨p, hp, ho⟩ := sf.si.own i _ hi
    obtain ⟨xs', vs, e0, hH, hd'⟩ := ho.lst'
    cases e0
    refine ⟨_, hp, .inl ⟨rfl, _, .inl (.inl hH)⟩, S, t, m, e, sf.si, (GS.lift sf h).imp fun S1 H1 t1 m1 d p1 i1 h1 v rv => ?_⟩
    split at h1
    · rename_i hl
      have k1 := p1.keep p _ hH ho.nt
      have sf1 := sf.stp p1 i1
      exact ⟨p, vs, v, rfl, rfl, k1, by rw [hd'.length]; exact lim_lt hl, h1 _ _ _ σ (sf1.write hi hp ((hd'.stp sf.si.hi p1).append (.cons rv .nil)))⟩
    · exact h1.elim
  · exact h.elim
/-- x += [..] -/
theorem ds_ext {i : Nat} {x : Str} {pos' : Pos} (hN : X.N.Nodup) (hi : X.N[i]? = some x) (hx : Loc X.env.scope x) (ha : PE X a (semE G W fa)) (hf : X.fn x = true ∨ X.env.scope.names.lookup x = some .local) :
    PS X (.AugAssign (.Name x pos') .Add a pos) (semS G W E (extS i fa)) := by
  refine (ps_aug (ti := rExt2) hN hi hx ha iop_ext hf).imp fun D σ H ⟨S, t, m, e, sf, h⟩ => ?_
  unfold extS at h
  split at h
  · rename_i xs hi
    obtain ⟨p, hp, ho⟩ := sf.si.own i _ hi
    obtain ⟨xs', vs, e0, hH, hd'⟩ := ho.lst'
    cases e0
    refine ⟨_, hp, S, t, m, e, sf.si, (GS.lift sf h).imp fun S1 H1 t1 m1 d p1 i1 h1 v rv => ?_⟩
    cases rv with
    | @lst b ws ys hb hy =>
      dsimp only at h1
      split at h1
      · rename_i hl
        have k1 := p1.keep p _ hH ho.nt
        have sf1 := sf.stp p1 i1
        refine ⟨p, b, vs, ws, rfl, rfl, k1, i1.sub _ _ hb, by rw [hd'.length, hy.length]; exact lim_le hl, ?_⟩
        have q := h1 _ _ _ σ (sf1.write hi hp ((hd'.stp sf.si.hi p1).append hy))
        have e1 : σ.set i (some (.ref p)) = σ := by
          obtain ⟨hl', e2⟩ := List.getElem?_eq_some_iff.mp hp
          rw [← e2]; exact List.set_getElem_self hl'
        show D.nx (σ.set i (some (.ref p))) _
        rw [e1]
        exact q
      · exact h1.elim
    | _ => exact h1.elim
  · exact h.elim
/-- x op= e -/
theorem ds_aug {op : Operator} {gg : Store → D → D → Option D} {i : Nat} {x : Str} {pos' : Pos} (ho : OpD X (inplaceOp op) gg) (hK : X.kw = G.K) (hN : X.N.Nodup) (hi : X.N[i]? = some x) (hx : Loc X.env.scope x) (ha : PE X a (semE G W fa)) (hf : X.fn x = true ∨ X.env.scope.names.lookup x = some .local) :
    PS X (.AugAssign (.Name x pos') op a pos) (semS G W E (augS gg i fa)) := by
  obtain ⟨r, r1, r2⟩ := ho
  refine (ps_aug (ti := r) hN hi hx ha r1 hf).imp fun D σ H ⟨S, t, m, e, sf, h⟩ => ?_
  unfold augS at h
  split at h
  · rename_i x hi
    obtain ⟨v, hv, rv⟩ := sf.si.dat i x hi
    refine ⟨_, hv, S, t, m, e, sf.si, (GS.lift sf h).imp fun S1 H1 t1 m1 d p1 i1 h1 w rw' => ?_⟩
    split at h1
    · rename_i z hz
      refine r2 S1 H1 t1 m1 v w x d z _ (hK ▸ i1) (hK ▸ .inl (rv.stp sf.si.hi p1)) (hK ▸ .inl rw') hz fun u S' H' p' i' ru => ?_
      have i' : HI G.K S' H' t1 m1 := hK ▸ i'
      have sf1 := (sf.stp p1 i1).stp p' i'
      obtain ⟨q1, q2⟩ := sf1.si.set (List.getElem?_eq_some_iff.mp hi).1 (hK ▸ ru)
      exact h1 S' H' t1 _ ⟨q1, sf1.fr, sf1.ow.sub q2⟩
    · exact h1.elim
  · exact h.elim
/-- x[k] = e -/
theorem ds_setI {i : Nat} {x : Str} {px spos : Pos} (hN : X.N[i]? = some x) (hv : Vis X.env.scope x) (hk : PE X b (semE G W fk)) (ha : PE X a (semE G W fa)) (hd : (x == ("__debug__" : Str)) = false := by decide) (hcd : (x == ("__classdict__" : Str)) = false := by decide)
    (hasg : ∀ v, assign (.Subscript (.Name x px) b spos) X.env v = (do
      let ov ← holding [v] (eval (.Name x px) X.env)
      let iv ← holding [v, ov] (eval b X.env)
      standAt spos
      holding [v, ov, iv] (setItem ov iv v)
      release [v, ov, iv] []) := by intro _; rfl)
    (hs : swapsWithSole [.Subscript (.Name x px) b spos] a pos.line X.env = pure false := by rfl) (hw : swappedStores [.Subscript (.Name x px) b spos] a X.env = pure none := by rfl)
    (h1 : (assignEach [.Subscript (.Name x px) b spos] X.env).map (·.2) = [assign (.Subscript (.Name x px) b spos) X.env] := by rfl) :
    PS X (.Assign [.Subscript (.Name x px) b spos] a pos) (semS G W E (setS i fk fa)) := by
  refine (ps_asg ha (pg_sub (pe_var (i := i) hN hv hd hcd) hk set_list hasg) hs hw h1).imp fun D σ H ⟨S, t, m, e, sf, h⟩ => ?_
  unfold setS at h
  split at h
  · rename_i xs hi
    obtain ⟨p, hp, ho⟩ := sf.si.own i _ hi
    obtain ⟨xs', vs, e0, hH, hd'⟩ := ho.lst'
    cases e0
    refine ⟨S, t, m, e, sf.si, (GS.lift sf h).imp fun S1 H1 t1 m1 d p1 i1 h1 v rv => ?_⟩
    have sf1 := sf.stp p1 i1
    refine ⟨_, hp, S1, t1, m1, e, sf1.si, (GS.lift sf1 h1).imp fun S2 H2 t2 m2 k p2 i2 h2 w rw' => ?_⟩
    have sf2 := sf1.stp p2 i2
    cases rw' with
    | int k =>
      dsimp only at h2
      split at h2
      · rename_i j hj
        have k2 := (p1.trans p2).keep p _ hH ho.nt
        refine ⟨p, vs, k, j, rfl, rfl, k2, by rw [hd'.length]; exact hj, ?_⟩
        exact h2 _ _ _ σ (sf2.write hi hp (((hd'.stp sf.si.hi p1).stp i1 p2).set j (rv.stp i1 p2)))
      · exact h2.elim
    | _ => exact h2.elim
  · exact h.elim
end

/-! ### while -/
def turnW (C : Orc) (c : EvT) (b : EvS) (e : Env) (m : Store) : (Env × Store) ⊕ SR := match c C e m with
  | .ok true m1 => match b C e m1 with
    | .nx e2 m2 => .inl (e2, m2)
    | .ct e2 m2 => .inl (e2, m2)
    | .brk e2 m2 => .inr (.nx e2 m2)
    | r => .inr r
  | .ok false m1 => .inr (.nx e m1)
  | .exc k fs m1 => .inr (.exc k fs e m1)
  | .stuck => .inr .stuck
def runW (C : Orc) (c : EvT) (b : EvS) : Nat → Env → Store → Option SR
  | 0, _, _ => none
  | n + 1, e, m => match turnW C c b e m with
    | .inl (e2, m2) => runW C c b n e2 m2
    | .inr r => some r
theorem runW_more {C : Orc} {c : EvT} {b : EvS} : ∀ (n : Nat) (e : Env) (m : Store) (r : SR), runW C c b n e m = some r → runW C c b (n + 1) e m = some r
  | 0, _, _, _, h => by cases h
  | n + 1, e, m, r, h => by
    unfold runW at h ⊢
    cases q : turnW C c b e m with
    | inl z =>
      obtain ⟨e2, m2⟩ := z
      rw [q] at h
      exact runW_more n e2 m2 r h
    | inr z => rw [q] at h; exact h
theorem runW_le {C : Orc} {c : EvT} {b : EvS} {n k : Nat} {e : Env} {m : Store} {r : SR} (h : runW C c b n e m = some r) (hk : n ≤ k) : runW C c b k e m = some r := by
  induction hk with
  | refl => exact h
  | step _ ih => exact runW_more _ _ _ _ ih
theorem runW_one {C : Orc} {c : EvT} {b : EvS} {n k : Nat} {e : Env} {m : Store} {r r' : SR} (h : runW C c b n e m = some r) (h' : runW C c b k e m = some r') : r = r' := by
  have a := runW_le h (Nat.le_max_left n k)
  have b := runW_le h' (Nat.le_max_right n k)
  rw [a] at b; exact Option.some.inj b
open Classical in
noncomputable def whileS (c : EvT) (b : EvS) : EvS := fun C e m => if h : ∃ n r, runW C c b n e m = some r then h.choose_spec.choose else .stuck
theorem whileS_run {C : Orc} {c : EvT} {b : EvS} {n : Nat} {e : Env} {m : Store} {r : SR} (h : runW C c b n e m = some r) : whileS c b C e m = r := by
  have hx : ∃ n r, runW C c b n e m = some r := ⟨n, r, h⟩
  unfold whileS
  rw [dif_pos hx]
  exact runW_one hx.choose_spec.choose_spec h
theorem whileS_eq (C : Orc) (c : EvT) (b : EvS) (e : Env) (m : Store) : whileS c b C e m = match turnW C c b e m with
    | .inl (e2, m2) => whileS c b C e2 m2
    | .inr r => r := by
  cases q : turnW C c b e m with
  | inr r => exact whileS_run (n := 1) (by unfold runW; rw [q])
  | inl z =>
    obtain ⟨e2, m2⟩ := z
    show whileS c b C e m = whileS c b C e2 m2
    by_cases h : ∃ n r, runW C c b n e2 m2 = some r
    · obtain ⟨n, r, h⟩ := h
      rw [whileS_run h]
      exact whileS_run (n := n + 1) (by unfold runW; rw [q]; exact h)
    · have h' : ¬ ∃ n r, runW C c b n e m = some r := fun ⟨n, r, g⟩ => h (by
        cases n with
        | zero => cases g
        | succ n => unfold runW at g; rw [q] at g; exact ⟨n, r, g⟩)
      unfold whileS
      rw [dif_neg h, dif_neg h']

/-! ### for -/
def forL (C : Orc) (g : Tg) (b : EvS) : List D → Env → Store → SR
  | [], e, m => .nx e m
  | d :: ds, e, m => match asg g d e with
    | none => .stuck
    | some e1 => match b C e1 m with
      | .nx e2 m2 => forL C g b ds e2 m2
      | .ct e2 m2 => forL C g b ds e2 m2
      | .brk e2 m2 => .nx e2 m2
      | r => r
@[simp] def forS (it : EvA) (g : Tg) (b : EvS) : EvS := fun C e m => liftS (it C e m) e fun ds m1 => forL C g b ds e m1

/-! ### a loop's own ground: all that stands there but its own lists -/
open Classical in
noncomputable def ground (H : Hp) (σ : St) (e : Env) : Hp := fun a => if ∃ (i : Nat) (d : D), e[i]? = some (.own d) ∧ σ[i]? = some (some (.ref a)) then none else H a
section
variable {G : Cfg} {W : WX} {E : Snap} {S S' H H' : Hp} {t t' : Th} {m m' : Store} {σ σ' : St} {e e' : Env}
theorem ground_own {a : Addr} {i : Nat} {d : D} (h1 : e[i]? = some (.own d)) (h2 : σ[i]? = some (some (.ref a))) : ground H σ e a = none := by
  unfold ground; rw [if_pos ⟨i, d, h1, h2⟩]
theorem ground_not {a : Addr} (h : ¬ ∃ (i : Nat) (d : D), e[i]? = some (.own d) ∧ σ[i]? = some (some (.ref a))) : ground H σ e a = H a := by
  unfold ground; rw [if_neg h]
theorem ground_le {a : Addr} {o : HO} (h : ground H σ e a = some o) : H a = some o := by
  by_cases z : ∃ (i : Nat) (d : D), e[i]? = some (.own d) ∧ σ[i]? = some (some (.ref a))
  · unfold ground at h; rw [if_pos z] at h; cases h
  · rw [ground_not z] at h; exact h
noncomputable abbrev Snap.at (S H : Hp) (t : Th) (σ : St) (e : Env) : Snap := ⟨S, ground H σ e, t⟩
theorem SF.on (h : SF G E S H t m σ e) : SF G (Snap.at S H t σ e) S H t m σ e := by
  refine ⟨h.si, ⟨fun a o q _ => ground_le q, fun a q => ?_, fun _ _ => rfl, .refl t, fun n a q g => by rw [show t n = none from g] at q; cases q⟩, fun i d a h1 h2 => ground_own h1 h2⟩
  cases q' : ground H σ e a with
  | none => exact absurd q' q
  | some o => rw [ground_le q']; simp
theorem SF.below (h : SF G E S H t m σ e) : Stp E.S E.H E.t S (ground H σ e) t := by
  have no : ∀ a, E.H a ≠ none → ground H σ e a = H a := fun a ha => ground_not fun ⟨i, d, h1, h2⟩ => ha (h.ow i d a h1 h2)
  exact ⟨fun a o q hn => by rw [no a (by rw [q]; simp)]; exact h.fr.keep a o q hn, fun a q => by rw [no a q]; exact h.fr.dom a q, h.fr.hs, h.fr.th, h.fr.thn⟩
theorem SF.off (h : SF G E S H t m σ e) (h' : SF G (Snap.at S H t σ e) S' H' t' m' σ' e') : SF G E S' H' t' m' σ' e' :=
  ⟨h'.si, h.below.trans h'.fr, fun i d a h1 h2 => by
    have q := h'.ow i d a h1 h2
    cases q' : E.H a with
    | none => rfl
    | some o => exact absurd q (h.below.dom a (by rw [q']; simp))⟩
theorem SF.onSub (h : SF G E S H t m σ e) (h' : Stp S (ground H σ e) t S' H' t') : Sub S S' := fun a o q => by
  have z : ground H σ e a = H a := ground_not fun ⟨i, d, h1, h2⟩ => by
    obtain ⟨b, h3, h4⟩ := h.si.own i d h1
    rw [h2] at h3
    cases h3
    rw [h4.off] at q; cases q
  exact (h'.hs a (by rw [z, h.si.hi.sub a o q]; simp)).trans q
end
section
variable {X : Cx} {G : Cfg} {W : WX} {E : Snap} {a b c : Expr} {fs : EvA} {tc : EvT} {f g : EvS} {pos : Pos}
theorem ds_while {body : List Stmt} (hp : PassesOwn (model X.prog X.w) X.A X.env X.xe) (hc : PT X c (semT G W tc)) (hb : PSs X body (semS G W E f)) : PS X (.While c body [] pos) (semS G W E (whileS tc f)) := by
  refine (ps_while hp hc hb).imp fun D σ H ⟨S, t, m, e, sf, h⟩ => ?_
  by_cases hx : ∃ n r, runW G.C tc f n e m = some r
  · obtain ⟨n, r, hr⟩ := hx
    rw [whileS_run hr] at h
    refine ⟨fun k σ H => ∃ S t m e r, SF G E S H t m σ e ∧ runW G.C tc f k e m = some r ∧ GS G W E D r, ⟨n, S, t, m, e, r, sf, hr, h⟩, ?_⟩
    rintro k σ H ⟨S, t, m, e, r, sf, hr, h⟩
    cases k with
    | zero => cases hr
    | succ k =>
    unfold runW turnW at hr
    refine ⟨S, t, m, e, sf.si, ?_⟩
    cases hc' : tc G.C e m with
    | stuck =>
      rw [hc'] at hr
      cases hr
      exact h
    | exc k' fs' m1 =>
      rw [hc'] at hr
      cases hr
      exact fun S' H' t' cls dx p i x => h S' H' t' σ cls dx (sf.stp p i) x
    | ok kb m1 =>
      rw [hc'] at hr
      intro S1 H1 t1 p1 i1
      have sf1 := sf.stp p1 i1
      cases kb with
      | false =>
        dsimp only at hr
        cases hr
        exact h S1 H1 t1 σ sf1
      | true =>
        dsimp only at hr
        refine ⟨fun σ' H' => ∃ S t m e r, SF G E S H' t m σ' e ∧ runW G.C tc f k e m = some r ∧ GS G W E D r, fun σ' H' q => ⟨k, Nat.lt_succ_self k, q⟩, S1, t1, m1, e, sf1, ?_⟩
        cases hb' : f G.C e m1 with
        | nx e2 m2 => rw [hb'] at hr; exact fun S' H' t' σ' sf' => ⟨S', t', m2, e2, r, sf', hr, h⟩
        | ct e2 m2 => rw [hb'] at hr; exact fun S' H' t' σ' sf' => ⟨S', t', m2, e2, r, sf', hr, h⟩
        | brk e2 m2 => rw [hb'] at hr; cases hr; exact h
        | ret d m2 => rw [hb'] at hr; cases hr; exact h
        | exc k' fs' e2 m2 => rw [hb'] at hr; cases hr; exact h
        | stuck => rw [hb'] at hr; cases hr; exact h
  · unfold whileS at h
    rw [dif_neg hx] at h
    exact h.elim
theorem ds_for {tg iter : Expr} {body : List Stmt} {gg : Tg} (hp : PassesOwn (model X.prog X.w) X.A X.env X.xe) (hc : X.calm = true) (hi : PI X tg iter (semI G W fs)) (hg : PG X tg (semG G.K G.x gg)) (hb : ∀ E, PSs X body (semS G W E f))
    (hs : ∀ x, foldedSetIterable iter X.env x = pure x := by intro _; rfl) : PS X (.For tg iter body [] pos) (semS G W E (forS fs gg f)) := by
  have hb' : PSs X body (fun D σ H => ∃ E, semS G W E f D σ H) := ⟨fun pins s σ H D I ⟨E, h⟩ => (hb E).run pins s σ H D I h⟩
  refine (ps_for hp hc hi hg hb' hs).imp fun D σ H ⟨S, t, m, e, sf, h⟩ => ⟨S, t, m, e, sf.si, (GS.lift sf h).imp fun S1 H1 t1 m1 ds p1 i1 h1 J it => ?_⟩
  have sf1 := sf.stp p1 i1
  refine ⟨fun i k σ H => k = ds.length - i ∧ i ≤ ds.length ∧ ∃ S2 t2 m2 e2, SF G E S2 H t2 m2 σ e2 ∧ Sub S1 S2 ∧ TSub t1 t2 ∧ GS G W E D (forL G.C gg f (ds.drop i) e2 m2), ⟨ds.length, by simp, Nat.zero_le _, S1, t1, m1, e, sf1, .refl _, .refl _, h1⟩, ?_⟩
  rintro i k σ2 H2 ⟨rfl, hi', S2, t2, m2, e2, sf2, ss, ts, h2⟩
  by_cases hlt : i < ds.length
  · right
    have hx : ds[i]? = some ds[i] := List.getElem?_eq_getElem hlt
    obtain ⟨hgo, hy⟩ := it.go i _ S2 H2 t2 m2 hx ss ts sf2.si.hi
    refine ⟨hgo, fun σ' H' => i + 1 ≤ ds.length ∧ ∃ S2 t2 m2 e2, SF G E S2 H' t2 m2 σ' e2 ∧ Sub S1 S2 ∧ TSub t1 t2 ∧ GS G W E D (forL G.C gg f (ds.drop (i + 1)) e2 m2), fun σ' H' q => ⟨ds.length - (i + 1), by omega, rfl, q⟩, fun x H3 y => ?_⟩
    obtain ⟨S3, p3, i3, r3⟩ := hy x H3 y
    have sf3 := sf2.stp p3 i3
    rw [List.drop_eq_getElem_cons hlt] at h2
    unfold forL at h2
    cases ha : asg gg ds[i] e2 with
    | none => rw [ha] at h2; exact h2.elim
    | some e3 =>
      rw [ha] at h2
      dsimp only at h2
      refine ⟨S3, t2, m2, e2, _, e3, sf3.si, r3, ha, fun σ' si' o' _ => ?_⟩
      have sf4 : SF G E S3 H3 t2 m2 σ' e3 := ⟨si', sf3.fr, sf3.ow.sub o'⟩
      have ss3 : Sub S1 S3 := ss.trans (sf2.si.hi.ssub p3)
      refine ⟨Snap.at S3 H3 t2 σ' e3, S3, t2, m2, e3, sf4.on, ?_⟩
      cases hr : f G.C e3 m2 with
      | nx e4 m4 =>
        rw [hr] at h2
        exact fun S' H' t' σ4 sf' => ⟨hlt, S', t', m4, e4, sf4.off sf', ss3.trans (sf4.onSub sf'.fr), ts.trans sf'.fr.th, h2⟩
      | ct e4 m4 =>
        rw [hr] at h2
        exact fun S' H' t' σ4 sf' => ⟨hlt, S', t', m4, e4, sf4.off sf', ss3.trans (sf4.onSub sf'.fr), ts.trans sf'.fr.th, h2⟩
      | brk e4 m4 => rw [hr] at h2; exact fun S' H' t' σ4 sf' => h2 S' H' t' σ4 (sf4.off sf')
      | ret d m4 => rw [hr] at h2; exact fun S' H' t' v i p r => h2 S' H' t' v i (sf4.below.trans p) r
      | exc k' fs' e4 m4 => rw [hr] at h2; exact fun S' H' t' σ4 cls dx sf' x => h2 S' H' t' σ4 cls dx (sf4.off sf') x
      | stuck => rw [hr] at h2; exact h2.elim
  · left
    have e0 : i = ds.length := by omega
    subst e0
    rw [List.drop_length] at h2
    exact ⟨it.stop S2 H2 t2 m2 ss ts sf2.si.hi, h2 S2 H2 t2 σ2 sf2⟩
end
end Dn
/-! Several names at once, comprehensions given to a name, the store's items, errors. -/
namespace Dn
open PySem L2

/-! ### a, b = x, y -/
abbrev EvM := Orc → Env → Store → R (List (Bool × D))
inductive MRs (K : KW) (S H : Hp) (t : Th) : List V → List (Bool × D) → List Addr → Prop
  | nil : MRs K S H t [] [] []
  | dat {v : V} {d : D} {vs : List V} {ds : List (Bool × D)} {as : List Addr} : DR K S t v d → MRs K S H t vs ds as → MRs K S H t (v :: vs) ((false, d) :: ds) as
  | own {p : Addr} {d : D} {vs : List V} {ds : List (Bool × D)} {as : List Addr} : OwnAt K S H t p d → p ∉ as → MRs K S H t vs ds as → MRs K S H t (.ref p :: vs) ((true, d) :: ds) (p :: as)
@[simp] def nilM : EvM := fun _ _ m => .ok [] m
@[simp] def consM (a : EvE) (r : EvM) : EvM := fun C e m => (a C e m).bind fun x m1 => (r C e m1).bind fun xs m2 => .ok ((false, x) :: xs) m2
@[simp] def newM (a : EvA) (r : EvM) : EvM := fun C e m => (a C e m).bind fun x m1 => (r C e m1).bind fun xs m2 => .ok ((true, .lst x) :: xs) m2
def semM (G : Cfg) (W : WX) (f : EvM) : TA := fun σ H Q => ∃ S t m e, SI G.K G.x S H t m σ e ∧ Gd G W σ S H t (f G.C e m) fun S' H' t' _ ds => ∀ vs as, MRs G.K S' H' t' vs ds as → (∀ q, q ∈ as → H q = none) → Q vs H'
@[simp] def parO : List Nat → List (Bool × D) → Env → Option Env
  | [], [], e => some e
  | i :: is, (b, d) :: ds, e => if i < e.length then parO is ds (e.set i (if b = true then .own d else .dat d)) else none
  | _, _, _ => none
@[simp] def parS (is : List Nat) (f : EvM) : EvS := fun C e m => liftS (f C e m) e fun ds m1 => .of (parO is ds e) m1
theorem parO_len : ∀ (is : List Nat) (ds : List (Bool × D)) (e e' : Env), parO is ds e = some e' → ds.length = is.length
  | [], [], _, _, _ => rfl
  | [], _ :: _, _, _, h => by unfold parO at h; cases h
  | _ :: _, [], _, _, h => by unfold parO at h; cases h
  | i :: is, (b, d) :: ds, e, e', h => by
    unfold parO at h
    split at h
    · have := parO_len is ds _ e' h
      simp [this]
    · cases h
def setAll : St → List Nat → List V → St
  | σ, i :: is, v :: vs => setAll (σ.set i (some v)) is vs
  | σ, _, _ => σ
section
variable {K : KW} {G : Cfg} {W : WX} {E : Snap} {S H S' H' : Hp} {t t' : Th} {m : Store}
theorem MRs.stp {vs : List V} {ds : List (Bool × D)} {as : List Addr} (i : HI K S H t m) (p : Stp S H t S' H' t') (h : MRs K S H t vs ds as) : MRs K S' H' t' vs ds as := by
  induction h with
  | nil => exact .nil
  | dat r _ ih => exact .dat (r.stp i p) ih
  | own o n _ ih => exact .own (o.stp i p) n ih
theorem SF.all {is : List Nat} : ∀ {σ : St} {e e' : Env} {vs : List V} {ds : List (Bool × D)} {as : List Addr}, SF G E S H t m σ e → MRs G.K S H t vs ds as → (∀ q, q ∈ as → E.H q = none ∧ ∀ (k : Nat) c, e[k]? = some (.own c) → σ[k]? ≠ some (some (.ref q))) → parO is ds e = some e' → SF G E S H t m (setAll σ is vs) e' := by
  induction is with
  | nil =>
    intro σ e e' vs ds as sf r n h
    cases r with
    | nil => unfold parO at h; cases h; exact sf
    | dat => unfold parO at h; cases h
    | own => unfold parO at h; cases h
  | cons i is ih =>
    intro σ e e' vs ds as sf r n h
    cases r with
    | nil => unfold parO at h; cases h
    | dat r rs =>
      unfold parO at h
      split at h
      · rename_i hi
        obtain ⟨q1, q2⟩ := sf.si.set hi r
        refine ih ⟨q1, sf.fr, sf.ow.sub q2⟩ rs (fun q hq => ⟨(n q hq).1, fun k c h1 h2 => ?_⟩) h
        obtain ⟨q3, q4⟩ := q2 k c h1
        rw [q4] at h2
        exact (n q hq).2 k c q3 h2
      · cases h
    | @own p d vs ds as o no rs =>
      unfold parO at h
      split at h
      · rename_i hi
        obtain ⟨n1, n2⟩ := n p List.mem_cons_self
        refine ih (sf.setOwn hi o (fun k c _ => n2 k c) n1) rs (fun q hq => ⟨(n q (List.mem_cons_of_mem _ hq)).1, fun k c h1 h2 => ?_⟩) h
        by_cases z : k = i
        · subst z
          rw [List.getElem?_set_self (by rw [sf.si.len]; exact hi)] at h2
          cases h2
          exact no hq
        · have h1' : (e.set i (.own d))[k]? = some (.own c) := h1
          rw [List.getElem?_set_ne (Ne.symm z)] at h1' h2
          exact (n q (List.mem_cons_of_mem _ hq)).2 k c h1' h2
      · cases h
end
section
variable {X : Cx} {G : Cfg} {W : WX} {E : Snap} {a b c : Expr} {es : List Expr} {fa fb fk fo : EvE} {fs : EvA} {fm : EvM} {tc : EvT} {f g : EvS} {pos : Pos}
theorem dm_nil : PA X [] (semM G W nilM) := (pa_nil (X := X)).imp fun σ H Q ⟨S, t, m, e, si, g⟩ => g.now si.hi [] [] .nil fun _ h => nomatch h
theorem dm_cons (ha : PE X a (semE G W fa)) (hr : PA X es (semM G W fm)) (hs : starEach (a :: es) X.env = (false, eval a X.env) :: starEach es X.env := by rfl) : PA X (a :: es) (semM G W (consM fa fm)) := by
  refine (pa_cons ha hr hs).imp fun σ H Q ⟨S, t, m, e, si, g⟩ => ⟨S, t, m, e, si, (Gd.sp g).imp fun S1 H1 t1 m1 x p1 i1 h1 v rv => ?_⟩
  refine ⟨S1, t1, m1, e, si.stp p1 i1, (Gd.sp h1).imp fun S2 H2 t2 m2 xs p2 i2 h2 vs as rs n => ?_⟩
  refine Gd.now h2 i2 (v :: vs) as (.dat (rv.stp i1 p2) rs) fun q hq => ?_
  cases z : H q with
  | none => rfl
  | some o => exact absurd (n q hq) (p1.dom q (by rw [z]; simp))
theorem dm_new (ha : PE X a (semF G W fs)) (hr : PA X es (semM G W fm)) (hs : starEach (a :: es) X.env = (false, eval a X.env) :: starEach es X.env := by rfl) : PA X (a :: es) (semM G W (newM fs fm)) := by
  refine (pa_cons ha hr hs).imp fun σ H Q ⟨S, t, m, e, si, g⟩ => ⟨S, t, m, e, si, (Gd.sp g).imp fun S1 H1 t1 m1 x p1 i1 h1 p ho hn => ?_⟩
  refine ⟨S1, t1, m1, e, si.stp p1 i1, (Gd.sp h1).imp fun S2 H2 t2 m2 xs p2 i2 h2 vs as rs n => ?_⟩
  refine Gd.now h2 i2 (.ref p :: vs) (p :: as) (.own (ho.stp i1 p2) (fun z => ho.there (n p z)) rs) fun q hq => ?_
  rcases List.mem_cons.mp hq with e | hq
  · rw [e]; exact hn
  · cases z : H q with
    | none => rfl
    | some o => exact absurd (n q hq) (p1.dom q (by rw [z]; simp))
theorem sem_par {is : List Nat} {D : Ends} {σ : St} {H : Hp} (h : semS G W E (parS is fm) D σ H) : semM G W fm σ H fun vs H1 => vs.length = is.length ∧ D.nx (setAll σ is vs) H1 := by
  obtain ⟨S, t, m, e, sf, h⟩ := h
  refine ⟨S, t, m, e, sf.si, (GS.lift sf h).imp fun S1 H1 t1 m1 ds p1 i1 h1 vs as rs n => ?_⟩
  cases ho : parO is ds e with
  | none => rw [ho] at h1; exact h1.elim
  | some e' =>
    rw [ho] at h1
    have sf1 := sf.stp p1 i1
    refine ⟨?_, h1 S1 H1 t1 _ (sf1.all rs (fun q hq => ?_) ho)⟩
    · have lem := parO_len is ds e e' ho
      have l2 : vs.length = ds.length := by
        clear h1 ho n lem
        induction rs with
        | nil => rfl
        | dat _ _ ih => simp [ih]
        | own _ _ _ ih => simp [ih]
      rw [l2]; exact lem
    · have hq' := n q hq
      obtain ⟨q1, q2⟩ := sf.newOwn hq'
      exact ⟨q2, q1⟩
theorem ds_par2 {i j : Nat} {x y : Str} {px py pt : Pos} {kt k2 pt2} (hc : X.calm = true) (hN : X.N.Nodup) (hi : X.N[i]? = some x) (hj : X.N[j]? = some y) (hij : i ≠ j)
    (hx : X.env.scope.names.lookup x = some .local) (hy : X.env.scope.names.lookup y = some .local) (ha : PA X [a, b] (semM G W fm))
    (hw : swappedStores [.Tuple [.Name x px, .Name y py] kt pt] (.Tuple [a, b] k2 pt2) X.env = pure (some [x, y]))
    (hs : swapsWithSole [.Tuple [.Name x px, .Name y py] kt pt] (.Tuple [a, b] k2 pt2) pos.line X.env = pure false := by rfl) :
    PS X (.Assign [.Tuple [.Name x px, .Name y py] kt pt] (.Tuple [a, b] k2 pt2) pos) (semS G W E (parS [i, j] fm)) := by
  refine (ps_par hc hN hi hj hij hx hy ha hw hs).imp fun D σ H h => ?_
  obtain ⟨S, t, m, e, si, g⟩ := sem_par h
  refine ⟨S, t, m, e, si, g.imp fun S' H' t' m' ds p i q vs as rs n => ?_⟩
  obtain ⟨l, q⟩ := q vs as rs n
  match vs, l with
  | [v, w], _ => exact ⟨v, w, rfl, q⟩
theorem ds_par3 {i j l : Nat} {x y z : Str} {px py pz pt : Pos} {kt k2 pt2} (hc : X.calm = true) (hN : X.N.Nodup) (hi : X.N[i]? = some x) (hj : X.N[j]? = some y) (hl : X.N[l]? = some z) (hij : i ≠ j) (hil : i ≠ l) (hjl : j ≠ l)
    (hx : X.env.scope.names.lookup x = some .local) (hy : X.env.scope.names.lookup y = some .local) (hz : X.env.scope.names.lookup z = some .local) (ha : PA X [a, b, c] (semM G W fm))
    (hw : swappedStores [.Tuple [.Name x px, .Name y py, .Name z pz] kt pt] (.Tuple [a, b, c] k2 pt2) X.env = pure (some [x, y, z]))
    (hs : swapsWithSole [.Tuple [.Name x px, .Name y py, .Name z pz] kt pt] (.Tuple [a, b, c] k2 pt2) pos.line X.env = pure false := by rfl) :
    PS X (.Assign [.Tuple [.Name x px, .Name y py, .Name z pz] kt pt] (.Tuple [a, b, c] k2 pt2) pos) (semS G W E (parS [i, j, l] fm)) := by
  refine (ps_par3 hc hN hi hj hl hij hil hjl hx hy hz ha hw hs).imp fun D σ H h => ?_
  obtain ⟨S, t, m, e, si, g⟩ := sem_par h
  refine ⟨S, t, m, e, si, g.imp fun S' H' t' m' ds p i q vs as rs n => ?_⟩
  obtain ⟨l, q⟩ := q vs as rs n
  match vs, l with
  | [v, w, u], _ => exact ⟨v, w, u, rfl, q⟩

/-! ### name = [..] -/
theorem ds_ownLc {i : Nat} {y : Str} {py : Pos} {elt tg iter : Expr} {ifs : List Expr} {scope : Scope} {own : List (Str × Nat)} {lpos spos : Pos} {fi : EvA} {g : Tg} {tt : EvT} {te : EvE} (hc : X.calm = true) (hN : X.N.Nodup) (hy : X.N[i]? = some y) (hyl : X.env.scope.names.lookup y = some .local)
    (hsw : swapsWith (.ListComp elt [⟨tg, iter, ifs, 0⟩] scope lpos) (some (.Name y py)) spos.line X.env = pure true) (hi : PI X tg iter (semI G W fi)) (ok : BlkOk X.N X.env.scope scope own) (hv : (tslots g).all (fun j => (own.map (·.2)).contains j) = true)
    (hg : ∀ (s : Shared) (H : Hp) (C : Addr) (cl : List (Str × Addr)) (fp : List Addr), PG (X.blk s H scope (compEnvC scope cl C X.env) fp) tg (semG G.K G.x g)) (ht : ∀ (s : Shared) (H : Hp) (C : Addr) (cl : List (Str × Addr)) (fp : List Addr), PTs (X.blk s H scope (compEnvC scope cl C X.env) fp) ifs (semT G W0 tt))
    (he : ∀ (s : Shared) (H : Hp) (C : Addr) (cl : List (Str × Addr)) (fp : List Addr), PE (X.blk s H scope (compEnvC scope cl C X.env) fp) elt (semE G W0 te)) (hs : ∀ x, foldedSetIterable iter X.env x = pure x := by intro _; rfl) :
    PS X (.Assign [.Name y py] (.ListComp elt [⟨tg, iter, ifs, 0⟩] scope lpos) spos) (semS G W E (ownS i (lcF fi g tt te (own.map (·.2))))) :=
  (ps_setLc hc hN hy hyl hsw hi ok hg ht he hs).imp fun D σ H h => sem_lc (lc_ws hv) (sem_own h)
theorem ds_setLc {i : Nat} {y : Str} {py : Pos} {elt tg iter : Expr} {ifs : List Expr} {scope : Scope} {own : List (Str × Nat)} {lpos spos : Pos} {fi : EvA} {g : Tg} {tt : EvT} {te : EvE} (hc : X.calm = true) (hN : X.N.Nodup) (hy : X.N[i]? = some y) (hyl : X.env.scope.names.lookup y = some .local)
    (hsw : swapsWith (.ListComp elt [⟨tg, iter, ifs, 0⟩] scope lpos) (some (.Name y py)) spos.line X.env = pure true) (hi : PI X tg iter (semI G W fi)) (ok : BlkOk X.N X.env.scope scope own) (hv : (tslots g).all (fun j => (own.map (·.2)).contains j) = true)
    (hg : ∀ (s : Shared) (H : Hp) (C : Addr) (cl : List (Str × Addr)) (fp : List Addr), PG (X.blk s H scope (compEnvC scope cl C X.env) fp) tg (semG G.K G.x g)) (ht : ∀ (s : Shared) (H : Hp) (C : Addr) (cl : List (Str × Addr)) (fp : List Addr), PTs (X.blk s H scope (compEnvC scope cl C X.env) fp) ifs (semT G W0 tt))
    (he : ∀ (s : Shared) (H : Hp) (C : Addr) (cl : List (Str × Addr)) (fp : List Addr), PE (X.blk s H scope (compEnvC scope cl C X.env) fp) elt (semE G W0 te)) (hs : ∀ x, foldedSetIterable iter X.env x = pure x := by intro _; rfl) :
    PS X (.Assign [.Name y py] (.ListComp elt [⟨tg, iter, ifs, 0⟩] scope lpos) spos) (semS G W E (asgS (.nm i) (frzE (lcF fi g tt te (own.map (·.2)))))) := by
  refine (ps_setLc hc hN hy hyl hsw hi ok hg ht he hs).imp fun D σ H h => sem_lc (lc_ws hv) ?_
  have h1 := sem_set h
  obtain ⟨S, t, m, e, si, g⟩ := h1
  refine ⟨S, t, m, e, si, ?_⟩
  unfold frzE at g
  revert g
  cases lcF fi g tt te (own.map (·.2)) G.C e m with
  | ok ys m2 =>
    intro g S' H' t' q i p ho hn
    obtain ⟨S2, q2, i2, r⟩ := ho.settle i q hn
    exact g S2 H' t' q2 i2 _ r
  | exc c fs m' => exact id
  | stuck => exact id

/-! ### an item of a list of the store op= e -/
def rGetS : V → V → Hp → VK → Prop := fun x y H Q => ∃ p xs k v, x = .ref p ∧ y = .int k ∧ H p = some (.lst xs) ∧ 0 ≤ k ∧ k < (xs.length : Int) ∧ xs[k.toNat]? = some v ∧ Q v H
theorem pg_get {X : Cx} : PGet X rGetS := by
  intro pins s σ H o i ov iv Q I ro ri h
  obtain ⟨p, xs, k, v, rfl, rfl, hH, h0, h1, hx, q⟩ := h
  cases ro
  obtain ⟨t, rfl⟩ := ri
  obtain ⟨its, r, pl, hz⟩ := I.list (.of hH)
  obtain ⟨u, hu, ru⟩ := r.get hx
  have hl := r.length
  have hn := line63
  refine wpAny_getItem_list pl.isList h0 (by omega) (x := u) (by simpa using hu) ⟨v, H, I, ru, q⟩
theorem ds_stoAug {op : Operator} {gg : Store → D → D → Option D} {tpos : Pos} (hp : OpD X (inplaceOp op) gg) (hK : X.kw = G.K) (ho : PE X b (semE G W fo)) (hk : PE X c (semE G W fk)) (ha : PE X a (semE G W fa))
    (hst : ∀ ov iv new, augStore c ov iv new = (do holding [new, ov, iv] (setItem ov iv new); release [new, ov, iv] []; pure .next) := by intros; rfl) : PS X (.AugAssign (.Subscript b c tpos) op a pos) (semS G W E (stoAug gg fo fk fa)) := by
  obtain ⟨r, r1, r2⟩ := hp
  refine (ps_augS (tip := r) ho hk pg_get ha r1 set_list hst).imp fun D σ H ⟨S, t, m, e, sf, h⟩ => ⟨S, t, m, e, sf.si, (GS.lift sf h).imp fun S1 H1 t1 m1 o p1 i1 h1 v rv => ?_⟩
  have sf1 := sf.stp p1 i1
  refine ⟨S1, t1, m1, e, sf1.si, (GS.lift sf1 h1).imp fun S2 H2 t2 m2 k p2 i2 h2 w rw' => ?_⟩
  have sf2 := sf1.stp p2 i2
  have get : ∀ {S H t m}, HI G.K S H t m → DR G.K S t v o → DR G.K S t w k → ∀ {n xs j x}, stoGet m o k = some (n, xs, j, x) → ∃ p vs kk u, v = .ref p ∧ w = .int kk ∧ t n = some p ∧ H p = some (.lst vs) ∧ DRs G.K S t vs xs ∧ 0 ≤ kk ∧ kk < (vs.length : Int) ∧ kk.toNat = j ∧ vs[kk.toNat]? = some u ∧ DR G.K S t u x ∧ m[n]? = some (.lst xs) := by
    intro S H t m hi hv hw n xs j x hg
    cases hv with
    | @ref n' a' hn =>
      cases hw with
      | int kk =>
        unfold stoGet at hg
        dsimp only at hg
        cases hm : m[n']? with
        | none => rw [hm] at hg; cases hg
        | some ob =>
          rw [hm] at hg
          cases ob with
          | gone => cases hg
          | ins _ _ => cases hg
          | dct _ => cases hg
          | lst ys =>
            dsimp only at hg
            split at hg
            · rename_i hc
              obtain ⟨c1, c2, c3⟩ := hc
              cases hx : ys[kk.toNat]? with
              | none => rw [hx] at hg; cases hg
              | some x' =>
                rw [hx] at hg
                cases hg
                obtain ⟨p, vs, e1, e2, e3⟩ := hi.sto _ _ hm
                rw [hn] at e1
                cases e1
                obtain ⟨u, u1, u2⟩ := e3.get hx
                exact ⟨a', vs, kk, u, rfl, rfl, hn, e2, e3, c1, by rw [e3.length]; exact c2, rfl, u1, u2, hm⟩
            · cases hg
      | _ => cases hg
    | _ => cases hg
  split at h2
  · rename_i n xs j x hg
    obtain ⟨p, vs, kk, u, rfl, rfl, ht, hH, hd, c1, c2, c3, u1, u2, hm⟩ := get i2 (rv.stp i1 p2) rw' hg
    refine ⟨p, vs, kk, u, rfl, rfl, hH, c1, c2, u1, S2, t2, m2, e, sf2.si, (GS.lift sf2 h2).imp fun S3 H3 t3 m3 d p3 i3 h3 z rz => ?_⟩
    have sf3 := sf2.stp p3 i3
    split at h3
    · rename_i n' xs' j' x' hg'
      obtain ⟨p', vs', kk', u', e1, e2, ht', hH', hd', c1', c2', c3', u1', u2', hm'⟩ := get i3 ((rv.stp i1 p2).stp i2 p3) (rw'.stp i2 p3) hg'
      cases e1
      cases e2
      split at h3
      · rename_i zz hz
        refine r2 S3 H3 t3 m3 u z x d zz _ (hK ▸ i3) (hK ▸ .inl (u2.stp i2 p3)) (hK ▸ .inl rz) hz fun y S4 H4 p4 i4 ry => ?_
        have i4 : HI G.K S4 H4 t3 m3 := hK ▸ i4
        have sf4 := sf3.stp p4 i4
        obtain ⟨p'', vs'', kk'', u'', e1, e2, ht'', hH'', hd'', c1'', c2'', c3'', u1'', u2'', hm''⟩ := get i4 (((rv.stp i1 p2).stp i2 p3).stp i3 p4) ((rw'.stp i2 p3).stp i3 p4) hg'
        cases e1
        cases e2
        have hix : ixN vs''.length kk = some kk.toNat := by
          unfold ixN
          rw [if_pos c1, if_pos c2'']
        refine ⟨p, vs'', kk, kk.toNat, rfl, rfl, hH'', hix, ?_⟩
        obtain ⟨i5, p5⟩ := sto_hi i4 ht'' hm'' (hd''.set kk.toNat (hK ▸ ry))
        have sf5 := sf4.stp p5 i5
        subst c3''
        exact h3 _ _ _ _ sf5
      · exact h3.elim
    · exact h3.elim
  · exact h2.elim
end
end Dn
/-! Errors: raise, try. -/
namespace Dn
open PySem L2

/-- an expression that makes an error of the class c with these fields -/
def semX (G : Cfg) (W : WX) (c : Nat) (f : EvA) : L2.St → Hp → XK → Prop := fun σ H Q => ∃ S t m e, SI G.K G.x S H t m σ e ∧ Gd G W σ S H t (f G.C e m) fun S' H' t' m' ds => ∀ S2 H2 cls dx, Stp S' H' t' S2 H2 t' → HI G.K S2 H2 t' m' → EXR G S2 H2 t' c ds cls dx → Q cls dx H2
@[simp] def raiseS (c : Nat) (f : EvA) : EvS := fun C e m => liftS (f C e m) e fun ds m1 => .exc c ds e m1
@[simp] def plainC : Cell → Bool
  | .exn _ _ => false
  | _ => true
/-- behind an except suite -/
@[simp] def behind (i : Nat) (r : SR) : SR := match r with
  | .nx e m => if (e.set i .em).all plainC = true then .nx (e.set i .em) m else .stuck
  | .ct e m => if (e.set i .em).all plainC = true then .ct (e.set i .em) m else .stuck
  | .brk e m => if (e.set i .em).all plainC = true then .brk (e.set i .em) m else .stuck
  | .ret d m => .ret d m
  | _ => .stuck
@[simp] def tryS (c i : Nat) (b s : EvS) : EvS := fun C e m => match b C e m with
  | .exc c' fs e1 m1 => if c' = c then (if i < e1.length then behind i (s C (e1.set i (.exn c fs)) m1) else .stuck) else .exc c' fs e1 m1
  | r => r
/-- n.f, n the error that is handled -/
@[simp] def xfE (i j : Nat) : EvE := fun _ e m => match e[i]? with
  | some (.exn _ fs) => match fs[j]? with
    | some d => .ok d m
    | none => .stuck
  | _ => .stuck

section
variable {X : Cx} {G : Cfg} {W : WX} {E : Snap} {a b c : Expr} {es : List Expr} {fa fb : EvE} {fs : EvA} {f g : EvS} {pos : Pos}
theorem ds_raise {c : Nat} {e : Expr} (hc : X.calm = true) (tk : L2N.Takes X W) (he : L2N.PMk X e (semX G W c fs)) : PS X (.Raise (some e) none pos) (semS G W E (raiseS c fs)) := by
  refine (L2N.ps_raise hc tk he).imp fun D σ H ⟨S, t, m, e, sf, h⟩ => ⟨S, t, m, e, sf.si, (GS.lift sf h).imp fun S1 H1 t1 m1 ds p1 i1 h1 S2 H2 cls dx p2 i2 x => ?_⟩
  exact h1 S2 H2 t1 σ cls dx ((sf.stp p1 i1).stp p2 i2) x
theorem SI.noExn {K : KW} {S H : Hp} {t : Th} {m : Store} {σ : L2.St} {e : Env} (h : SI K none S H t m σ e) (i : Nat) (c : Nat) (fs : List D) : e[i]? ≠ some (.exn c fs) := fun q => by
  obtain ⟨v, _, x⟩ := h.exn i c fs q
  obtain ⟨_, _, _, _, z, _⟩ := x.ex
  cases z
/-- the slot of the error's name -/
theorem SF.bindX {E : Snap} {S H : Hp} {t : Th} {m : Store} {σ : L2.St} {e : Env} {i a d c : Nat} {ns : List Str} {vs : List V} {fs : List D} (hx : G.x = none) (h : SF G E S H t m σ e) (hi : i < e.length) (hd : S d = some (.xd (ns.zip vs))) (hf : DRs G.K S t vs fs) (hl : vs.length = ns.length) :
    SF { G with x := some (a, d, ns) } E S H t m (σ.set i (some (.ref a))) (e.set i (.exn c fs)) := by
  have hs : i < σ.length := by rw [h.si.len]; exact hi
  have si := h.si
  rw [hx] at si
  have el : ∀ (k : Nat) q, (e.set i (.exn c fs))[k]? = some q → (∀ c fs, q ≠ .exn c fs) → e[k]? = some q ∧ (σ.set i (some (.ref a)))[k]? = σ[k]? := fun k q h1 h2 => by
    by_cases z : k = i
    · subst z; rw [List.getElem?_set_self hi] at h1; cases h1; exact absurd rfl (h2 _ _)
    · rw [List.getElem?_set_ne (Ne.symm z)] at h1 ⊢; exact ⟨h1, rfl⟩
  refine ⟨⟨si.hi, by simp [si.len], fun k q h1 => ?_, fun k q h1 => ?_, fun k l q q' b h1 h2 h3 h4 => ?_, fun k q gs h1 => ?_⟩, h.fr, fun k q b h1 h2 => ?_⟩
  · obtain ⟨q1, q2⟩ := el k _ h1 (by intros; simp)
    rw [q2]; exact si.dat k q q1
  · obtain ⟨q1, q2⟩ := el k _ h1 (by intros; simp)
    rw [q2]; exact si.own k q q1
  · obtain ⟨q1, q2⟩ := el k _ h1 (by intros; simp)
    obtain ⟨q3, q4⟩ := el l _ h2 (by intros; simp)
    rw [q2] at h3; rw [q4] at h4
    exact si.apart k l q q' b q1 q3 h3 h4
  · by_cases z : k = i
    · subst z
      rw [List.getElem?_set_self hi] at h1
      cases h1
      exact ⟨_, List.getElem?_set_self hs, a, d, ns, vs, rfl, rfl, hd, hf, hl⟩
    · rw [List.getElem?_set_ne (Ne.symm z)] at h1
      exact absurd h1 (si.noExn k q gs)
  · obtain ⟨q1, q2⟩ := el k _ h1 (by intros; simp)
    rw [q2] at h2
    exact h.ow k q b q1 h2
theorem SF.unbindX {E : Snap} {S H : Hp} {t : Th} {m : Store} {σ : L2.St} {e : Env} {i : Nat} {x : Gh} (hx : G.x = none) (h : SF { G with x := x } E S H t m σ e) (hp : (e.set i .em).all plainC = true) : SF G E S H t m (σ.set i none) (e.set i .em) := by
  have q := h.si.drop i
  refine ⟨⟨q.hi, q.len, q.dat, q.own, q.apart, fun k c fs z => ?_⟩, h.fr, fun k c b h1 h2 => ?_⟩
  · have := List.all_eq_true.mp hp _ (List.mem_of_getElem? z)
    cases this
  · by_cases z : k = i
    · subst z
      by_cases hk : k < e.length
      · rw [List.getElem?_set_self hk] at h1; cases h1
      · rw [List.getElem?_eq_none (by simpa using hk)] at h1; cases h1
    · rw [List.getElem?_set_ne (Ne.symm z)] at h1 h2
      exact h.ow k c b h1 h2
theorem ds_try {x n : Str} {C : Addr} {ns : List Str} {c i : Nat} {body suite : List Stmt} {b₀ : Stmt} {np pos pos' : Pos} {fb fsu : EvS} (hs : X.stack = X.env :: X.outer) (hf : X.env.frame = some X.env.locals) (hN : X.N.Nodup) (hi : X.N[i]? = some n) (hln : X.env.kindOf n = some .local)
    (hc : Names X x (.ref C)) (tk : L2N.Takes X W) (hK : X.kw = G.K) (hx : G.x = none) (hX : G.X c = some (C, ns)) (hm : ∀ c' C' ns', G.X c' = some (C', ns') → PySem.W.exmOne X.K (.ref C') (.ref C) = some (decide (c' = c)))
    (hb : ∀ (W : WX) (E : Snap) (pn : List (Addr × Obj)) (xe : Value → Shared → Prop), L2N.Takes (X.tr pn xe) W → PassesOwn (model X.prog X.w) X.A X.env xe → PSs (X.tr pn xe) body (semS G W E fb))
    (hsu : ∀ (E : Snap) (a d : Addr) (oe : Obj) (pn : List (Addr × Obj)), L2N.Zn (.ref C) (some d) oe → (∃ vs, oe.data = .fields vs) → PSs (X.suite a ((a, oe) :: pn)) (b₀ :: suite) (semS { G with x := some (a, d, ns) } W0 E fsu)) :
    PS X (.Try body [.ExceptHandler (some (.Name x np)) (some n) (b₀ :: suite) pos'] [] [] pos) (semS G W E (tryS c i fb fsu)) := by
  refine (L2N.ps_try_as (c := .ref C) (i := i) (Wout := W) (tb := fun W' D σ H => semS G W' E fb D σ H)
    (ts := fun a cls dx D σ H => ∃ d, cls = .ref C ∧ dx = some d ∧ semS { G with x := some (a, d, ns) } W0 E fsu D σ H) hs hf hN hi hln hc tk (fun W' pn xe tk' po => hb W' E pn xe tk' po)
    (fun a oe cls dx pn hz ho => ⟨fun pins s σ H D I ⟨d, e1, e2, h⟩ => by subst e1 e2; exact (hsu E a d oe pn hz ho).run pins s σ H D I h⟩)).imp fun D σ H ⟨S, t, m, e, sf, h⟩ => ⟨S, t, m, e, sf, ?_⟩
  unfold tryS at h
  cases hr : fb G.C e m with
  | nx e' m' => rw [hr] at h; exact h
  | ct e' m' => rw [hr] at h; exact h
  | brk e' m' => rw [hr] at h; exact h
  | ret d m' => rw [hr] at h; exact h
  | stuck => rw [hr] at h; exact h
  | exc c' fs e1 m1 =>
    rw [hr] at h
    dsimp only at h
    intro S1 H1 t1 σ1 cls dx sf1 xr
    obtain ⟨C', ns', d, vs, hX', rfl, rfl, hd, hds, hl⟩ := id xr
    refine ⟨_, hm c' C' ns' hX', fun hb a ha => ?_, fun hb => ?_⟩
    · have hcc : c' = c := of_decide_eq_true hb
      subst hcc
      rw [hX] at hX'
      cases hX'
      rw [if_pos rfl] at h
      split at h
      · rename_i hlt
        refine ⟨d, rfl, rfl, S1, t1, m1, e1.set i (.exn c' fs), sf1.bindX hx hlt hd hds hl, ?_⟩
        show GS { G with x := some (a, d, ns) } W0 E _ (fsu G.C (e1.set i (.exn c' fs)) m1)
        unfold behind at h
        cases hs' : fsu G.C (e1.set i (.exn c' fs)) m1 with
        | nx e2 m2 =>
          rw [hs'] at h
          dsimp only at h
          split at h
          · rename_i hp
            exact fun S2 H2 t2 σ2 sf2 => h S2 H2 t2 _ (sf2.unbindX hx hp)
          · exact h.elim
        | ct e2 m2 =>
          rw [hs'] at h
          dsimp only at h
          split at h
          · rename_i hp
            exact fun S2 H2 t2 σ2 sf2 => h S2 H2 t2 _ (sf2.unbindX hx hp)
          · exact h.elim
        | brk e2 m2 =>
          rw [hs'] at h
          dsimp only at h
          split at h
          · rename_i hp
            exact fun S2 H2 t2 σ2 sf2 => h S2 H2 t2 _ (sf2.unbindX hx hp)
          · exact h.elim
        | ret d' m2 => rw [hs'] at h; exact h
        | exc c2 f2 e2 m2 => rw [hs'] at h; exact h.elim
        | stuck => rw [hs'] at h; exact h.elim
      · exact h.elim
    · have hcc : c' ≠ c := of_decide_eq_false hb
      rw [if_neg hcc] at h
      exact h S1 H1 t1 σ1 _ _ sf1 xr
/-- n.f -/
theorem de_xf {i j a d : Nat} {C : Addr} {oe : Obj} {pn : List (Addr × Obj)} {x f : Str} {p1 pos : Pos} {ns : List Str} (T : XfC X.K C) (hno : PySem.W.findIn X.K (.ref C) f = some none) (hz : L2N.Zn (.ref C) (some d) oe) (ho : ∃ vs, oe.data = .fields vs)
    (hN : X.N[i]? = some x) (hv : Vis X.env.scope x) (hj : ∀ vs : List V, vs.length = ns.length → (ns.zip vs).lookup f = vs[j]?) (hx : G.x = some (a, d, ns)) (hdb : (x == ("__debug__" : Str)) = false := by decide) (hcd : (x == ("__classdict__" : Str)) = false := by decide)
    (hb : attributeBase (.Name x p1) f X.env (eval (.Name x p1) X.env) = eval (.Name x p1) X.env := by rfl) : PE (X.suite a ((a, oe) :: pn)) (.Attribute (.Name x p1) f pos) (semE G W (xfE i j)) := by
  refine (pe_xf (n := f) T hno hz.zc ho (pe_var (X := X.suite a ((a, oe) :: pn)) (i := i) hN hv hdb hcd) hb).imp fun σ H Q ⟨S, t, m, e, si, g⟩ => ?_
  unfold xfE at g
  split at g
  · rename_i c fs hi
    split at g
    · rename_i dd hj'
      obtain ⟨v, h1, h2⟩ := si.exn i c fs hi
      obtain ⟨a', d', ns', vs, e1, e2, e3, e4, e5⟩ := h2.ex
      rw [hx] at e1
      cases e1
      subst e2
      obtain ⟨w, w1, w2⟩ := e4.get hj'
      refine ⟨_, h1, rfl, rfl, d, _, w, rfl, si.hi.sub _ _ e3, ?_, g.now si.hi w w2⟩
      rw [hj vs e5]; exact w1
    · exact g.elim
  · exact g.elim
end
end Dn
/-! Operators by data. -/
namespace Dn
open PySem L2

section
variable {K : KW} {S H : Hp} {t : Th} {m : Store} {v : V}
theorem BR.dat {d : D} (h : BR K S H t v d) (n : ∀ xs, d ≠ .lst xs) (n2 : ∀ kvs, d ≠ .dct kvs := by intro kvs z; cases z) : DR K S t v d := by
  rcases h with h | ⟨a, e, o⟩
  · exact h
  · cases o.at_ with
    | lst _ _ => exact absurd rfl (n _)
    | dct _ _ _ _ => exact absurd rfl (n2 _)
theorem BR.int {i : Int} (h : BR K S H t v (.int i)) : v = .int i := by
  have := h.dat (by intro xs z; cases z)
  cases this; rfl
theorem BR.str {i : Str} (h : BR K S H t v (.str i)) : v = .str i := by
  have := h.dat (by intro xs z; cases z)
  cases this; rfl
theorem BR.bl {i : Bool} (h : BR K S H t v (.bl i)) : v = .bl i := by
  have := h.dat (by intro xs z; cases z)
  cases this; rfl
theorem BR.non (h : BR K S H t v .non) : v = .non := by
  have := h.dat (by intro xs z; cases z)
  cases this; rfl
theorem BR.tup {xs : List D} (hi : HI K S H t m) (h : BR K S H t v (.tup xs)) : ∃ a vs, v = .ref a ∧ SqT K S a vs ∧ SqT K H a vs ∧ DRs K S t vs xs := by
  have := h.dat (by intro xs z; cases z)
  cases this with
  | tup h1 h2 => exact ⟨_, _, rfl, h1, hi.sub.sqT h1, h2⟩
theorem BR.frz {xs : List D} (hi : HI K S H t m) (h : BR K S H t v (.frz xs)) : ∃ a vs, v = .ref a ∧ SqL K H a vs ∧ DRs K S t vs xs := by
  have := h.dat (by intro xs z; cases z)
  cases this with
  | frz h1 h2 => exact ⟨_, _, rfl, hi.sub.sqL h1, h2⟩
theorem BR.lst {xs : List D} (hi : HI K S H t m) (h : BR K S H t v (.lst xs)) : ∃ a vs, v = .ref a ∧ H a = some (.lst vs) ∧ DRs K S t vs xs := by
  rcases h with h | ⟨a, e, o⟩
  · cases h with
    | lst h1 h2 => exact ⟨_, _, rfl, hi.sub _ _ h1, h2⟩
  · obtain ⟨xs', vs, e', h1, h2⟩ := o.lst'
    cases e'
    exact ⟨a, vs, e, h1, h2⟩
theorem BR.dct {kvs : List (D × D)} (hi : HI K S H t m) (h : BR K S H t v (.dct kvs)) : ∃ a o rows, v = .ref a ∧ (a == sysModules) = false ∧ H a = some (dO a o) ∧ RowsO K.w o rows ∧ DKV K S t rows kvs := by
  rcases h with h | ⟨a, e, o⟩
  · cases h with
    | dct h0 h1 h2 h3 => exact ⟨_, _, _, rfl, h0, hi.sub _ _ h1, h2, h3⟩
  · obtain ⟨o', rows, h0, h1, h2, h3⟩ := o.dct'
    exact ⟨a, o', rows, e, h0, h1, h2, h3⟩
/-- a dict of the store -/
theorem BR.refd {n : Nat} {kvs : List (D × D)} (hi : HI K S H t m) (h : BR K S H t v (.ref n)) (hm : m[n]? = some (.dct kvs)) : ∃ a o rows, v = .ref a ∧ t n = some a ∧ (a == sysModules) = false ∧ H a = some (dO a o) ∧ RowsO K.w o rows ∧ DKV K S t rows kvs := by
  have := h.dat (by intro xs z; cases z)
  cases this with
  | ref h1 =>
    obtain ⟨a, u, e1, _, e2, e3⟩ := hi.stb _ _ hm (by simp)
    rw [h1] at e1
    cases e1
    cases e3 with
    | dct h0 h2 h3 => exact ⟨_, _, _, rfl, h1, h0, e2, h2, h3⟩
/-- a list of the store -/
theorem BR.ref {n : Nat} {xs : List D} (hi : HI K S H t m) (h : BR K S H t v (.ref n)) (hm : m[n]? = some (.lst xs)) : ∃ a vs, v = .ref a ∧ H a = some (.lst vs) ∧ DRs K S t vs xs := by
  have := h.dat (by intro xs z; cases z)
  cases this with
  | ref h1 =>
    obtain ⟨a, vs, e1, e2, e3⟩ := hi.sto _ _ hm
    rw [h1] at e1
    cases e1
    exact ⟨_, vs, rfl, e2, e3⟩
end

/-! ### adding -/
@[simp] def addG : Store → D → D → Option D := fun _ x y => match x, y with
  | .int i, .int j => some (.int (i + j))
  | .str a, .str b => if a.length + b.length ≤ LIM then some (.str (a ++ b)) else none
  | .tup xs, .tup ys => if xs.length + ys.length ≤ LIM then some (.tup (xs ++ ys)) else none
  | _, _ => none
@[simp] def catF : Store → D → D → Option (List D) := fun _ x y => match x, y with
  | .lst xs, .lst ys => if xs.length + ys.length ≤ LIM then some (xs ++ ys) else none
  | _, _ => none
@[simp] def subG : Store → D → D → Option D := fun _ x y => match x, y with
  | .int i, .int j => some (.int (i - j))
  | _, _ => none
def mulB (i j : Int) : Bool := (decide (-(2 ^ 64) < i) && decide (i < 2 ^ 64)) || (decide (-(2 ^ 64) < j) && decide (j < 2 ^ 64))
@[simp] def mulG : Store → D → D → Option D := fun _ x y => match x, y with
  | .int i, .int j => if mulB i j = true then some (.int (i * j)) else none
  | _, _ => none
@[simp] def fdivG : Store → D → D → Option D := fun _ x y => match x, y with
  | .int i, .int j => if 0 < j ∧ j < 1073741824 then some (.int (i / j)) else none
  | _, _ => none
@[simp] def modG : Store → D → D → Option D := fun _ x y => match x, y with
  | .int i, .int j => if 0 < j then some (.int (i % j)) else none
  | _, _ => none
@[simp] def powG : Store → D → D → Option D := fun _ x y => match x, y with
  | .int i, .int j => if 0 ≤ j ∧ j ≤ 1000000 ∧ i.natAbs < 2 ^ 64 then some (.int (i ^ j.toNat)) else none
  | _, _ => none
@[simp] def negG : Store → D → Option D := fun _ x => match x with
  | .int i => some (.int (-i))
  | _ => none
section
variable {X : Cx}
theorem new_tup {K : KW} {S H : Hp} {t : Th} {m : Store} {p : Addr} {vs : List V} {ds : List D} (i : HI K S H t m) (h : H p = none) (hd : DRs K S t vs ds) :
    Stp S H t (upd S p (.tup vs)) (upd H p (.tup vs)) t ∧ HI K (upd S p (.tup vs)) (upd H p (.tup vs)) t m ∧ DR K (upd S p (.tup vs)) t (.ref p) (.tup ds) := by
  obtain ⟨i2, p2⟩ := new_hi (o := .tup vs) i h
  exact ⟨p2, i2, .tup (SqT.of upd_same) (hd.stp i p2)⟩
theorem new_own {K : KW} {S H : Hp} {t : Th} {m : Store} {p : Addr} {vs : List V} {ds : List D} (i : HI K S H t m) (h : H p = none) (hd : DRs K S t vs ds) :
    Stp S H t S (upd H p (.lst vs)) t ∧ HI K S (upd H p (.lst vs)) t m ∧ OwnAt K S (upd H p (.lst vs)) t p (.lst ds) := by
  obtain ⟨i2, p2⟩ := new_hi0 (o := .lst vs) i h
  have hS : S p = none := by
    cases q : S p with
    | none => rfl
    | some o => rw [i.sub p o q] at h; cases h
  exact ⟨p2, i2, hS, fun n q => i.off n p q h, .lst upd_same hd⟩
theorem nil_iff' {K : KW} {S : Hp} {t : Th} {vs : List V} {ds : List D} (h : DRs K S t vs ds) : vs = [] ↔ ds = [] := by
  cases h with
  | nil => simp
  | cons _ _ => simp
theorem od_add : OpD X (binaryOp .Add) addG := by
  refine ⟨_, op_add.or (op_add_str.or op_catA), fun S H t m x y d e z Q i bx b_y hz q => ?_⟩
  unfold addG at hz
  split at hz
  · cases hz; exact .inl ⟨_, _, bx.int, b_y.int, q _ _ _ .refl i (.int _)⟩
  · split at hz
    · rename_i hl
      cases hz
      exact .inr (.inl ⟨_, _, bx.str, b_y.str, lim_le hl, q _ _ _ .refl i (.str _)⟩)
    · cases hz
  · split at hz
    · rename_i hl
      cases hz
      obtain ⟨a, vs, rfl, a1, a2, a3⟩ := bx.tup i
      obtain ⟨b, ws, rfl, b1, b2, b3⟩ := b_y.tup i
      refine .inr (.inr ⟨a, b, vs, ws, rfl, rfl, a2, b2, by rw [a3.length, b3.length]; exact lim_le hl, fun e => ?_, fun _ e => ?_, fun _ _ p hp => ?_⟩)
      · have e' := (nil_iff' a3).mp e
        subst e'
        exact q _ _ _ .refl i (.tup b1 b3)
      · have e' := (nil_iff' b3).mp e
        subst e'
        rw [List.append_nil] at q
        exact q _ _ _ .refl i (.tup a1 a3)
      · obtain ⟨p2, i2, r⟩ := new_tup i hp (a3.append b3)
        exact q _ _ _ p2 i2 r
    · cases hz
  · cases hz
theorem of_cat : OpF X (binaryOp .Add) catF := by
  refine ⟨_, op_cat, fun S H t m x y d e z Q i bx b_y hz q => ?_⟩
  unfold catF at hz
  split at hz
  · split at hz
    · rename_i hl
      cases hz
      obtain ⟨a, vs, rfl, a2, a3⟩ := bx.lst i
      obtain ⟨b, ws, rfl, b2, b3⟩ := b_y.lst i
      refine ⟨a, b, vs, ws, rfl, rfl, a2, b2, by rw [a3.length, b3.length]; exact lim_le hl, fun p hp => ?_⟩
      obtain ⟨p2, i2, r⟩ := new_own i hp (a3.append b3)
      exact q _ _ _ p2 i2 r hp
    · cases hz
  · cases hz
theorem od_sub : OpD X (binaryOp .Sub) subG := by
  refine ⟨_, op_sub, fun S H t m x y d e z Q i bx b_y hz q => ?_⟩
  unfold subG at hz
  split at hz
  · cases hz; exact ⟨_, _, bx.int, b_y.int, q _ _ _ .refl i (.int _)⟩
  · cases hz
theorem mulB_ok {i j : Int} (h : mulB i j = true) : CMul i j := by
  unfold mulB at h
  simp only [Bool.or_eq_true, Bool.and_eq_true, decide_eq_true_eq] at h
  exact h
theorem od_mul : OpD X (binaryOp .Mult) mulG := by
  refine ⟨_, op_mul, fun S H t m x y d e z Q i bx b_y hz q => ?_⟩
  unfold mulG at hz
  split at hz
  · split at hz
    · rename_i hc
      cases hz; exact ⟨_, _, bx.int, b_y.int, mulB_ok hc, q _ _ _ .refl i (.int _)⟩
    · cases hz
  · cases hz
theorem od_fdiv : OpD X (binaryOp .FloorDiv) fdivG := by
  refine ⟨_, op_fdiv, fun S H t m x y d e z Q i bx b_y hz q => ?_⟩
  unfold fdivG at hz
  split at hz
  · split at hz
    · rename_i hc
      cases hz; exact ⟨_, _, bx.int, b_y.int, hc, q _ _ _ .refl i (.int _)⟩
    · cases hz
  · cases hz
theorem od_mod : OpD X (binaryOp .Mod) modG := by
  refine ⟨_, op_mod, fun S H t m x y d e z Q i bx b_y hz q => ?_⟩
  unfold modG at hz
  split at hz
  · split at hz
    · rename_i hc
      cases hz; exact ⟨_, _, bx.int, b_y.int, hc, q _ _ _ .refl i (.int _)⟩
    · cases hz
  · cases hz
theorem od_pow : OpD X (binaryOp .Pow) powG := by
  refine ⟨_, op_pow, fun S H t m x y d e z Q i bx b_y hz q => ?_⟩
  unfold powG at hz
  split at hz
  · split at hz
    · rename_i hc
      cases hz; exact ⟨_, _, bx.int, b_y.int, hc, q _ _ _ .refl i (.int _)⟩
    · cases hz
  · cases hz
theorem ud_neg : UnD X (unaryOp .USub) negG := by
  refine ⟨_, un_neg, fun S H t m x d z Q i bx hz q => ?_⟩
  unfold negG at hz
  split at hz
  · cases hz; exact ⟨_, bx.int, q _ _ _ .refl i (.int _)⟩
  · cases hz
/-! in place -/
@[simp] def addI : Store → D → D → Option D := fun _ x y => match x, y with
  | .int i, .int j => some (.int (i + j))
  | _, _ => none
theorem oi_add : OpD X (inplaceOp .Add) addI := by
  refine ⟨_, iop_add, fun S H t m x y d e z Q i bx b_y hz q => ?_⟩
  unfold addI at hz
  split at hz
  · cases hz; exact ⟨_, _, bx.int, b_y.int, q _ _ _ .refl i (.int _)⟩
  · cases hz
theorem oi_sub : OpD X (inplaceOp .Sub) subG := by
  refine ⟨_, iop_sub, fun S H t m x y d e z Q i bx b_y hz q => ?_⟩
  unfold subG at hz
  split at hz
  · cases hz; exact ⟨_, _, bx.int, b_y.int, q _ _ _ .refl i (.int _)⟩
  · cases hz

/-! ### order -/
@[simp] def ltG : Store → D → D → Option D := fun _ x y => match x, y with
  | .int i, .int j => some (.bl (decide (i < j)))
  | .str a, .str b => some (.bl (decide (a.cps.toList < b.cps.toList)))
  | _, _ => none
@[simp] def leG : Store → D → D → Option D := fun _ x y => match x, y with
  | .int i, .int j => some (.bl (decide (i ≤ j)))
  | .str a, .str b => some (.bl (!decide (b.cps.toList < a.cps.toList)))
  | _, _ => none
@[simp] def gtG : Store → D → D → Option D := fun _ x y => match x, y with
  | .int i, .int j => some (.bl (decide (i > j)))
  | .str a, .str b => some (.bl (decide (b.cps.toList < a.cps.toList)))
  | _, _ => none
@[simp] def geG : Store → D → D → Option D := fun _ x y => match x, y with
  | .int i, .int j => some (.bl (decide (i ≥ j)))
  | .str a, .str b => some (.bl (!decide (a.cps.toList < b.cps.toList)))
  | _, _ => none
theorem od_lt : OpD X (compareOp .Lt) ltG := by
  refine ⟨_, op_lt.or op_lt_str, fun S H t m x y d e z Q i bx b_y hz q => ?_⟩
  unfold ltG at hz
  split at hz
  · cases hz; exact .inl ⟨_, _, bx.int, b_y.int, q _ _ _ .refl i (.bl _)⟩
  · cases hz; exact .inr ⟨_, _, bx.str, b_y.str, q _ _ _ .refl i (.bl _)⟩
  · cases hz
theorem od_le : OpD X (compareOp .LtE) leG := by
  refine ⟨_, op_le.or op_le_str, fun S H t m x y d e z Q i bx b_y hz q => ?_⟩
  unfold leG at hz
  split at hz
  · cases hz; exact .inl ⟨_, _, bx.int, b_y.int, q _ _ _ .refl i (.bl _)⟩
  · cases hz; exact .inr ⟨_, _, bx.str, b_y.str, q _ _ _ .refl i (.bl _)⟩
  · cases hz
theorem od_gt : OpD X (compareOp .Gt) gtG := by
  refine ⟨_, op_gt.or op_gt_str, fun S H t m x y d e z Q i bx b_y hz q => ?_⟩
  unfold gtG at hz
  split at hz
  · cases hz; exact .inl ⟨_, _, bx.int, b_y.int, q _ _ _ .refl i (.bl _)⟩
  · cases hz; exact .inr ⟨_, _, bx.str, b_y.str, q _ _ _ .refl i (.bl _)⟩
  · cases hz
theorem od_ge : OpD X (compareOp .GtE) geG := by
  refine ⟨_, op_ge.or op_ge_str, fun S H t m x y d e z Q i bx b_y hz q => ?_⟩
  unfold geG at hz
  split at hz
  · cases hz; exact .inl ⟨_, _, bx.int, b_y.int, q _ _ _ .refl i (.bl _)⟩
  · cases hz; exact .inr ⟨_, _, bx.str, b_y.str, q _ _ _ .refl i (.bl _)⟩
  · cases hz
end

/-! ### data as the model knows them -/
mutual
def toP : D → Option PyData
  | .non => some .none
  | .bl b => some (.bool b)
  | .int i => some (.int i)
  | .str x => some (.str x)
  | .tup xs => (toPs xs).map .tuple
  | .lst xs => (toPs xs).map .list
  | .frz xs => (toPs xs).map .list
  | .dct _ => none
  | .ins _ _ => none
  | .ref _ => none
def toPs : List D → Option (List PyData)
  | [] => some []
  | d :: ds => (toP d).bind fun p => (toPs ds).map fun ps => p :: ps
end
section
variable {K : KW} {S H : Hp} {t : Th} {m : Store}
mutual
theorem toP_dp (ss : Sub S H) : ∀ (d : D) (v : V) (p : PyData), DR K S t v d → toP d = some p → Dp K H v p
  | .non, _, _, .non, h => by unfold toP at h; cases h; exact .non
  | .bl b, _, _, .bl _, h => by unfold toP at h; cases h; exact .bl b
  | .int b, _, _, .int _, h => by unfold toP at h; cases h; exact .int b
  | .str b, _, _, .str _, h => by unfold toP at h; cases h; exact .str b
  | .tup xs, _, _, .tup h1 h2, h => by
    unfold toP at h
    cases q : toPs xs with
    | none => rw [q] at h; cases h
    | some ps =>
      rw [q] at h
      cases h
      exact .tup (ss.sqT h1) (toPs_dp ss xs _ ps h2 q)
  | .lst xs, _, _, .lst h1 h2, h => by
    unfold toP at h
    cases q : toPs xs with
    | none => rw [q] at h; cases h
    | some ps =>
      rw [q] at h
      cases h
      exact .lst (.of (ss _ _ h1)) (toPs_dp ss xs _ ps h2 q)
  | .frz xs, _, _, .frz h1 h2, h => by
    unfold toP at h
    cases q : toPs xs with
    | none => rw [q] at h; cases h
    | some ps =>
      rw [q] at h
      cases h
      exact .lst (ss.sqL h1) (toPs_dp ss xs _ ps h2 q)
  | .dct _, _, _, _, h => by unfold toP at h; cases h
  | .ins _ _, _, _, _, h => by unfold toP at h; cases h
  | .ref _, _, _, _, h => by unfold toP at h; cases h
theorem toPs_dp (ss : Sub S H) : ∀ (ds : List D) (vs : List V) (ps : List PyData), DRs K S t vs ds → toPs ds = some ps → DpAll K H vs ps
  | [], _, _, .nil, h => by unfold toPs at h; cases h; exact .nil
  | d :: ds, _, _, .cons h1 h2, h => by
    unfold toPs at h
    cases q : toP d with
    | none => rw [q] at h; cases h
    | some p =>
      rw [q] at h
      cases q' : toPs ds with
      | none => simp [q'] at h
      | some ps =>
        simp [q'] at h
        subst h
        exact .cons (toP_dp ss d _ p h1 q) (toPs_dp ss ds _ ps h2 q')
end
theorem BR.dp {v : V} {d : D} {p : PyData} (i : HI K S H t m) (h : BR K S H t v d) (e : toP d = some p) : Dp K H v p := by
  rcases h with h | ⟨a, rfl, o⟩
  · exact toP_dp i.sub d v p h e
  · cases o.at_ with
    | dct _ _ _ _ => unfold toP at e; cases e
    | @lst vs xs h1 h2 =>
      unfold toP at e
      cases q : toPs xs with
      | none => rw [q] at e; cases e
      | some ps =>
        rw [q] at e
        cases e
        exact .lst (.of h1) (toPs_dp i.sub xs vs ps h2 q)
end
/-- two data, both plain -/
def twoP (d e : D) : Option (PyData × PyData) := match toP d, toP e with
  | some p, some q => if (SeqAt.shaped p && SeqAt.shaped q) = true then some (p, q) else none
  | _, _ => none
theorem twoP_ok {d e : D} {p q : PyData} (h : twoP d e = some (p, q)) : toP d = some p ∧ toP e = some q ∧ SeqAt.shaped p = true ∧ SeqAt.shaped q = true := by
  unfold twoP at h
  split at h
  · rename_i p' q' h1 h2
    split at h
    · rename_i hc
      cases h
      rw [Bool.and_eq_true] at hc
      exact ⟨h1, h2, hc.1, hc.2⟩
    · cases h
  · cases h
def eqG : Store → D → D → Option D := fun _ x y => (twoP x y).map fun z => .bl (PyData.eqv z.1 z.2)
def neG : Store → D → D → Option D := fun _ x y => (twoP x y).map fun z => .bl (!PyData.eqv z.1 z.2)
def inL (p q : PyData) : Option Bool := match q with
  | .list ds => some (ds.any fun z => PyData.eqv z p)
  | .tuple ds => some (ds.any fun z => PyData.eqv z p)
  | _ => none
def oneSign (a : Str) : Option Nat := match a.cps.toList with
  | [c] => some c
  | _ => none
theorem oneSign_ok {a : Str} {c : Nat} (h : oneSign a = some c) : a = ⟨#[c]⟩ := by
  unfold oneSign at h
  split at h
  · rename_i c' e
    cases h
    obtain ⟨⟨l⟩⟩ := a
    simp at e
    subst e
    rfl
  · cases h
def inG : Store → D → D → Option D := fun _ x y => match x, y with
  | .str a, .str b => (oneSign a).map fun c => .bl (decide (c ∈ b.cps.toList))
  | x, y => (twoP x y).bind fun z => (inL z.1 z.2).map .bl
def notInG : Store → D → D → Option D := fun _ x y => match x, y with
  | .str a, .str b => (oneSign a).map fun c => .bl (!decide (c ∈ b.cps.toList))
  | x, y => (twoP x y).bind fun z => (inL z.1 z.2).map fun b => .bl (!b)
section
variable {X : Cx}
def rInT (K : PySem.W.Frag) : R2 := fun x y H Q => ∃ d ds, Dp K H x d ∧ Dp K H y (.tuple ds) ∧ SeqAt.shaped d = true ∧ SeqAt.shaped (.tuple ds) = true ∧ Q (.bl (ds.any fun z => PyData.eqv z d)) H
def rNotInT (K : PySem.W.Frag) : R2 := fun x y H Q => ∃ d ds, Dp K H x d ∧ Dp K H y (.tuple ds) ∧ SeqAt.shaped d = true ∧ SeqAt.shaped (.tuple ds) = true ∧ Q (.bl (!ds.any fun z => PyData.eqv z d)) H
theorem op_inT (hu : X.A.units + 65 < cLine) : OpR X (compareOp .In) (rInT X.K) := by
  intro pins s σ H x y v u Q I rx ry h
  obtain ⟨d, ds, hd, he, sd, se, q⟩ := h
  obtain ⟨as, r1⟩ := Dp.reads I d x v hd rx
  obtain ⟨bs, r2⟩ := Dp.reads I (.tuple ds) y u he ry
  exact SeqAt.in_tuple_reads r2 r1 (SeqAt.canLay_of_shaped se) (SeqAt.canLay_of_shaped sd) (PyProof.Rows.room_in_shaped sd hu) ⟨.bl _, H, I, rfl, q⟩
theorem op_notInT (hu : X.A.units + 65 < cLine) : OpR X (compareOp .NotIn) (rNotInT X.K) := by
  intro pins s σ H x y v u Q I rx ry h
  obtain ⟨d, ds, hd, he, sd, se, q⟩ := h
  obtain ⟨as, r1⟩ := Dp.reads I d x v hd rx
  obtain ⟨bs, r2⟩ := Dp.reads I (.tuple ds) y u he ry
  exact SeqAt.notIn_tuple_reads r2 r1 (SeqAt.canLay_of_shaped se) (SeqAt.canLay_of_shaped sd) (PyProof.Rows.room_in_shaped sd hu) ⟨.bl _, H, I, rfl, q⟩
theorem od_eq (hu : X.A.units + 65 < cLine) : OpD X (compareOp .Eq) eqG := by
  refine ⟨_, op_eqD (by omega), fun S H t m x y d e z Q i bx b_y hz q => ?_⟩
  unfold eqG at hz
  cases h : twoP d e with
  | none => rw [h] at hz; cases hz
  | some w =>
    obtain ⟨p1, p2⟩ := w
    rw [h] at hz
    cases hz
    obtain ⟨h1, h2, h3, h4⟩ := twoP_ok h
    exact ⟨p1, p2, bx.dp i h1, b_y.dp i h2, h3, h4, q _ _ _ .refl i (.bl _)⟩
theorem od_ne (hu : X.A.units + 65 < cLine) : OpD X (compareOp .NotEq) neG := by
  refine ⟨_, op_neD (by omega), fun S H t m x y d e z Q i bx b_y hz q => ?_⟩
  unfold neG at hz
  cases h : twoP d e with
  | none => rw [h] at hz; cases hz
  | some w =>
    obtain ⟨p1, p2⟩ := w
    rw [h] at hz
    cases hz
    obtain ⟨h1, h2, h3, h4⟩ := twoP_ok h
    exact ⟨p1, p2, bx.dp i h1, b_y.dp i h2, h3, h4, q _ _ _ .refl i (.bl _)⟩
theorem od_in (hu : X.A.units + 65 < cLine) : OpD X (compareOp .In) inG := by
  refine ⟨_, op_in_sign.or ((op_inD hu).or (op_inT hu)), fun S H t m x y d e z Q i bx b_y hz q => ?_⟩
  unfold inG at hz
  split at hz
  · rename_i a b
    cases h : oneSign a with
    | none => rw [h] at hz; cases hz
    | some c =>
      rw [h] at hz
      cases hz
      have := oneSign_ok h
      subst this
      exact .inl ⟨c, b, bx.str, b_y.str, q _ _ _ .refl i (.bl _)⟩
  · cases h : twoP d e with
    | none => rw [h] at hz; cases hz
    | some w =>
      obtain ⟨p1, p2⟩ := w
      rw [h] at hz
      obtain ⟨h1, h2, h3, h4⟩ := twoP_ok h
      cases p2 with
      | list ds => cases hz; exact .inr (.inl ⟨p1, ds, bx.dp i h1, b_y.dp i h2, h3, h4, q _ _ _ .refl i (.bl _)⟩)
      | tuple ds => cases hz; exact .inr (.inr ⟨p1, ds, bx.dp i h1, b_y.dp i h2, h3, h4, q _ _ _ .refl i (.bl _)⟩)
      | _ => cases hz
theorem od_notIn (hu : X.A.units + 65 < cLine) : OpD X (compareOp .NotIn) notInG := by
  refine ⟨_, op_notIn_sign.or ((op_notInD hu).or (op_notInT hu)), fun S H t m x y d e z Q i bx b_y hz q => ?_⟩
  unfold notInG at hz
  split at hz
  · rename_i a b
    cases h : oneSign a with
    | none => rw [h] at hz; cases hz
    | some c =>
      rw [h] at hz
      cases hz
      have := oneSign_ok h
      subst this
      exact .inl ⟨c, b, bx.str, b_y.str, q _ _ _ .refl i (.bl _)⟩
  · cases h : twoP d e with
    | none => rw [h] at hz; cases hz
    | some w =>
      obtain ⟨p1, p2⟩ := w
      rw [h] at hz
      obtain ⟨h1, h2, h3, h4⟩ := twoP_ok h
      cases p2 with
      | list ds => cases hz; exact .inr (.inl ⟨p1, ds, bx.dp i h1, b_y.dp i h2, h3, h4, q _ _ _ .refl i (.bl _)⟩)
      | tuple ds => cases hz; exact .inr (.inr ⟨p1, ds, bx.dp i h1, b_y.dp i h2, h3, h4, q _ _ _ .refl i (.bl _)⟩)
      | _ => cases hz
/-! ### is None -/
def isNon : D → Bool
  | .non => true
  | _ => false
@[simp] def isG : Store → D → D → Option D := fun _ x y => match x, y with
  | x, .non => some (.bl (isNon x))
  | .bl a, .bl b => some (.bl (decide (a = b)))
  | _, _ => none
@[simp] def isNotG : Store → D → D → Option D := fun _ x y => match x, y with
  | x, .non => some (.bl (!isNon x))
  | .bl a, .bl b => some (.bl (!decide (a = b)))
  | _, _ => none
theorem isNon_v {K : KW} {S H : Hp} {t : Th} {v : V} {d : D} (h : BR K S H t v d) : decide (v = V.non) = isNon d := by
  rcases h with h | ⟨a, rfl, o⟩
  · cases h <;> simp [isNon]
  · cases o.at_ <;> simp [isNon]
theorem od_is : OpD X (compareOp .Is) isG := by
  refine ⟨_, op_isN.or op_is_bl, fun S H t m x y d e z Q i bx b_y hz q => ?_⟩
  unfold isG at hz
  split at hz
  · cases hz; exact .inl ⟨b_y.non, by rw [isNon_v bx]; exact q _ _ _ .refl i (.bl _)⟩
  · cases hz; exact .inr ⟨_, _, bx.bl, b_y.bl, q _ _ _ .refl i (.bl _)⟩
  · cases hz
theorem od_isNot : OpD X (compareOp .IsNot) isNotG := by
  refine ⟨_, op_notN.or op_isnot_bl, fun S H t m x y d e z Q i bx b_y hz q => ?_⟩
  unfold isNotG at hz
  split at hz
  · cases hz; exact .inl ⟨b_y.non, by rw [isNon_v bx]; exact q _ _ _ .refl i (.bl _)⟩
  · cases hz; exact .inr ⟨_, _, bx.bl, b_y.bl, q _ _ _ .refl i (.bl _)⟩
  · cases hz
/-! ### a[i] -/
@[simp] def ixG : Store → D → D → Option D := fun m x y => match x, y with
  | .lst xs, .int i => atI xs i
  | .frz xs, .int i => atI xs i
  | .tup xs, .int i => atI xs i
  | .str z, .int i => if short z.cps.toList = true then (atI z.cps.toList i).map fun c => .str ⟨#[c]⟩ else none
  | .ref n, .int i => match m[n]? with
    | some (.lst xs) => atI xs i
    | _ => none
  | _, _ => none
theorem atI_dr {K : KW} {S : Hp} {t : Th} {vs : List V} {ds : List D} {i : Int} {z : D} (h : DRs K S t vs ds) (e : atI ds i = some z) : ∃ v, atI vs i = some v ∧ DR K S t v z := by
  unfold atI at e ⊢
  rw [h.length]
  cases q : ixN ds.length i with
  | none => rw [q] at e; cases e
  | some j =>
    rw [q] at e
    exact h.get e
theorem id_ix : IxD X ixG := by
  refine ⟨_, ix_seq, fun S H t m x y d e z Q i bx b_y hz q => ?_⟩
  unfold ixG at hz
  split at hz
  · obtain ⟨a, vs, rfl, a2, a3⟩ := bx.lst i
    obtain ⟨v, v1, v2⟩ := atI_dr a3 hz
    exact .inl ⟨a, vs, _, v, rfl, b_y.int, .of a2, v1, q _ _ _ .refl i v2⟩
  · obtain ⟨a, vs, rfl, a2, a3⟩ := bx.frz i
    obtain ⟨v, v1, v2⟩ := atI_dr a3 hz
    exact .inl ⟨a, vs, _, v, rfl, b_y.int, a2, v1, q _ _ _ .refl i v2⟩
  · obtain ⟨a, vs, rfl, _, a2, a3⟩ := bx.tup i
    obtain ⟨v, v1, v2⟩ := atI_dr a3 hz
    exact .inr (.inl ⟨a, vs, _, v, rfl, b_y.int, a2, v1, q _ _ _ .refl i v2⟩)
  · rename_i z' i'
    split at hz
    · rename_i hs
      cases h : atI z'.cps.toList i' with
      | none => rw [h] at hz; cases hz
      | some c =>
        rw [h] at hz
        cases hz
        exact .inr (.inr ⟨z', i', c, bx.str, b_y.int, by have := short_le hs; simpa [Str.length] using this, h, q _ _ _ .refl i (.str _)⟩)
    · cases hz
  · split at hz
    · rename_i xs hm
      obtain ⟨a, vs, rfl, a2, a3⟩ := bx.ref i hm
      obtain ⟨v, v1, v2⟩ := atI_dr a3 hz
      exact .inl ⟨a, vs, _, v, rfl, b_y.int, .of a2, v1, q _ _ _ .refl i v2⟩
    · cases hz
  · cases hz
end
end Dn
/-! Sorting, by data. -/
namespace PySem.W
open PySem PySem.Calls PyProof.Rows
section
variable {prog : Program} {w : World} {A : Around} {E : Value → Shared → Prop} {s : Shared} {β : Type} {vs : List Value} {bs : List β} {enc : β → PyData} {R : Value → β → Prop}
/-- sorted of a list or a tuple -/
theorem dn_sorted {x : Addr} {T : String} {o : Obj} {n : Nat} {Q : Value → Shared → Prop} (hT : T = "list" ∨ T = "tuple") (ho : s.heap.get? x = some o) (hc : o.cls = .type T) (hd : o.data = .seq vs.toArray n)
    (e : EachIs R vs bs) (er : EachIs (fun v b => ∃ as, Reads s.heap v (enc b) as) vs bs) (hal : AllAlike (bs.map enc)) (hk : Sortable (bs.map enc)) (hL : bs.length ≤ sizeLine) (hu : ∀ b, b ∈ bs → A.units + 2 + (enc b).depth < cLine)
    (h : ∀ (h1 h2 : Heap) out c, (∀ b o, s.heap.get? b = some o → h1.get? b = some o) → (∀ b o, h1.get? b = some o → h2.get? b = some o) → h2.get? h1.objs.size = some (seqObj "list" (List.toArray out) c) → out.length = bs.length → EachIs R out (bs.mergeSort (dataLe false enc)) → Q (.ref h1.objs.size) { s with heap := h2 }) :
    wpAny (model prog w) A (call (.builtin "sorted") [.ref x]) Q E s := by
  have hvs : vs.length ≤ sizeLine := by rw [e.length]; exact hL
  refine call_function_entry_kw kind_sorted plain_sorted entry_sorted (args_sorted1 _) ?_
  unfold Builtin.«sorted»
  refine wpAny_bind (m := checkCount "sorted" 1 1 _) (wpAny_pure ?_)
  refine wpAny_bind (wpAny_collect_seq x hT ho hc hd (fun h1 hk1 => ?_) (by simpa using hvs))
  refine wpAny_bind (wpAny_newList ?_ (by simpa using hvs))
  have e0 : vs.toArray.toList = vs := by simp
  rw [e0]
  have at1 : (h1.push (seqObj "list" vs.toArray 0)).get? h1.objs.size = some (seqObj "list" vs.toArray 0) := Heap.get?_push_size _ rfl
  have old1 : ∀ b o, h1.get? b = some o → b ≠ h1.objs.size ∧ (h1.push (seqObj "list" vs.toArray 0)).get? b = some o := fun b o q => ⟨Nat.ne_of_lt (Heap.lt_size q), Heap.get?_push_of_some _ q⟩
  show wpAny _ _ _ _ _ { s with heap := h1.push (seqObj "list" vs.toArray 0) }
  have er1 : EachIs (fun v b => ∃ as, Reads (sortingHeap (h1.push (seqObj "list" vs.toArray 0)) h1.objs.size vs) v (enc b) as) vs bs := er.mono fun _ _ ⟨as, r⟩ => ⟨as, PyProof.Rows.Reads.keeps (fun b o q => by
    obtain ⟨q1, q2⟩ := old1 b o (hk1 b o q)
    exact sortingHeap_old q1 q2) r⟩
  refine wpAny_bind (wpAny_holding (wpAny_call_entry_kw slot_list_sort ⟨_, at1, rfl⟩ entry_list_sort ?body (args_list_sort _)))
  case body =>
    show wpAny (model prog w) A.in1.in1 (Builtin.«list.sort» ⟨[.ref h1.objs.size], []⟩) _ _ _
    refine wpAny_mono (Q := fun f s' => f = .done (.ret .none) ∧ s' = { s with heap := sortedHeap (h1.push (seqObj "list" vs.toArray 0)) h1.objs.size vs (sortVals (dataKind (sortingHeap (h1.push (seqObj "list" vs.toArray 0)) h1.objs.size vs) (bs.map enc)) false vs vs).toArray })
      (list_sort_vals (s := { s with heap := h1.push (seqObj "list" vs.toArray 0) }) at1 (SortsAt.data (s := { s with heap := sortingHeap (h1.push (seqObj "list" vs.toArray 0)) h1.objs.size vs }) (each_map (R := fun v d => ∃ as, Reads (sortingHeap (h1.push (seqObj "list" vs.toArray 0)) h1.objs.size vs) v d as) enc er1) hal hk (bound_map hu)) hvs ⟨rfl, rfl⟩) (fun f s' hf => ?_) fun _ _ e => e
    obtain ⟨rfl, rfl⟩ := hf
    refine ⟨_, rfl, wpAny_pure ⟨_, rfl, ?_⟩⟩
    obtain ⟨c, hc2⟩ := sortedHeap_at (vs := vs) (out := (sortVals (dataKind (sortingHeap (h1.push (seqObj "list" vs.toArray 0)) h1.objs.size vs) (bs.map enc)) false vs vs).toArray) at1
    refine h h1 _ _ c hk1 (fun b o q => ?_) hc2 (by rw [sortVals_length false rfl]; exact e.length) (sortVals_data false e er1 hal)
    obtain ⟨q1, q2⟩ := old1 b o q
    rw [sortedHeap_old q1 (Heap.lt_size q2)]
    exact q2
end
end PySem.W

namespace Dn
open PySem L2
def encD (d : D) : PyData := (toP d).getD .none
def leD : D → D → Bool := PySem.W.dataLe false encD
def sortedD (ds : List D) : List D := ds.mergeSort leD
def isTup1 : PyData → Bool
  | .tuple (_ :: _) => true
  | _ => false
def noTup : PyData → Bool
  | .tuple _ => false
  | .none => false
  | _ => true
def sortOk (ds : List D) : Bool :=
  decide (ds.length ≤ LIM) && ds.all (fun d => (toP d).isSome && decide ((encD d).depth ≤ 60)) && ds.all (fun a => ds.all fun b => PySem.W.alike (encD a) (encD b)) && (ds.all (fun d => isTup1 (encD d)) || ds.all (fun d => noTup (encD d)))
@[simp] def sortF : Store → List D → Option (List D) := fun _ xs => match xs with
  | [.lst ds] => if sortOk ds = true then some (sortedD ds) else none
  | [.tup ds] => if sortOk ds = true then some (sortedD ds) else none
  | _ => none
section
variable {X : Cx}
theorem each_of {K : KW} {S : Hp} {t : Th} {vs : List V} {ds : List D} {us : List Value} (h : DRs K S t vs ds) (r : Vals vs us) : PySem.W.EachIs (fun u d => ∃ v, RelV v u ∧ DR K S t v d) us ds := by
  induction r generalizing ds with
  | nil => cases h; exact .nil
  | cons r _ ih => cases h with | cons h hs => exact .cons ⟨_, r, h⟩ (ih hs)
theorem each_back {K : KW} {S : Hp} {t : Th} {ds : List D} {us : List Value} (h : PySem.W.EachIs (fun u d => ∃ v, RelV v u ∧ DR K S t v d) us ds) : ∃ vs, Vals vs us ∧ DRs K S t vs ds := by
  induction h with
  | nil => exact ⟨[], .nil, .nil⟩
  | cons h _ ih =>
    obtain ⟨v, r, d⟩ := h
    obtain ⟨vs, rs, ds⟩ := ih
    exact ⟨v :: vs, .cons r rs, .cons d ds⟩
theorem sortOk_ok {ds : List D} (h : sortOk ds = true) : ds.length ≤ LIM ∧ (∀ d ∈ ds, toP d = some (encD d) ∧ (encD d).depth ≤ 60) ∧ PySem.W.AllAlike (ds.map encD) ∧ PySem.W.Sortable (ds.map encD) := by
  unfold sortOk at h
  simp only [Bool.and_eq_true, Bool.or_eq_true, List.all_eq_true, decide_eq_true_eq] at h
  obtain ⟨⟨⟨h1, h2⟩, h3⟩, h4⟩ := h
  refine ⟨h1, fun d hd => ?_, fun d hd d' hd' => ?_, ?_⟩
  · obtain ⟨q1, q2⟩ := h2 d hd
    refine ⟨?_, q2⟩
    obtain ⟨p, hp⟩ := Option.isSome_iff_exists.mp q1
    unfold encD
    rw [hp]; rfl
  · obtain ⟨a, ha, rfl⟩ := List.mem_map.mp hd
    obtain ⟨b, hb, rfl⟩ := List.mem_map.mp hd'
    exact h3 a ha b hb
  · rcases h4 with h4 | h4
    · refine .inl fun d hd => ?_
      obtain ⟨a, ha, rfl⟩ := List.mem_map.mp hd
      have := h4 a ha
      revert this
      cases encD a with
      | tuple xs =>
        cases xs with
        | nil => intro z; exact absurd z (by decide)
        | cons x r => intro _; exact ⟨x, r, rfl⟩
      | _ => intro z; cases z
    · refine .inr fun d hd => ?_
      obtain ⟨a, ha, rfl⟩ := List.mem_map.mp hd
      have := h4 a ha
      revert this
      cases encD a with
      | tuple xs => intro z; cases z
      | none => intro z; cases z
      | _ => intro _; exact ⟨(fun z => nomatch z), (fun xs z => nomatch z)⟩
theorem each_reads {pins : List (Addr × Obj)} {σ : St} {H S : Hp} {t : Th} {s : Shared} (I : Inv X pins σ H s) (ss : Sub S H) {ds : List D} {us : List Value} (h : PySem.W.EachIs (fun u d => ∃ v, RelV v u ∧ DR X.kw S t v d) us ds) (hp : ∀ d ∈ ds, toP d = some (encD d)) :
    PySem.W.EachIs (fun u d => ∃ as, Reads s.heap u (encD d) as) us ds := by
  induction h with
  | nil => exact .nil
  | cons h _ ih =>
    obtain ⟨v, r, hd⟩ := h
    exact .cons (Dp.reads I _ _ _ (toP_dp ss _ _ _ hd (hp _ List.mem_cons_self)) r) (ih fun d hd => hp d (List.mem_cons_of_mem _ hd))
theorem mergeSort_len (ds : List D) : (sortedD ds).length = ds.length := List.length_mergeSort ds
def rSortD (K : KW) : List V → Hp → VK → Prop := fun xs H Q => ∃ S t m a ds vs, HI K S H t m ∧ xs = [V.ref a] ∧ (SqL K H a vs ∨ SqT K H a vs) ∧ DRs K S t vs ds ∧ sortOk ds = true ∧ ∀ p ws, H p = none → DRs K S t ws (sortedD ds) → Q (.ref p) (upd H p (.lst ws))
theorem cr_sortD (hu : X.A.units + 65 < cLine) : CallR X (.builtin "sorted") (rSortD X.kw) := by
  intro pins s σ H xs us Q I r h
  obtain ⟨S, t, m, a, ds, vs, hi, rfl, hs, hd, ok, q⟩ := h
  obtain ⟨u, rfl, ru⟩ := vals1 r
  obtain rfl : u = Value.ref a := ru
  obtain ⟨hl, hp, hal, hk⟩ := sortOk_ok ok
  have main : ∀ (T : String) (o : Obj) (its : List Value) (n : Nat), (T = "list" ∨ T = "tuple") → s.heap.get? a = some o → o.cls = .type T → o.data = .seq its.toArray n → Vals vs its → wpAny (model X.prog X.w) X.A (call (.builtin "sorted") [.ref a]) (EP X pins σ Q) X.xe s := by
    intro T o its n hT ho hc hdt rv
    have e1 := each_of hd rv
    refine PySem.W.dn_sorted hT ho hc hdt e1 (each_reads I hi.sub e1 fun d hd => (hp d hd).1) hal hk (lim_le hl) (fun b hb => ?_) fun h1 h2 out c k1 k2 at2 ol eo => ?_
    · have := (hp b hb).2
      omega
    · obtain ⟨ws, rw', dw⟩ := each_back eo
      have I1 : Inv X pins σ H { s with heap := h1 } := I.kept (t' := s.toks) k1
      refine ⟨.ref h1.objs.size, upd H h1.objs.size (.lst ws), I1.laid (t' := s.toks) k2 (Nat.le_refl _) ⟨?_, out, c, rw', at2⟩, rfl, q _ ws (I1.hok.fresh (Nat.le_refl _)) dw⟩
      have : ws.length = (sortedD ds).length := dw.length
      rw [this, mergeSort_len]
      exact lim_le hl
  rcases hs with hs | hs
  · obtain ⟨its, rv, pl, hz⟩ := I.list hs
    obtain ⟨o, ho, hc, n, hdt⟩ := pl.isList
    exact main "list" o its n (.inl rfl) ho hc hdt rv
  · obtain ⟨its, rv, ⟨o, ho, hc, n, hdt⟩, hz⟩ := I.tuple hs
    exact main "tuple" o its n (.inr rfl) ho hc hdt rv
theorem cf_sort (hu : X.A.units + 65 < cLine) : CallF X (.builtin "sorted") sortF := by
  refine ⟨_, cr_sortD hu, fun S H t m xs ds zs Q i bs hz q => ?_⟩
  have fin : ∀ a vs es, (SqL X.K H a vs ∨ SqT X.K H a vs) → xs = [V.ref a] → DRs X.kw S t vs es → (if sortOk es = true then some (sortedD es) else none) = some zs → rSortD X.kw xs H Q := by
    intro a vs es hs hx hd hz
    split at hz
    · rename_i ok
      cases hz
      refine ⟨S, t, m, a, es, vs, i, hx, hs, hd, ok, fun p ws hp dw => ?_⟩
      obtain ⟨p2, i2, r⟩ := new_own i hp dw
      exact q _ _ _ p2 i2 r hp
    · cases hz
  unfold sortF at hz
  split at hz
  · cases bs with
    | cons b1 b2 =>
      cases b2
      obtain ⟨a, vs, rfl, a2, a3⟩ := b1.lst i
      exact fin a vs _ (.inl (.of a2)) rfl a3 hz
  · cases bs with
    | cons b1 b2 =>
      cases b2
      obtain ⟨a, vs, rfl, _, a2, a3⟩ := b1.tup i
      exact fin a vs _ (.inr a2) rfl a3 hz
  · cases hz
end
end Dn
/-! Chains, starred items, slices, built-ins. -/
namespace Dn
open PySem L2

section
variable {X : Cx} {G : Cfg} {W : WX} {a b c : Expr} {es : List Expr} {fa fb fc : EvE} {fs : EvA} {pos p : Pos}
/-! ### a op b op' c -/
theorem de_chain {op op' : CmpOp} {g g' : Store → D → D → Option D} (ho : OpD X (compareOp op) g) (ho' : OpD X (compareOp op') g') (hK : X.kw = G.K) (ha : PE X a (semB G W fa)) (hb : PE X b (semB G W fb)) (hc : PE X c (semB G W fc))
    (hm : lastMarks [op, op'] [b, c] = false := by with_unfolding_all rfl) : PE X (.Compare a [op, op'] [b, c] pos) (semE G W (chainE g g' fa fb fc)) := by
  obtain ⟨r, r1, r2⟩ := ho
  obtain ⟨r', r1', r2'⟩ := ho'
  exact (pe_chain r1 r1' ha hb hc hm).imp fun σ H Q h => sem3 hK r2 r2' h
theorem dt_chain {op op' : CmpOp} {g g' : Store → D → D → Option D} (ho : OpD X (compareOp op) g) (ho' : OpD X (compareOp op') g') (hK : X.kw = G.K) (ha : PE X a (semB G W fa)) (hb : PE X b (semB G W fb)) (hc : PE X c (semB G W fc))
    (hm : lastMarks [op, op'] [b, c] = false := by with_unfolding_all rfl) : PT X (.Compare a [op, op'] [b, c] pos) (semT G W (blT (chainE g g' fa fb fc))) := by
  obtain ⟨r, r1, r2⟩ := ho
  obtain ⟨r', r1', r2'⟩ := ho'
  refine (pt_chain r1 r1' ha hb hc hm).imp fun σ H Q ⟨S, t, m, e, si, h⟩ => ?_
  refine sem3 (Q := fun x H' => ∃ k, x = .bl k ∧ Q k H') hK r2 r2' ⟨S, t, m, e, si, (Gd.sp h).imp fun S1 H1 t1 m1 x p1 i1 h2 v rv => ?_⟩
  cases x with
  | bl b => cases rv; exact ⟨b, rfl, Gd.now h2 i1⟩
  | _ => exact h2.elim
/-! ### *e among items -/
@[simp] def starA (f : EvE) (r : EvA) : EvA := fun C e m => (f C e m).bind fun d m1 => (R.of (itemsOf d) m1).bind fun xs m1 => (r C e m1).bind fun ys m2 => .ok (xs ++ ys) m2
@[simp] def noStr : D → Bool
  | .str _ => false
  | _ => true
@[simp] def seqOnly (f : EvE) : EvE := fun C e m => (f C e m).bind fun d m1 => if noStr d = true then .ok d m1 else .stuck
theorem da_star {sp : Pos} (hK : X.kw = G.K) (ha : PE X a (semE G W fa)) (hr : PA X es (semA G W fs)) (hs : starEach (.Starred a sp :: es) X.env = (true, eval a X.env) :: starEach es X.env := by rfl) : PA X (.Starred a sp :: es) (semA G W (starA (seqOnly fa) fs)) := by
  refine (StX.pa_star ha hr hs).imp fun σ H Q ⟨S, t, m, e, si, g⟩ => ⟨S, t, m, e, si, ?_⟩
  unfold starA seqOnly at g
  refine (Gd.sp (Gd.sp g)).imp fun S1 H1 t1 m1 d p1 i1 h1 v rv => ?_
  rw [kw_K hK]
  by_cases hn : noStr d = true
  · rw [if_pos hn] at h1
    have h1 := Gd.now h1 i1
    cases rv with
    | lst h hs =>
      have h1 : Gd G W σ S1 H1 t1 ((fs G.C e m1).bind fun ys m2 => .ok (_ ++ ys) m2) _ := h1
      refine ⟨_, _, rfl, .inr (.of (i1.sub _ _ h)), S1, t1, m1, e, si.stp p1 i1, (Gd.sp h1).imp fun S2 H2 t2 m2 ys p2 i2 h2 ws rs => ?_⟩
      exact Gd.now h2 i2 _ ((hs.stp i1 p2).append rs)
    | frz h hs =>
      have h1 : Gd G W σ S1 H1 t1 ((fs G.C e m1).bind fun ys m2 => .ok (_ ++ ys) m2) _ := h1
      refine ⟨_, _, rfl, .inr (i1.sub.sqL h), S1, t1, m1, e, si.stp p1 i1, (Gd.sp h1).imp fun S2 H2 t2 m2 ys p2 i2 h2 ws rs => ?_⟩
      exact Gd.now h2 i2 _ ((hs.stp i1 p2).append rs)
    | tup h hs =>
      have h1 : Gd G W σ S1 H1 t1 ((fs G.C e m1).bind fun ys m2 => .ok (_ ++ ys) m2) _ := h1
      refine ⟨_, _, rfl, .inl (i1.sub.sqT h), S1, t1, m1, e, si.stp p1 i1, (Gd.sp h1).imp fun S2 H2 t2 m2 ys p2 i2 h2 ws rs => ?_⟩
      exact Gd.now h2 i2 _ ((hs.stp i1 p2).append rs)
    | str z => cases hn
    | non => exact h1.elim
    | bl b => exact h1.elim
    | int b => exact h1.elim
    | ref b => exact h1.elim
    | ins _ _ _ => exact h1.elim
    | dct _ _ _ _ => exact h1.elim
  · rw [if_neg hn] at h1; exact h1.elim
end

/-! ### slices -/
abbrev EvO := Orc → Env → Store → R (Option Int)
@[simp] def noO : EvO := fun _ _ m => .ok none m
@[simp] def isI : D → Option (Option Int)
  | .int i => some (some i)
  | _ => none
@[simp] def intO (f : EvE) : EvO := fun C e m => (f C e m).bind fun d m1 => .of (isI d) m1
def semO (G : Cfg) (W : WX) (f : EvO) : TO := fun σ H Q => ∃ S t m e, SI G.K G.x S H t m σ e ∧ Gd G W σ S H t (f G.C e m) fun _ H' _ _ o => Q o H'
def cutD (xs : List D) (lo hi : Option Int) : List D := (xs.drop (HT.sIx xs.length 0 lo)).take (HT.sIx xs.length xs.length hi - HT.sIx xs.length 0 lo)
def cutG : D → Option Int → Option Int → Option D
  | .tup xs, lo, hi => some (.tup (cutD xs lo hi))
  | .str z, lo, hi => if short z.cps.toList = true then some (.str (cutS z lo hi)) else none
  | _, _, _ => none
def cutF : D → Option Int → Option Int → Option (List D)
  | .lst xs, lo, hi => some (cutD xs lo hi)
  | .frz xs, lo, hi => some (cutD xs lo hi)
  | _, _, _ => none
@[simp] def slE (f : EvE) (l h : EvO) : EvE := fun C e m => (f C e m).bind fun d m1 => (l C e m1).bind fun lo m2 => (h C e m2).bind fun hi m3 => .of (cutG d lo hi) m3
@[simp] def slF (f : EvE) (l h : EvO) : EvA := fun C e m => (f C e m).bind fun d m1 => (l C e m1).bind fun lo m2 => (h C e m2).bind fun hi m3 => .of (cutF d lo hi) m3
@[simp] def revG : D → Option (List D)
  | .lst xs => some xs.reverse
  | .frz xs => some xs.reverse
  | _ => none
@[simp] def revF (f : EvE) : EvA := fun C e m => (f C e m).bind fun d m1 => .of (revG d) m1
theorem _root_.L2.PO.imp {X : Cx} {e : Option Expr} {t t' : TO} (h : PO X e t) (w : ∀ σ H Q, t' σ H Q → t σ H Q) : PO X e t' := ⟨fun pins s σ H Q I q => h.run pins s σ H Q I (w σ H Q q)⟩
section
variable {X : Cx} {G : Cfg} {W : WX} {a b c : Expr} {lo hi : Option Expr} {es : List Expr} {fa fb fc : EvE} {fl fh : EvO} {fs : EvA} {pos p p2 : Pos}
theorem do_none : PO X none (semO G W noO) := po_none.imp fun σ H Q ⟨S, t, m, e, si, g⟩ => g.now si.hi
theorem do_some (h : PE X a (semE G W fa)) : PO X (some a) (semO G W (intO fa)) := by
  refine (po_some h).imp fun σ H Q ⟨S, t, m, e, si, g⟩ => ⟨S, t, m, e, si, (Gd.sp g).imp fun S1 H1 t1 m1 d p1 i1 h1 v rv => ?_⟩
  cases d with
  | int i => cases rv; exact ⟨i, rfl, Gd.now h1 i1⟩
  | _ => exact h1.elim
theorem drs_cut {K : KW} {S : Hp} {t : Th} {vs : List V} {ds : List D} (h : DRs K S t vs ds) (lo hi : Option Int) : DRs K S t (cutV vs lo hi) (cutD ds lo hi) := by
  unfold cutV cutD
  rw [h.length]
  exact (h.drop _).take _
theorem de_sl (hK : X.kw = G.K) (ha : PE X a (semB G W fa)) (hl : PO X lo (semO G W fl)) (hh : PO X hi (semO G W fh)) : PE X (.Subscript a (.Slice lo hi none p2) pos) (semE G W (slE fa fl fh)) := by
  refine (pe_slice (sl_tupA.or sl_str) ha hl hh).imp fun σ H Q ⟨S, t, m, e, si, g⟩ => ⟨S, t, m, e, si, (Gd.sp g).imp fun S1 H1 t1 m1 d p1 i1 h1 v rv => ?_⟩
  refine ⟨S1, t1, m1, e, si.stp p1 i1, (Gd.sp h1).imp fun S2 H2 t2 m2 l p2 i2 h2 => ⟨S2, t2, m2, e, (si.stp p1 i1).stp p2 i2, (Gd.sp h2).imp fun S3 H3 t3 m3 h p3 i3 h3 => ?_⟩⟩
  have rv3 := (rv.stp i1 p2).stp i2 p3
  rw [kw_K hK]
  cases d with
  | tup xs =>
    obtain ⟨q, vs, rfl, a1, a2, a3⟩ := rv3.tup i3
    refine .inl ⟨q, vs, rfl, a2, fun hw => ?_, fun hw q' hq => ?_⟩
    · have e1 : cutD xs l h = xs := by
        unfold cutD
        rw [a3.length] at hw
        rw [hw.1, hw.2]
        simp
      have h3 : Gd G W σ S3 H3 t3 (R.ok (D.tup (cutD xs l h)) m3) _ := h3
      rw [e1] at h3
      exact Gd.now h3 i3 _ (DR.tup a1 a3)
    · obtain ⟨p4, i4, r⟩ := new_tup i3 hq (drs_cut a3 l h)
      exact h3 _ _ _ p4 i4 _ r
  | str z =>
    have := rv3.str
    subst this
    have h3 : Gd G W σ S3 H3 t3 (R.of (if short z.cps.toList = true then some (D.str (cutS z l h)) else none) m3) _ := h3
    by_cases hs : short z.cps.toList = true
    · rw [if_pos hs] at h3
      exact .inr ⟨z, rfl, by have := short_le hs; simpa [Str.length] using this, Gd.now h3 i3 _ (DR.str _)⟩
    · rw [if_neg hs] at h3; exact h3.elim
  | _ => exact h3.elim
theorem df_sl (hK : X.kw = G.K) (ha : PE X a (semB G W fa)) (hl : PO X lo (semO G W fl)) (hh : PO X hi (semO G W fh)) : PE X (.Subscript a (.Slice lo hi none p2) pos) (semF G W (slF fa fl fh)) := by
  refine (pe_slice sl_list ha hl hh).imp fun σ H Q ⟨S, t, m, e, si, g⟩ => ⟨S, t, m, e, si, (Gd.sp g).imp fun S1 H1 t1 m1 d p1 i1 h1 v rv => ?_⟩
  refine ⟨S1, t1, m1, e, si.stp p1 i1, (Gd.sp h1).imp fun S2 H2 t2 m2 l p2 i2 h2 => ⟨S2, t2, m2, e, (si.stp p1 i1).stp p2 i2, (Gd.sp h2).imp fun S3 H3 t3 m3 h p3 i3 h3 => ?_⟩⟩
  have rv3 := (rv.stp i1 p2).stp i2 p3
  rw [kw_K hK]
  have up : ∀ q, H3 q = none → H q = none := fun q hq => by
    cases z : H q with
    | none => rfl
    | some o => exact absurd hq (p3.dom q (p2.dom q (p1.dom q (by rw [z]; simp))))
  cases d with
  | lst xs =>
    obtain ⟨q, vs, rfl, a2, a3⟩ := rv3.lst i3
    refine ⟨q, vs, rfl, .of a2, fun q' hq => ?_⟩
    obtain ⟨p4, i4, r⟩ := new_own i3 hq (drs_cut a3 l h)
    exact h3 _ _ _ p4 i4 _ r (up _ hq)
  | frz xs =>
    obtain ⟨q, vs, rfl, a2, a3⟩ := rv3.frz i3
    refine ⟨q, vs, rfl, a2, fun q' hq => ?_⟩
    obtain ⟨p4, i4, r⟩ := new_own i3 hq (drs_cut a3 l h)
    exact h3 _ _ _ p4 i4 _ r (up _ hq)
  | _ => exact h3.elim
theorem df_rev {k : Nat} {p1 p2 p3 : Pos} (hK : X.kw = G.K) (ha : PE X a (semB G W fa)) : PE X (.Subscript a (.Slice none none (some (.UnaryOp .USub (.Constant (.int 1) k p1) p2)) p3) pos) (semF G W (revF fa)) := by
  refine (pe_revL ha).imp fun σ H Q ⟨S, t, m, e, si, g⟩ => ⟨S, t, m, e, si, (Gd.sp g).imp fun S3 H3 t3 m3 d p3 i3 h3 v rv3 => ?_⟩
  rw [kw_K hK]
  have up : ∀ q, H3 q = none → H q = none := fun q hq => by
    cases z : H q with
    | none => rfl
    | some o => exact absurd hq (p3.dom q (by rw [z]; simp))
  cases d with
  | lst xs =>
    obtain ⟨q, vs, rfl, a2, a3⟩ := rv3.lst i3
    refine ⟨q, vs, rfl, .of a2, fun q' hq => ?_⟩
    obtain ⟨p4, i4, r⟩ := new_own i3 hq a3.reverse
    exact h3 _ _ _ p4 i4 _ r (up _ hq)
  | frz xs =>
    obtain ⟨q, vs, rfl, a2, a3⟩ := rv3.frz i3
    refine ⟨q, vs, rfl, a2, fun q' hq => ?_⟩
    obtain ⟨p4, i4, r⟩ := new_own i3 hq a3.reverse
    exact h3 _ _ _ p4 i4 _ r (up _ hq)
  | _ => exact h3.elim
end

/-! ### built-ins -/
@[simp] def lenG : Store → List D → Option D := fun m xs => match xs with
  | [.lst ds] => some (.int ds.length)
  | [.frz ds] => some (.int ds.length)
  | [.tup ds] => some (.int ds.length)
  | [.str z] => if short z.cps.toList = true then some (.int z.length) else none
  | [.ref n] => match m[n]? with
    | some (.lst ds) => some (.int ds.length)
    | _ => none
  | _ => none
@[simp] def absG : Store → List D → Option D := fun _ xs => match xs with
  | [.int i] => some (.int (if i < 0 then -i else i))
  | _ => none
@[simp] def maxG : Store → List D → Option D := fun _ xs => match xs with
  | [.int i, .int j] => some (.int (if j > i then j else i))
  | _ => none
@[simp] def minG : Store → List D → Option D := fun _ xs => match xs with
  | [.int i, .int j] => some (.int (if j < i then j else i))
  | _ => none
@[simp] def intG : Store → List D → Option D := fun _ xs => match xs with
  | [.int i] => some (.int i)
  | [.bl k] => some (.int (if k then 1 else 0))
  | _ => none
@[simp] def toInts : List D → Option (List Int)
  | [] => some []
  | .int i :: ds => (toInts ds).map fun is => i :: is
  | _ :: _ => none
@[simp] def toBls : List D → Option (List Bool)
  | [] => some []
  | .bl i :: ds => (toBls ds).map fun is => i :: is
  | _ :: _ => none
@[simp] def sumG : Store → List D → Option D := fun _ xs => match xs with
  | [.lst ds] => (toInts ds).map fun is => .int is.sum
  | _ => none
@[simp] def allG : Store → List D → Option D := fun _ xs => match xs with
  | [.lst ds] => (toBls ds).map fun is => .bl (is.all id)
  | _ => none
@[simp] def anyG : Store → List D → Option D := fun _ xs => match xs with
  | [.lst ds] => (toBls ds).map fun is => .bl (is.any id)
  | _ => none
@[simp] def tupleG : Store → List D → Option D := fun m xs => match xs with
  | [.lst ds] => some (.tup ds)
  | [.frz ds] => some (.tup ds)
  | [.tup ds] => some (.tup ds)
  | [.ref n] => match m[n]? with
    | some (.lst ds) => some (.tup ds)
    | _ => none
  | _ => none
@[simp] def listF : Store → List D → Option (List D) := fun m xs => match xs with
  | [.lst ds] => some ds
  | [.frz ds] => some ds
  | [.tup ds] => some ds
  | [.ref n] => match m[n]? with
    | some (.lst ds) => some ds
    | _ => none
  | _ => none
@[simp] def boolG : Store → List D → Option D := fun m xs => match xs with
  | [.int i] => some (.bl (i != 0))
  | [.bl k] => some (.bl k)
  | [.lst ds] => some (.bl (!ds.isEmpty))
  | _ => none
section
variable {X : Cx}
theorem BRs.one {K : KW} {S H : Hp} {t : Th} {xs : List V} {d : D} (h : BRs K S H t xs [d]) : ∃ v, xs = [v] ∧ BR K S H t v d := by
  cases h with
  | cons h1 h2 => cases h2; exact ⟨_, rfl, h1⟩
theorem BRs.two {K : KW} {S H : Hp} {t : Th} {xs : List V} {d c : D} (h : BRs K S H t xs [d, c]) : ∃ v w, xs = [v, w] ∧ BR K S H t v d ∧ BR K S H t w c := by
  cases h with
  | cons h1 h2 =>
    obtain ⟨w, rfl, h3⟩ := h2.one
    exact ⟨_, w, rfl, h1, h3⟩
theorem cb_len : CallD X (.builtin "len") lenG := by
  refine ⟨fun xs H Q => (∃ p ys, xs = [.ref p] ∧ (SqL X.K H p ys ∨ SqT X.K H p ys) ∧ Q (.int ys.length) H) ∨ ∃ z, xs = [.str z] ∧ z.length ≤ sizeLine ∧ Q (.int z.length) H, fun pins s σ H xs us Q I r h => ?_, fun S H t m xs ds z Q i bs hz q => ?_⟩
  · rcases h with h | h
    · exact call_len_seq pins s σ H xs us Q I r h
    · exact call_len_str pins s σ H xs us Q I r h
  · unfold lenG at hz
    split at hz
    · obtain ⟨v, rfl, b⟩ := bs.one
      cases hz
      obtain ⟨a, vs, rfl, a2, a3⟩ := b.lst i
      exact .inl ⟨a, vs, rfl, .inl (.of a2), by rw [a3.length]; exact q _ _ _ .refl i (.int _)⟩
    · obtain ⟨v, rfl, b⟩ := bs.one
      cases hz
      obtain ⟨a, vs, rfl, a2, a3⟩ := b.frz i
      exact .inl ⟨a, vs, rfl, .inl a2, by rw [a3.length]; exact q _ _ _ .refl i (.int _)⟩
    · obtain ⟨v, rfl, b⟩ := bs.one
      cases hz
      obtain ⟨a, vs, rfl, _, a2, a3⟩ := b.tup i
      exact .inl ⟨a, vs, rfl, .inr a2, by rw [a3.length]; exact q _ _ _ .refl i (.int _)⟩
    · obtain ⟨v, rfl, b⟩ := bs.one
      split at hz
      · rename_i hs
        cases hz
        have := b.str
        subst this
        exact .inr ⟨_, rfl, by have := short_le hs; simpa [Str.length] using this, q _ _ _ .refl i (.int _)⟩
      · cases hz
    · obtain ⟨v, rfl, b⟩ := bs.one
      split at hz
      · rename_i hm
        cases hz
        obtain ⟨a, vs, rfl, a2, a3⟩ := b.ref i hm
        exact .inl ⟨a, vs, rfl, .inl (.of a2), by rw [a3.length]; exact q _ _ _ .refl i (.int _)⟩
      · cases hz
    · cases hz
theorem cb_abs : CallD X (.builtin "abs") absG := by
  refine ⟨_, call_abs, fun S H t m xs ds z Q i bs hz q => ?_⟩
  unfold absG at hz
  split at hz
  · obtain ⟨v, rfl, b⟩ := bs.one
    cases hz
    exact ⟨_, by rw [b.int], q _ _ _ .refl i (.int _)⟩
  · cases hz
theorem cb_max (hc : X.calm = true) : CallD X (.builtin "max") maxG := by
  refine ⟨_, call_max2 hc, fun S H t m xs ds z Q i bs hz q => ?_⟩
  unfold maxG at hz
  split at hz
  · obtain ⟨v, w, rfl, b, b'⟩ := bs.two
    cases hz
    exact ⟨_, _, by rw [b.int, b'.int], q _ _ _ .refl i (.int _)⟩
  · cases hz
theorem cb_min (hc : X.calm = true) : CallD X (.builtin "min") minG := by
  refine ⟨_, call_min2 hc, fun S H t m xs ds z Q i bs hz q => ?_⟩
  unfold minG at hz
  split at hz
  · obtain ⟨v, w, rfl, b, b'⟩ := bs.two
    cases hz
    exact ⟨_, _, by rw [b.int, b'.int], q _ _ _ .refl i (.int _)⟩
  · cases hz
theorem cb_int : CallD X (.type "int") intG := by
  refine ⟨_, call_int1, fun S H t m xs ds z Q i bs hz q => ?_⟩
  unfold intG at hz
  split at hz
  · obtain ⟨v, rfl, b⟩ := bs.one
    cases hz
    exact .inl ⟨_, by rw [b.int], q _ _ _ .refl i (.int _)⟩
  · obtain ⟨v, rfl, b⟩ := bs.one
    cases hz
    exact .inr ⟨_, by rw [b.bl], q _ _ _ .refl i (.int _)⟩
  · cases hz
theorem toInts_v {K : KW} {S : Hp} {t : Th} : ∀ {ds : List D} {vs : List V} {is : List Int}, DRs K S t vs ds → toInts ds = some is → vs = is.map V.int
  | [], _, _, h, e => by cases h; unfold toInts at e; cases e; rfl
  | .int i :: ds, _, _, .cons (.int _) h2, e => by
    unfold toInts at e
    cases q : toInts ds with
    | none => rw [q] at e; cases e
    | some js =>
      rw [q] at e
      cases e
      rw [List.map_cons, toInts_v h2 q]
  | .non :: _, _, _, _, e => by unfold toInts at e; cases e
  | .bl _ :: _, _, _, _, e => by unfold toInts at e; cases e
  | .str _ :: _, _, _, _, e => by unfold toInts at e; cases e
  | .tup _ :: _, _, _, _, e => by unfold toInts at e; cases e
  | .lst _ :: _, _, _, _, e => by unfold toInts at e; cases e
  | .frz _ :: _, _, _, _, e => by unfold toInts at e; cases e
  | .dct _ :: _, _, _, _, e => by unfold toInts at e; cases e
  | .ins _ _ :: _, _, _, _, e => by unfold toInts at e; cases e
  | .ref _ :: _, _, _, _, e => by unfold toInts at e; cases e
theorem toBls_v {K : KW} {S : Hp} {t : Th} : ∀ {ds : List D} {vs : List V} {is : List Bool}, DRs K S t vs ds → toBls ds = some is → vs = is.map V.bl
  | [], _, _, h, e => by cases h; unfold toBls at e; cases e; rfl
  | .bl i :: ds, _, _, .cons (.bl _) h2, e => by
    unfold toBls at e
    cases q : toBls ds with
    | none => rw [q] at e; cases e
    | some js =>
      rw [q] at e
      cases e
      rw [List.map_cons, toBls_v h2 q]
  | .non :: _, _, _, _, e => by unfold toBls at e; cases e
  | .int _ :: _, _, _, _, e => by unfold toBls at e; cases e
  | .str _ :: _, _, _, _, e => by unfold toBls at e; cases e
  | .tup _ :: _, _, _, _, e => by unfold toBls at e; cases e
  | .lst _ :: _, _, _, _, e => by unfold toBls at e; cases e
  | .frz _ :: _, _, _, _, e => by unfold toBls at e; cases e
  | .dct _ :: _, _, _, _, e => by unfold toBls at e; cases e
  | .ins _ _ :: _, _, _, _, e => by unfold toBls at e; cases e
  | .ref _ :: _, _, _, _, e => by unfold toBls at e; cases e
theorem cb_sum (hc : X.calm = true) : CallD X (.builtin "sum") sumG := by
  refine ⟨_, cr_sum hc, fun S H t m xs ds z Q i bs hz q => ?_⟩
  unfold sumG at hz
  split at hz
  · rename_i es
    obtain ⟨v, rfl, b⟩ := bs.one
    obtain ⟨a, vs, rfl, a2, a3⟩ := b.lst i
    cases h : toInts es with
    | none => rw [h] at hz; cases hz
    | some is =>
      rw [h] at hz
      cases hz
      have := toInts_v a3 h
      subst this
      exact ⟨a, is, rfl, .of a2, q _ _ _ .refl i (.int _)⟩
  · cases hz
theorem cb_all (hc : X.calm = true) : CallD X (.builtin "all") allG := by
  refine ⟨_, cr_all hc, fun S H t m xs ds z Q i bs hz q => ?_⟩
  unfold allG at hz
  split at hz
  · rename_i es
    obtain ⟨v, rfl, b⟩ := bs.one
    obtain ⟨a, vs, rfl, a2, a3⟩ := b.lst i
    cases h : toBls es with
    | none => rw [h] at hz; cases hz
    | some is =>
      rw [h] at hz
      cases hz
      have := toBls_v a3 h
      subst this
      exact ⟨a, is, rfl, .of a2, q _ _ _ .refl i (.bl _)⟩
  · cases hz
theorem cb_any (hc : X.calm = true) : CallD X (.builtin "any") anyG := by
  refine ⟨_, cr_any hc, fun S H t m xs ds z Q i bs hz q => ?_⟩
  unfold anyG at hz
  split at hz
  · rename_i es
    obtain ⟨v, rfl, b⟩ := bs.one
    obtain ⟨a, vs, rfl, a2, a3⟩ := b.lst i
    cases h : toBls es with
    | none => rw [h] at hz; cases hz
    | some is =>
      rw [h] at hz
      cases hz
      have := toBls_v a3 h
      subst this
      exact ⟨a, is, rfl, .of a2, q _ _ _ .refl i (.bl _)⟩
  · cases hz
theorem cb_tuple : CallD X (.type "tuple") tupleG := by
  refine ⟨_, call_tuple_of, fun S H t m xs ds z Q i bs hz q => ?_⟩
  have fin : ∀ a vs es, SqL X.K H a vs → DRs X.kw S t vs es → z = .tup es → xs = [V.ref a] → ∃ p ys, xs = [.ref p] ∧ ((SqL X.K H p ys ∧ ∀ l, H l = none → Q (.ref l) (upd H l (.tup ys))) ∨ (SqT X.K H p ys ∧ Q (.ref p) H)) := by
    intro a vs es ha hd ez ex
    subst ez
    refine ⟨a, vs, ex, .inl ⟨ha, fun l hl => ?_⟩⟩
    obtain ⟨p2, i2, r⟩ := new_tup i hl hd
    exact q _ _ _ p2 i2 r
  unfold tupleG at hz
  split at hz
  · obtain ⟨v, rfl, b⟩ := bs.one
    cases hz
    obtain ⟨a, vs, rfl, a2, a3⟩ := b.lst i
    exact fin a vs _ (.of a2) a3 rfl rfl
  · obtain ⟨v, rfl, b⟩ := bs.one
    cases hz
    obtain ⟨a, vs, rfl, a2, a3⟩ := b.frz i
    exact fin a vs _ a2 a3 rfl rfl
  · obtain ⟨v, rfl, b⟩ := bs.one
    cases hz
    obtain ⟨a, vs, rfl, a1, a2, a3⟩ := b.tup i
    exact ⟨a, vs, rfl, .inr ⟨a2, q _ _ _ .refl i (.tup a1 a3)⟩⟩
  · obtain ⟨v, rfl, b⟩ := bs.one
    split at hz
    · rename_i hm
      cases hz
      obtain ⟨a, vs, rfl, a2, a3⟩ := b.ref i hm
      exact fin a vs _ (.of a2) a3 rfl rfl
    · cases hz
  · cases hz
theorem cf_list : CallF X (.type "list") listF := by
  refine ⟨_, call_list_of, fun S H t m xs ds zs Q i bs hz q => ?_⟩
  have fin : ∀ a vs, (SqL X.K H a vs ∨ SqT X.K H a vs) → DRs X.kw S t vs zs → xs = [V.ref a] → ∃ p ys, xs = [.ref p] ∧ (SqL X.K H p ys ∨ SqT X.K H p ys) ∧ ∀ l, H l = none → Q (.ref l) (upd H l (.lst ys)) := by
    intro a vs ha hd ex
    refine ⟨a, vs, ex, ha, fun l hl => ?_⟩
    obtain ⟨p2, i2, r⟩ := new_own i hl hd
    exact q _ _ _ p2 i2 r hl
  unfold listF at hz
  split at hz
  · obtain ⟨v, rfl, b⟩ := bs.one
    cases hz
    obtain ⟨a, vs, rfl, a2, a3⟩ := b.lst i
    exact fin a vs (.inl (.of a2)) a3 rfl
  · obtain ⟨v, rfl, b⟩ := bs.one
    cases hz
    obtain ⟨a, vs, rfl, a2, a3⟩ := b.frz i
    exact fin a vs (.inl a2) a3 rfl
  · obtain ⟨v, rfl, b⟩ := bs.one
    cases hz
    obtain ⟨a, vs, rfl, _, a2, a3⟩ := b.tup i
    exact fin a vs (.inr a2) a3 rfl
  · obtain ⟨v, rfl, b⟩ := bs.one
    split at hz
    · rename_i hm
      cases hz
      obtain ⟨a, vs, rfl, a2, a3⟩ := b.ref i hm
      exact fin a vs (.inl (.of a2)) a3 rfl
    · cases hz
  · cases hz
theorem cb_bool : CallD X (.type "bool") boolG := by
  refine ⟨fun xs H Q => ((∃ i, xs = [.int i] ∧ Q (.bl (i != 0)) H) ∨ ∃ k, xs = [.bl k] ∧ Q (.bl k) H) ∨ ∃ (a : Addr) (zs : List V), xs = [.ref a] ∧ SqL X.K H a zs ∧ Q (.bl (!zs.isEmpty)) H, fun pins s σ H xs us Q I r h => ?_, fun S H t m xs ds z Q i bs hz q => ?_⟩
  · rcases h with h | h
    · exact call_bool1 pins s σ H xs us Q I r h
    · exact call_boolL pins s σ H xs us Q I r h
  · unfold boolG at hz
    split at hz
    · obtain ⟨v, rfl, b⟩ := bs.one
      cases hz
      exact .inl (.inl ⟨_, by rw [b.int], q _ _ _ .refl i (.bl _)⟩)
    · obtain ⟨v, rfl, b⟩ := bs.one
      cases hz
      exact .inl (.inr ⟨_, by rw [b.bl], q _ _ _ .refl i (.bl _)⟩)
    · obtain ⟨v, rfl, b⟩ := bs.one
      cases hz
      obtain ⟨a, vs, rfl, a2, a3⟩ := b.lst i
      refine .inr ⟨a, vs, rfl, .of a2, ?_⟩
      cases a3 with
      | nil => exact q _ _ _ .refl i (.bl _)
      | cons _ _ => exact q _ _ _ .refl i (.bl _)
    · cases hz
end
end Dn
/-! isinstance; the table of defs. -/
namespace Dn
open PySem L2

/-! ### isinstance -/
@[simp] def tyD (m : Store) : D → Option String
  | .non => some "NoneType"
  | .bl _ => some "bool"
  | .int _ => some "int"
  | .str _ => some "str"
  | .tup _ => some "tuple"
  | .lst _ => some "list"
  | .frz _ => some "list"
  | .ref n => match m[n]? with
    | some (.lst _) => some "list"
    | _ => none
  | _ => none
@[simp] def isTy (T : String) (m : Store) (d : D) : Option Bool := (tyD m d).bind fun s => kitB s T
@[simp] def isE (T : String) (f : EvE) : EvE := fun C e m => (f C e m).bind fun d m1 => (R.of (isTy T m1 d) m1).bind fun b m1 => .ok (.bl b) m1
section
variable {X : Cx} {G : Cfg} {W : WX} {a b c : Expr} {es : List Expr} {fa fb fc : EvE} {fs : EvA} {pos p p2 : Pos}
theorem tyX_of {K : KW} {S H : Hp} {t : Th} {m : Store} {v : V} {d : D} {s : String} (i : HI K S H t m) (h : BR K S H t v d) (e : tyD m d = some s) : TyX K H v (.type s) := by
  cases d with
  | non => cases e; rw [h.non]; exact .base .non
  | bl x => cases e; rw [h.bl]; exact .base (.bl _)
  | int x => cases e; rw [h.int]; exact .base (.int _)
  | str x => cases e; rw [h.str]; exact .base (.str _)
  | tup xs =>
    cases e
    obtain ⟨a, vs, rfl, _, q, _⟩ := h.tup i
    rcases q with (q | ⟨o, q⟩) | ⟨o, its, n, q1, q2, _⟩
    · exact .base (.tup q)
    · exact .fTuple q
    · exact .kTuple q1 q2
  | lst xs =>
    cases e
    obtain ⟨a, vs, rfl, q, _⟩ := h.lst i
    exact .base (.lst q)
  | frz xs =>
    cases e
    obtain ⟨a, vs, rfl, q, _⟩ := h.frz i
    rcases q with (q | ⟨o, q⟩) | ⟨o, its, n, q1, q2, _⟩
    · exact .base (.lst q)
    · exact .base (.frz q)
    · exact .kList q1 q2
  | ref n =>
    have e : (match m[n]? with | some (Ob.lst _) => some "list" | _ => none) = some s := e
    cases hm : m[n]? with
    | none => rw [hm] at e; cases e
    | some ob =>
      rw [hm] at e
      cases ob with
      | lst xs =>
        cases e
        obtain ⟨a, vs, rfl, q, _⟩ := h.ref i hm
        exact .base (.lst q)
      | gone => cases e
      | dct _ => cases e
      | ins _ _ => cases e
  | dct _ => cases e
  | ins _ _ => cases e
theorem de_isi {T : String} {y : Str} {py : Pos} (hK : X.kw = G.K) (hg : Gl X "isinstance") (hm : X.mg "isinstance" = none) (hgy : Gl X y) (hmy : X.mg y = none) (hvy : bootBuiltins y = some (.type T)) (ha : PE X a (semB G W fa))
    (hny : y ≠ "__name__" := by decide) (hdy : (y == ("__debug__" : Str)) = false := by decide) (h1 : starEach [a, .Name y py] X.env = (false, eval a X.env) :: starEach [.Name y py] X.env := by rfl) (h2 : starEach [.Name y py] X.env = (false, eval (.Name y py) X.env) :: starEach [] X.env := by rfl)
    (hpl : (backTo pos (starEach [.Name y py] X.env)).any (·.1) = false := by rfl) :
    PE X (.Call (.Name "isinstance" p) [a, .Name y py] [] pos) (semE G W (isE T fa)) := by
  refine (pe_callB call_isi hg hm PyProof.Rows.boot_isinstance (pa_cons ha (pa_cons (pe_bltn (v := .ty T) hgy hmy hvy rfl hny hdy) pa_nil h2) h1) (by decide) (by decide) h1 hpl).imp fun σ H Q ⟨S, t, m, e, si, g⟩ => ⟨S, t, m, e, si, (Gd.sp g).imp fun S1 H1 t1 m1 d p1 i1 h1 v rv => ?_⟩
  rw [kw_K hK]
  unfold isTy at h1
  cases hs : tyD m1 d with
  | none => rw [hs] at h1; exact h1.elim
  | some s =>
    rw [hs] at h1
    cases hb : kitB s T with
    | none => simp [hb] at h1; exact h1.elim
    | some r =>
      simp [hb] at h1
      exact ⟨v, .ty T, .type s, .type T, r, rfl, .ty T, tyX_of i1 rv hs, kit_ty hb, Gd.now h1 i1 _ (DR.bl _)⟩
end

/-! ### the table -/
/-- a def: how many parameters, how many names, its body -/
structure Df where
  np : Nat
  nn : Nat
  body : EvS
abbrev Tab := Nat → Option Df
@[simp] def endS : SR → R D
  | .nx _ m => .ok .non m
  | .ret d m => .ok d m
  | .exc c fs _ m => .exc c fs m
  | _ => .stuck
@[simp] theorem endS_nx (e : Env) (m : Store) : endS (.nx e m) = .ok .non m := rfl
@[simp] theorem endS_ret (d : D) (m : Store) : endS (.ret d m) = .ok d m := rfl
@[simp] theorem endS_exc (c : Nat) (fs : List D) (e : Env) (m : Store) : endS (.exc c fs e m) = .exc c fs m := rfl
@[simp] def env0 (nn : Nat) (ds : List D) : Env := ds.map .dat ++ List.replicate (nn - ds.length) .em
def run (T : Tab) : Nat → Orc
  | 0, _, _, _ => .stuck
  | n + 1, f, ds, m => match T f with
    | some d => if ds.length = d.np ∧ d.np ≤ d.nn then endS (d.body (run T n) (env0 d.nn ds) m) else .stuck
    | none => .stuck
theorem si_start {K : KW} {x : Gh} {S H : Hp} {t : Th} {m : Store} {N : List Str} {vs : List V} {ds : List D} (hi : HI K S H t m) (hd : DRs K S t vs ds) : SI K x S H t m (L2.start N vs) (env0 N.length ds) := by
  have hl := hd.length
  have shape : ∀ (i : Nat) c, (env0 N.length ds)[i]? = some c → (∃ d, c = .dat d ∧ ds[i]? = some d) ∨ c = .em := fun i c h => by
    unfold env0 at h
    by_cases hlt : i < ds.length
    · rw [List.getElem?_append_left (by simpa using hlt), List.getElem?_map] at h
      cases q : ds[i]? with
      | none => rw [q] at h; cases h
      | some d => rw [q] at h; cases h; exact .inl ⟨d, rfl, rfl⟩
    · rw [List.getElem?_append_right (by simp; omega), List.getElem?_replicate] at h
      split at h
      · cases h; exact .inr rfl
      · cases h
  refine ⟨hi, ?_, fun i d h => ?_, fun i d h => ?_, fun i j d c a h _ _ _ => ?_, fun i c fs h => ?_⟩
  · unfold L2.start env0; simp [hl]
  · rcases shape i _ h with ⟨d', e, q⟩ | e
    · cases e
      obtain ⟨v, q1, q2⟩ := hd.get q
      refine ⟨v, ?_, q2⟩
      have hlt := (List.getElem?_eq_some_iff.mp q1).1
      unfold L2.start
      rw [List.getElem?_append_left (by simpa using hlt), List.getElem?_map, q1]; rfl
    · cases e
  · rcases shape i _ h with ⟨d', e, q⟩ | e
    · cases e
    · cases e
  · rcases shape i _ h with ⟨d', e, q⟩ | e
    · cases e
    · cases e
  · rcases shape i _ h with ⟨d', e, q⟩ | e
    · cases e
    · cases e
/-- the context of a def's body -/
abbrev cxG (P : Program) (w : World) (K : PySem.W.Frag) (mg : Str → Option Value) (base : Heap) (N : List Str) (qual : Str) (scope : Scope) (f : Addr) (cd : Value) (A : Around) (outer : List PySem.Env) (s : Shared) (H : Hp) (E : XK) (cb : Bool) (pn : List (Addr × Obj)) : Cx :=
  { cxOf (L2N.CX P w) P w K mg base N qual scope f cd A outer s H E with calm := cb, pn := pn }
section
variable {P : Program} {w : World} {K : PySem.W.Frag} {mg : Str → Option Value} {base : Heap}
theorem spD_len {G : Cfg} {f np : Nat} : ∀ vs H Q E, spD G f np vs H Q E → vs.length = np := fun _ _ _ _ h => h.1
/-- nothing is promised of depth 0 -/
theorem fn_zero {T : Tab} {Xs : Nat → Option (Addr × List Str)} {a : Addr} {fd : FuncData} {ps : List Str} {f np : Nat} (hl : ps.length = np) : FnOk P w K mg base (L2N.CX P w) 0 a fd ps (spD ⟨⟨K, w⟩, run T 0, Xs, none⟩ f np) :=
  ⟨fun vs H Q E h => h.1.trans hl.symm, fun A outer s H args us vs Q E hr e0 hb r hsp => by
    obtain ⟨_, S, t, m, ds, _, _, g⟩ := hsp
    exact g.elim⟩
theorem fn_step {T : Tab} {Xs : Nat → Option (Addr × List Str)} {n f : Nat} {d : Df} {x qual : Str} {st : Stmt} {a : Addr} {fd : FuncData} {N ps : List Str} (F : Fun K x qual st a fd) (Sc : FnScope N ps (defScope st)) (hT : T f = some d) (hp : ps.length = d.np) (hn : N.length = d.nn)
    (hbody : ∀ (cdv : Value) (A : Around) (outer : List PySem.Env) (s : Shared) (H : Hp) (E : XK), Room n (A.deeper (PyProof.Rows.envOfC qual (defScope st) s.heap.objs.size a cdv)) → ∀ Sn,
      PSs (cxG P w K mg base N qual (defScope st) a cdv A outer s H E true []) (defBody st) (semS ⟨⟨K, w⟩, run T n, Xs, none⟩ (fun c d _ H' => E c d H') Sn d.body)) :
    FnOk P w K mg base (L2N.CX P w) (n + 1) a fd ps (spD ⟨⟨K, w⟩, run T (n + 1), Xs, none⟩ f d.np) := by
  obtain ⟨oc, od, kV, doc, pm, an, cdv, ct, osl, rfl, lk, hcd⟩ := F.ex
  refine fn_of lk hcd Sc (fun vs H Q E h => h.1.trans hp.symm) fun A outer s H vs Q E hr ⟨hlen, S, t, m, ds, hi, hd, g⟩ => ?_
  refine ⟨_, hbody cdv A outer s H E hr ⟨S, H, t⟩, S, t, m, env0 N.length ds, ⟨si_start hi hd, .refl, fun i c b h1 h2 => ?_⟩, ?_⟩
  · exfalso
    have e := h1
    unfold env0 at e
    by_cases hlt : i < ds.length
    · rw [List.getElem?_append_left (by simpa using hlt), List.getElem?_map] at e
      cases q : ds[i]? with
      | none => rw [q] at e; cases e
      | some d => rw [q] at e; cases e
    · rw [List.getElem?_append_right (by simp; omega), List.getElem?_replicate] at e
      split at e
      · cases e
      · cases e
  · have g : Gd _ _ _ S H t (match T f with
      | some d => if ds.length = d.np ∧ d.np ≤ d.nn then endS (d.body (run T n) (env0 d.nn ds) m) else .stuck
      | none => .stuck) _ := g
    rw [hT] at g
    dsimp only at g
    have hpn : d.np ≤ d.nn := by
      have := congrArg List.length Sc.pre
      rw [List.length_take] at this
      omega
    rw [if_pos ⟨hd.length.symm.trans hlen, hpn⟩] at g
    rw [hn]
    revert g
    cases d.body (run T n) (env0 d.nn ds) m with
    | nx e m1 => exact fun g S' H' t' σ sf => g S' H' t' sf.fr sf.si.hi _ .non
    | ret d m1 => exact fun g S' H' t' v i p r => g S' H' t' p i v r
    | brk e m1 => exact fun g => g.elim
    | ct e m1 => exact fun g => g.elim
    | exc c fs e m1 => exact fun g S' H' t' σ cls dx sf x => g S' H' t' cls dx sf.fr sf.si.hi x
    | stuck => exact fun g => g.elim
theorem fn_zeroH {T : Tab} {Xs : Nat → Option (Addr × List Str)} {a : Addr} {fd : FuncData} {ps : List Str} {f np : Nat} (hl : ps.length = np) : L2H.FnH P w K mg base (L2N.CX P w) 0 a fd ps (spD ⟨⟨K, w⟩, run T 0, Xs, none⟩ f np) :=
  ⟨fun vs H Q E h => h.1.trans hl.symm, fun A outer s H args us vs Q E p hr hot hpin e0 hb r hsp => by
    obtain ⟨_, S, t, m, ds, _, _, g⟩ := hsp
    exact g.elim⟩
theorem fn_stepH {T : Tab} {Xs : Nat → Option (Addr × List Str)} {n f : Nat} {d : Df} {x qual : Str} {st : Stmt} {a : Addr} {fd : FuncData} {N ps : List Str} (F : Fun K x qual st a fd) (Sc : FnScope N ps (defScope st)) (hT : T f = some d) (hp : ps.length = d.np) (hn : N.length = d.nn)
    (hbody : ∀ (cdv : Value) (A : Around) (outer : List PySem.Env) (s : Shared) (H : Hp) (E : XK) (p : Addr × Obj), L2H.Hot1 A p → L2H.RoomH n (A.deeper (PyProof.Rows.envOfC qual (defScope st) s.heap.objs.size a cdv)) → ∀ Sn,
      PSs (cxG P w K mg base N qual (defScope st) a cdv A outer s H E false [p]) (defBody st) (semS ⟨⟨K, w⟩, run T n, Xs, none⟩ (fun c d _ H' => E c d H') Sn d.body)) :
    L2H.FnH P w K mg base (L2N.CX P w) (n + 1) a fd ps (spD ⟨⟨K, w⟩, run T (n + 1), Xs, none⟩ f d.np) := by
  obtain ⟨oc, od, kV, doc, pm, an, cdv, ct, osl, rfl, lk, hcd⟩ := F.ex
  refine L2H.fn_ofH lk hcd Sc (fun vs H Q E h => h.1.trans hp.symm) fun A outer s H vs Q E p hot hr ⟨hlen, S, t, m, ds, hi, hd, g⟩ => ?_
  refine ⟨_, hbody cdv A outer s H E p hot hr ⟨S, H, t⟩, S, t, m, env0 N.length ds, ⟨si_start hi hd, .refl, fun i c b h1 h2 => ?_⟩, ?_⟩
  · exfalso
    have e := h1
    unfold env0 at e
    by_cases hlt : i < ds.length
    · rw [List.getElem?_append_left (by simpa using hlt), List.getElem?_map] at e
      cases q : ds[i]? with
      | none => rw [q] at e; cases e
      | some d => rw [q] at e; cases e
    · rw [List.getElem?_append_right (by simp; omega), List.getElem?_replicate] at e
      split at e
      · cases e
      · cases e
  · have g : Gd _ _ _ S H t (match T f with
      | some d => if ds.length = d.np ∧ d.np ≤ d.nn then endS (d.body (run T n) (env0 d.nn ds) m) else .stuck
      | none => .stuck) _ := g
    rw [hT] at g
    dsimp only at g
    have hpn : d.np ≤ d.nn := by
      have := congrArg List.length Sc.pre
      rw [List.length_take] at this
      omega
    rw [if_pos ⟨hd.length.symm.trans hlen, hpn⟩] at g
    rw [hn]
    revert g
    cases d.body (run T n) (env0 d.nn ds) m with
    | nx e m1 => exact fun g S' H' t' σ sf => g S' H' t' sf.fr sf.si.hi _ .non
    | ret d m1 => exact fun g S' H' t' v i p r => g S' H' t' p i v r
    | brk e m1 => exact fun g => g.elim
    | ct e m1 => exact fun g => g.elim
    | exc c fs e m1 => exact fun g S' H' t' σ cls dx sf x => g S' H' t' cls dx sf.fr sf.si.hi x
    | stuck => exact fun g => g.elim
/-- errors leave the frame -/
theorem takesG {N : List Str} {qual : Str} {scope : Scope} {f : Addr} {cd : Value} {A : Around} {outer : List PySem.Env} {s : Shared} {H : Hp} {E : XK} {cb : Bool} {pn : List (Addr × Obj)} :
    L2N.Takes (cxG P w K mg base N qual scope f cd A outer s H E cb pn) (fun c d _ H' => E c d H') := L2N.takes_of rfl rfl rfl rfl
theorem passesG {N : List Str} {qual : Str} {scope : Scope} {f : Addr} {cd : Value} {A : Around} {outer : List PySem.Env} {s : Shared} {H : Hp} {E : XK} {cb : Bool} {pn : List (Addr × Obj)} :
    PassesOwn (model P w) (cxG P w K mg base N qual scope f cd A outer s H E cb pn).A (cxG P w K mg base N qual scope f cd A outer s H E cb pn).env (cxG P w K mg base N qual scope f cd A outer s H E cb pn).xe :=
  passes_of (X := cxG P w K mg base N qual scope f cd A outer s H E cb pn) rfl
theorem takes0 {X : Cx} : L2N.Takes X W0 := fun _ _ x => by
  obtain ⟨_, _, _, _, _, _, _, _, _, _, _, _, _, _, _, _, z⟩ := x
  exact z.elim
end
end Dn
/-! New lists at once settled; what is never reached; what the top holds. -/
namespace Dn
open PySem L2
section
variable {X : Cx}
theorem OpF.settle {f : Value → Value → Sem Value} {g : Store → D → D → Option (List D)} (h : OpF X f g) : OpD X f (fun m x y => (g m x y).map .lst) := by
  obtain ⟨r, r1, r2⟩ := h
  refine ⟨r, r1, fun S H t m x y d e z Q i bx b_y hz q => ?_⟩
  dsimp only at hz
  cases hg : g m d e with
  | none => rw [hg] at hz; cases hz
  | some zs =>
    rw [hg] at hz
    cases hz
    refine r2 S H t m x y d e zs Q i bx b_y hg fun p S' H' p' i' o hn => ?_
    obtain ⟨S2, q2, i2, rr⟩ := o.settle i' p' hn
    exact q _ _ _ q2 i2 rr
theorem CallF.settle {f : Value} {g : Store → List D → Option (List D)} (h : CallF X f g) : CallD X f (fun m xs => (g m xs).map .lst) := by
  obtain ⟨r, r1, r2⟩ := h
  refine ⟨r, r1, fun S H t m xs ds z Q i bs hz q => ?_⟩
  dsimp only at hz
  cases hg : g m ds with
  | none => rw [hg] at hz; cases hz
  | some zs =>
    rw [hg] at hz
    cases hz
    refine r2 S H t m xs ds zs Q i bs hg fun p S' H' p' i' o hn => ?_
    obtain ⟨S2, q2, i2, rr⟩ := o.settle i' p' hn
    exact q _ _ _ q2 i2 rr
@[simp] def addA : Store → D → D → Option D := orO addG (fun m x y => (catF m x y).map .lst)
theorem od_addA : OpD X (binaryOp .Add) addA := od_add.or of_cat.settle
end
/-! ### what is never reached -/
def stuckE : EvE := fun _ _ _ => .stuck
def stuckS : EvS := fun _ _ _ => .stuck
section
variable {X : Cx} {G : Cfg} {W : WX} {E : Snap} {a b c : Expr} {es : List Expr} {fa fb fc : EvE} {fs : EvA} {pos p p2 : Pos}
theorem de_any {e : Expr} : PE X e (semE G W stuckE) := ⟨fun _ _ _ _ _ _ ⟨_, _, _, _, _, g⟩ => g.elim⟩
theorem ds_any {st : Stmt} : PS X st (semS G W E stuckS) := ⟨fun _ _ _ _ _ _ ⟨_, _, _, _, _, g⟩ => (show False from g).elim⟩
theorem dss_any {st : List Stmt} : PSs X st (semS G W E stuckS) := ⟨fun _ _ _ _ _ _ ⟨_, _, _, _, _, g⟩ => (show False from g).elim⟩
theorem de_glob {x : Str} {v : V} {u : Value} {d : D} (hg : Gl X x) (hm : X.mg x = some u) (r : RelV v u) (hd : ∀ S t, DR G.K S t v d) (hdb : (x == ("__debug__" : Str)) = false := by decide) : PE X (.Name x pos) (semE G W (conE d)) := de_con (pe_glob hg hm r hdb) hd
theorem de_one {op} (h : PE X a (semE G W fa)) : PE X (.BoolOp op [a] pos) (semE G W fa) := pe_one h
theorem dt_and1 {t : EvT} (h : PT X a (semT G W t)) : PW X (.BoolOp .And [a] pos) (semT G W t) := pw_and1 h
theorem dt_or1 {t : EvT} (h : PT X a (semT G W t)) : PW X (.BoolOp .Or [a] pos) (semT G W t) := pw_or1 h
/-- slices, a list's at once settled -/
def cutA : D → Option Int → Option Int → Option D := fun d lo hi => match cutG d lo hi with
  | some z => some z
  | none => (cutF d lo hi).map .lst
@[simp] def slA (f : EvE) (l h : EvO) : EvE := fun C e m => (f C e m).bind fun d m1 => (l C e m1).bind fun lo m2 => (h C e m2).bind fun hi m3 => .of (cutA d lo hi) m3
theorem new_lst {K : KW} {S H : Hp} {t : Th} {m : Store} {p : Addr} {vs : List V} {ds : List D} (i : HI K S H t m) (h : H p = none) (hd : DRs K S t vs ds) :
    Stp S H t (upd S p (.lst vs)) (upd H p (.lst vs)) t ∧ HI K (upd S p (.lst vs)) (upd H p (.lst vs)) t m ∧ DR K (upd S p (.lst vs)) t (.ref p) (.lst ds) := by
  obtain ⟨i2, p2⟩ := new_hi (o := .lst vs) i h
  exact ⟨p2, i2, .lst upd_same (hd.stp i p2)⟩
theorem de_slA {lo hi : Option Expr} {fl fh : EvO} (hK : X.kw = G.K) (ha : PE X a (semB G W fa)) (hl : PO X lo (semO G W fl)) (hh : PO X hi (semO G W fh)) : PE X (.Subscript a (.Slice lo hi none p2) pos) (semE G W (slA fa fl fh)) := by
  refine (pe_slice (sl_list.or (sl_tupA.or sl_str)) ha hl hh).imp fun σ H Q ⟨S, t, m, e, si, g⟩ => ⟨S, t, m, e, si, (Gd.sp g).imp fun S1 H1 t1 m1 d p1 i1 h1 v rv => ?_⟩
  refine ⟨S1, t1, m1, e, si.stp p1 i1, (Gd.sp h1).imp fun S2 H2 t2 m2 l p2 i2 h2 => ⟨S2, t2, m2, e, (si.stp p1 i1).stp p2 i2, (Gd.sp h2).imp fun S3 H3 t3 m3 h p3 i3 h3 => ?_⟩⟩
  have rv3 := (rv.stp i1 p2).stp i2 p3
  rw [kw_K hK]
  cases d with
  | lst xs =>
    obtain ⟨q, vs, rfl, a2, a3⟩ := rv3.lst i3
    refine .inl ⟨q, vs, rfl, .of a2, fun q' hq => ?_⟩
    obtain ⟨p4, i4, r⟩ := new_lst i3 hq (drs_cut a3 l h)
    exact h3 _ _ _ p4 i4 _ r
  | frz xs =>
    obtain ⟨q, vs, rfl, a2, a3⟩ := rv3.frz i3
    refine .inl ⟨q, vs, rfl, a2, fun q' hq => ?_⟩
    obtain ⟨p4, i4, r⟩ := new_lst i3 hq (drs_cut a3 l h)
    exact h3 _ _ _ p4 i4 _ r
  | tup xs =>
    obtain ⟨q, vs, rfl, a1, a2, a3⟩ := rv3.tup i3
    refine .inr (.inl ⟨q, vs, rfl, a2, fun hw => ?_, fun hw q' hq => ?_⟩)
    · have e1 : cutD xs l h = xs := by
        unfold cutD
        rw [a3.length] at hw
        rw [hw.1, hw.2]
        simp
      have h3 : Gd G W σ S3 H3 t3 (R.ok (D.tup (cutD xs l h)) m3) _ := h3
      rw [e1] at h3
      exact Gd.now h3 i3 _ (DR.tup a1 a3)
    · obtain ⟨p4, i4, r⟩ := new_tup i3 hq (drs_cut a3 l h)
      exact h3 _ _ _ p4 i4 _ r
  | str z =>
    have := rv3.str
    subst this
    have h3 : Gd G W σ S3 H3 t3 (R.of (cutA (.str z) l h) m3) _ := h3
    unfold cutA cutG at h3
    dsimp only at h3
    by_cases hs : short z.cps.toList = true
    · rw [if_pos hs] at h3
      exact .inr (.inr ⟨z, rfl, by have := short_le hs; simpa [Str.length] using this, Gd.now h3 i3 _ (DR.str _)⟩)
    · rw [if_neg hs] at h3; exact h3.elim
  | _ => exact h3.elim
/-- a list's truth, a text's, a number's -/
def truD : Store → D → Option Bool := fun m d => match d with
  | .non => some false
  | .bl b => some b
  | .int i => some (i != 0)
  | .lst xs => some (!xs.isEmpty)
  | .frz xs => some (!xs.isEmpty)
  | .tup xs => some (!xs.isEmpty)
  | .str y => if short y.cps.toList = true then some ((y.length : Int) != 0) else none
  | _ => none
end
end Dn
/-! Rules in the form that the printer uses. -/
namespace Dn
open PySem L2
theorem hu65 {n : Nat} {A : Around} (r : Room n A) : A.units + 65 < cLine := by have := r.un; omega
theorem hu65H {n : Nat} {A : Around} (r : L2H.RoomH n A) : A.units + 65 < cLine := by have := r.un; omega
theorem roomS {n : Nat} {A : Around} (r : Room n A) {h : Option Value} : L2H.RoomH n (A.mark h) := ⟨r.dp, r.un⟩
theorem hotS {X : Cx} {a : Addr} {oe : Obj} {pn : List (Addr × Obj)} {cls : Value} {d : Option Addr} (hz : L2N.Zn cls d oe) (ho : ∃ vs, oe.data = .fields vs) : L2H.HotC (X.suite a ((a, oe) :: pn)) := by
  obtain ⟨vs, hd⟩ := ho
  exact ⟨(a, oe), ⟨rfl, vs, hd, hz.2.2 vs hd⟩, List.mem_cons_self⟩
section
variable {X : Cx} {G : Cfg} {W : WX} {E : Snap} {a b c : Expr} {es : List Expr} {fa fb fc : EvE} {fs : EvA} {pos p p2 : Pos}
theorem de_bb {id : String} {x : Str} {g : Store → List D → Option D} (ho : CallD X (.builtin id) g) (hK : X.kw = G.K) (hg : Gl X x) (hm : X.mg x = none) (hv : bootBuiltins x = some (.builtin id)) (ha : PA X (a :: es) (semAB G W fs)) (hn : x ≠ "__name__" := by decide) (hdb : (x == ("__debug__" : Str)) = false := by decide)
    (he : starEach (a :: es) X.env = (false, eval a X.env) :: starEach es X.env := by rfl) (hpl : (backTo pos (starEach es X.env)).any (·.1) = false := by rfl) : PE X (.Call (.Name x p) (a :: es) [] pos) (semE G W (bltE g fs)) :=
  de_blt (id := x) ho hK (fun r h t ht => pe_callB h hg hm hv ht hn hdb he hpl) ha
theorem de_bt {id : String} {x : Str} {g : Store → List D → Option D} (ho : CallD X (.type id) g) (hK : X.kw = G.K) (hg : Gl X x) (hm : X.mg x = none) (hv : bootBuiltins x = some (.type id)) (ha : PA X (a :: es) (semAB G W fs)) (hn : x ≠ "__name__" := by decide) (hdb : (x == ("__debug__" : Str)) = false := by decide)
    (he : starEach (a :: es) X.env = (false, eval a X.env) :: starEach es X.env := by rfl) (hpl : (backTo pos (starEach es X.env)).any (·.1) = false := by rfl) : PE X (.Call (.Name x p) (a :: es) [] pos) (semE G W (bltE g fs)) :=
  de_blt (id := x) ho hK (fun r h t ht => pe_callTy h hg hm hv ht hn hdb he hpl) ha
theorem df_bb {id : String} {x : Str} {g : Store → List D → Option (List D)} (ho : CallF X (.builtin id) g) (hK : X.kw = G.K) (hg : Gl X x) (hm : X.mg x = none) (hv : bootBuiltins x = some (.builtin id)) (ha : PA X (a :: es) (semAB G W fs)) (hn : x ≠ "__name__" := by decide) (hdb : (x == ("__debug__" : Str)) = false := by decide)
    (he : starEach (a :: es) X.env = (false, eval a X.env) :: starEach es X.env := by rfl) (hpl : (backTo pos (starEach es X.env)).any (·.1) = false := by rfl) : PE X (.Call (.Name x p) (a :: es) [] pos) (semF G W (bltF g fs)) :=
  df_blt (id := x) ho hK (fun r h t ht => pe_callB h hg hm hv ht hn hdb he hpl) ha
theorem df_bt {id : String} {x : Str} {g : Store → List D → Option (List D)} (ho : CallF X (.type id) g) (hK : X.kw = G.K) (hg : Gl X x) (hm : X.mg x = none) (hv : bootBuiltins x = some (.type id)) (ha : PA X (a :: es) (semAB G W fs)) (hn : x ≠ "__name__" := by decide) (hdb : (x == ("__debug__" : Str)) = false := by decide)
    (he : starEach (a :: es) X.env = (false, eval a X.env) :: starEach es X.env := by rfl) (hpl : (backTo pos (starEach es X.env)).any (·.1) = false := by rfl) : PE X (.Call (.Name x p) (a :: es) [] pos) (semF G W (bltF g fs)) :=
  df_blt (id := x) ho hK (fun r h t ht => pe_callTy h hg hm hv ht hn hdb he hpl) ha
theorem de_globX {x : Str} {v : V} {d : D} (hg : Gl X x) (hm : ∃ u, X.mg x = some u ∧ RelV v u) (hd : ∀ S t, DR G.K S t v d) (hdb : (x == ("__debug__" : Str)) = false := by decide) : PE X (.Name x pos) (semE G W (conE d)) := by
  obtain ⟨u, h1, h2⟩ := hm
  exact de_glob hg h1 h2 hd hdb
/-! list(range(..)) -/
@[simp] def rg1 : D → Option (List D)
  | .int n => if (bdI n && decide (n.toNat ≤ 100000)) = true then some (rng 0 n.toNat) else none
  | _ => none
@[simp] def rg2 : D → D → Option (List D)
  | .int i, .int j => if (bdI i && bdI j && decide ((j - i).toNat ≤ 100000)) = true then some (rng i (j - i).toNat) else none
  | _, _ => none
@[simp] def listRg1 (f : EvE) : EvE := fun C e m => (f C e m).bind fun d m1 => .of ((rg1 d).map .lst) m1
@[simp] def listRg2 (f g : EvE) : EvE := fun C e m => (f C e m).bind fun d m1 => (g C e m1).bind fun d2 m2 => .of ((rg2 d d2).map .lst) m2
theorem rng_v {K : KW} {S : Hp} {t : Th} (a b : Int) : DRs K S t (rgV a b) (rng a (b - a).toNat) := by
  unfold rgV rng
  generalize List.range (b - a).toNat = l
  induction l with
  | nil => exact .nil
  | cons x l ih => exact .cons (.int _) ih
theorem rg_ok {i j : Int} (h1 : bdI i = true) (h2 : bdI j = true) (h3 : (j - i).toNat ≤ 100000) : RgOk i j := by
  obtain ⟨a1, a2⟩ := bdI_lo h1
  obtain ⟨b1, b2⟩ := bdI_lo h2
  exact ⟨a1, a2, b1, b2, Nat.le_trans h3 (by decide)⟩
theorem de_listRg1 {q : Pos} {p3 : Pos} (hc : X.calm = true) (hg : Gl X "list") (hm : X.mg "list" = none) (hg2 : Gl X "range") (hm2 : X.mg "range" = none) (ha : PE X a (semE G W fa))
    (na : starEach [a] X.env = (false, eval a X.env) :: starEach [] X.env := by rfl) (nb : starEach [.Call (.Name "range" p3) [a] [] q] X.env = (false, eval (.Call (.Name "range" p3) [a] [] q) X.env) :: starEach [] X.env := by rfl) :
    PE X (.Call (.Name "list" p) [.Call (.Name "range" p3) [a] [] q] [] pos) (semE G W (listRg1 fa)) := by
  refine (pe_listRg hc hg hm (prg_1 hg2 hm2 ha na) nb).imp fun σ H Q ⟨S, t, m, e, si, g⟩ => ⟨S, t, m, e, si, (Gd.sp g).imp fun S1 H1 t1 m1 d p1 i1 h1 v rv => ?_⟩
  cases d with
  | int n =>
    cases rv
    have h1 : Gd G W σ S1 H1 t1 (R.of ((if (bdI n && decide (n.toNat ≤ 100000)) = true then some (rng 0 n.toNat) else none).map D.lst) m1) _ := h1
    by_cases hb : (bdI n && decide (n.toNat ≤ 100000)) = true
    · rw [if_pos hb] at h1
      simp only [Bool.and_eq_true, decide_eq_true_eq] at hb
      refine ⟨n, rfl, rg_ok (by decide) hb.1 (by simpa using hb.2), fun q' hq => ?_⟩
      have hd := rng_v (K := G.K) (S := S1) (t := t1) 0 n
      have e0 : (n - 0 : Int) = n := by omega
      rw [e0] at hd
      obtain ⟨p4, i4, r⟩ := new_lst i1 hq hd
      exact h1 _ _ _ p4 i4 _ r
    · rw [if_neg hb] at h1; exact h1.elim
  | _ => exact h1.elim
theorem de_listRg2 {q : Pos} {p3 : Pos} (hc : X.calm = true) (hg : Gl X "list") (hm : X.mg "list" = none) (hg2 : Gl X "range") (hm2 : X.mg "range" = none) (ha : PE X a (semE G W fa)) (hb : PE X b (semE G W fb))
    (na : starEach [a, b] X.env = (false, eval a X.env) :: starEach [b] X.env := by rfl) (nb : starEach [b] X.env = (false, eval b X.env) :: starEach [] X.env := by rfl) (hp : (backTo q (starEach [b] X.env)).any (·.1) = false := by rfl)
    (nc : starEach [.Call (.Name "range" p3) [a, b] [] q] X.env = (false, eval (.Call (.Name "range" p3) [a, b] [] q) X.env) :: starEach [] X.env := by rfl) :
    PE X (.Call (.Name "list" p) [.Call (.Name "range" p3) [a, b] [] q] [] pos) (semE G W (listRg2 fa fb)) := by
  refine (pe_listRg hc hg hm (prg_2 hg2 hm2 ha hb na nb hp) nc).imp fun σ H Q ⟨S, t, m, e, si, g⟩ => ⟨S, t, m, e, si, (Gd.sp g).imp fun S1 H1 t1 m1 d p1 i1 h1 v rv => ?_⟩
  refine ⟨S1, t1, m1, e, si.stp p1 i1, (Gd.sp h1).imp fun S2 H2 t2 m2 d2 p2 i2 h2 w rw' => ?_⟩
  cases d with
  | int i =>
    cases rv
    cases d2 with
    | int j =>
      cases rw'
      have h2 : Gd G W σ S2 H2 t2 (R.of ((if (bdI i && bdI j && decide ((j - i).toNat ≤ 100000)) = true then some (rng i (j - i).toNat) else none).map D.lst) m2) _ := h2
      by_cases hb : (bdI i && bdI j && decide ((j - i).toNat ≤ 100000)) = true
      · rw [if_pos hb] at h2
        simp only [Bool.and_eq_true, decide_eq_true_eq] at hb
        refine ⟨i, j, rfl, rfl, rg_ok hb.1.1 hb.1.2 hb.2, fun q' hq => ?_⟩
        obtain ⟨p4, i4, r⟩ := new_lst i2 hq (rng_v (K := G.K) (S := S2) (t := t2) i j)
        exact h2 _ _ _ p4 i4 _ r
      · rw [if_neg hb] at h2; exact h2.elim
    | _ => exact h2.elim
  | _ =>
    exfalso
    cases d2 <;> exact h2
end
/-! the law's own call -/
theorem only_hi {K : KW} {H : Hp} : HI K H H (fun _ => none) [] := ⟨.refl H, (fun n xs h => by simp at h), (fun n a h => by cases h), (fun n k a h => by cases h), fun _ _ => rfl⟩
theorem frz_v {K : KW} {S : Hp} {t : Th} {a : Addr} {ns : List Int} (h : SqL K S a (ns.map V.int)) : DR K S t (.ref a) (.frz (ns.map D.int)) := by
  refine .frz h ?_
  induction ns with
  | nil => exact .nil
  | cons n ns ih => exact .cons (.int n) (by
      clear ih h
      induction ns with
      | nil => exact .nil
      | cons n ns ih => exact .cons (.int n) ih)
theorem law_sp {T : Tab} {K : KW} {Xs : Nat → Option (Addr × List Str)} {n f : Nat} {H : Hp} {a : Addr} {ns : List Int} {m' : Store} (hs : SqL K H a (ns.map V.int)) (h : run T n f [.frz (ns.map D.int)] [] = .ok (.bl true) m') :
    spD ⟨K, run T n, Xs, none⟩ f 1 [.ref a] H (fun v _ => v = .bl true) fun _ _ _ => False := by
  refine ⟨rfl, H, fun _ => none, [], [.frz (ns.map D.int)], only_hi, .cons (frz_v hs) .nil, ?_⟩
  show Gd _ _ _ H H _ (run T n f [.frz (ns.map D.int)] []) _
  rw [h]
  intro S' H' t' p i v r
  cases r
  rfl
end Dn
namespace Dn
open PySem L2
@[simp] def listG : Store → List D → Option D := fun m xs => (listF m xs).map .lst
@[simp] def sortG : Store → List D → Option D := fun m xs => (sortF m xs).map .lst
theorem cb_list {X : Cx} : CallD X (.type "list") listG := cf_list.settle
theorem cb_sort {X : Cx} (hu : X.A.units + 65 < cLine) : CallD X (.builtin "sorted") sortG := (cf_sort hu).settle
theorem FncH.suite {P : Program} {w : World} {K : PySem.W.Frag} {mg : Str → Option Value} {base : Heap} {G : Cfg} {n f np : Nat} {x : Str} {y : Gh} (h : FncH P w K mg base G n f np x) : FncH P w K mg base { G with x := y } n f np x := ⟨h.ok⟩
end Dn

namespace Dn
open PySem L2
section
variable {X : Cx} {G : Cfg} {W : WX} {E : Snap}
theorem df_lcV {elt tg iter : Expr} {ifs : List Expr} {scope : Scope} {own : List (Str × Nat)} {ws : List Nat} {pos : Pos} {fi : EvA} {g : Tg} {tt : EvT} {te : EvE} (hc : X.calm = true) (hN : X.N.Nodup) (ok : BlkOk X.N X.env.scope scope own) (hws : own.map (·.2) = ws) (hi : PI X tg iter (semI G W fi))
    (hv : (tslots g).all (fun j => ws.contains j) = true)
    (hg : ∀ (s : Shared) (H : Hp) (C : Addr) (cl : List (Str × Addr)) (fp : List Addr), PG (X.blk s H scope (compEnvC scope cl C X.env) fp) tg (semG G.K G.x g)) (ht : ∀ (s : Shared) (H : Hp) (C : Addr) (cl : List (Str × Addr)) (fp : List Addr), PTs (X.blk s H scope (compEnvC scope cl C X.env) fp) ifs (semT G W0 tt))
    (he : ∀ (s : Shared) (H : Hp) (C : Addr) (cl : List (Str × Addr)) (fp : List Addr), PE (X.blk s H scope (compEnvC scope cl C X.env) fp) elt (semE G W0 te)) (hs : ∀ x, foldedSetIterable iter X.env x = pure x := by intro _; rfl) :
    PE X (.ListComp elt [⟨tg, iter, ifs, 0⟩] scope pos) (semF G W (lcF fi g tt te ws)) := by
  subst hws
  exact df_lc hc hN hi ok hv hg ht he hs
theorem ds_ownLcV {i : Nat} {y : Str} {py : Pos} {elt tg iter : Expr} {ifs : List Expr} {scope : Scope} {own : List (Str × Nat)} {ws : List Nat} {lpos spos : Pos} {fi : EvA} {g : Tg} {tt : EvT} {te : EvE} (hc : X.calm = true) (hN : X.N.Nodup) (hy : X.N[i]? = some y) (hyl : X.env.scope.names.lookup y = some .local)
    (hsw : swapsWith (.ListComp elt [⟨tg, iter, ifs, 0⟩] scope lpos) (some (.Name y py)) spos.line X.env = pure true) (ok : BlkOk X.N X.env.scope scope own) (hws : own.map (·.2) = ws) (hi : PI X tg iter (semI G W fi)) (hv : (tslots g).all (fun j => ws.contains j) = true)
    (hg : ∀ (s : Shared) (H : Hp) (C : Addr) (cl : List (Str × Addr)) (fp : List Addr), PG (X.blk s H scope (compEnvC scope cl C X.env) fp) tg (semG G.K G.x g)) (ht : ∀ (s : Shared) (H : Hp) (C : Addr) (cl : List (Str × Addr)) (fp : List Addr), PTs (X.blk s H scope (compEnvC scope cl C X.env) fp) ifs (semT G W0 tt))
    (he : ∀ (s : Shared) (H : Hp) (C : Addr) (cl : List (Str × Addr)) (fp : List Addr), PE (X.blk s H scope (compEnvC scope cl C X.env) fp) elt (semE G W0 te)) (hs : ∀ x, foldedSetIterable iter X.env x = pure x := by intro _; rfl) :
    PS X (.Assign [.Name y py] (.ListComp elt [⟨tg, iter, ifs, 0⟩] scope lpos) spos) (semS G W E (ownS i (lcF fi g tt te ws))) := by
  subst hws
  exact ds_ownLc hc hN hy hyl hsw hi ok hv hg ht he hs
theorem ds_setLcV {i : Nat} {y : Str} {py : Pos} {elt tg iter : Expr} {ifs : List Expr} {scope : Scope} {own : List (Str × Nat)} {ws : List Nat} {lpos spos : Pos} {fi : EvA} {g : Tg} {tt : EvT} {te : EvE} (hc : X.calm = true) (hN : X.N.Nodup) (hy : X.N[i]? = some y) (hyl : X.env.scope.names.lookup y = some .local)
    (hsw : swapsWith (.ListComp elt [⟨tg, iter, ifs, 0⟩] scope lpos) (some (.Name y py)) spos.line X.env = pure true) (ok : BlkOk X.N X.env.scope scope own) (hws : own.map (·.2) = ws) (hi : PI X tg iter (semI G W fi)) (hv : (tslots g).all (fun j => ws.contains j) = true)
    (hg : ∀ (s : Shared) (H : Hp) (C : Addr) (cl : List (Str × Addr)) (fp : List Addr), PG (X.blk s H scope (compEnvC scope cl C X.env) fp) tg (semG G.K G.x g)) (ht : ∀ (s : Shared) (H : Hp) (C : Addr) (cl : List (Str × Addr)) (fp : List Addr), PTs (X.blk s H scope (compEnvC scope cl C X.env) fp) ifs (semT G W0 tt))
    (he : ∀ (s : Shared) (H : Hp) (C : Addr) (cl : List (Str × Addr)) (fp : List Addr), PE (X.blk s H scope (compEnvC scope cl C X.env) fp) elt (semE G W0 te)) (hs : ∀ x, foldedSetIterable iter X.env x = pure x := by intro _; rfl) :
    PS X (.Assign [.Name y py] (.ListComp elt [⟨tg, iter, ifs, 0⟩] scope lpos) spos) (semS G W E (asgS (.nm i) (frzE (lcF fi g tt te ws)))) := by
  subst hws
  exact ds_setLc hc hN hy hyl hsw hi ok hv hg ht he hs
end
end Dn
/-! An own error of the second level: its __init__ says super().__init__("..") and keeps one field. -/
namespace PySem
namespace DnX
open PySem.W PySem.Calls PyProof.Rows PySem.HandSPX PySem.ESX
abbrev exT2 (O : Addr) : List Value := .ref O :: exTail
def iA (f : Str) (p1 p2 : Pos) : Arguments := { posonlyargs := [], args := [{ arg := "self", annotation := none, pos := p1 }, { arg := f, annotation := none, pos := p2 }], vararg := none, kwonlyargs := [], kw_defaults := [], kwarg := none, defaults := [] }
def iB (f msg : Str) (j : Nat) (q1 q2 q3 q4 q5 q6 q7 q8 q9 q10 : Pos) : List Stmt :=
  [.Expr (.Call (.Attribute (.Call (.Name "super" q1) [] [] q2) "__init__" q3) [.Constant (.str msg) j q4] [] q5) q6, .Assign [.Attribute (.Name "self" q7) f q8] (.Name f q9) q10]
def iS (f : Str) : Scope := { kind := .function, names := [(PySem.Str.ofString "self", .local), (f, .local), (PySem.Str.ofString "__class__", .free), (PySem.Str.ofString "super", .globalImplicit)], isGenerator := false, isCoroutine := false, more := [] }
theorem mro_has2 {K : W.Frag} {C O : Addr} {cd : ClassData} (hcd : W.clsIn K C = some cd) (hm : cd.mro = .ref C :: exT2 O) {b : Value} (hb : (Value.ref C :: exT2 O).contains b = true) : W.mroIn K C b = some true := by
  unfold W.mroIn
  rw [hcd, Option.bind_some, hm, if_neg (show ¬ (List.isEmpty (Value.ref C :: exT2 O) = true) from Bool.false_ne_true), hb]
theorem tail2 {C O : Addr} (X : String) (hX : exTail.contains (.type X) = true) : (Value.ref C :: exT2 O).contains (.type X) = true := by
  rw [List.contains_cons, List.contains_cons, hX, Bool.or_true, Bool.or_true]
theorem cont2 {O : Addr} (X : String) : (exT2 O).contains (.type X) = exTail.contains (.type X) := by
  rw [List.contains_cons]
  have : (Value.type X == Value.ref O) = false := by simp
  rw [this, Bool.false_or]
section
open Builtin Builtin.ObjectAttr
variable {prog : Program} {w : World} {A : Around} {E : Value → Shared → Prop} {R : Result → Shared → Prop} {hp : Heap} {g : Array GenState} {d : Drawn} {t : Nat} {os : OsState}
theorem osa2 {K : W.Frag} {name : Str} {tk : Tok} {v : Value} {x C O : Addr} {ox : Obj} {od : Option Obj} {cd : ClassData}
    (X : K.In hp) (I : W.InstAt hp x ox C od) (hcd : W.clsIn K C = some cd) (hm : cd.mro = .ref C :: exT2 O) (ha : W.findIn K (.ref C) name = some none)
    (hq : wpAny (model prog w) A.in1 (storeInOwnDict (.ref x) (.ref C) (.str name tk) name v false)
      (fun fin s' => match fin with | .done f => R (.ok f) s' | .again c' => c'.quiet = true ∧ codeAny (model prog w) A c' R s') (fun e s' => R (.error e) s') ⟨hp, g, d, t, os⟩) :
    codeAny (model prog w) A (.call (.builtin "object.__setattr__") ⟨[.ref x, .str name tk, v], []⟩) R ⟨hp, g, d, t, os⟩ := by
  have SF := F.store_object
  have sub : W.Looks (model prog w) hp (isInstance (.ref x) (.type "object")) true := I.type.andThen (W.looks_mroIn X (mro_has2 hcd hm (tail2 "object" (by decide +kernel))))
  refine codeAny_call_builtin SF.slot.plain SF.entry (@W.check_slot (model prog w) _ _ ⟨hp, g, d, t, os⟩ "object.__setattr__" "object" "__setattr__" (.ref x) [.str name tk, v] [] _ SF.kind SF.split sub (SF.args (.ref x) (.str name tk) v) ?_)
  have hmr : W.Looks (model prog w) hp (mroOf (.ref C)) cd.mro := (W.looks_clsIn X hcd).andThen .now
  have L3 : W.Looks (model prog w) hp (storeTaker? none) none := .now
  have hpass : refuseLoop (.ref x) "__setattr__" cd.mro = pure () := by
    rw [hm, refuseLoop_ref, refuseLoop_ref]
    exact F.store_Exception.passes _
  rw [W.osa_eq, refuse_eq]
  refine wpAny_bind (wpAny_bind (I.type.at (wpAny_bind (hmr.at ?_))))
  rw [hpass]
  refine wpAny_pure (wpAny_bind (I.type.at (wpAny_bind ((W.looks_findIn X ha).at (wpAny_bind (L3.at ?_))))))
  exact hq
theorem osa2_new {K : W.Frag} {name : Str} {tk : Tok} {v : Value} {x C O : Addr} {fv : Array Value} {cd : ClassData}
    (X : K.In hp) (hx : hp.get? x = some { cls := .ref C, data := .fields fv }) (hcd : W.clsIn K C = some cd) (hm : cd.mro = .ref C :: exT2 O) (hh : cd.hasDict = true) (ha : W.findIn K (.ref C) name = some none)
    (hq : ∀ h' tk' dx, (∀ b o, b ≠ x → hp.get? b = some o → h'.get? b = some o) → hp.objs.size ≤ dx → dx ≠ x → h'.get? x = some { cls := .ref C, dict := some dx, data := .fields fv } →
      h'.Ns1 dx (fun y => if y = name then some v else none) → R (.ok (.ret .none)) ⟨h', g, d, tk', os⟩) :
    codeAny (model prog w) A (.call (.builtin "object.__setattr__") ⟨[.ref x, .str name tk, v], []⟩) R ⟨hp, g, d, t, os⟩ := by
  have I : W.InstAt hp x { cls := .ref C, data := .fields fv } C none := ⟨hx, rfl, rfl, trivial⟩
  have hxs : x ≠ hp.objs.size := Nat.ne_of_lt (Heap.lt_size hx)
  refine osa2 X I hcd hm ha ?_
  have hcls : W.Looks (model prog w) hp (classData C) cd := W.looks_clsIn X hcd
  obtain ⟨nm, bs, mro, ns, qn, hd, sn, sb, ab, col, del⟩ := cd
  dsimp only at hh
  subst hh
  unfold storeInOwnDict ownDictForStores
  repeat (first | with_reducible refine HandSPX.store_in_new ?_ ?_ | with_reducible refine wpAny_loadPart_at hx ?_ | with_reducible refine hcls.at ?_ | wp_step)
  · exact ⟨_, #[], _, (Heap.get?_update_ne _ _ _ _ hxs.symm).trans (Heap.get?_push_at rfl rfl), rfl, fun e he => absurd he (by simp), fun _ => rfl⟩
  · intro h' tk' hn' hs
    have hx₁ : (hp.push { cls := .type "dict", data := .dict #[] }).get? x = some { cls := .ref C, data := .fields fv } := Heap.get?_push_of_some _ hx
    refine hq h' tk' hp.objs.size (fun b o hb ho => ?_) (Nat.le_refl _) hxs.symm ?_ hn'
    · exact (hs.2 b (Nat.ne_of_lt (Heap.lt_size ho))).trans ((Heap.get?_update_ne _ _ _ _ hb).trans (Heap.get?_push_of_some _ ho))
    · exact (hs.2 x hxs).trans (Heap.get?_update_self _ hx₁ rfl)
end
/-- what the written part says of such a class, at C, of its __init__, at fI -/
structure ErrTxt (prog : Program) (K : Frag) (mg : Str → Option Value) (x f : Str) (C : Addr) : Prop where
  gC : mg x = some (.ref C)
  cls : ∃ O nm q N bs sn sub ab col dd k0 k1 k2 k3 k5, K.lookup C = some (excClassObj nm q C N bs (exT2 O) true sn sub ab col dd k0 k1 k2 k3 k5 "Exception.__new__")
  sa : findIn K (.ref C) "__setattr__" = some (some (.builtin "object.__setattr__"))
  noN : findIn K (.ref C) f = some none
  sup : ks_superIn K C C "__init__" = some (some (.builtin "Exception.__init__"))
  opq : nsIn K cStatics "thirdparty.any" = some none
  kC : keepIn K (.ref C) = true
  exC : subIn K (.ref C) (.type "BaseException") = some true
  tyC : typeIn K (.ref C) = some (.type "type")
  fn : ∃ (fI cc cda : Addr) (qual msg : Str) (j : Nat) (oc doc pm ct cl ccl : Value) (od an cld cdd : Option Addr) (osl csl ccs : Array (Option Value)) (vs : Array Value) (file : Str) (tf : Tok) (p1 p2 q1 q2 q3 q4 q5 q6 q7 q8 q9 q10 : Pos),
    findIn K (.ref C) "__init__" = some (some (.ref fI)) ∧ typeIn K (.ref fI) = some (.type "function") ∧
    K.lookup fI = some ⟨oc, od, .func (ksFn "__init__" qual (iA f p1 p2) (iB f msg j q1 q2 q3 q4 q5 q6 q7 q8 q9 q10) (iS f) .none .none doc pm an (.ref cda) ct cc), osl⟩ ∧ codeIn K (.ref cda) qual = true ∧
    K.lookup cda = some ⟨ccl, cdd, .fields vs, ccs⟩ ∧ vs[2]? = some (.str file tf) ∧ ((prog.main.file : Str) == file) = true ∧ K.lookup cc = some ⟨cl, cld, .cell (some (.ref C)), csl⟩ ∧ (q3.endLine == q5.line) = true
  nm : mg "super" = none
  top : (prog.main.scope.names.lookup ("super" : Str)).isSome = false
  fs : f ≠ "self" ∧ f ≠ "__class__" ∧ f ≠ "super" ∧ (f == ("__debug__" : Str)) = false
  bnd : ∀ (body : List Stmt) (qual : Str) (doc pm cdv ct : Value) (an : Option Addr) (cc : Addr) (p1 p2 : Pos) (e v : Value), bindArgs (ksFn "__init__" qual (iA f p1 p2) body (iS f) .none .none doc pm an cdv ct cc) ⟨[e, v], []⟩ = pure [((PySem.Str.ofString "self" : Str), e), (f, v)]
  sw : ∀ (env : Env) (q7 q8 q9 : Pos) (n : Nat), swapsWith (.Name f q9) (some (.Attribute (.Name "self" q7) f q8)) n env = pure false
/-- what __init__ leaves of a fresh exception at x -/
structure InitEnd (h h' : Heap) (x C dx : Addr) (f : Str) (v : Value) : Prop where
  keep : ∀ b o, b ≠ x → h.get? b = some o → h'.get? b = some o
  obj : ∃ t1, h'.get? x = some { cls := .ref C, dict := some dx, data := .fields #[.ref t1, .none, .none, .none, .bool false, .none] }
  dbig : h.objs.size ≤ dx
  dne : dx ≠ x
  ns : h'.Ns1 dx (fun y => if y = f then some v else none)
section
variable {prog : Program} {w : World} {A : Around} {E : Value → Shared → Prop} {R : Result → Shared → Prop} {s : Shared} {K : Frag} {mg : Str → Option Value} {C : Addr} {x f : Str}
theorem cls_of {O : Addr} {nm q : Str} {N : Addr} {bs : List Value} {sn : List Str} {sub : List Value} {ab : Bool} {col : Option Bool} {dd : Option Addr} {k0 k1 k2 k3 k5 : Option Value} (hC : K.lookup C = some (excClassObj nm q C N bs (exT2 O) true sn sub ab col dd k0 k1 k2 k3 k5 "Exception.__new__")) :
    ∃ cd, clsIn K C = some cd ∧ cd.mro = .ref C :: exT2 O ∧ cd.hasDict = true := by
  refine ⟨{ name := nm, bases := bs, mro := .ref C :: exT2 O, ns := N, qualname := q, hasDict := true, slotNames := sn, subclasses := sub, abstract := ab, collection := col, hasDel := false }, ?_, rfl, rfl⟩
  unfold clsIn; rw [hC] <;> rfl
theorem ev_super {o : Expr} {m : Str} {apos pos : Pos} {a : Expr} {env : Env} (hl : (apos.endLine == pos.line) = true) (hf : methodCallForm ([a].length + ([] : List Keyword).length) (backTo pos (starEach [a] env)) (backToKw pos (keywordEach [] env)) = true) :
    eval (.Call (.Attribute o m apos) [a] [] pos) env = (do
      let ov ← attributeBase o m env (eval o env)
      standAt apos.atName
      let (f, first) ← holding [ov] (getMethod ov m (L2.plainOf o env))
      callWith pos f first (backTo pos (starEach [a] env)) []) := by
  rw [arm_eval_Call]
  exact congrArg (bind _) (funext fun ov => congrArg (bind _) (funext fun _ => L2.mcall_line hf hl))
theorem err_init (T : ErrTxt prog K mg x f C) {fI e t0 : Addr} {v : Value} {mb : Str → Option Value} (hfI : findIn K (.ref C) "__init__" = some (some (.ref fI))) (X : K.In s.heap) (hlim : s.heap.NoLimit) (hG : s.heap.Ns mainGlobals mg) (hB : s.heap.Ns builtinsNs mb) (hb : mb "super" = bootBuiltins "super")
    (hx : s.heap.get? e = some (excO C t0)) (hnx : K.lookup e = none) (hroom : A.depth < recursionLimit)
    (hq : ∀ h' tk dx, InitEnd s.heap h' e C dx f v → R (.ok (.ret .none)) { s with heap := h', toks := tk }) :
    codeAny (model prog w) A (.call (.ref fI) ⟨[.ref e, v], []⟩) R s := by
  obtain ⟨fI', cc, cda, qual, msg, j, oc, doc, pm, ct, cl, ccl, od, an, cld, cdd, osl, csl, ccs, vs, file, tf, p1, p2, q1, q2, q3, q4, q5, q6, q7, q8, q9, q10, hi, hti, ho, hcd, hcda, hvs, hfile, hcc, hline⟩ := T.fn
  rw [hfI] at hi
  cases hi
  obtain ⟨O, nm, q, N, bs, sn, sub, ab, col, dd, k0, k1, k2, k3, k5, hC⟩ := T.cls
  obtain ⟨cd, hcl, hm, hh⟩ := cls_of hC
  obtain ⟨f1, f2, f3, f4⟩ := T.fs
  have ff1 : (f == PySem.Str.ofString "self") = false := beq_false_of_ne f1
  have e1 : (iS f).names.lookup f = some .local := by
    unfold iS
    simp [List.lookup, ff1]
  have ff2 : (PySem.Str.ofString "__class__" == f) = false := beq_false_of_ne (Ne.symm f2)
  have ff3 : (PySem.Str.ofString "super" == f) = false := beq_false_of_ne (Ne.symm f3)
  have e2 : (iS f).names.lookup (PySem.Str.ofString "__class__") = some .free := by
    unfold iS
    have z : (PySem.Str.ofString "__class__" == PySem.Str.ofString "self") = false := by decide
    simp [List.lookup, ff2, z]
  have e3 : (iS f).names.lookup (PySem.Str.ofString "super") = some .globalImplicit := by
    unfold iS
    have z : (PySem.Str.ofString "super" == PySem.Str.ofString "self") = false := by decide
    have z2 : (PySem.Str.ofString "super" == PySem.Str.ofString "__class__") = false := by decide
    simp [List.lookup, ff3, z, z2]
  refine ks_codeAny_call_defAt (fd := ksFn "__init__" qual (iA f p1 p2) (iB f msg j q1 q2 q3 q4 q5 q6 q7 q8 q9 q10) (iS f) .none .none doc pm an (.ref cda) ct cc) (body := iB f msg j q1 q2 q3 q4 q5 q6 q7 q8 q9 q10) (binds := [("self", .ref e), (f, v)]) hroom (X _ _ ho) rfl hlim (codeRec_of X hcd) rfl ?hbind ?hcell ?hloc (fun h₁ hns k => ?_)
  case hbind => exact BindsTo.of_eq (T.bnd _ _ _ _ _ _ _ _ _ _ _ _)
  case hcell =>
    intro y hy
    have hy' : y ∈ [(PySem.Str.ofString "self", NameKind.local), (f, .local), (PySem.Str.ofString "__class__", .free), (PySem.Str.ofString "super", .globalImplicit)] := hy
    simp only [List.mem_cons, List.not_mem_nil, or_false] at hy'
    rcases hy' with rfl | rfl | rfl | rfl <;> exact fun z => nomatch z
  case hloc =>
    intro y hy
    simp only [List.mem_cons, List.not_mem_nil, or_false] at hy
    rcases hy with rfl | rfl
    · rfl
    · exact e1
  have X₁ : K.In h₁ := X.keeps k
  have hx₁ := k _ _ hx
  have hG₁ := hG.keeps k
  have hB₁ := hB.keeps k
  have ns_self : ([((PySem.Str.ofString "self" : Str), Value.ref e), (f, v)] : List (Str × Value)).reverse.lookup (PySem.Str.ofString "self") = some (Value.ref e) := by
    have : ((PySem.Str.ofString "self" : Str) == f) = false := beq_false_of_ne (Ne.symm f1)
    simp [List.lookup, this]
  have ns_f : ([((PySem.Str.ofString "self" : Str), Value.ref e), (f, v)] : List (Str × Value)).reverse.lookup f = some v := by
    simp [List.lookup]
  have hcat : ∀ {h : Heap} {ox : Obj} {odx : Option Obj}, K.In h → InstAt h e ox C odx → e ≠ C := fun Y I => ks_ne Y I hcl
  have I₁ : InstAt h₁ e (excO C t0) C none := ⟨hx₁, rfl, rfl, trivial⟩
  have hne := hcat X₁ I₁
  obtain ⟨hp, g, d, t, os⟩ := s
  dsimp only at *
  -- super().__init__(msg)
  refine ks_wpAt_execs_cons (ks_wpAt_Expr_any (ks_wpAt_MethodCall (pl := _) (ks_wpAt_super_base e3 e2 rfl rfl (X₁ _ _ ho) rfl rfl rfl (X₁ _ _ hcda) rfl hvs hfile T.top ?_) (ev_super hline rfl)))
  refine ks_loadName_global rfl e3 (loadGlobal_builtin hG₁ T.nm hB₁ (hb.trans (by decide +kernel)) ⟨rfl, ?_⟩)
  refine wpAny_loadName_free rfl e2 rfl ⟨_, X₁ _ _ hcc, rfl⟩ ?_
  refine wpAny_loadName_local rfl rfl hns ns_self ?_
  obtain ⟨oD, hD1, hD2⟩ : ∃ oD, h₁.get? C = some oD ∧ oD.data = .cls cd := by
    unfold clsIn at hcl
    split at hcl
    · rename_i c d' cd' sl ho'
      cases hcl
      exact ⟨_, X₁ _ _ ho', rfl⟩
    · cases hcl
  refine ks_wpAny_isType_cls hD1 hD2 ⟨rfl, ?_⟩
  refine ks_wpAny_call_super hD1 hD2 hx₁ rfl (fun c z => by cases z) (looks_mroIn X₁ (mro_has2 hcl hm (by rw [List.contains_cons]; simp))) (fun h₂ hso k₂ => ?_)
  have X₂ : K.In h₂ := X₁.keeps k₂
  have hx₂ := k₂ _ _ hx₁
  have I₂ : InstAt h₂ e (excO C t0) C none := ⟨hx₂, rfl, rfl, trivial⟩
  have hsup : alongIn K "__init__" (exT2 O) = some (some (.builtin "Exception.__init__")) := by
    have z := T.sup
    unfold ks_superIn at z
    rw [hcl, Option.bind_some, hm, drop_own] at z
    exact z
  refine getMethod_super hso (looks_opaque X₂ T.opq) (l₀ := .ref C :: exT2 O) ?_ (drop_own C _) X₂ hsup hne rfl ?_ ?_
  · have : Looks (model prog w) h₂ (mroOf (.ref C)) cd.mro := (looks_clsIn X₂ hcl).andThen .now
    rw [hm] at this
    exact this
  · exact I₂.type.andThen (looks_mroIn X₂ (mro_has2 hcl hm (tail2 "Exception" (by decide +kernel))))
  have k₃ : ∀ b o, h₂.get? b = some o → (h₂.push (bw e)).get? b = some o := fun b o q => Heap.get?_push_of_some _ q
  have X₃ : K.In (h₂.push (bw e)) := X₂.keeps k₃
  refine callWith_bound (x := e) (args_cons (Constant_str (args_nil ⟨Heap.get?_push_size _ rfl, ?_⟩)))
  refine call_bw (X₃ _ _ hC) (k₃ _ _ hx₂) (Heap.get?_push_size _ rfl) (by rw [sizeLine_eq]; exact (by decide : 1 ≤ 16777216)) (fun h₄ t1 k₄ hx₄ => ?_)
  have X₄ : K.In h₄ := fun a o q => k₄ a o (fun z => by rw [z, hnx] at q; cases q) (X₃ a o q)
  have k14 : ∀ b o, b ≠ e → h₁.get? b = some o → h₄.get? b = some o := fun b o hb q => k₄ b o hb (k₃ b o (k₂ b o q))
  have hns₄ : h₄.Ns hp.objs.size (fun y => ([((PySem.Str.ofString "self" : Str), Value.ref e), (f, v)] : List (Str × Value)).reverse.lookup y) := by
    have hee : hp.objs.size ≠ e := Nat.ne_of_gt (Heap.lt_size hx)
    obtain ⟨oL, es, ep, hL, r⟩ := hns
    exact ⟨oL, es, ep, k14 _ _ hee hL, r⟩
  -- self.f = f
  refine ks_wpAt_execs_cons (ks_wpAt_Assign_Attr (wpAt_of_wpAny (wpAny_Name (wpAny_loadName_local rfl e1 hns₄ ns_f ?_) f4)) (T.sw _ _ _ _ _))
  refine wpAny_Name (wpAny_loadName_local rfl rfl hns₄ ns_self ?_) (by decide)
  refine set_plain X₄ (ox := excO C t1) (od := none) ⟨hx₄, rfl, rfl, trivial⟩ T.sa ?_
  refine osa2_new X₄ hx₄ hcl hm hh T.noN (fun h₅ tk₅ dx k₅ dn dne hx₅ hn₅ => ?_)
  refine wpAt_of_wpAny (wpAny_execs_nil (hq h₅ tk₅ dx ⟨fun b o hb q => k₅ b o hb (k14 b o hb (k b o q)), ⟨t1, hx₅⟩, ?_, dne, hn₅⟩))
  have z : hp.objs.size < h₄.objs.size := hns₄.lt
  exact Nat.le_of_lt (Nat.lt_of_lt_of_le z dn)
end
end DnX
end PySem
namespace PySem
namespace DnX
open PySem.W PySem.Calls PyProof.Rows PySem.HandSPX PySem.ESX
/-- a made error -/
structure Made (h h' : Heap) (e C d : Addr) (f : Str) (v : Value) : Prop where
  keep : ∀ b o, h.get? b = some o → h'.get? b = some o
  new : h.objs.size ≤ e
  obj : ∃ oe vs, h'.get? e = some oe ∧ oe.cls = .ref C ∧ oe.dict = some d ∧ oe.data = .fields vs ∧ vs[1]? = some .none ∧ vs[2]? = some .none
  dbig : h.objs.size ≤ d
  dne : d ≠ e
  ns : h'.Ns1 d (fun y => if y = f then some v else none)
section
variable {prog : Program} {w : World} {A : Around} {E : Value → Shared → Prop} {R : Result → Shared → Prop} {s : Shared} {K : Frag} {mg : Str → Option Value} {C : Addr} {x f : Str}
theorem err_made (T : ErrTxt prog K mg x f C) {v : Value} {mb : Str → Option Value} (X : K.In s.heap) (hlim : s.heap.NoLimit) (hG : s.heap.Ns mainGlobals mg) (hB : s.heap.Ns builtinsNs mb) (hb : mb "super" = bootBuiltins "super") (hroom : A.depth + 1 < recursionLimit)
    (hq : ∀ h' tk e d, Made s.heap h' e C d f v → R (.ok (.ret (.ref e))) { s with heap := h', toks := tk }) :
    codeAny (model prog w) A (.call (.ref C) ⟨[v], []⟩) R s := by
  obtain ⟨fI, _, _, _, _, _, _, _, _, _, _, _, _, _, _, _, _, _, _, _, _, _, _, _, _, _, _, _, _, _, _, _, _, _, hi, hti, _⟩ := T.fn
  obtain ⟨O, nm, q, N, bs, sn, sub, ab, col, dd, k0, k1, k2, k3, k5, hC⟩ := T.cls
  obtain ⟨hp, g, dr, tk, os⟩ := s
  have k : ∀ b o, hp.get? b = some o → ((hp.push (kdv_tup [v])).push (excO C hp.objs.size)).get? b = some o := fun b o e => Heap.get?_push_of_some _ (Heap.get?_push_of_some _ e)
  have hget : ((hp.push (kdv_tup [v])).push (excO C hp.objs.size)).get? (hp.objs.size + 1) = some (excO C hp.objs.size) := by heap_get
  have hnx : K.lookup (hp.objs.size + 1) = none := by
    cases e : K.lookup (hp.objs.size + 1) with
    | none => rfl
    | some o =>
      have z : hp.get? (hp.objs.size + 1) = some o := X _ _ e
      exact absurd (Nat.lt_of_succ_lt (Heap.lt_size z)) (Nat.lt_irrefl _)
  refine call_own F.excBase_Exception (fun X => cont2 X) (X _ _ hC) (looks_findIn X hi) (fun self => bind_fn X self hti) (by rw [sizeLine_eq]; exact (by decide : 1 ≤ 16777216)) ?_
  refine err_init (s := ⟨(hp.push (kdv_tup [v])).push (excO C hp.objs.size), g, dr, tk, os⟩) T hi (X.keeps k) (hlim.keeps k) (hG.keeps k) (hB.keeps k) hb hget hnx ?_ fun h' tk' dx ⟨k', ⟨t1, hx⟩, dn, dne, hns⟩ => ?_
  · show A.depth + 1 < recursionLimit
    exact hroom
  · have old : ∀ b o, hp.get? b = some o → h'.get? b = some o := fun b o e => k' b o (Nat.ne_of_lt (Nat.lt_succ_of_lt (Heap.lt_size e))) (k b o e)
    have z : hp.objs.size + 1 + 1 ≤ dx := by
      first
        | (simpa only [Heap.size_push] using dn)
        | exact dn
        | (have q := dn; rw [Heap.size_push, Heap.size_push] at q; exact q)
    exact ⟨rfl, hq h' tk' (hp.objs.size + 1) dx ⟨old, Nat.le_succ _, ⟨_, _, hx, rfl, rfl, rfl, rfl, rfl⟩, Nat.le_trans (Nat.le_trans (Nat.le_succ _) (Nat.le_succ _)) z, dne, hns⟩⟩
end
end DnX
end PySem
namespace Dn
open PySem L2
section
variable {X : Cx} {G : Cfg} {W : WX} {C : Addr}
theorem relO_one {f : Str} {v : V} {v' : Value} (r : RelV v v') (y : Str) : RelO (List.lookup y [(f, v)]) (if y = f then some v' else none) := by
  by_cases hw : y = f
  · subst hw
    rw [if_pos rfl]
    have q : List.lookup y [(y, v)] = some v := by simp [List.lookup]
    rw [q]
    exact r
  · rw [if_neg hw]
    have qw : (y == f) = false := by simpa using hw
    have q2 : List.lookup y [(f, v)] = none := by simp [List.lookup, qw]
    rw [q2]
    trivial
/-- x(e) -/
theorem de_mk {x f : Str} {a : Expr} {es : List Expr} {fs : EvA} {p pos : Pos} {k c : Nat} (T : PySem.DnX.ErrTxt X.prog X.K X.mg x f C) (hK : X.kw = G.K) (hX : G.X c = some (C, [f])) (hr : Room k X.A) (ha : PA X (a :: es) (semA G W fs)) (hn : ∀ e m xs m', fs G.C e m = .ok xs m' → xs.length = 1) (hg : Gl X x)
    (he : starEach (a :: es) X.env = (false, eval a X.env) :: starEach es X.env) (hpl : (backTo pos (starEach es X.env)).any (·.1) = false) (hdb : (x == ("__debug__" : Str)) = false := by decide) :
    L2N.PMk X (.Call (.Name x p) (a :: es) [] pos) (semX G W c fs) := by
  intro pins s σ H Q I ⟨S, t, m, e, si, g⟩
  refine wpAny_Call_Name_kw (ld_glob I hg T.gC ?_ hdb)
  have hlen := hn e m
  refine PySem.W.callWith_K (h₀ := X.base) I.ok.mod.kin T.kC (thn (ha.run pos pins s σ H (fun vs H1 => ∃ v, vs = [v] ∧ ∀ d, H1 d = none → Q (.ref C) (some d) (upd H1 d (.xd [(f, v)]))) I ⟨S, t, m, e, si, ?_⟩) fun us s1 hh => ?_) he hpl
  · revert g hlen
    cases fs G.C e m with
    | ok ds m1 =>
      intro g hlen S1 H1 t1 p1 i1 vs rs
      have hl : ds.length = 1 := hlen ds m1 rfl
      cases rs with
      | nil => cases hl
      | cons r rr =>
        cases rr with
        | cons _ _ => simp at hl
        | nil =>
          rename_i v d
          refine ⟨v, rfl, fun dx hd => ?_⟩
          obtain ⟨i2, p2⟩ := new_hi (o := .xd [(f, v)]) i1 hd
          exact g S1 H1 t1 p1 i1 _ _ _ _ p2 i2 ⟨C, [f], dx, [v], hX, rfl, rfl, upd_same, .cons (r.stp i1 p2) .nil, rfl⟩
    | exc c' gs m1 => exact fun g _ => g
    | stuck => exact fun g _ => g
  obtain ⟨vs, H1, I1, r1, v, ev, q1⟩ := hh
  subst ev
  refine ⟨I1.kIn, ?_⟩
  cases r1 with
  | cons rv rn =>
    rename_i v' us'
    cases rn
    show wpAny _ _ (call (.ref C) [v']) _ _ _
    have hlim := I1.nolimit
    obtain ⟨mb, hb1, hb2⟩ := I1.ok.mod.blt
    have hG := I1.ok.mod.glob.keeps I1.bk
    have hB := hb1.keeps I1.bk
    obtain ⟨hp, gn, dr, tk, os⟩ := s1
    refine wpAny_call (PySem.DnX.err_made T I1.kIn hlim hG hB (hb2 "super" (by decide)) (by have := hr.dp; omega) fun h' tk' e d M => ?_)
    show L2N.MkP X pins σ Q (.ref e) ⟨h', gn, dr, tk', os⟩
    obtain ⟨oe, fv, hoe, hc, hd, hdat, h1, h2⟩ := M.obj
    have hns := M.ns
    obtain ⟨G', g1, g2⟩ := restrict h' fun b => decide (b ≠ e)
    have gk : ∀ b, b ≠ e → G'.get? b = h'.get? b := fun b hb => g1 b (decide_eq_true hb)
    have ge : G'.get? e = none := g2 e (by simp)
    have old : ∀ b o, hp.get? b = some o → G'.get? b = some o := fun b o q => (gk b (Nat.ne_of_lt (Nat.lt_of_lt_of_le (Heap.lt_size q) M.new))).trans (M.keep b o q)
    have ob : ObjOk X.prog X.w (upd H1 d (.xd [(f, v)])) G' d (.xd [(f, v)]) :=
      ⟨_, hns.at (fun o q => (gk d M.dne).trans q), fun y => relO_one rv y⟩
    have J : Inv X pins σ (upd H1 d (.xd [(f, v)])) ⟨G', gn, dr, tk', os⟩ := I1.laid (t' := tk') old M.dbig ob
    refine ⟨e, oe, fv, ⟨G', gn, dr, tk', os⟩, _, .ref C, some d, rfl, J, fun b o q => ?_, ge, hoe, ⟨hc, hd, fun vs hv => ?_⟩, hdat, h1, ?_, rfl, I1.bare, raises_own T.exC T.tyC, q1 d (I1.hok.fresh M.dbig)⟩
    · by_cases hb : b = e
      · have q' : G'.get? b = some o := q
        rw [hb, ge] at q'; cases q'
      · exact (gk b hb).symm.trans q
    · rw [hdat] at hv
      cases hv
      exact h2
    · rw [upd_ne (Ne.symm M.dne)]
      exact I1.hok.fresh M.new
end
end Dn
namespace Dn
open PySem L2
section
variable {P : Program} {w : World} {K : PySem.W.Frag} {mg : Str → Option Value} {base h : Heap}
/-- an error of the class at S is what «except S» names -/
theorem exm_self {S : Addr} (h1 : PySem.W.subIn K (.ref S) (.type "BaseException") = some true) (h2 : PySem.W.isClsIn K S = true) (h3 : PySem.W.typeIn K (.ref S) = some (.type "type")) (h4 : PySem.W.subIn K (.ref S) (.ref S) = some true) :
    PySem.W.exmOne K (.ref S) (.ref S) = some true := by
  have e1 : (PySem.W.subIn K (.ref S) (.type "BaseException") == some true) = true := by rw [h1] <;> rfl
  have e2 : ((PySem.W.clsIn K S).isSome && PySem.W.typeIn K (.ref S) == some (.type "type")) = true := by
    have h2' : (PySem.W.clsIn K S).isSome = true := h2
    rw [h2', h3] <;> rfl
  show (if (PySem.W.subIn K (.ref S) (.type "BaseException") == some true) = true then (if ((PySem.W.clsIn K S).isSome && PySem.W.typeIn K (.ref S) == some (.type "type")) = true then PySem.W.subIn K (.ref S) (.ref S) else none) else none) = some true
  rw [if_pos e1, if_pos e2]
  exact h4
theorem fun_sta {x : Str} {st : Stmt} {f : Addr} {oc : Value} {od an : Option Addr} {osl : Array (Option Value)} {kV doc pm cdv ct : Value} {ps : List Str} (X : K.In h) (G : h.Ns mainGlobals mg) (a : PySem.W.nsIn K mainGlobals x = some (some (.ref f)))
    (l : K.lookup f = some ⟨oc, od, .func (PySem.W.fnOf x x (defArgs st) (defBody st) (defScope st) .none kV doc pm an cdv ct), osl⟩) (c : PySem.W.codeIn K cdv x = true) (k : PySem.W.keepIn K (.ref f) = true)
    (hb : ∀ (kV doc pm : Value) (an : Option Addr) (cdv ct : Value) (us : List Value), us.length = ps.length → bindArgs (PySem.W.fnOf x x (defArgs st) (defBody st) (defScope st) .none kV doc pm an cdv ct) ⟨us, []⟩ = pure (ps.zip us)) :
    ∃ a fd, Fun K x x st a fd ∧ mg x = some (.ref a) ∧ PySem.W.keepIn K (.ref a) = true ∧ Binds K fd ps [] :=
  ⟨_, _, fun_mk l c k, PySem.W.mg_of X G a, k, (fun_mk l c k).binds hb⟩
/-- what the judge asks of law -/
def spLaw (K : PySem.W.Frag) : Sp := fun vs H Q _ => ∃ (a : Addr) (ns : List Int), vs = [.ref a] ∧ SqL K H a (ns.map V.int) ∧ ns.length ≤ 63 ∧ ∀ H', Q (.bl true) H'
theorem law_ok {T : Tab} {Xs : Nat → Option (Addr × List Str)} {n f : Nat} {a : Addr} {fd : FuncData} {ps : List Str} (F : FnOk P w K mg base (L2N.CX P w) n a fd ps (spD ⟨⟨K, w⟩, run T n, Xs, none⟩ f 1)) (hp : ps.length = 1)
    (M : ∀ ns : List Int, ns.length ≤ 63 → ∃ m', run T n f [.frz (ns.map D.int)] [] = .ok (.bl true) m') : FnOk P w K mg base (L2N.CX P w) n a fd ps (spLaw K) :=
  ⟨fun vs H Q E ⟨a, ns, e, _⟩ => by subst e; exact hp.symm, fun A outer s H args us vs Q E hr e0 hb r ⟨a, ns, e, hs, hl, q⟩ => F.run A outer s H args us vs Q E hr e0 hb r (by
    subst e
    obtain ⟨m', hm⟩ := M ns hl
    refine ⟨rfl, H, fun _ => none, [], [.frz (ns.map D.int)], only_hi, .cons (frz_v hs) .nil, ?_⟩
    show Gd _ _ _ H H _ (run T n f [.frz (ns.map D.int)] []) _
    rw [hm]
    intro S' H' t' p i v r
    cases r
    exact q H')⟩
theorem cx_no {outer : List PySem.Env} {H : Hp} {s : Shared} {e : Value} {s' : Shared} (z : L2N.CX P w outer H s (fun _ _ _ => False) e s') : False := by
  obtain ⟨_, _, _, _, _, _, _, _, _, _, _, _, z⟩ := z
  exact z
end
end Dn
namespace PySem
namespace DnX
open PySem.W PySem.Calls PyProof.Rows PySem.HandSPX PySem.ESX
theorem sup_of {K : Frag} {C O : Addr} {nm q nm' q' : Str} {N N' : Addr} {bs bs' : List Value} {sn sn' : List Str} {sub sub' : List Value} {ab ab' : Bool} {col col' : Option Bool} {dd dd' : Option Addr} {k0 k1 k2 k3 k5 k0' k1' k2' k3' k5' : Option Value} {hd' : Bool} {nw' : String}
    (hC : K.lookup C = some (excClassObj nm q C N bs (exT2 O) true sn sub ab col dd k0 k1 k2 k3 k5 "Exception.__new__")) (hO : K.lookup O = some (excClassObj nm' q' O N' bs' exTail hd' sn' sub' ab' col' dd' k0' k1' k2' k3' k5' nw'))
    (hf : findIn K (.ref O) "__init__" = some (some (.builtin "Exception.__init__"))) : ks_superIn K C C "__init__" = some (some (.builtin "Exception.__init__")) := by
  obtain ⟨cd, hcl, hm, _⟩ := cls_of hC
  unfold ks_superIn
  rw [hcl, Option.bind_some, hm, drop_own]
  unfold findIn at hf
  dsimp only at hf
  rw [hO] at hf
  exact hf
end DnX
end PySem
/-! For the mirrors: equality, order of plain data. -/
namespace Dn
open PySem L2
theorem eqG_ok {x y : D} {p q : PyData} {m : Store} (hx : toP x = some p) (hy : toP y = some q) (sx : SeqAt.shaped p = true) (sy : SeqAt.shaped q = true) : eqG m x y = some (.bl (PyData.eqv p q)) := by
  unfold eqG twoP
  simp [hx, hy, sx, sy]
theorem neG_ok {x y : D} {p q : PyData} {m : Store} (hx : toP x = some p) (hy : toP y = some q) (sx : SeqAt.shaped p = true) (sy : SeqAt.shaped q = true) : neG m x y = some (.bl (!PyData.eqv p q)) := by
  unfold neG twoP
  simp [hx, hy, sx, sy]
theorem sh_int (i : Int) : SeqAt.shaped (.int i) = true := by simp [SeqAt.shaped, PyData.canLay0, PyData.depth]
theorem sh_bl (i : Bool) : SeqAt.shaped (.bool i) = true := by simp [SeqAt.shaped, PyData.canLay0, PyData.depth]
@[simp] theorem eqG_ii (m : Store) (i j : Int) : eqG m (.int i) (.int j) = some (.bl (decide (i = j))) := by
  rw [eqG_ok (p := .int i) (q := .int j) (by simp [toP]) (by simp [toP]) (sh_int i) (sh_int j)]
  rw [PyData.eqv]
  congr 2
@[simp] theorem neG_ii (m : Store) (i j : Int) : neG m (.int i) (.int j) = some (.bl (!decide (i = j))) := by
  rw [neG_ok (p := .int i) (q := .int j) (by simp [toP]) (by simp [toP]) (sh_int i) (sh_int j)]
  rw [PyData.eqv]
  congr 2
@[simp] theorem eqG_bb (m : Store) (i j : Bool) : eqG m (.bl i) (.bl j) = some (.bl (decide (i = j))) := by
  rw [eqG_ok (p := .bool i) (q := .bool j) (by simp [toP]) (by simp [toP]) (sh_bl i) (sh_bl j)]
  rw [PyData.eqv]
  congr 2
@[simp] theorem neG_bb (m : Store) (i j : Bool) : neG m (.bl i) (.bl j) = some (.bl (!decide (i = j))) := by
  rw [neG_ok (p := .bool i) (q := .bool j) (by simp [toP]) (by simp [toP]) (sh_bl i) (sh_bl j)]
  rw [PyData.eqv]
  congr 2
/-! items that are alike told by a list of α -/
/-- an encoding: its data, one by one -/
structure Enc (α : Type) where
  d : α → D
  p : α → PyData
  to : ∀ a, toP (d a) = some (p a)
  lay : ∀ a, (p a).canLay0 = true
  dep : ∀ a, (p a).depth ≤ 60
  inj : ∀ a b, PyData.eqv (p a) (p b) = true ↔ a = b
section
variable {α : Type} (e : Enc α)
theorem Enc.tos : ∀ l : List α, toPs (l.map e.d) = some (l.map e.p)
  | [] => by simp [toPs]
  | a :: l => by simp [toPs, e.to, Enc.tos l]
theorem Enc.lays : ∀ l : List α, PyData.canLayAll0 (l.map e.p) = true
  | [] => by simp [PyData.canLayAll0]
  | a :: l => by simp [PyData.canLayAll0, e.lay, Enc.lays l]
theorem Enc.deps : ∀ l : List α, PyData.depthAll (l.map e.p) ≤ 60
  | [] => by simp [PyData.depthAll]
  | a :: l => by
    simp only [List.map_cons, PyData.depthAll]
    exact Nat.max_le.mpr ⟨e.dep a, Enc.deps l⟩
theorem Enc.shT (l : List α) : SeqAt.shaped (.tuple (l.map e.p)) = true := by
  have h1 := e.lays l
  have h2 := e.deps l
  simp only [SeqAt.shaped, PyData.canLay0, PyData.depth, Bool.and_eq_true, decide_eq_true_eq]
  exact ⟨h1, decide_eq_true (by omega)⟩
theorem Enc.shL (l : List α) : SeqAt.shaped (.list (l.map e.p)) = true := by
  have h1 := e.lays l
  have h2 := e.deps l
  simp only [SeqAt.shaped, PyData.canLay0, PyData.depth, Bool.and_eq_true, decide_eq_true_eq]
  exact ⟨h1, decide_eq_true (by omega)⟩
theorem Enc.eqs [DecidableEq α] : ∀ a b : List α, PyData.eqvAll (a.map e.p) (b.map e.p) = decide (a = b)
  | [], [] => by simp [PyData.eqvAll]
  | [], _ :: _ => by simp [PyData.eqvAll]
  | _ :: _, [] => by simp [PyData.eqvAll]
  | x :: a, y :: b => by
    simp only [List.map_cons, PyData.eqvAll, Enc.eqs a b]
    by_cases h : x = y
    · have := (e.inj x y).mpr h
      rw [this]; simp [h]
    · have : PyData.eqv (e.p x) (e.p y) = false := by
        cases q : PyData.eqv (e.p x) (e.p y) with
        | false => rfl
        | true => exact absurd ((e.inj x y).mp q) h
      rw [this]; simp [h]
theorem Enc.eqT [DecidableEq α] (m : Store) (a b : List α) : eqG m (.tup (a.map e.d)) (.tup (b.map e.d)) = some (.bl (decide (a = b))) := by
  rw [eqG_ok (p := .tuple (a.map e.p)) (q := .tuple (b.map e.p)) (by simp [toP, e.tos]) (by simp [toP, e.tos]) (e.shT a) (e.shT b)]
  simp [PyData.eqv, e.eqs]
theorem Enc.neT [DecidableEq α] (m : Store) (a b : List α) : neG m (.tup (a.map e.d)) (.tup (b.map e.d)) = some (.bl (!decide (a = b))) := by
  rw [neG_ok (p := .tuple (a.map e.p)) (q := .tuple (b.map e.p)) (by simp [toP, e.tos]) (by simp [toP, e.tos]) (e.shT a) (e.shT b)]
  simp [PyData.eqv, e.eqs]
theorem Enc.eqL [DecidableEq α] (m : Store) (a b : List α) : eqG m (.lst (a.map e.d)) (.lst (b.map e.d)) = some (.bl (decide (a = b))) := by
  rw [eqG_ok (p := .list (a.map e.p)) (q := .list (b.map e.p)) (by simp [toP, e.tos]) (by simp [toP, e.tos]) (e.shL a) (e.shL b)]
  simp [PyData.eqv, e.eqs]
theorem Enc.neL [DecidableEq α] (m : Store) (a b : List α) : neG m (.lst (a.map e.d)) (.lst (b.map e.d)) = some (.bl (!decide (a = b))) := by
  rw [neG_ok (p := .list (a.map e.p)) (q := .list (b.map e.p)) (by simp [toP, e.tos]) (by simp [toP, e.tos]) (e.shL a) (e.shL b)]
  simp [PyData.eqv, e.eqs]
theorem Enc.eqF [DecidableEq α] (m : Store) (a b : List α) : eqG m (.frz (a.map e.d)) (.lst (b.map e.d)) = some (.bl (decide (a = b))) := by
  rw [eqG_ok (p := .list (a.map e.p)) (q := .list (b.map e.p)) (by simp [toP, e.tos]) (by simp [toP, e.tos]) (e.shL a) (e.shL b)]
  simp [PyData.eqv, e.eqs]
theorem Enc.inL [DecidableEq α] (m : Store) (x : α) (b : List α) (h : ∀ z, e.d x ≠ .str z) : inG m (e.d x) (.lst (b.map e.d)) = some (.bl (decide (x ∈ b))) := by
  have hs : SeqAt.shaped (e.p x) = true := by
    have h1 := e.lay x
    have h2 := e.dep x
    simp only [SeqAt.shaped, Bool.and_eq_true, decide_eq_true_eq]
    exact ⟨h1, by omega⟩
  have : ∀ b : List α, (b.map e.p).any (fun z => PyData.eqv z (e.p x)) = decide (x ∈ b) := by
    intro b
    induction b with
    | nil => simp
    | cons y b ih =>
      rw [List.map_cons, List.any_cons, ih]
      by_cases q : y = x
      · subst q; have := (e.inj y y).mpr rfl; rw [this]; simp
      · have z : PyData.eqv (e.p y) (e.p x) = false := by
          cases r : PyData.eqv (e.p y) (e.p x) with
          | false => rfl
          | true => exact absurd ((e.inj y x).mp r) q
        rw [z]
        have : x ≠ y := fun w => q w.symm
        simp [this]
  unfold inG
  split
  · rename_i w _; exact absurd w (h _)
  · unfold twoP
    simp only [e.to, toP, e.tos, Option.map_some, hs, e.shL, Bool.and_self, if_true, Option.bind_some]
    unfold Dn.inL
    simp [this]
/-- sorting -/
theorem Enc.sort (l : List α) (le : α → α → Bool) (hl : l.length ≤ LIM) (hle : ∀ a b, PySem.W.dataLe false encD (e.d a) (e.d b) = le a b) (hal : ∀ a b, PySem.W.alike (e.p a) (e.p b) = true) (hk : (∀ a, isTup1 (e.p a) = true) ∨ ∀ a, noTup (e.p a) = true) :
    sortOk (l.map e.d) = true ∧ sortedD (l.map e.d) = (l.mergeSort le).map e.d := by
  have en : ∀ a, encD (e.d a) = e.p a := fun a => by unfold encD; rw [e.to]; rfl
  refine ⟨?_, ?_⟩
  · unfold sortOk
    simp only [List.length_map, List.all_map, Bool.and_eq_true, Bool.or_eq_true, List.all_eq_true, decide_eq_true_eq, Function.comp, e.to, Option.isSome_some, true_and, en]
    refine ⟨⟨⟨hl, fun a _ => e.dep a⟩, fun a _ b hb => hal _ _⟩, ?_⟩
    rcases hk with hk | hk
    · exact .inl fun a _ => hk a
    · exact .inr fun a _ => hk a
  · unfold sortedD leD
    rw [List.map_mergeSort (r := le)]
    intro a _ b _
    exact (hle a b).symm
end
theorem eqv_int (i j : Int) : PyData.eqv (.int i) (.int j) = true ↔ i = j := by simp [PyData.eqv]
def encI : Enc Int := ⟨.int, .int, fun a => by simp [toP], fun a => by simp [PyData.canLay0], fun a => by simp [PyData.depth], eqv_int⟩
def encB : Enc Bool := ⟨.bl, .bool, fun a => by simp [toP], fun a => by simp [PyData.canLay0], fun a => by simp [PyData.depth], fun a b => by simp [PyData.eqv]⟩
def encP : Enc (Int × Int) := ⟨fun p => .tup [.int p.1, .int p.2], fun p => .tuple [.int p.1, .int p.2], fun a => by simp [toP, toPs], fun a => by simp [PyData.canLay0, PyData.canLayAll0], fun a => by simp [PyData.depth, PyData.depthAll], fun a b => by
  simp only [PyData.eqv, PyData.eqvAll, Bool.and_true, Bool.and_eq_true, beq_iff_eq]
  exact ⟨fun h => Prod.ext h.1 h.2, fun h => by subst h; exact ⟨rfl, rfl⟩⟩⟩
/-- pairs by the first, then the second -/
def leP (p q : Int × Int) : Bool := decide (p.1 < q.1 ∨ (p.1 = q.1 ∧ p.2 ≤ q.2))
theorem sort_pairs (l : List (Int × Int)) (hl : l.length ≤ LIM) : sortOk (l.map encP.d) = true ∧ sortedD (l.map encP.d) = (l.mergeSort leP).map encP.d := by
  refine encP.sort l leP hl (fun a b => ?_) (fun a b => ?_) (.inl fun a => rfl)
  · have h := congrFun (congrFun (PySem.W.dataLe_ii (β := Int × Int) (·.1) (·.2)) a) b
    have en : ∀ a : Int × Int, encD (encP.d a) = .tuple [.int a.1, .int a.2] := fun a => by unfold encD; rw [encP.to]; rfl
    have e : PySem.W.dataLe false encD (encP.d a) (encP.d b) = PySem.W.dataLe false (fun b : Int × Int => PyData.tuple [.int b.1, .int b.2]) a b := by
      rw [PySem.W.dataLe_eq, PySem.W.dataLe_eq]
      show cond false _ (!PySem.W.dataLt (encD (encP.d b)) (encD (encP.d a))) = cond false _ (!PySem.W.dataLt _ _)
      rw [en, en]
    rw [e]
    exact h
  · show PySem.W.alike (.tuple [.int a.1, .int a.2]) (.tuple [.int b.1, .int b.2]) = true
    simp [PySem.W.alike, PySem.W.alikeAll]
theorem sort_ints (l : List Int) (hl : l.length ≤ LIM) : sortOk (l.map encI.d) = true ∧ sortedD (l.map encI.d) = (l.mergeSort fun a b => decide (a ≤ b)).map encI.d := by
  refine encI.sort l _ hl (fun a b => ?_) (fun a b => ?_) (.inr fun a => rfl)
  · have h := congrFun (congrFun (PySem.W.dataLe_int (β := Int) id) a) b
    have en : ∀ a : Int, encD (encI.d a) = .int a := fun a => by unfold encD; rw [encI.to]; rfl
    have e : PySem.W.dataLe false encD (encI.d a) (encI.d b) = PySem.W.dataLe false (fun b : Int => PyData.int (id b)) a b := by
      rw [PySem.W.dataLe_eq, PySem.W.dataLe_eq]
      show cond false _ (!PySem.W.dataLt (encD (encI.d b)) (encD (encI.d a))) = cond false _ (!PySem.W.dataLt _ _)
      rw [en, en]; rfl
    rw [e]
    exact h
  · show PySem.W.alike (.int a) (.int b) = true
    simp [PySem.W.alike]
end Dn
namespace Dn
open PySem L2
theorem lcL_map {α : Type} {C : Orc} {g : Tg} {tt : EvT} {te : EvE} {e : Env} {m : Store} {f h : α → D} {keep : α → Bool} : ∀ {l : List α}, (∀ x ∈ l, ∃ e1, asg g (f x) e = some e1 ∧ tt C e1 m = .ok (keep x) m ∧ (keep x = true → te C e1 m = .ok (h x) m)) →
    lcL C g tt te e (l.map f) m = .ok ((l.filter keep).map h) m
  | [], _ => by simp [lcL]
  | x :: l, H => by
    obtain ⟨e1, h1, h2, h3⟩ := H x List.mem_cons_self
    have ih := lcL_map (l := l) fun y hy => H y (List.mem_cons_of_mem _ hy)
    rw [List.map_cons]
    unfold lcL
    rw [h1]
    dsimp only
    rw [h2]
    cases hk : keep x with
    | true =>
      simp only [noX_ok, R.bind_ok, if_true, h3 hk, ih]
      rw [List.filter_cons_of_pos hk, List.map_cons]
    | false =>
      simp only [noX_ok, R.bind_ok, Bool.false_eq_true, if_false, ih]
      rw [List.filter_cons_of_neg (by simp [hk])]
theorem lcL_all {α : Type} {C : Orc} {g : Tg} {te : EvE} {e : Env} {m : Store} {f h : α → D} {l : List α} (H : ∀ x ∈ l, ∃ e1, asg g (f x) e = some e1 ∧ te C e1 m = .ok (h x) m) : lcL C g yesT te e (l.map f) m = .ok (l.map h) m := by
  rw [lcL_map (keep := fun _ => true) (h := h) fun x hx => ?_]
  · rw [List.filter_eq_self.mpr fun _ _ => rfl]
  · obtain ⟨e1, h1, h2⟩ := H x hx
    exact ⟨e1, h1, rfl, fun _ => h2⟩
theorem toInts_map {α : Type} (f : α → Int) : ∀ l : List α, toInts (l.map fun x => D.int (f x)) = some (l.map f)
  | [] => rfl
  | x :: l => by simp [toInts, toInts_map f l]
theorem toBls_map {α : Type} (f : α → Bool) : ∀ l : List α, toBls (l.map fun x => D.bl (f x)) = some (l.map f)
  | [] => rfl
  | x :: l => by simp [toBls, toBls_map f l]
end Dn
/-! Instances of the program's own classes: made, their fields, their methods. -/
namespace Dn
open PySem L2

/-- what is known of a class of the text -/
structure ClsT (K : PySem.W.Frag) (mg : Str → Option Value) (c : Str) (C : Addr) : Prop where
  at_ : cAt K c = some C
  g : mg c = some (.ref C)
  cls : Cls K C
/-- the class and the fields of an instance -/
@[simp] def insG (m : Store) : D → Option (Str × List (Str × D))
  | .ref n => match m[n]? with
    | some (.ins c fs) => some (c, fs)
    | _ => none
  | .ins c fs => some (c, fs)
  | _ => none
@[simp] def fldG (c f : Str) (m : Store) (d : D) : Option D := match insG m d with
  | some (c', fs) => if c' = c then fs.lookup f else none
  | none => none
@[simp] def fldE (c f : Str) (a : EvE) : EvE := una (fldG c f) a
theorem insAt {K : KW} {S H : Hp} {t : Th} {m : Store} {v : V} {d : D} {c : Str} {fs : List (Str × D)} (i : HI K S H t m) (r : DR K S t v d) (h : insG m d = some (c, fs)) :
    ∃ a C dx vs, v = .ref a ∧ cAt K c = some C ∧ H a = some (.ins C dx vs) ∧ FRs K S t vs fs := by
  cases r with
  | @ref n a hn =>
    unfold insG at h
    dsimp only at h
    split at h
    · rename_i c' fs' hm
      cases h
      obtain ⟨a', C, dx, vs, h1, h2, h3, h4⟩ := i.sti _ _ _ hm
      rw [hn] at h1
      cases h1
      exact ⟨a, C, dx, vs, rfl, h2, h3, h4⟩
    · cases h
  | ins hc hS hf => cases h; exact ⟨_, _, _, _, rfl, hc, i.sub _ _ hS, hf⟩
  | _ => cases h

/-! ### making and calling, where errors are told by the slots -/
section
variable {X : Cx} {CX : CXT} {k : Nat} {f C : Addr} {fd : FuncData} {ps : List Str} {sp : Sp} {E : St → XK} {x mn : Str} {p pos apos : Pos} {e o : Expr} {es : List Expr} {ta : TE} {t : TA}
theorem run_makeS {pins : List (Addr × Obj)} {σ : St} {H : Hp} {s : Shared} {Q : VK} {us : List Value} {vs : List V} (M : Mk X.K C f) (F : FnOk X.prog X.w X.K X.mg X.base CX k f fd ps sp) (hr : Room (k + 1) X.A ∨ ∀ vs H Q E, ¬ sp vs H Q E) (hb : Binds X.K fd ps [])
    (hx : PassesAt CX X σ (E σ)) (I : Inv X pins σ H s) (r : Vals vs us)
    (h : ∀ x dx, H x = none → H dx = none → dx ≠ x → sp (.ref x :: vs) (upd (upd H dx (.own x)) x (.ins C dx [])) (fun v H2 => v = .non ∧ Q (.ref x) H2) (E σ)) :
    wpAny (model X.prog X.w) X.A (call (.ref C) us) (EP X pins σ Q) X.xe s := by
  have hq := h (s.heap.objs.size + 1) s.heap.objs.size (I.hok.fresh (Nat.le_succ _)) (I.hok.fresh (Nat.le_refl _)) (Nat.ne_of_lt (Nat.lt_succ_self _))
  have I2 := Inv.made (C := C) I
  have hr : Room (k + 1) X.A := hr.elim id fun z => absurd hq (z _ _ _ _)
  have r2 : Vals (V.ref (s.heap.objs.size + 1) :: vs) (Value.ref (s.heap.objs.size + 1) :: us) := .cons rfl r
  have hl : (Value.ref (s.heap.objs.size + 1) :: us).length = ps.length := by
    have e := r2.length
    rw [F.len _ _ _ _ hq] at e
    exact e.symm
  have b := hb _ (Value.ref (s.heap.objs.size + 1) :: us) I2.kIn (by rw [List.append_nil]; exact hl)
  rw [List.append_nil] at b
  refine wpAny_call (make_map (f := f) I.kIn M.makes M.init (beq_iff_eq.mp M.fn) (codeAny_mono (F.run _ X.stack _ _ ⟨Value.ref (s.heap.objs.size + 1) :: us, []⟩ (Value.ref (s.heap.objs.size + 1) :: us) _ _ (E σ) (hr.make C us [])
    (I2.env0.make C us []) b r2 hq) fun r s' hq' => ?_))
  cases r with
  | error e => exact hx pins _ _ e s' I2 hq'
  | ok fl =>
    cases fl with
    | ret u =>
      obtain ⟨v, H', I3, rv, ev, q3⟩ := I2.after hq'
      subst ev
      exact ⟨rv, ⟨V.ref (s.heap.objs.size + 1), H', I3, rfl, q3⟩⟩
    | next => exact False.elim hq'
    | brk => exact False.elim hq'
    | cont => exact False.elim hq'
def tMakeS (C : Addr) (sp : Sp) (E : St → XK) (t : TA) : TE := fun σ H Q => t σ H fun vs H1 => ∀ x dx, H1 x = none → H1 dx = none → dx ≠ x →
  sp (.ref x :: vs) (upd (upd H1 dx (.own x)) x (.ins C dx [])) (fun v H2 => v = .non ∧ Q (.ref x) H2) (E σ)
theorem pe_makeS (M : Mk X.K C f) (F : FnOk X.prog X.w X.K X.mg X.base CX k f fd ps sp) (hr : Room (k + 1) X.A ∨ ∀ vs H Q E, ¬ sp vs H Q E) (hg : Gl X x) (hm : X.mg x = some (.ref C)) (hb : Binds X.K fd ps []) (hx : ∀ σ, PassesAt CX X σ (E σ))
    (ha : PA X (e :: es) t) (hdb : (x == ("__debug__" : Str)) = false := by decide) (he : starEach (e :: es) X.env = (false, eval e X.env) :: starEach es X.env := by rfl) (hpl : (backTo pos (starEach es X.env)).any (·.1) = false := by rfl) :
    PE X (.Call (.Name x p) (e :: es) [] pos) (tMakeS C sp E t) := by
  refine ⟨fun pins s σ H Q I h => ?_⟩
  refine wpAny_Call_Name_kw (ld_glob I hg hm ?_ hdb)
  refine PySem.W.callWith_K (h₀ := X.base) I.ok.mod.kin M.kp (thn (ha.run pos pins s σ H _ I h) fun us s1 ⟨vs, H1, I1, r, q⟩ => ⟨I1.kIn, ?_⟩) he hpl
  exact run_makeS M F hr hb (hx σ) I1 r q
theorem pe_makeS0 (M : Mk X.K C f) (F : FnOk X.prog X.w X.K X.mg X.base CX k f fd ps sp) (hr : Room (k + 1) X.A ∨ ∀ vs H Q E, ¬ sp vs H Q E) (hg : Gl X x) (hm : X.mg x = some (.ref C)) (hb : Binds X.K fd ps []) (hx : ∀ σ, PassesAt CX X σ (E σ))
    (hdb : (x == ("__debug__" : Str)) = false := by decide) : PE X (.Call (.Name x p) [] [] pos) (tMakeS C sp E tNil) := by
  refine ⟨fun pins s σ H Q I h => ?_⟩
  refine wpAny_Call_Name_kw (ld_glob I hg hm ?_ hdb)
  exact PySem.W.callWith_K0 I.kIn M.kp (run_makeS (us := []) M F hr hb (hx σ) I .nil h)
def tMethS' (C : Addr) (m : Str) (sp : Sp) (E : St → XK) (ta : TE) (t : TA) : TE := fun σ H Q => ta σ H fun x H1 => ∃ a dx fs, x = .ref a ∧ H1 a = some (.ins C dx fs) ∧ fs.lookup m = none ∧ t σ H1 fun vs H2 => sp (x :: vs) H2 Q (E σ)
theorem pe_methS' {pl : Sem Bool} (he : PE X o ta) (c : Cls X.K C) (hm : Meth X.K C mn f) (F : FnOk X.prog X.w X.K X.mg X.base CX k f fd ps sp) (hr : Room k X.A) (hb : Binds X.K fd ps []) (hx : ∀ σ, PassesAt CX X σ (E σ)) (ha : PA X (e :: es) t)
    (hst : starEach (e :: es) X.env = (false, eval e X.env) :: starEach es X.env := by rfl) (hpl : (backTo pos (starEach es X.env)).any (·.1) = false := by rfl)
    (ht : eval (.Call (.Attribute o mn apos) (e :: es) [] pos) X.env = (do
      let ov ← eval o X.env
      standAt apos.atName
      let (f, first) ← holding [ov] (getMethod ov mn pl)
      callWith pos f first (backTo pos (starEach (e :: es) X.env)) (backToKw pos (keywordEach [] X.env))) := by rfl) :
    PE X (.Call (.Attribute o mn apos) (e :: es) [] pos) (tMethS' C mn sp E ta t) := by
  refine ⟨fun pins s σ H Q I h => ?_⟩
  refine PySem.W.methodCall_KW (pl := pl) (thn (he.run pins s σ H _ I h) fun u s1 ⟨x, H1, I1, rx, a, dx, fs, ex, ea, l, q⟩ => ?_) ht
  subst ex
  obtain rfl : u = Value.ref a := rx
  refine getmeth_ok I1 ea c hm l ?_
  refine PySem.W.callWith_K (first := [.ref a]) (h₀ := X.base) I.ok.mod.kin hm.kp (thn (ha.run pos pins s1 σ H1 _ I1 q) fun us s2 ⟨vs, H2, I2, r, q2⟩ => ⟨I2.kIn, ?_⟩) hst hpl
  exact run_fnS (us := .ref a :: us) (vs := .ref a :: vs) F hr hb (hx σ) I2 (.cons rfl r) q2
theorem pe_methS0 {pl : Sem Bool} (he : PE X o ta) (c : Cls X.K C) (hm : Meth X.K C mn f) (F : FnOk X.prog X.w X.K X.mg X.base CX k f fd ps sp) (hr : Room k X.A) (hb : Binds X.K fd ps []) (hx : ∀ σ, PassesAt CX X σ (E σ))
    (ht : eval (.Call (.Attribute o mn apos) [] [] pos) X.env = (do
      let ov ← eval o X.env
      standAt apos.atName
      let (f, first) ← holding [ov] (getMethod ov mn pl)
      callWith pos f first (backTo pos (starEach [] X.env)) (backToKw pos (keywordEach [] X.env))) := by rfl) :
    PE X (.Call (.Attribute o mn apos) [] [] pos) (tMethS' C mn sp E ta tNil) := by
  refine ⟨fun pins s σ H Q I h => ?_⟩
  refine PySem.W.methodCall_KW (pl := pl) (thn (he.run pins s σ H _ I h) fun u s1 ⟨x, H1, I1, rx, a, dx, fs, ex, ea, l, q⟩ => ?_) ht
  subst ex
  obtain rfl : u = Value.ref a := rx
  refine getmeth_ok I1 ea c hm l ?_
  exact PySem.W.callWith_K0 (first := [.ref a]) I1.kIn hm.kp (run_fnS (us := [.ref a]) (vs := [.ref a]) F hr hb (hx σ) I1 (.cons rfl .nil) q)
end

/-! ### by data -/
/-- a new instance goes into the store, then __init__ (f) -/
@[simp] def newE (c : Str) (f : Nat) (a : EvA) : EvE := fun C e m => (a C e m).bind fun xs m1 => (C f (.ref m1.length :: xs) (m1 ++ [.ins c []])).bind fun d m2 => match d with
  | .non => .ok (.ref m1.length) m2
  | _ => .stuck
/-- o.m(..), f the method's def -/
@[simp] def metE (c nm : Str) (f : Nat) (o : EvE) (a : EvA) : EvE := fun C e m => (o C e m).bind fun d m1 => match insG m1 d with
  | some (c', fs) => if c' = c ∧ fs.lookup nm = none then (a C e m1).bind fun xs m2 => C f (d :: xs) m2 else .stuck
  | none => .stuck
/-- o.f = e -/
@[simp] def fldS (c f : Str) (o a : EvE) : EvS := fun C e m => liftS (a C e m) e fun d m1 => liftS (o C e m1) e fun w m2 => match w with
  | .ref n => match m2[n]? with
    | some (.ins c' fs) => if c' = c ∧ fs.length < 1000 then .nx e (m2.set n (.ins c (putD f d fs))) else .stuck
    | _ => .stuck
  | _ => .stuck
/-- o.f op= e -/
@[simp] def fldAugS (g : Store → D → D → Option D) (c f : Str) (o a : EvE) : EvS := fun C e m => liftS (o C e m) e fun w m1 => match fldG c f m1 w with
  | some x => liftS (a C e m1) e fun d m2 => match g m2 x d with
    | some z => match w with
      | .ref n => match m2[n]? with
        | some (.ins c' fs) => if c' = c ∧ fs.length < 1000 then .nx e (m2.set n (.ins c (putD f z fs))) else .stuck
        | _ => .stuck
      | _ => .stuck
    | none => .stuck
  | none => .stuck

section
variable {X : Cx} {G : Cfg} {W : WX} {E : Snap} {a b o : Expr} {es : List Expr} {fa fo : EvE} {fs : EvA} {pos pos' apos p : Pos} {c f mn : Str} {C : Addr}
theorem de_fld (T : ClsT X.K X.mg c C) (n : NoAttr X.K C f) (hK : X.kw = G.K) (ha : PE X a (semE G W fa)) (hb : attributeBase a f X.env (eval a X.env) = eval a X.env := by rfl) : PE X (.Attribute a f pos) (semE G W (fldE c f fa)) := by
  refine (pe_fld ha hb).imp fun σ H Q ⟨S, t, m, e, si, g⟩ => ⟨S, t, m, e, si, (Gd.sp g).imp fun S1 H1 t1 m1 d p1 i1 h1 v rv => ?_⟩
  unfold fldG at h1
  cases hi : insG m1 d with
  | none => rw [hi] at h1; exact h1.elim
  | some z =>
    obtain ⟨c', fl⟩ := z
    rw [hi] at h1
    dsimp only at h1
    split at h1
    · rename_i hc
      subst hc
      obtain ⟨ad, C', dx, vs, rfl, h2, h3, h4⟩ := insAt i1 rv hi
      have hC : C' = C := by
        have z := T.at_
        rw [kw_K hK, h2] at z
        exact Option.some.inj z
      subst hC
      cases hl : fl.lookup f with
      | none => rw [hl] at h1; exact h1.elim
      | some y =>
        rw [hl] at h1
        obtain ⟨u, u1, u2⟩ := h4.lookup hl
        exact ⟨ad, C', dx, vs, u, rfl, h3, T.cls, n, u1, Gd.now h1 i1 u u2⟩
    · exact h1.elim
theorem ds_fld (T : ClsT X.K X.mg c C) (n : NoAttr X.K C f) (hK : X.kw = G.K) (ho : PE X o (semE G W fo)) (ha : PE X a (semE G W fa)) (hs : swapsWith a (some (.Attribute o f pos')) pos.line X.env = pure false := by rfl) :
    PS X (.Assign [.Attribute o f pos'] a pos) (semS G W E (fldS c f fo fa)) := by
  refine (ps_fld ho ha hs).imp fun D σ H ⟨S, t, m, e, sf, h⟩ => ⟨S, t, m, e, sf.si, (GS.lift sf h).imp fun S1 H1 t1 m1 d p1 i1 h1 v rv => ?_⟩
  have sf1 := sf.stp p1 i1
  refine ⟨S1, t1, m1, e, sf1.si, (GS.lift sf1 h1).imp fun S2 H2 t2 m2 w p2 i2 h2 u ru => ?_⟩
  have sf2 := sf1.stp p2 i2
  cases ru with
  | @ref n' ad hn =>
    dsimp only at h2
    split at h2
    · rename_i c' fl hm
      split at h2
      · rename_i hc
        obtain ⟨hc, hlen⟩ := hc
        subst hc
        obtain ⟨a', C', dx, vs, e1, e2, e3, e4⟩ := i2.sti _ _ _ hm
        rw [hn] at e1
        cases e1
        have hC : C' = C := by
          have z := T.at_
          rw [kw_K hK, e2] at z
          exact Option.some.inj z
        subst hC
        obtain ⟨i3, p3⟩ := sto_ob (o := .ins c' (putD f d fl)) i2 hn hm (by simp) (.ins (dx := dx) e2 (e4.put (rv.stp i1 p2)))
        exact ⟨ad, C', dx, vs, rfl, e3, T.cls, n, by rw [e4.length]; exact hlen, h2 _ _ _ _ (sf2.stp p3 i3)⟩
      · exact h2.elim
    · exact h2.elim
  | _ => exact h2.elim
theorem ds_fldAug {op : Operator} {gg : Store → D → D → Option D} (T : ClsT X.K X.mg c C) (n : NoAttr X.K C f) (hp : OpD X (inplaceOp op) gg) (hK : X.kw = G.K) (ho : PE X o (semE G W fo)) (ha : PE X a (semE G W fa)) :
    PS X (.AugAssign (.Attribute o f pos') op a pos) (semS G W E (fldAugS gg c f fo fa)) := by
  obtain ⟨r, r1, r2⟩ := hp
  refine (ps_fldaug (rd := r) ho ha fun pins s σ H x y u v Q I rx ry h => r1 pins s σ H x y u v Q I rx ry h).imp fun D σ H ⟨S, t, m, e, sf, h⟩ => ⟨S, t, m, e, sf.si, (GS.lift sf h).imp fun S1 H1 t1 m1 w p1 i1 h1 v rv => ?_⟩
  have sf1 := sf.stp p1 i1
  have cC : ∀ {C'}, cAt G.K c = some C' → C' = C := fun h2 => by
    have z := T.at_
    rw [kw_K hK, h2] at z
    exact Option.some.inj z
  cases hx : fldG c f m1 w with
  | none => rw [hx] at h1; exact h1.elim
  | some x =>
    rw [hx] at h1
    dsimp only at h1
    unfold fldG at hx
    cases hi : insG m1 w with
    | none => rw [hi] at hx; cases hx
    | some z =>
      obtain ⟨c', fl⟩ := z
      rw [hi] at hx
      dsimp only at hx
      split at hx
      · rename_i hc
        subst hc
        obtain ⟨ad, C', dx, vs, rfl, h2, h3, h4⟩ := insAt i1 rv hi
        obtain rfl := cC h2
        obtain ⟨u, u1, u2⟩ := h4.lookup hx
        refine ⟨ad, C', dx, vs, u, rfl, h3, T.cls, n, u1, S1, t1, m1, e, sf1.si, (GS.lift sf1 h1).imp fun S2 H2 t2 m2 d p2 i2 h5 y ry => ?_⟩
        have sf2 := sf1.stp p2 i2
        cases hz : gg m2 x d with
        | none => rw [hz] at h5; exact h5.elim
        | some z =>
          rw [hz] at h5
          dsimp only at h5
          refine r2 S2 H2 t2 m2 u y x d z _ (hK ▸ i2) (hK ▸ .inl (u2.stp i1 p2)) (hK ▸ .inl ry) hz fun zz S3 H3 p3 i3 rz => ?_
          have i3 : HI G.K S3 H3 t2 m2 := hK ▸ i3
          have sf3 := sf2.stp p3 i3
          have rv3 := (rv.stp i1 p2).stp i2 p3
          cases rv3 with
          | @ref n' ad hn =>
            dsimp only at h5
            split at h5
            · rename_i c'' fl' hm
              split at h5
              · rename_i hc
                obtain ⟨hc, hlen⟩ := hc
                subst hc
                obtain ⟨a', C'', dx', vs', e1, e2, e3, e4⟩ := i3.sti _ _ _ hm
                rw [hn] at e1
                cases e1
                obtain rfl := cC e2
                obtain ⟨i4, p4⟩ := sto_ob (o := .ins c'' (putD f z fl')) i3 hn hm (by simp) (.ins (dx := dx') e2 (e4.put (hK ▸ rz)))
                exact ⟨dx', vs', e3, by rw [e4.length]; exact hlen, h5 _ _ _ _ (sf3.stp p4 i4)⟩
              · exact h5.elim
            · exact h5.elim
          | _ => exact h5.elim
      · cases hx

/-- a method of the text -/
structure Mth (P : Program) (w : World) (K : PySem.W.Frag) (mg : Str → Option Value) (base : Heap) (G : Cfg) (n f np : Nat) (C : Addr) (x : Str) : Prop where
  ok : ∃ (a : Addr) (fd : FuncData) (ps : List Str), FnOk P w K mg base (L2N.CX P w) n a fd ps (spD G f np) ∧ Meth K C x a ∧ Binds K fd ps []
/-- its __init__ -/
structure Ini (P : Program) (w : World) (K : PySem.W.Frag) (mg : Str → Option Value) (base : Heap) (G : Cfg) (n f np : Nat) (C : Addr) : Prop where
  ok : ∃ (j : Nat) (a : Addr) (fd : FuncData) (ps : List Str), FnOk P w K mg base (L2N.CX P w) j a fd ps (spD G f np) ∧ Mk K C a ∧ Binds K fd ps [] ∧ (j + 1 ≤ n ∨ ∀ vs H Q E, ¬ spD G f np vs H Q E)
theorem met_use {fs : EvA} {np f : Nat} (T : ClsT X.K X.mg c C) (hK : X.kw = G.K) {σ : St} {H : Hp} {Q : VK} (np_ok : lenA fs np) (h : semE G W (metE c mn f fo fs) σ H Q) : tMethS' C mn (spD G f (np + 1)) (WE W) (semE G W fo) (semA G W fs) σ H Q := by
  obtain ⟨S, t, m, e, si, h⟩ := h
  refine ⟨S, t, m, e, si, (Gd.sp h).imp fun S1 H1 t1 m1 d p1 i1 h1 v rv => ?_⟩
  cases hi : insG m1 d with
  | none => rw [hi] at h1; exact h1.elim
  | some z =>
    obtain ⟨c', fl⟩ := z
    rw [hi] at h1
    dsimp only at h1
    split at h1
    · rename_i hc
      obtain ⟨hc, hl⟩ := hc
      subst hc
      obtain ⟨ad, C', dx, vs, rfl, h2, h3, h4⟩ := insAt i1 rv hi
      obtain rfl : C' = C := by
        have z := T.at_
        rw [kw_K hK, h2] at z
        exact Option.some.inj z
      refine ⟨ad, dx, vs, rfl, h3, h4.lookup_none hl, S1, t1, m1, e, si.stp p1 i1, ?_⟩
      have k := np_ok G.C e m1
      revert h1 k
      cases fs G.C e m1 with
      | ok ys m2 =>
        intro h1 k S2 H2 t2 q i vs rs
        refine ⟨by simp [rs.length, k ys m2 rfl], S2, t2, m2, d :: ys, i, .cons (rv.stp i1 q) rs, ?_⟩
        have h' := Gd.from q h1
        revert h'
        show Gd G W σ S2 H2 t2 (G.C f (d :: ys) m2) _ → _
        cases G.C f (d :: ys) m2 with
        | ok d m3 => exact id
        | exc c gs m3 => exact id
        | stuck => exact id
      | exc c fs m' => exact fun h _ => h
      | stuck => exact fun h _ => h
    · exact h1.elim
theorem de_met {fs : EvA} {np n f : Nat} {pl : Sem Bool} (T : ClsT X.K X.mg c C) (F : Mth X.prog X.w X.K X.mg X.base G n f (np + 1) C mn) (hr : Room n X.A) (tk : L2N.Takes X W) (hK : X.kw = G.K) (ho : PE X o (semE G W fo)) (ha : PA X (a :: es) (semA G W fs)) (hn : lenA fs np)
    (hst : starEach (a :: es) X.env = (false, eval a X.env) :: starEach es X.env := by rfl) (hpl : (backTo pos (starEach es X.env)).any (·.1) = false := by rfl)
    (ht : eval (.Call (.Attribute o mn apos) (a :: es) [] pos) X.env = (do
      let ov ← eval o X.env
      standAt apos.atName
      let (f, first) ← holding [ov] (getMethod ov mn pl)
      callWith pos f first (backTo pos (starEach (a :: es) X.env)) (backToKw pos (keywordEach [] X.env))) := by rfl) : PE X (.Call (.Attribute o mn apos) (a :: es) [] pos) (semE G W (metE c mn f fo fs)) := by
  obtain ⟨ad, fd, ps, F, hm, hb⟩ := F.ok
  exact (pe_methS' (pl := pl) ho T.cls hm F hr hb (fun σ => L2N.passAt tk σ) ha hst hpl ht).imp fun σ H Q h => met_use T hK hn h
theorem de_met0 {n f : Nat} {pl : Sem Bool} (T : ClsT X.K X.mg c C) (F : Mth X.prog X.w X.K X.mg X.base G n f 1 C mn) (hr : Room n X.A) (tk : L2N.Takes X W) (hK : X.kw = G.K) (ho : PE X o (semE G W fo))
    (ht : eval (.Call (.Attribute o mn apos) [] [] pos) X.env = (do
      let ov ← eval o X.env
      standAt apos.atName
      let (f, first) ← holding [ov] (getMethod ov mn pl)
      callWith pos f first (backTo pos (starEach [] X.env)) (backToKw pos (keywordEach [] X.env))) := by rfl) : PE X (.Call (.Attribute o mn apos) [] [] pos) (semE G W (metE c mn f fo nilA)) := by
  obtain ⟨ad, fd, ps, F, hm, hb⟩ := F.ok
  refine (pe_methS0 (pl := pl) ho T.cls hm F hr hb (fun σ => L2N.passAt tk σ) ht).imp fun σ H Q h => ?_
  obtain ⟨S, t, m, e, si, g⟩ := met_use (np := 0) T hK lenA_nil h
  refine ⟨S, t, m, e, si, g.imp fun S1 H1 t1 m1 d p1 i1 h1 v rv => ?_⟩
  obtain ⟨ad, dx, fl, e1, e2, e3, S2, t2, m2, e', si2, g2⟩ := h1 v rv
  exact ⟨ad, dx, fl, e1, e2, e3, g2 _ _ _ .refl si2.hi [] .nil⟩
theorem new_use {fs : EvA} {np f : Nat} (T : ClsT X.K X.mg c C) (hK : X.kw = G.K) {σ : St} {H : Hp} {Q : VK} (np_ok : lenA fs np) (h : semE G W (newE c f fs) σ H Q) : tMakeS C (spD G f (np + 1)) (WE W) (semA G W fs) σ H Q := by
  obtain ⟨S, t, m, e, si, h⟩ := h
  refine ⟨S, t, m, e, si, ?_⟩
  have k := np_ok G.C e m
  unfold newE at h
  revert h k
  cases fs G.C e m with
  | exc c fs m' => exact fun h _ => h
  | stuck => exact fun h _ => h
  | ok ys m2 =>
    intro h k S1 H1 t1 q i vs rs x dx hx hdx hne
    obtain ⟨iA, pA⟩ := new_hi (o := .own x) i hdx
    have hx1 : upd H1 dx (.own x) x = none := by rw [upd_ne (Ne.symm hne)]; exact hx
    obtain ⟨iB, pB⟩ := new_hi0 (o := .ins C dx []) iA hx1
    have hS : upd S1 dx (.own x) x = none := by
      cases q : upd S1 dx (.own x) x with
      | none => rfl
      | some o => rw [iA.sub x o q] at hx1; cases hx1
    have hc : cAt G.K c = some C := kw_K hK ▸ T.at_
    obtain ⟨iC, ts⟩ := store_ob iB hS upd_same (fun n q => iA.off n x q hx1) (.ins (dx := dx) hc .nil)
    have pC : Stp S1 H1 t1 (upd S1 dx (.own x)) (upd (upd H1 dx (.own x)) x (.ins C dx [])) (fun n => if n = m2.length then some x else t1 n) := by
      have z := pA.trans pB
      refine ⟨fun a o h1 h2 => ?_, z.dom, z.hs, ts, fun n a h1 h2 => ?_⟩
      · exact z.keep a o h1 h2
      · by_cases hn : n = m2.length
        · simp [hn] at h1; subst h1; exact hx
        · simp [hn] at h1; rw [h1] at h2; cases h2
    refine ⟨by simp [rs.length, k ys m2 rfl], _, _, _, .ref m2.length :: ys, iC, .cons (.ref (by simp)) (rs.stp i pC), ?_⟩
    have h' := Gd.from (q.trans pC) h
    revert h'
    show Gd G W σ _ _ _ ((G.C f (.ref m2.length :: ys) (m2 ++ [.ins c []])).bind _) _ → _
    cases G.C f (.ref m2.length :: ys) (m2 ++ [.ins c []]) with
    | exc c gs m3 => exact id
    | stuck => exact id
    | ok d m3 =>
      intro h' S' H' t' p i' v rv
      cases d with
      | non =>
        cases rv
        exact ⟨rfl, h' S' H' t' p i' _ (.ref (p.th _ _ (by simp)))⟩
      | _ => exact h'.elim
theorem de_new {fs : EvA} {np n f : Nat} (T : ClsT X.K X.mg c C) (F : Ini X.prog X.w X.K X.mg X.base G n f (np + 1) C) (hr : Room n X.A) (tk : L2N.Takes X W) (hK : X.kw = G.K) (hg : Gl X c) (ha : PA X (a :: es) (semA G W fs)) (hn : lenA fs np)
    (hdb : (c == ("__debug__" : Str)) = false := by decide) (he : starEach (a :: es) X.env = (false, eval a X.env) :: starEach es X.env := by rfl) (hpl : (backTo pos (starEach es X.env)).any (·.1) = false := by rfl) :
    PE X (.Call (.Name c p) (a :: es) [] pos) (semE G W (newE c f fs)) := by
  obtain ⟨j, ad, fd, ps, F, hm, hb, hj⟩ := F.ok
  exact (pe_makeS hm F (hj.imp (fun z => hr.mono z) id) hg T.g hb (fun σ => L2N.passAt tk σ) ha hdb he hpl).imp fun σ H Q h => new_use T hK hn h
theorem de_new0 {n f : Nat} (T : ClsT X.K X.mg c C) (F : Ini X.prog X.w X.K X.mg X.base G n f 1 C) (hr : Room n X.A) (tk : L2N.Takes X W) (hK : X.kw = G.K) (hg : Gl X c)
    (hdb : (c == ("__debug__" : Str)) = false := by decide) : PE X (.Call (.Name c p) [] [] pos) (semE G W (newE c f nilA)) := by
  obtain ⟨j, ad, fd, ps, F, hm, hb, hj⟩ := F.ok
  refine (pe_makeS0 hm F (hj.imp (fun z => hr.mono z) id) hg T.g hb (fun σ => L2N.passAt tk σ) hdb).imp fun σ H Q h => ?_
  obtain ⟨S, t, m, e, si, g⟩ := new_use (np := 0) T hK lenA_nil h
  exact g _ _ _ .refl si.hi [] .nil
end
end Dn
/-! Classes of the text: what the printer's last text leans on. -/
namespace Dn
open PySem L2
def datsOf : Env → Option (List D)
  | [] => some []
  | .dat d :: r => (datsOf r).map (d :: ·)
  | _ => none
@[simp] theorem datsOf_map (ds : List D) : datsOf (ds.map .dat) = some ds := by
  induction ds with
  | nil => rfl
  | cons d ds ih => simp [datsOf, ih]
/-- the def f, one deeper -/
def callS (f : Nat) : EvS := fun C e m => match datsOf e with
  | some ds => match C f ds m with
    | .ok d m1 => .ret d m1
    | .exc c fs m1 => .exc c fs e m1
    | .stuck => .stuck
  | none => .stuck
theorem run_wrap {T : Tab} {n k f np : Nat} {ds : List D} {m : Store} (h : T k = some ⟨np, np, callS f⟩) (hl : ds.length = np) : run T (n + 1) k ds m = run T n f ds m := by
  show (match T k with
    | some d => if ds.length = d.np ∧ d.np ≤ d.nn then endS (d.body (run T n) (env0 d.nn ds) m) else .stuck
    | none => .stuck) = _
  rw [h]
  dsimp only
  rw [if_pos ⟨hl, Nat.le_refl _⟩]
  have e : env0 np ds = ds.map .dat := by unfold env0; rw [hl, Nat.sub_self]; simp
  rw [e]
  unfold callS
  rw [datsOf_map]
  dsimp only
  cases run T n f ds m with
  | ok d m1 => rfl
  | exc c fs m1 => rfl
  | stuck => rfl
section
variable {P : Program} {w : World} {K : PySem.W.Frag} {mg : Str → Option Value} {base h : Heap}
/-- the body of a class's __init__ -/
structure IniB (P : Program) (w : World) (K : PySem.W.Frag) (mg : Str → Option Value) (base : Heap) (G : Cfg) (n f np : Nat) (C : Addr) : Prop where
  ok : ∃ (a : Addr) (fd : FuncData) (ps : List Str), FnOk P w K mg base (L2N.CX P w) n a fd ps (spD G f np) ∧ Mk K C a ∧ Binds K fd ps []
theorem ini_zero {T : Tab} {Xs : Nat → Option (Addr × List Str)} {k f np : Nat} {C : Addr} (F : IniB P w K mg base ⟨⟨K, w⟩, run T 0, Xs, none⟩ 0 f np C) : Ini P w K mg base ⟨⟨K, w⟩, run T 0, Xs, none⟩ 0 k np C := by
  obtain ⟨a, fd, ps, F, hm, hb⟩ := F.ok
  have no : ∀ (j : Nat) vs H Q E, ¬ spD ⟨⟨K, w⟩, run T 0, Xs, none⟩ j np vs H Q E := fun j vs H Q E ⟨_, S, t, m, ds, _, _, g⟩ => g.elim
  exact ⟨0, a, fd, ps, F.imp fun vs H Q E h => absurd h (no _ _ _ _ _), hm, hb, .inr (no k)⟩
theorem ini_step {T : Tab} {Xs : Nat → Option (Addr × List Str)} {n k f np : Nat} {C : Addr} (F : IniB P w K mg base ⟨⟨K, w⟩, run T n, Xs, none⟩ n f np C) (hT : T k = some ⟨np, np, callS f⟩) : Ini P w K mg base ⟨⟨K, w⟩, run T (n + 1), Xs, none⟩ (n + 1) k np C := by
  obtain ⟨a, fd, ps, F, hm, hb⟩ := F.ok
  refine ⟨n, a, fd, ps, F.imp fun vs H Q E ⟨hl, S, t, m, ds, hi, hd, g⟩ => ⟨hl, S, t, m, ds, hi, hd, ?_⟩, hm, hb, .inl (Nat.le_refl _)⟩
  have g : Gd _ _ _ S H t (run T (n + 1) k ds m) _ := g
  rw [run_wrap hT (hd.length.symm.trans hl)] at g
  exact g
theorem cAt_of {c : Str} {C : Addr} (h : PySem.W.nsIn K mainGlobals c = some (some (.ref C))) : cAt K c = some C := by unfold cAt; rw [h]
theorem mth_sta {x qual : Str} {st : Stmt} {f C : Addr} {oc : Value} {od an : Option Addr} {osl : Array (Option Value)} {kV doc pm cdv ct : Value} {ps : List Str} (a : PySem.W.findIn K (.ref C) x = some (some (.ref f))) (nf : PySem.W.isFn K (.ref f) = true)
    (l : K.lookup f = some ⟨oc, od, .func (PySem.W.fnOf x qual (defArgs st) (defBody st) (defScope st) .none kV doc pm an cdv ct), osl⟩) (c : PySem.W.codeIn K cdv qual = true) (k : PySem.W.keepIn K (.ref f) = true)
    (hb : ∀ (kV doc pm : Value) (an : Option Addr) (cdv ct : Value) (us : List Value), us.length = ps.length → bindArgs (PySem.W.fnOf x qual (defArgs st) (defBody st) (defScope st) .none kV doc pm an cdv ct) ⟨us, []⟩ = pure (ps.zip us)) :
    ∃ a fd, Fun K x qual st a fd ∧ Meth K C x a ∧ Binds K fd ps [] :=
  ⟨_, _, fun_mk l c k, ⟨a, nf, k⟩, (fun_mk l c k).binds hb⟩
theorem ini_sta {qual : Str} {st : Stmt} {f C : Addr} {oc : Value} {od an : Option Addr} {osl : Array (Option Value)} {kV doc pm cdv ct : Value} {ps : List Str} (a : PySem.W.findIn K (.ref C) "__init__" = some (some (.ref f))) (nf : PySem.W.isFn K (.ref f) = true)
    (l : K.lookup f = some ⟨oc, od, .func (PySem.W.fnOf "__init__" qual (defArgs st) (defBody st) (defScope st) .none kV doc pm an cdv ct), osl⟩) (c : PySem.W.codeIn K cdv qual = true) (k : PySem.W.keepIn K (.ref f) = true)
    (mk : PySem.W.makesIn K C = true) (kC : PySem.W.keepIn K (.ref C) = true)
    (hb : ∀ (kV doc pm : Value) (an : Option Addr) (cdv ct : Value) (us : List Value), us.length = ps.length → bindArgs (PySem.W.fnOf "__init__" qual (defArgs st) (defBody st) (defScope st) .none kV doc pm an cdv ct) ⟨us, []⟩ = pure (ps.zip us)) :
    ∃ a fd, Fun K "__init__" qual st a fd ∧ Mk K C a ∧ Binds K fd ps [] :=
  ⟨_, _, fun_mk l c k, ⟨mk, a, nf, kC⟩, (fun_mk l c k).binds hb⟩
end
end Dn
/-! sorted(.., key=len); sorted of a set, of a dict made by a comprehension. -/
namespace Dn
open PySem L2
def lenD : D → Nat
  | .tup xs => xs.length
  | _ => 0
def leLen (a b : D) : Bool := decide ((lenD a : Int) ≤ (lenD b : Int))
def sortedL (ds : List D) : List D := ds.mergeSort leLen
def isTupD : D → Bool
  | .tup xs => decide (xs.length ≤ LIM)
  | _ => false
def lenOk (ds : List D) : Bool := decide (ds.length ≤ LIM) && ds.all isTupD
@[simp] def lenSort : D → Option (List D)
  | .lst ds => if lenOk ds = true then some (sortedL ds) else none
  | _ => none
@[simp] def sortLen (a : EvE) : EvA := fun C e m => (a C e m).bind fun d m1 => .of (lenSort d) m1
section
variable {X : Cx}
theorem sortLen_run {pins : List (Addr × Obj)} {s : Shared} {σ : St} {S H : Hp} {t : Th} {m : Store} {Q : VK} {a : Addr} {vs : List V} {ds : List D} (hu : X.A.units + 65 < cLine) (I : Inv X pins σ H s) (hi : HI X.kw S H t m) (hs : SqL X.K H a vs) (hd : DRs X.kw S t vs ds) (ok : lenOk ds = true)
    (q : ∀ p ws, H p = none → DRs X.kw S t ws (sortedL ds) → Q (.ref p) (upd H p (.lst ws))) : wpAny (model X.prog X.w) X.A (call (.builtin "sorted") [.ref a] [(Str.ofString "key", .builtin "len")]) (EP X pins σ Q) X.xe s := by
  obtain ⟨its, rv, pl, hz⟩ := I.list hs
  unfold lenOk at ok
  simp only [Bool.and_eq_true, decide_eq_true_eq, List.all_eq_true] at ok
  obtain ⟨ok1, ok2⟩ := ok
  have e1 := each_of hd rv
  refine PySem.W.sorted_key_data (b := false) (R := fun u d => ∃ v, RelV v u ∧ DR X.kw S t v d) (fun d => .int (lenD d)) pl.isList e1 (PySem.W.AllAlike.of fun _ _ => by simp [PySem.W.alike]) (PySem.W.Sortable.others fun _ => ⟨(fun z => nomatch z), (fun xs z => nomatch z)⟩) (lim_le ok1)
    (fun d _ => by show X.A.units + 2 + 0 < cLine; omega) (PyProof.Rows.ksk_s1 _ _) (fun _ => PyProof.Rows.ksk_l1 _ _) (fun _ => PyProof.Rows.ksk_t4 _ _) (fun u d ⟨v, r, hd⟩ hmem h tk kp => ?_) fun out c h' tk kp fresh hD ol eo => ?_
  · have hT := ok2 d hmem
    have I1 : Inv X pins σ H { s with heap := h, toks := tk } := I.kept (t' := tk) kp
    cases hd with
    | @tup a' vs' es hq hh =>
      obtain rfl := (show u = Value.ref _ from r)
      obtain ⟨its', r', pl', hz'⟩ := I1.tuple (hi.sub.sqT hq)
      have hlen := r'.length
      have hl2 := hh.length
      have hn := line63
      refine PyProof.Rows.len_tuple pl' (by simp only [List.size_toArray]; omega) ?_
      refine ⟨h, tk + 1 + 1, rfl, fun _ _ q => q, ?_⟩
      have e : ((its'.toArray.size : Nat) : Int) = (lenD (D.tup es) : Int) := by
        show ((its'.toArray.size : Nat) : Int) = _
        rw [List.size_toArray, ← hlen, hl2]; rfl
      rw [e]
      exact .int _ _
    | _ => cases hT
  · rw [PySem.W.dataLe_int (β := D) (fun d => (lenD d : Int))] at eo
    obtain ⟨ws, rw', dw⟩ := each_back eo
    refine ⟨.ref (s.heap.objs.size + 1), upd H (s.heap.objs.size + 1) (.lst ws), I.laid (t' := tk) kp (Nat.le_succ _) ⟨?_, out, c, rw', hD⟩, rfl, q _ ws (I.hok.fresh (Nat.le_succ _)) dw⟩
    have : ws.length = ds.length := dw.length.trans (List.length_mergeSort ds)
    rw [this]
    exact lim_le ok1
variable {G : Cfg} {W : WX} {a : Expr} {fa : EvE} {pos p lp kp : Pos}
theorem df_sortLen (hu : X.A.units + 65 < cLine) (hK : X.kw = G.K) (hg : Gl X "sorted") (hm : X.mg "sorted" = none) (hgl : Gl X "len") (hml : X.mg "len" = none) (hbs : bootBuiltins "sorted" = some (.builtin "sorted")) (hbl : bootBuiltins "len" = some (.builtin "len")) (ha : PE X a (semE G W fa))
    (he : backTo pos (starEach [a] X.env) = (false, eval a X.env) :: backTo pos (starEach [] X.env) := by rfl) (hpl : (backTo pos (starEach [a] X.env)).any (·.1) = false := by rfl) (h1 : starEach [a] X.env = (false, eval a X.env) :: starEach [] X.env := by rfl) :
    PE X (.Call (.Name "sorted" p) [a] [⟨some "key", .Name "len" lp, kp⟩] pos) (semF G W (sortLen fa)) := by
  refine ⟨fun pins s σ H Q I h => ?_⟩
  obtain ⟨S, t, m, e, si, g⟩ := h
  refine wpAny_Call_Name_kw (ld_blt I hg hm hbs ?_ (by decide) (by decide))
  have hc : tCons (semE G W fa) tNil σ H (fun vs H1 => ∃ a vs' ds S1 t1 m1, vs = [V.ref a] ∧ HI X.kw S1 H1 t1 m1 ∧ SqL X.K H1 a vs' ∧ DRs X.kw S1 t1 vs' ds ∧ lenOk ds = true ∧ ∀ p ws, H1 p = none → DRs X.kw S1 t1 ws (sortedL ds) → Q (.ref p) (upd H1 p (.lst ws))) := by
    refine ⟨S, t, m, e, si, (Gd.sp g).imp fun S1 H1 t1 m1 d p1 i1 h1 v rv => ?_⟩
    cases rv with
    | lst hS hd =>
      have h1 : Gd G W σ S1 H1 t1 (Dn.R.of (if lenOk _ = true then some (sortedL _) else none) m1) _ := h1
      split at h1
      · rename_i ok
        refine ⟨_, _, _, S1, t1, m1, rfl, hK ▸ i1, .of (i1.sub _ _ hS), hK ▸ hd, ok, fun p ws hp dw => ?_⟩
        obtain ⟨p2, i2, r⟩ := new_own i1 hp (hK ▸ dw)
        refine h1 _ _ _ p2 i2 p r ?_
        cases q : H p with
        | none => rfl
        | some o => exact absurd hp (p1.dom p (by rw [q]; simp))
      · exact h1.elim
    | _ => exact h1.elim
  refine PyProof.Rows.callWith_kw (thn ((pa_cons ha pa_nil h1).run pos pins s σ H _ I hc) fun us s1 ⟨vs, H1, I1, r1, q1⟩ => ?_) he hpl (by rfl) (by rfl)
  obtain ⟨ad, vs', ds, S1, t1, m1, rfl, i1, hs, hd, ok, q⟩ := q1
  obtain rfl := Vals.ref1 r1
  show wpAny _ _ (evalAll ((do let v ← eval (.Name "len" lp) X.env; standAt pos; pure v) :: (backToKw pos (keywordEach [] X.env)).map (·.2))) _ _ s1
  refine wpAny_evalAll_cons (wpAny_bind (ld_blt I1 hgl hml hbl (wpAny_bind (wpAny_standAt (wpAny_pure (wpAny_evalAll_nil ?_)))) (by decide) (by decide)))
  exact sortLen_run hu I1 i1 hs hd ok q
end
end Dn
/-! sorted of a dict made by a comprehension. -/
namespace Dn
open PySem L2
def intsD : List D → Option (List Int)
  | [] => some []
  | .int i :: r => (intsD r).map (i :: ·)
  | _ => none
def uniq (ns : List Int) : List Int := ns.foldl (fun acc n => if n ∈ acc then acc else acc ++ [n]) []
def upI (ns : List Int) : List Int := ns.mergeSort fun x y => decide (x ≤ y)
@[simp] def setG (ds : List D) : Option (List D) := match intsD ds with
  | some ns => if ns.length < 64 then some ((upI (uniq ns)).map .int) else none
  | none => none
/-- sorted({x: True for x in t}), t a tuple of ints; x's slot -/
@[simp] def sortDk (i : Nat) (a : EvE) : EvA := fun C e m => (a C e m).bind fun d m1 => match d with
  | .tup ds => if i < e.length then .of (setG ds) m1 else .stuck
  | _ => .stuck
theorem intsD_spec {K : KW} {S : Hp} {t : Th} : ∀ {ds : List D} {ns : List Int} {vs : List V}, intsD ds = some ns → DRs K S t vs ds → vs = ns.map V.int := by
  intro ds
  induction ds with
  | nil => intro ns vs h r; cases h; cases r; rfl
  | cons d ds ih =>
    intro ns vs h r
    cases r with
    | cons r1 r2 =>
      cases d with
      | int i =>
        cases r1
        unfold intsD at h
        cases q : intsD ds with
        | none => rw [q] at h; cases h
        | some ms => rw [q] at h; cases h; rw [ih q r2]; rfl
      | _ => cases h
theorem ints_dr {K : KW} {S : Hp} {t : Th} : ∀ ns : List Int, DRs K S t (ns.map V.int) (ns.map D.int)
  | [] => .nil
  | n :: r => .cons (.int n) (ints_dr r)
def kvsN (ns : List Int) : List (Key × V) := ns.foldl (fun k n => putK k (Sum.inl n : Key) (.bl true)) []
theorem kvs_snoc (ns : List Int) (n : Int) : kvsN (ns ++ [n]) = putK (kvsN ns) (Sum.inl n : Key) (.bl true) := by unfold kvsN; rw [List.foldl_append]; rfl
theorem uniq_snoc (ns : List Int) (n : Int) : uniq (ns ++ [n]) = if n ∈ uniq ns then uniq ns else uniq ns ++ [n] := by unfold uniq; rw [List.foldl_append]; rfl
theorem putK_any {k : Key} (kvs : List (Key × V)) : ((kvs.any fun kv => decide (kv.1 = k)) = true) ↔ k ∈ kvs.map (·.1) := by
  rw [List.any_eq_true, List.mem_map]
  exact ⟨fun ⟨a, h1, h2⟩ => ⟨a, h1, of_decide_eq_true h2⟩, fun ⟨a, h1, h2⟩ => ⟨a, h1, decide_eq_true h2⟩⟩
theorem putK_old {k : Key} {v : V} (kvs : List (Key × V)) (h : k ∈ kvs.map (·.1)) : (putK kvs k v).map (·.1) = kvs.map (·.1) := by
  unfold putK
  rw [if_pos ((putK_any kvs).mpr h), List.map_map]
  congr 1
  funext kv
  show (if kv.1 = k then (kv.1, v) else kv).1 = kv.1
  split <;> rfl
theorem putK_fresh {k : Key} {v : V} (kvs : List (Key × V)) (h : ¬ k ∈ kvs.map (·.1)) : (putK kvs k v).map (·.1) = kvs.map (·.1) ++ [k] := by
  unfold putK
  rw [if_neg (fun z => h ((putK_any kvs).mp z))]; simp
theorem inl_mem (ns : List Int) (n : Int) : (Sum.inl n : Key) ∈ (ns.map Sum.inl : List Key) ↔ n ∈ ns := by
  rw [List.mem_map]
  exact ⟨fun ⟨a, h1, h2⟩ => Sum.inl.inj h2 ▸ h1, fun h => ⟨n, h, rfl⟩⟩
theorem kvs_keys (ns : List Int) : (kvsN ns).map (·.1) = (uniq ns).map Sum.inl := by
  have main : ∀ (l : List Int) (acc : List Int) (k : List (Key × V)), k.map (·.1) = (acc.map Sum.inl : List Key) →
      (l.foldl (fun k n => putK k (Sum.inl n : Key) (.bl true)) k).map (·.1) = (l.foldl (fun acc n => if n ∈ acc then acc else acc ++ [n]) acc).map Sum.inl := by
    intro l
    induction l with
    | nil => intro acc k h; exact h
    | cons n l ih =>
      intro acc k h
      rw [List.foldl_cons, List.foldl_cons]
      refine ih _ _ ?_
      by_cases z : n ∈ acc
      · rw [putK_old _ (by rw [h]; exact (inl_mem acc n).mpr z), if_pos z, h]
      · rw [putK_fresh _ (by rw [h]; exact fun q => z ((inl_mem acc n).mp q)), if_neg z, h]; simp
  exact main ns [] [] rfl
theorem uniq_le (ns : List Int) : (uniq ns).length ≤ ns.length := by
  have main : ∀ (l acc : List Int), (l.foldl (fun acc n => if n ∈ acc then acc else acc ++ [n]) acc).length ≤ acc.length + l.length := by
    intro l
    induction l with
    | nil => intro acc; simp
    | cons n l ih =>
      intro acc
      rw [List.foldl_cons]
      refine Nat.le_trans (ih _) ?_
      split
      · simp
      · simp; omega
  have h := main ns []
  rw [List.length_nil, Nat.zero_add] at h
  exact h
section
variable {X : Cx} {G : Cfg} {W : WX} {it : Expr} {fi : EvE} {x : Str} {i : Nat} {scope : Scope} {p xp tp dpos pos : Pos} {vx : Expr}
theorem df_sortDc (hc : X.calm = true) (hK : X.kw = G.K) (hgs : Gl X "sorted") (hm : X.mg "sorted" = none) (hbs : bootBuiltins "sorted" = some (.builtin "sorted")) (hN : X.N.Nodup) (ok : BlkOk X.N X.env.scope scope [(x, i)])
    (hg : ∀ (s : Shared) (H : Hp) (C : Addr) (cl : List (Str × Addr)) (fp : List Addr), PG (X.blk s H scope (compEnvC scope cl C X.env) fp) (.Name x tp) (gName i))
    (hk : ∀ (s : Shared) (H : Hp) (C : Addr) (cl : List (Str × Addr)) (fp : List Addr), PE (X.blk s H scope (compEnvC scope cl C X.env) fp) (.Name x xp) (tVar i))
    (he : ∀ (s : Shared) (H : Hp) (C : Addr) (cl : List (Str × Addr)) (fp : List Addr), PE (X.blk s H scope (compEnvC scope cl C X.env) fp) vx (tC (.bl true)))
    (hi : PE X it (semE G W fi)) (hs : ∀ x, foldedSetIterable it X.env x = pure x := by intro _; rfl)
    (h1 : starEach [.DictComp (.Name x xp) vx [⟨.Name x tp, it, [], 0⟩] scope dpos] X.env = (false, eval (.DictComp (.Name x xp) vx [⟨.Name x tp, it, [], 0⟩] scope dpos) X.env) :: starEach [] X.env := by rfl)
    (hpl : (backTo pos (starEach [] X.env)).any (·.1) = false := by rfl) :
    PE X (.Call (.Name "sorted" p) [.DictComp (.Name x xp) vx [⟨.Name x tp, it, [], 0⟩] scope dpos] [] pos) (semF G W (sortDk i fi)) := by
  refine (pe_callB (call_sortedDI hc) hgs hm hbs (pa_cons (pe_dc hc hN (pi_seq hi) ok hg (fun _ _ _ _ _ => pts_nil) hk he hs) pa_nil h1) (by decide) (by decide) h1 hpl).imp fun σ H Q ⟨S, t, m, e, si, g⟩ => ?_
  refine ⟨S, t, m, e, si, (Gd.sp g).imp fun S1 H1 t1 m1 d p1 i1 h1 v rv => ?_⟩
  cases rv with
  | @tup a vs ds hq hd =>
    refine .inr (.inl ⟨a, vs, rfl, kw_K hK ▸ i1.sub.sqT hq, fun hl D hD => ?_⟩)
    dsimp only at h1
    split at h1
    · rename_i hlt
      unfold setG at h1
      cases hns : intsD ds with
      | none => rw [hns] at h1; exact h1.elim
      | some ns =>
        rw [hns] at h1
        dsimp only at h1
        split at h1
        · rename_i h64
          have hvs := intsD_spec hns hd
          subst hvs
          have hq1 : SqT X.K H1 a (ns.map V.int) := kw_K hK ▸ i1.sub.sqT hq
          have si1 := si.stp p1 i1
          refine dc_tup (fun j H' => H' = upd H1 D (.dK (kvsN (ns.take j)))) (by simp [kvsN]) (fun j H' _ e => by
            subst e
            exact Sub.sqT (fun b o z => by rw [upd_ne (ne_of_none z hD)]; exact z) hq1) (fun j y H' hy e => ?_) fun H' e => ?_
          · subst e
            rw [List.getElem?_map] at hy
            cases hz : ns[j]? with
            | none => rw [hz] at hy; cases hy
            | some n =>
              rw [hz] at hy
              cases hy
              refine ⟨by simp [wipe], ⟨.int n, ?_, kvsN (ns.take j), Sum.inl n, rfl, upd_same, ?_, ?_⟩⟩
              · rw [List.getElem?_set_self]
                show i < (wipe σ [i]).length
                rw [wipe_length, si1.len]
                exact hlt
              · have hh : (kvsN (ns.take j)).length = (uniq (ns.take j)).length := by
                  have := congrArg List.length (kvs_keys (ns.take j))
                  simpa using this
                rw [hh]
                have := uniq_le (ns.take j)
                have h2 : (ns.take j).length ≤ ns.length := by rw [List.length_take]; omega
                rw [sizeLine_eq]; omega
              · rw [upd_upd]
                congr 2
                rw [List.take_add_one, hz]
                exact (kvs_snoc (ns.take j) n).symm
          · subst e
            have e2 : ns.take (ns.map V.int).length = ns := by rw [List.length_map]; exact List.take_length
            rw [e2]
            refine ⟨D, kvsN ns, uniq ns, rfl, .of upd_same, kvs_keys ns, Nat.lt_of_le_of_lt (uniq_le ns) h64, fun ys q perm up hq' => ?_⟩
            have ey : ys = upI (uniq ns) := PySem.W.Srt.up perm up
            obtain ⟨i2, p2⟩ := new_hi0 (o := .dK (kvsN ns)) i1 hD
            obtain ⟨p3, i3, r⟩ := new_own (K := G.K) i2 hq' (ints_dr ys)
            refine h1 _ _ _ (p2.trans p3) i3 q (ey ▸ r) ?_
            cases z : H q with
            | none => rfl
            | some o => exact absurd hq' ((p1.trans p2).dom q (by rw [z]; simp))
        · exact h1.elim
    · exact h1.elim
  | _ => exact h1.elim
end
end Dn
/-! sorted(set(xs)), xs a list or a tuple of ints. -/
namespace L2
open PySem PySem.Spec PyProof.Rows
section
variable {P : Program} {w : World} {A : Around} {E : Value → Shared → Prop} {s : Shared}
abbrev newS (w : World) : Obj := { cls := .type "set", dict := none, data := .set #[] 0 (.fresh 0 0 (!w.params.followText "set-order")) }
/-- the fresh set takes a list's ints -/
theorem dn_set_fill {l : Addr} {items : Array Value} (ns : List Int) {R : Value → Shared → Prop} (hh : A.handled = none) (hl : s.heap.IsList l items) (hit : IntsAre items.toList ns) (hb : ns.length + 1 < scanBound)
    (h : ∀ (h' : Heap) (tk c : Nat), SetR w h' s.heap.objs.size (fun j => decide (j ∈ ns)) c → c ≤ ns.length → (∀ b o, s.heap.get? b = some o → h'.get? b = some o) → R .none { s with heap := h', toks := tk }) :
    codeAny (model P w) A (.call (.builtin "set.__init__") ⟨[.ref s.heap.objs.size, .ref l], []⟩) (wants R E) { s with heap := s.heap.push (newS w) } := by
  have hn : items.size = ns.length := by
    have q := IntsAre.length hit
    rwa [Array.length_toList] at q
  have hS : (s.heap.push (newS w)).get? s.heap.objs.size = some (newS w) := Heap.get?_push_size _ rfl
  have hT : Shared.TypeIs { s with heap := s.heap.push (newS w) } (.ref s.heap.objs.size) "set" := ⟨_, hS, rfl⟩
  refine codeAny_call_builtin F.called_set.init.plain F.entry_set_init (check_set_init_1 hT ?_)
  obtain ⟨ol, hol, hcl, nl, hdl⟩ := hl
  obtain ⟨oc, od, oda, os⟩ := ol
  simp only at hcl hdl
  subst hcl; subst hdl
  have hol' : (s.heap.push (newS w)).get? l = some { cls := .type "list", dict := od, data := .seq items nl, slots := os } := Heap.get?_push_of_some _ hol
  have a1 := F.sub_list_set
  have a2 := F.sub_list_frozenset
  have a3 : (Value.type "list" == Value.type "dict") = false := by decide
  have hl1 : (s.heap.push (newS w)).IsList l items := ⟨_, hol', rfl, nl, rfl⟩
  unfold Builtin.«set.__init__» noKeywords Builtin.Frozenset.updateFrom
  generalize hPI : pyIter = PI
  wp_walk
  subst hPI
  refine wpAny_pyIter_list hl1 (wpAny_bind (wpAny_runValue ?_))
  have hlS : l < s.heap.objs.size := Heap.lt_size hol
  have hz : (s.heap.push (newS w)).objs.size = s.heap.objs.size + 1 := Heap.size_push ..
  refine set_update_ints ((Walks.list (by simp [hh]) _ l (by rw [hz]; exact Nat.ne_of_lt (Nat.lt_succ_of_lt hlS)) items).toS) s.heap.objs.size
    (by rw [hz]; simp only [List.mem_cons, List.not_mem_nil, or_false, not_or]; exact ⟨Nat.ne_of_lt (Nat.lt_succ_self _), Nat.ne_of_gt hlS⟩)
    ns hn hb (fun i v hv => ?_) (items.size - 0) 0 _ (by omega) (Nat.zero_le _) ⟨⟨_, Heap.get?_push_size _ rfl, rfl, rfl⟩, (hl1.push _)⟩ ⟨0, Nat.le_refl 0, setR_new_at (Heap.get?_push_of_some _ hS)⟩ fun s' c hm hc hR => ?_
  · have hi : i < ns.length := by rw [← hn]; exact (Array.getElem?_eq_some_iff.mp hv).1
    obtain ⟨t, e⟩ := PyProof.Rows.IntsAre.int_at hit i v (by rw [Array.getElem?_toList]; exact hv)
    refine ⟨ns[i], t, List.getElem?_eq_getElem hi, ?_⟩
    rw [e, List.getD_eq_getElem?_getD, List.getElem?_eq_getElem hi] <;> rfl
  · obtain ⟨h', g, d, tk, os'⟩ := s'
    have e1 : g = s.gens := hm.gens
    have e2 : d = s.drawn := hm.drawn
    have e3 : os' = s.os := hm.os
    subst e1; subst e2; subst e3
    rw [hn] at hc
    show wpAny _ _ _ _ _ _
    refine wpAny_pure ?_
    show wpAny _ _ (ret Value.none) _ _ _
    refine wpAny_pure (h h' tk c hR hc fun b o e => ?_)
    have b0 : b < s.heap.objs.size := Heap.lt_size e
    exact hm.heap b o (by rw [hz]; simp only [List.mem_cons, List.not_mem_nil, or_false, not_or]; exact ⟨Nat.ne_of_lt b0, Nat.ne_of_lt (Nat.lt_succ_of_lt b0)⟩) (Heap.get?_push_of_some _ (Heap.get?_push_of_some _ e))
set_option maxHeartbeats 3200000 in
/-- set(xs) of a list of ints -/
theorem dn_set_lst {l : Addr} {items : Array Value} (ns : List Int) {Q : Value → Shared → Prop} (hh : A.handled = none) (hl : s.heap.IsList l items) (hit : IntsAre items.toList ns) (hb : ns.length + 1 < scanBound)
    (h : ∀ (h' : Heap) (tk c : Nat), SetR w h' s.heap.objs.size (fun j => decide (j ∈ ns)) c → c ≤ ns.length → (∀ b o, s.heap.get? b = some o → h'.get? b = some o) → Q (.ref s.heap.objs.size) { s with heap := h', toks := tk }) :
    wpAny (model P w) A (call (.type "set") [.ref l]) Q E s := by
  obtain ⟨c, tl, hmro⟩ := F.called_set.mro
  have q1 := F.called_set.made
  have q2 := F.called_set.sub
  refine wpAny_call (codeAny_of_tree ?_)
  show wpAny _ _ (callAny (.type "set") _) _ _ _
  refine wpAny_pure ⟨Code.quiet_builtin _ (by decide +kernel), codeAny_builtin F.entry_type_call ?_⟩
  rw [Around.under_plain (weight_type_call_type "set" [.ref l] []) rfl]
  have q3 := F.called_set.notType
  have q4 := F.called_set.canCreate
  have q5 := F.typeCall_set_1 (.ref l)
  repeat (any_goals (first | assumption | wp_step))
  refine codeAny_mono (code_set_led1 (.ref l) (E := E) (Q₁ := fun obj s₁ => obj = .ref s.heap.objs.size ∧ s₁ = { s with heap := s.heap.push (newS w) }) ⟨rfl, rfl⟩) fun r s₁ hr => ?_
  rcases r with e | (obj | _ | _ | _) <;> first | exact hr | exact hr.elim | skip
  obtain ⟨rfl, rfl⟩ := hr
  have hS : (s.heap.push (newS w)).get? s.heap.objs.size = some (newS w) := Heap.get?_push_size _ rfl
  have hT : Shared.TypeIs { s with heap := s.heap.push (newS w) } (.ref s.heap.objs.size) "set" := ⟨_, hS, rfl⟩
  have q6 := F.called_set.init.lookup
  have q7 := F.called_set.init.bind (.ref s.heap.objs.size)
  repeat (any_goals (first | assumption | wp_step))
  refine codeAny_mono (dn_set_fill (E := E) (R := fun r s₂ => r = .none ∧ ∃ h' tk c, s₂ = { s with heap := h', toks := tk } ∧ SetR w h' s.heap.objs.size (fun j => decide (j ∈ ns)) c ∧ c ≤ ns.length ∧ (∀ b o, s.heap.get? b = some o → h'.get? b = some o)) ns (by simp [hh]) hl hit hb
    fun h' tk c a1 a2 a3 => ⟨rfl, h', tk, c, rfl, a1, a2, a3⟩) fun r₂ s₂ hr₂ => ?_
  rcases r₂ with e | (r | _ | _ | _) <;> first | exact hr₂ | exact hr₂.elim | skip
  obtain ⟨rfl, h', tk, c', rfl, hS', hc', hk'⟩ := hr₂
  repeat (any_goals (first | assumption | wp_step))
  exact h _ _ _ hS' hc' hk'
variable {X : Cx}
/-- set(xs), xs a list or a tuple of ints -/
def rSetI (K : PySem.W.Frag) (w : World) : List V → Hp → VK → Prop := fun xs H Q => ∃ (l : Addr) (ns : List Int), xs = [V.ref l] ∧ (SqL K H l (ns.map V.int) ∨ SqT K H l (ns.map V.int)) ∧ ns.length < 64 ∧
  ∀ a c, H a = none → c ≤ ns.length → Q (.ref a) (upd H a (SetO w a (fun j => decide (j ∈ ns)) c))
theorem cr_setI (hc : X.calm = true) : CallR X (.type "set") (rSetI X.K X.w) := by
  intro pins s σ H xs us Q I r h
  obtain ⟨l, ns, rfl, hs, h64, q⟩ := h
  obtain rfl := Vals.ref1 r
  have fin : ∀ (h' : Heap) (tk c : Nat), SetR X.w h' s.heap.objs.size (fun j => decide (j ∈ ns)) c → c ≤ ns.length → (∀ b o, s.heap.get? b = some o → h'.get? b = some o) → EP X pins σ Q (.ref s.heap.objs.size) { s with heap := h', toks := tk } := fun h' tk c hS hc k =>
    ⟨.ref s.heap.objs.size, _, I.laid (t' := tk) k (Nat.le_refl _) (setO_new hS), rfl, q _ c (I.hok.fresh (Nat.le_refl _)) hc⟩
  rcases hs with hs | hs
  · obtain ⟨its, rv, pl, hz⟩ := I.list hs
    exact dn_set_lst ns (I.ok.hd hc) pl.isList (by have := rv.ints; simpa using this) (by unfold scanBound; omega) fin
  · obtain ⟨its, rv, pl, hz⟩ := I.tuple hs
    obtain ⟨o, ho, hcc, n, hd⟩ := pl
    exact call_set_tupI ns (I.ok.hd hc) ⟨o, ho, hcc, n, hd⟩ (by have := rv.ints; simpa using this) (by unfold scanBound; omega) fin
end
end L2
namespace Dn
open PySem L2
theorem uniq_mem (ns : List Int) (k : Int) : k ∈ uniq ns ↔ k ∈ ns := by
  have main : ∀ (l acc : List Int), k ∈ l.foldl (fun acc n => if n ∈ acc then acc else acc ++ [n]) acc ↔ k ∈ acc ∨ k ∈ l := by
    intro l
    induction l with
    | nil => intro acc; simp
    | cons n l ih =>
      intro acc
      rw [List.foldl_cons, ih]
      by_cases z : n ∈ acc
      · rw [if_pos z, List.mem_cons]
        constructor
        · rintro (h | h)
          · exact .inl h
          · exact .inr (.inr h)
        · rintro (h | h | h)
          · exact .inl h
          · exact .inl (h ▸ z)
          · exact .inr h
      · rw [if_neg z, List.mem_append, List.mem_singleton, List.mem_cons, or_assoc]
  have := main ns []
  simpa [uniq] using this
theorem uniq_nodup (ns : List Int) : (uniq ns).Nodup := by
  have main : ∀ (l acc : List Int), acc.Nodup → (l.foldl (fun acc n => if n ∈ acc then acc else acc ++ [n]) acc).Nodup := by
    intro l
    induction l with
    | nil => intro acc h; exact h
    | cons n l ih =>
      intro acc h
      rw [List.foldl_cons]
      refine ih _ ?_
      by_cases z : n ∈ acc
      · rw [if_pos z]; exact h
      · rw [if_neg z]
        refine List.nodup_append.mpr ⟨h, by simp, fun a ha b hb => ?_⟩
        rw [List.mem_singleton] at hb
        subst hb
        exact fun q => z (q ▸ ha)
  exact main ns [] List.nodup_nil
theorem set_up {ns ys : List Int} (h1 : ys.Pairwise (· < ·)) (h2 : ∀ k : Int, k ∈ ys ↔ k ∈ ns) : ys = upI (uniq ns) := by
  have hn : ys.Nodup := h1.imp fun {a b} h => by omega
  refine PySem.W.Srt.up ?_ (h1.imp fun {a b} h => by omega)
  exact (List.perm_ext_iff_of_nodup hn (uniq_nodup ns)).mpr fun k => (h2 k).trans (uniq_mem ns k).symm
/-- sorted(set(xs)) -/
@[simp] def sortSet (a : EvE) : EvA := fun C e m => (a C e m).bind fun d m1 => match d with
  | .tup ds => .of (setG ds) m1
  | .lst ds => .of (setG ds) m1
  | _ => .stuck
section
variable {X : Cx} {G : Cfg} {W : WX} {a : Expr} {fa : EvE} {p sp cp pos : Pos}
theorem df_sortSet (hc : X.calm = true) (hK : X.kw = G.K) (hgs : Gl X "sorted") (hm : X.mg "sorted" = none) (hbs : bootBuiltins "sorted" = some (.builtin "sorted")) (hgt : Gl X "set") (hmt : X.mg "set" = none) (hbt : bootBuiltins "set" = some (.type "set")) (ha : PE X a (semE G W fa))
    (h0 : starEach [a] X.env = (false, eval a X.env) :: starEach [] X.env := by rfl)
    (h1 : starEach [.Call (.Name "set" sp) [a] [] cp] X.env = (false, eval (.Call (.Name "set" sp) [a] [] cp) X.env) :: starEach [] X.env := by rfl) (hp0 : (backTo cp (starEach [] X.env)).any (·.1) = false := by rfl)
    (hpl : (backTo pos (starEach [] X.env)).any (·.1) = false := by rfl) :
    PE X (.Call (.Name "sorted" p) [.Call (.Name "set" sp) [a] [] cp] [] pos) (semF G W (sortSet fa)) := by
  refine (pe_callB (cr_sortedSet hc) hgs hm hbs (pa_cons (pe_callTy (cr_setI hc) hgt hmt hbt (pa_cons ha pa_nil h0) (by decide) (by decide) h0 hp0) pa_nil h1) (by decide) (by decide) h1 hpl).imp fun σ H Q ⟨S, t, m, e, si, g⟩ => ?_
  refine ⟨S, t, m, e, si, (Gd.sp g).imp fun S1 H1 t1 m1 d p1 i1 h1 v rv => ?_⟩
  have fin : ∀ (l : Addr) (vs : List V) (ds : List D), v = .ref l → (SqL X.K H1 l vs ∨ SqT X.K H1 l vs) → DRs G.K S1 t1 vs ds → Gd G W σ S1 H1 t1 (Dn.R.of (setG ds) m1) (fun S' H' t' _ xs => ∀ p, OwnAt G.K S' H' t' p (.lst xs) → H p = none → Q (.ref p) H') →
      rSetI X.K X.w [v] H1 fun x H2 => rSortedSet X.w [x] H2 Q := by
    intro l vs ds hv hs hd h1
    unfold setG at h1
    cases hns : intsD ds with
    | none => rw [hns] at h1; exact h1.elim
    | some ns =>
      rw [hns] at h1
      dsimp only at h1
      split at h1
      · rename_i h64
        have hvs := intsD_spec hns hd
        subst hvs
        refine ⟨l, ns, by rw [hv], hs, h64, fun b c hb hcn => ⟨b, _, c, rfl, upd_same, by omega, fun ys q up hm hl hq => ?_⟩⟩
        have ey : ys = upI (uniq ns) := set_up up fun k => (hm k).trans (by simp)
        obtain ⟨i2, p2⟩ := new_hi0 (o := SetO X.w b (fun j => decide (j ∈ ns)) c) i1 hb
        obtain ⟨p3, i3, r⟩ := new_own (K := G.K) i2 hq (ints_dr ys)
        refine h1 _ _ _ (p2.trans p3) i3 q (ey ▸ r) ?_
        cases z : H q with
        | none => rfl
        | some o => exact absurd hq ((p1.trans p2).dom q (by rw [z]; simp))
      · exact h1.elim
  cases rv with
  | tup hq hd => exact fin _ _ _ rfl (.inr (kw_K hK ▸ i1.sub.sqT hq)) hd h1
  | lst hq hd => exact fin _ _ _ rfl (.inl (.of (i1.sub _ _ hq))) hd h1
  | _ => exact h1.elim
end
end Dn
/-! sorted of tuples of ints, the first of them empty. -/
namespace SrtO
open PySem PyProof.Rows Srt
section
variable {prog : Program} {w : World} {A : Around} {E : Value → Shared → Prop} {s : Shared}
theorem oneLt_tupI {l b : Addr} {items items2 : Array Value} {ns ms : List Int} {Q : Bool → Shared → Prop} (hl : IsTup s.heap l items) (hb : IsTup s.heap b items2) (hi : IntsAre items.toList ns) (hj : IntsAre items2.toList ms)
    (hu : A.units < cLine) (h : Q (HT.lexLt ns ms) s) : wpAny (model prog w) A (oneLt' true (.ref l) (.ref b)) Q E s := by
  obtain ⟨⟨cls, dd, data, sl⟩, ho, hc, n, hd⟩ := id hl
  obtain ⟨⟨cls2, dd2, data2, sl2⟩, ho2, hc2, n2, hd2⟩ := id hb
  simp only at hc hd hc2 hd2
  subst hc hd hc2 hd2
  rw [oneLt'_eq]
  simp only [if_true]
  refine wpAny_bind (wpAny_cRoomFor hu ?_)
  refine wpAny_bind (wpAny_callSpecialIfBound?_slot ⟨_, ho, rfl⟩ PySem.F.slot_tuple_lt (call_meets PySem.F.slot_tuple_lt ⟨_, ho, rfl⟩ PySem.F.entry_tuple_lt (PySem.F.args_tuple_lt_2 _ _) (HT.tuple_lt_ints l b items items2 n n2 dd dd2 sl sl2 ns ms hi hj) ⟨ho, ho2, ?_⟩))
  exact wpAny_truthy_bool h
/-- the firsts, the first of all none -/
theorem firsts_any : ∀ (vs : List Value) {Q : List (Option Value) → Shared → Prop}, (∀ v ∈ vs, ∃ b its, v = Value.ref b ∧ IsTup s.heap b its) → (∀ fs, Q fs s) → wpAny (model prog w) A (vs.mapM firstOfTuple') Q E s
  | [], _, _, h => by rw [List.mapM_nil]; exact wpAny_pure (h [])
  | v :: vs, Q, t, h => by
    obtain ⟨b, its, rfl, o, ho, hc, n, hd⟩ := t v List.mem_cons_self
    rw [List.mapM_cons]
    refine wpAny_bind ?_
    rw [PySem.W.kas_first_eq]
    refine wpAny_bind (PySem.W.Looks.here (show PySem.W.Looks (model prog w) s.heap (typeOf (.ref b)) o.cls from (PySem.W.Looks.ld ho).andThen .now) ?_)
    rw [hc, if_neg (by first | decide | simp)]
    refine wpAny_bind (listItems_at ho hd (wpAny_pure ?_))
    exact wpAny_bind (firsts_any vs (Q := fun bs s' => wpAny (model prog w) A (pure (its[0]? :: bs)) Q E s') (fun u hu => t u (List.mem_cons_of_mem _ hu)) fun fs => wpAny_pure (h _))
theorem kind_empty {a : Addr} {vs : List Value} {Q : SortKind → Shared → Prop} (ht : IsTup s.heap a #[]) (t : ∀ v ∈ vs, ∃ b its, v = Value.ref b ∧ IsTup s.heap b its) (q : Q oneType' s) : wpAny (model prog w) A (keyKind' (Value.ref a :: vs).toArray) Q E s := by
  have hT : ∀ v ∈ Value.ref a :: vs, PySem.W.Looks (model prog w) s.heap (typeOf v) (.type "tuple") := fun v hv => by
    rcases List.mem_cons.mp hv with e | hv
    · obtain ⟨o, ho, hc, n, hd⟩ := ht
      subst e
      exact (PySem.W.Looks.ld ho).andThen (by rw [hc]; exact .now)
    · obtain ⟨b, its, rfl, o, ho, hc, n, hd⟩ := t v hv
      exact (PySem.W.Looks.ld ho).andThen (by rw [hc]; exact .now)
  rw [keyKind'_eq, List.mapM_toArray, map_eq_pure_bind]
  refine wpAny_bind (wpAny_bind ?_)
  rw [List.mapM_cons]
  refine wpAny_bind ?_
  obtain ⟨o, ho, hc, n, hd⟩ := ht
  rw [PySem.W.kas_first_eq]
  refine wpAny_bind (PySem.W.Looks.here (show PySem.W.Looks (model prog w) s.heap (typeOf (.ref a)) o.cls from (PySem.W.Looks.ld ho).andThen .now) ?_)
  rw [hc, if_neg (by first | decide | simp)]
  refine wpAny_bind (listItems_at ho hd (wpAny_pure ?_))
  refine wpAny_bind (firsts_any vs t fun fs => wpAny_pure (wpAny_pure ?_))
  have e0 : ((#[] : Array Value)[0]? : Option Value) = none := rfl
  rw [e0]
  rw [if_neg (by simp), if_neg (by simp)]
  rw [oneTypeOnly'_eq, List.mapM_toArray, map_eq_pure_bind]
  refine wpAny_bind (wpAny_bind (wpAny_bind (PySem.W.kas_mapM (r := .type "tuple") _ (fun v hv Q' hq => (hT v hv).here hq) (wpAny_pure ?_))))
  have hall : ((List.map (fun _ => Value.type "tuple") (Value.ref a :: vs)).toArray.all fun x => x == Value.type "tuple") = true := by
    simp only [List.all_toArray, List.all_map, List.all_eq_true]
    intro _ _
    rfl
  have h0 : (List.map (fun _ => Value.type "tuple") (Value.ref a :: vs)).toArray[0]? = some (Value.type "tuple") := by simp
  rw [h0]
  simp only [hall, if_true]
  exact wpAny_pure (wpAny_pure q)
theorem lexLt_asymm : ∀ a b : List Int, HT.lexLt a b = true → HT.lexLt b a = false
  | [], [], h => by cases h
  | [], _ :: _, _ => rfl
  | _ :: _, [], h => by cases h
  | x :: xs, y :: ys, h => by
    rw [HT.lexLt_cons] at h ⊢
    by_cases e : x = y
    · rw [if_pos e] at h; rw [if_pos e.symm]; exact lexLt_asymm xs ys h
    · rw [if_neg e] at h; rw [if_neg (fun z => e z.symm)]
      have := of_decide_eq_true h
      exact decide_eq_false (by omega)
theorem lexLt_trans : ∀ a b c : List Int, HT.lexLt b a = false → HT.lexLt c b = false → HT.lexLt c a = false
  | [], _, c, _, h2 => by
    cases c with
    | nil => rfl
    | cons z zs => rfl
  | x :: xs, [], c, h1, _ => by cases h1
  | x :: xs, y :: ys, [], _, h2 => by cases h2
  | x :: xs, y :: ys, z :: zs, h1, h2 => by
    rw [HT.lexLt_cons] at h1 h2 ⊢
    by_cases e : y = x
    · rw [if_pos e] at h1
      by_cases e' : z = y
      · rw [if_pos e'] at h2
        rw [if_pos (e'.trans e)]
        exact lexLt_trans xs ys zs h1 h2
      · rw [if_neg e'] at h2
        rw [if_neg (by rw [← e]; exact e')]
        have := of_decide_eq_false h2
        exact decide_eq_false (by omega)
    · rw [if_neg e] at h1
      have a1 := of_decide_eq_false h1
      by_cases e' : z = y
      · rw [if_neg (by omega)]
        exact decide_eq_false (by omega)
      · rw [if_neg e'] at h2
        have a2 := of_decide_eq_false h2
        rw [if_neg (by omega)]
        exact decide_eq_false (by omega)
theorem swo_tup (k : Value → List Int) : Swo fun v u => HT.lexLt (k v) (k u) := ⟨fun x y h => lexLt_asymm _ _ h, fun x y z h1 h2 => by
  first | exact lexLt_trans _ _ _ h1 h2 | exact lexLt_trans _ _ _ h2 h1⟩
/-- a tuple of these ints -/
def TupIs (h : Heap) (v : Value) (ns : List Int) : Prop := ∃ a its, v = .ref a ∧ IsTup h a its ∧ IntsAre its.toList ns
theorem TupIs.keeps {h h' : Heap} {v : Value} {ns : List Int} (t : TupIs h v ns) (k : ∀ b o, h.get? b = some o → o.cls = .type "tuple" → h'.get? b = some o) : TupIs h' v ns := by
  obtain ⟨a, its, e, ⟨o, ho, hc, n, hd⟩, hi⟩ := t
  exact ⟨a, its, e, ⟨o, k _ _ ho hc, hc, n, hd⟩, hi⟩
theorem tups_sortable {a : Addr} {v0 : Value} {vs : List Value} {k : Value → List Int} (h0 : k v0 = []) (hp : ∀ v ∈ v0 :: vs, TupIs s.heap v (k v)) (ha : ∀ o, s.heap.get? a = some o → o.cls ≠ .type "tuple") (hu : A.units < cLine) :
    SortableO prog w A s a (v0 :: vs) fun v u => HT.lexLt (k v) (k u) := by
  intro h' keep
  have hp' : ∀ v ∈ v0 :: vs, TupIs h' v (k v) := fun v hm => (hp v hm).keeps fun b o e c => keep b o (fun z => by subst z; exact ha o e c) e
  refine ⟨oneType', fun Q E hq => ?_, fun p q hm hm' => ?_⟩
  · obtain ⟨a0, its, e, ht, hi⟩ := hp' v0 List.mem_cons_self
    subst e
    rw [h0] at hi
    have e0 : its = #[] := by
      have := hi.length
      simp at this
      exact this
    subst e0
    exact kind_empty (s := { s with heap := h' }) ht (fun v hv => by
      obtain ⟨b, it2, e, ht2, _⟩ := hp' v (List.mem_cons_of_mem _ hv)
      exact ⟨b, it2, e, ht2⟩) hq
  · obtain ⟨b, it1, e1, t1, i1⟩ := hp' _ hm
    obtain ⟨c, it2, e2, t2, i2⟩ := hp' _ hm'
    show wpAny (model prog w) A (keyLt' oneType' p.1 q.1) (fun r s' => s' = { s with heap := h' } ∧ r = HT.lexLt (k p.1) (k q.1)) (fun _ _ => False) { s with heap := h' }
    generalize k p.1 = n1 at i1 ⊢
    generalize k q.1 = n2 at i2 ⊢
    rw [e1, e2, keyLt'_oneType]
    exact oneLt_tupI (s := { s with heap := h' }) t1 t2 i1 i2 hu ⟨rfl, rfl⟩
end
end SrtO
/-! sorted of tuples of ints, the first of them empty, as a rule. -/
namespace Dn
open PySem L2
def tupN : D → Option (List Int)
  | .tup ds => intsD ds
  | _ => none
def keyT (d : D) : List Int := (tupN d).getD []
def leT (a b : D) : Bool := !HT.lexLt (keyT b) (keyT a)
def sortedT (ds : List D) : List D := ds.mergeSort leT
def head0 : List D → Bool
  | .tup [] :: _ => true
  | _ => false
def tupsOk (ds : List D) : Bool := decide (ds.length ≤ LIM) && ds.all (fun d => (tupN d).isSome) && head0 ds
@[simp] def sortF0 : Store → List D → Option (List D) := fun _ xs => match xs with
  | [.lst ds] => if tupsOk ds = true then some (sortedT ds) else none
  | _ => none
theorem tupsOk_ok {ds : List D} (h : tupsOk ds = true) : ds.length ≤ LIM ∧ (∀ d ∈ ds, tupN d = some (keyT d)) ∧ ∃ r, ds = .tup [] :: r := by
  unfold tupsOk at h
  simp only [Bool.and_eq_true, List.all_eq_true, decide_eq_true_eq] at h
  obtain ⟨⟨h1, h2⟩, h3⟩ := h
  refine ⟨h1, fun d hd => ?_, ?_⟩
  · obtain ⟨p, hp⟩ := Option.isSome_iff_exists.mp (h2 d hd)
    unfold keyT
    rw [hp]; rfl
  · unfold head0 at h3
    split at h3
    · exact ⟨_, rfl⟩
    · cases h3
/-- the ints of the tuple at a value -/
noncomputable def kOf (K : PySem.W.Frag) (H : Hp) (u : Value) : List Int := by
  classical
  exact if h : ∃ ns : List Int, ∃ a : Addr, u = .ref a ∧ SqT K H a (ns.map V.int) then h.choose else []
theorem map_int_inj {a b : List Int} (h : a.map V.int = b.map V.int) : a = b := by
  induction a generalizing b with
  | nil => cases b with
    | nil => rfl
    | cons y b => cases h
  | cons x a ih => cases b with
    | nil => cases h
    | cons y b =>
      simp only [List.map_cons, List.cons.injEq, V.int.injEq] at h
      rw [h.1, ih h.2]
section
variable {X : Cx}
theorem kOf_is {pins : List (Addr × Obj)} {σ : St} {H : Hp} {s : Shared} (I : Inv X pins σ H s) {a : Addr} {ns : List Int} (h : SqT X.K H a (ns.map V.int)) : kOf X.K H (.ref a) = ns := by
  have hx : ∃ ns' : List Int, ∃ a' : Addr, Value.ref a = .ref a' ∧ SqT X.K H a' (ns'.map V.int) := ⟨ns, a, rfl, h⟩
  unfold kOf
  rw [dif_pos hx]
  obtain ⟨a', e, q⟩ := hx.choose_spec
  cases e
  exact map_int_inj (I.tuple_inj q h)
theorem tup_sq {S H : Hp} {t : Th} {v : V} {u : Value} {d : D} {ns : List Int} (ss : Sub S H) (r : RelV v u) (hd : DR X.kw S t v d) (hn : tupN d = some ns) : ∃ a, u = .ref a ∧ SqT X.K H a (ns.map V.int) := by
  cases d with
  | tup ds =>
    cases hd with
    | @tup a vs _ h1 h2 =>
      obtain rfl : u = Value.ref a := r
      have e := intsD_spec hn h2
      subst e
      exact ⟨a, rfl, ss.sqT h1⟩
  | _ => cases hn
def rSort0 (K : KW) : List V → Hp → VK → Prop := fun xs H Q => ∃ S t m a ds vs, HI K S H t m ∧ xs = [V.ref a] ∧ SqL K H a vs ∧ DRs K S t vs ds ∧ tupsOk ds = true ∧ ∀ p ws, H p = none → DRs K S t ws (sortedT ds) → Q (.ref p) (upd H p (.lst ws))
theorem lexTot : PySem.W.TotalLe fun a b : List Int => !HT.lexLt b a := by
  refine ⟨fun a b c h1 h2 => ?_, fun a b => ?_⟩
  · simp only [Bool.not_eq_true'] at h1 h2 ⊢
    exact SrtO.lexLt_trans _ _ _ h1 h2
  · simp only [Bool.not_eq_true']
    cases h : HT.lexLt b a with
    | false => exact .inl rfl
    | true => exact .inr (SrtO.lexLt_asymm _ _ h)
theorem totOn {α : Type} (k : α → List Int) : PySem.W.TotalLe fun a b : α => !HT.lexLt (k b) (k a) := ⟨fun _ _ _ h1 h2 => lexTot.trans _ _ _ h1 h2, fun _ _ => lexTot.total _ _⟩
theorem cr_sort0 (hu : X.A.units + 65 < cLine) : CallR X (.builtin "sorted") (rSort0 X.kw) := by
  intro pins s σ H xs us Q I r h
  obtain ⟨S, t, m, a, ds, vs, hi, rfl, hs, hd, ok, q⟩ := h
  obtain ⟨u, rfl, ru⟩ := vals1 r
  obtain rfl : u = Value.ref a := ru
  obtain ⟨its, rv, hl, hz⟩ := I.list hs
  have e1 := each_of hd rv
  obtain ⟨hL, hk, r0, er0⟩ := tupsOk_ok ok
  have hkey : ∀ p, p ∈ its.zip ds → kOf X.K H p.1 = keyT p.2 ∧ SrtO.TupIs s.heap p.1 (keyT p.2) := by
    intro p hp
    obtain ⟨v, rp, dp⟩ := e1.zip p hp
    have hm : p.2 ∈ ds := (List.of_mem_zip hp).2
    obtain ⟨b, eb, sb⟩ := tup_sq hi.sub rp dp (hk p.2 hm)
    have k1 := kOf_is I sb
    obtain ⟨it2, rv2, p2, hz2⟩ := I.tuple sb
    rw [eb]
    exact ⟨k1, b, it2.toArray, rfl, p2, by simpa using rv2.ints⟩
  refine SrtO.sorted_ord (SrtO.swo_tup (kOf X.K H)) hl.isList (by rw [← rv.length]; exact hz) (fun h2 h₁ a' ha kk => ?_) fun out h1 h2 => ?_
  · subst er0
    cases e1 with
    | @cons u0 _ us _ h0 hr =>
    obtain ⟨k0, _⟩ := hkey (u0, .tup []) (by simp)
    refine SrtO.tups_sortable (s := { s with heap := h₁ }) k0 (fun v hv => ?_) (fun o e => ?_) ?_
    · obtain ⟨i, hi2, e⟩ := List.getElem_of_mem hv
      have hlen : (D.tup [] :: r0).length = (u0 :: us).length := by simp [hr.length]
      have hz : (v, (D.tup [] :: r0)[i]'(by omega)) ∈ (u0 :: us).zip (D.tup [] :: r0) := by
        rw [List.mem_iff_getElem]
        exact ⟨i, by simp at hi2 hlen ⊢; omega, by rw [List.getElem_zip, e]⟩
      obtain ⟨k1, k2⟩ := hkey _ hz
      rw [k1]
      exact k2.keeps fun b o e _ => (kk b o e).2
    · have e' : some o = some (PyProof.Rows.seqObj "list" (u0 :: us).toArray 0) := e.symm.trans ha
      cases e'
      intro c
      exact absurd (Value.type.inj c) (by decide)
    · show X.A.in1.in1.units < cLine
      first | (show X.A.units < cLine; omega) | (simp [Around.in1]; omega)
  · have ho : out = its.mergeSort (fun u v => !HT.lexLt (kOf X.K H v) (kOf X.K H u)) := by
      refine PySem.W.sort_unique (totOn (kOf X.K H)) (h1.imp fun {x y} h => by
        have h : HT.lexLt (kOf X.K H y) (kOf X.K H x) = false := h
        show (!HT.lexLt (kOf X.K H y) (kOf X.K H x)) = true
        rw [h]; rfl) fun c => ?_
      have := h2.cls c
      have eq : SrtO.eqv (fun v u => HT.lexLt (kOf X.K H v) (kOf X.K H u)) c = PySem.W.sameRank (fun u v => !HT.lexLt (kOf X.K H v) (kOf X.K H u)) c := by
        funext z
        unfold SrtO.eqv PySem.W.sameRank
        exact Bool.and_comm _ _
      rw [eq] at this
      exact this
    have eo := PySem.W.sort_each (r := fun u v => !HT.lexLt (kOf X.K H v) (kOf X.K H u)) (s := leT) e1 fun p hp q hq => by
      show (!HT.lexLt (kOf X.K H q.1) (kOf X.K H p.1)) = (!HT.lexLt (keyT q.2) (keyT p.2))
      rw [(hkey p hp).1, (hkey q hq).1]
    rw [← ho] at eo
    obtain ⟨ws, rw', dw⟩ := each_back eo
    obtain ⟨ep, he'⟩ := PyProof.Rows.sortedAll_at s.heap its out.toArray
    have hlen : ws.length ≤ sizeLine := by
      have : ws.length = (sortedT ds).length := dw.length
      rw [this]
      unfold sortedT
      rw [List.length_mergeSort]
      exact lim_le hL
    exact ⟨.ref _, upd H (s.heap.objs.size + 1) (.lst ws), I.laid (t' := s.toks) (fun _ _ => PyProof.Rows.sortedAll_old) (Nat.le_succ _) ⟨hlen, out, ep, rw', he'⟩, rfl, q _ ws (I.hok.fresh (Nat.le_succ _)) dw⟩
def sortF2 : Store → List D → Option (List D) := fun m xs => match sortF m xs with
  | some z => some z
  | none => sortF0 m xs
theorem cf_sort2 (hu : X.A.units + 65 < cLine) : CallF X (.builtin "sorted") sortF2 := by
  obtain ⟨r1, c1, d1⟩ := cf_sort hu
  refine ⟨fun xs H Q => r1 xs H Q ∨ rSort0 X.kw xs H Q, fun pins s σ H xs us Q I r h => ?_, fun S H t m xs ds zs Q i bs hz q => ?_⟩
  · rcases h with h | h
    · exact c1 pins s σ H xs us Q I r h
    · exact cr_sort0 hu pins s σ H xs us Q I r h
  · unfold sortF2 at hz
    cases e : sortF m ds with
    | some z =>
      rw [e] at hz
      cases hz
      exact .inl (d1 S H t m xs ds _ Q i bs e q)
    | none =>
      rw [e] at hz
      refine .inr ?_
      replace hz : sortF0 m ds = some zs := hz
      unfold sortF0 at hz
      split at hz
      · rename_i es
        split at hz
        · rename_i ok
          cases hz
          cases bs with
          | cons b1 b2 =>
            cases b2
            obtain ⟨a, vs, rfl, a2, a3⟩ := b1.lst i
            refine ⟨S, t, m, a, es, vs, i, rfl, .of a2, a3, ok, fun p ws hp dw => ?_⟩
            obtain ⟨p2, i2, r⟩ := new_own i hp dw
            exact q _ _ _ p2 i2 r hp
        · cases hz
      · cases hz
def sortG2 : Store → List D → Option D := fun m xs => (sortF2 m xs).map .lst
theorem cb_sort2 (hu : X.A.units + 65 < cLine) : CallD X (.builtin "sorted") sortG2 := (cf_sort2 hu).settle
end
end Dn
/-! Dicts: the one object of a dict as the kit's dicts of ints and texts, and of nested tuples. -/
namespace Dn
open PySem L2
def isTupK : DKey → Bool
  | .tup _ => true
  | _ => false
def rget (rows : List (DKey × V × V)) (k : DKey) : Option V := (rows.find? fun r => decide (r.1 = k)).map (·.2.2)
def rput (rows : List (DKey × V × V)) (k : DKey) (u v : V) : List (DKey × V × V) :=
  if (rows.any fun r => decide (r.1 = k)) = true then rows.map (fun r => if r.1 = k then (r.1, r.2.1, v) else r) else rows ++ [(k, u, v)]
/-- the value y is the key k, in a heap -/
def KeyIs (h : Heap) (k : DKey) (y : V) : Prop := match k with
  | .leaf l => y = kV l
  | .tup n => ∃ b, y = .ref b ∧ NestedIs h n (.ref b) ∧ n.depth ≤ 8
section
variable {X : Cx} {pins : List (Addr × Obj)} {σ : St} {H S : Hp} {t : Th} {s : Shared}
mutual
theorem nest_dr (I : Inv X pins σ H s) (ss : Sub S H) : ∀ (d : D) (v : V) (u : Value) (k : NestedKey), DR X.kw S t v d → toN d = some k → RelV v u → NestedIs s.heap k u
  | .non, _, _, _, .non, h, r => by unfold toN at h; cases h; cases r; exact .none
  | .bl b, _, _, _, .bl _, h, r => by unfold toN at h; cases h; cases r; exact .bool rfl
  | .int b, _, _, _, .int _, h, r => by unfold toN at h; cases h; obtain ⟨t, rfl⟩ := r; exact .int b t
  | .str b, _, _, _, .str _, h, r => by unfold toN at h; cases h; obtain ⟨t, rfl⟩ := r; exact .text b t
  | .tup xs, _, _, _, .tup h1 h2, h, r => by
    unfold toN at h
    cases q : toNs xs with
    | none => rw [q] at h; cases h
    | some ks =>
      rw [q] at h
      cases h
      cases r
      obtain ⟨its, rv, ⟨o, ho, hc, n, hd⟩, hz⟩ := I.tuple (ss.sqT h1)
      exact .tup ho hc hd (by simpa using nest_drs I ss xs _ _ ks h2 q rv)
  | .lst _, _, _, _, _, h, _ => by unfold toN at h; cases h
  | .frz _, _, _, _, _, h, _ => by unfold toN at h; cases h
  | .dct _, _, _, _, _, h, _ => by unfold toN at h; cases h
  | .ins _ _, _, _, _, _, h, _ => by unfold toN at h; cases h
  | .ref _, _, _, _, _, h, _ => by unfold toN at h; cases h
theorem nest_drs (I : Inv X pins σ H s) (ss : Sub S H) : ∀ (ds : List D) (vs : List V) (us : List Value) (ks : List NestedKey), DRs X.kw S t vs ds → toNs ds = some ks → Vals vs us → NestedAll s.heap ks us
  | [], _, _, _, .nil, h, r => by unfold toNs at h; cases h; cases r; exact .nil
  | d :: ds, _, _, _, .cons h1 h2, h, r => by
    unfold toNs at h
    cases q : toN d with
    | none => rw [q] at h; cases h
    | some k =>
      rw [q] at h
      cases q2 : toNs ds with
      | none => rw [q2] at h; cases h
      | some ks =>
        rw [q2] at h
        cases h
        cases r with
        | cons r1 r2 => exact .cons (nest_dr I ss d _ _ k h1 q r1) (nest_drs I ss ds _ _ ks h2 q2 r2)
end
theorem key_is (I : Inv X pins σ H s) (ss : Sub S H) {c : D} {y : V} {k : DKey} (hk : toK c = some k) (r : DR X.kw S t y c) : KeyIs s.heap k y := by
  cases c with
  | int i => cases hk; cases r; rfl
  | str i => cases hk; cases r; rfl
  | tup xs =>
    have hk' : (match toN (.tup xs) with
      | some k => if k.depth ≤ 8 then some (DKey.tup k) else none
      | none => none) = some k := hk
    cases q : toN (.tup xs) with
    | none => rw [q] at hk'; cases hk'
    | some n =>
      rw [q] at hk'
      dsimp only at hk'
      split at hk'
      · rename_i hn
        cases hk'
        cases r with
        | tup h1 h2 => exact ⟨_, rfl, nest_dr I ss (.tup xs) _ _ n (.tup h1 h2) q rfl, hn⟩
      · cases hk'
  | _ => cases hk
theorem keys_are (I : Inv X pins σ H s) (ss : Sub S H) {rows : List (DKey × V × V)} : ∀ {kvs : List (D × D)}, DKV X.kw S t rows kvs → ∀ r ∈ rows, KeyIs s.heap r.1 r.2.1 := by
  induction rows with
  | nil => intro kvs _ r hr; cases hr
  | cons p rows ih =>
    intro kvs h r hr
    cases h with
    | cons k1 h1 h2 h3 =>
      rcases List.mem_cons.mp hr with e | hr
      · subst e; exact key_is I ss k1 h1
      · exact ih h3 r hr
end
/-! ### views -/
def GL (r : DKey × V × V) (p : Key × Value) : Prop := r.1 = .leaf p.1 ∧ r.2.1 = kV p.1 ∧ RelV r.2.2 p.2
def GT (r : DKey × V × V) (x : NestedKey × Addr × Value) : Prop := r.1 = .tup x.1 ∧ r.2.1 = .ref x.2.1 ∧ RelV r.2.2 x.2.2
section
variable {P : Program} {w : World} {h : Heap} {a : Addr} {o : Obj} {rows : List (DKey × V × V)}
theorem leaf_rows : ∀ {rows : List (DKey × V × V)} {es : List DictEntry}, Paired (fun (r : DKey × V × V) (e : DictEntry) => e.hash = r.1.hash w ∧ RelV r.2.1 e.key ∧ RelV r.2.2 e.val) rows es → (∀ r ∈ rows, ∃ l, r.1 = .leaf l ∧ r.2.1 = kV l) →
    ∃ vs : List (Key × Value), Pairs (mixKind P w) es vs ∧ (∀ e ∈ es, ∃ k, (mixKind P w).is k e.key = true ∧ e.hash = (mixKind P w).hash k) ∧ Paired GL rows vs := by
  intro rows es pr
  induction pr with
  | nil => intro _; exact ⟨[], .nil, (fun e he => by cases he), .nil⟩
  | @cons r e rs es g _ ih =>
    intro hl
    obtain ⟨vs, h1, h2, h3⟩ := ih fun q hq => hl q (List.mem_cons_of_mem _ hq)
    obtain ⟨l, l1, l2⟩ := hl r List.mem_cons_self
    obtain ⟨g1, g2, g3⟩ := g
    rw [l2] at g2
    have hk : (mixKind P w).is l e.key = true := kV_is g2
    have hh : e.hash = (mixKind P w).hash l := by rw [g1, l1]; rfl
    refine ⟨(l, e.val) :: vs, .cons hk rfl h1, fun q hq => ?_, .cons ⟨l1, l2, g3⟩ h3⟩
    rcases List.mem_cons.mp hq with z | hq
    · subst z; exact ⟨l, hk, hh⟩
    · exact h2 q hq
theorem gl_keys : ∀ {rows : List (DKey × V × V)} {vs : List (Key × Value)}, Paired GL rows vs → rows.map (·.1) = (vs.map (·.1)).map DKey.leaf := by
  intro rows vs h
  induction h with
  | nil => rfl
  | cons g _ ih => simp only [List.map_cons, ih, g.1]
theorem gt_keys : ∀ {rows : List (DKey × V × V)} {xs : List (NestedKey × Addr × Value)}, Paired GT rows xs → rows.map (·.1) = (xs.map (·.1)).map DKey.tup := by
  intro rows vs h
  induction h with
  | nil => rfl
  | cons g _ ih => simp only [List.map_cons, ih, g.1]
theorem leaf_view (ho : h.get? a = some o) (R : RowsO w o rows) (hl : ∀ r ∈ rows, ∃ l, r.1 = .leaf l ∧ r.2.1 = kV l) : ∃ vs : List (Key × Value), h.DictOf (mixKind P w) a vs ∧ Paired GL rows vs := by
  obtain ⟨es, ep, hd, pr⟩ := R.at_
  obtain ⟨vs, h1, h2, h3⟩ := leaf_rows (P := P) pr hl
  refine ⟨vs, ⟨o, es, ep, ho, R.ex, hd, fun e he => h2 e (by simpa using he), h1, ?_⟩, h3⟩
  have nd := R.nd
  rw [gl_keys h3] at nd
  exact nd.of_map _ (fun x y h e => h (by rw [e]))
theorem leaf_back {vs : List (Key × Value)} (dd : h.DictOf (mixKind P w) a vs) (pr : Paired GL rows vs) (sz : rows.length ≤ sizeLine) : ∃ o, h.get? a = some o ∧ RowsO w o rows := by
  obtain ⟨o, es, ep, ho, hx, hd, hk, hp, nd⟩ := dd
  refine ⟨o, ho, hx, ⟨es, ep, hd, ?_⟩, ?_, sz⟩
  · have hk' : ∀ e ∈ es.toList, ∃ k, (mixKind P w).is k e.key = true ∧ e.hash = (mixKind P w).hash k := fun e he => hk e (by simpa using he)
    generalize es.toList = l at hp hk'
    clear hd hk nd sz
    induction hp generalizing rows with
    | nil => cases pr; exact .nil
    | @cons e kv es kvs q1 q2 _ ih =>
      cases pr with
      | cons g pr =>
        obtain ⟨k', k1, k2⟩ := hk' e List.mem_cons_self
        have ek : k' = kv.1 := (mixKind P w).inj _ _ _ k1 q1
        subst ek
        refine .cons ⟨?_, ?_, ?_⟩ (ih pr fun e he => hk' e (List.mem_cons_of_mem _ he))
        · rw [k2, g.1]; rfl
        · rw [g.2.1]
          exact relV_key q1
        · rw [q2]; exact g.2.2
  · rw [gl_keys pr]
    exact nd.map _ (fun x y h e => h (by cases e; rfl))
theorem tup_rows : ∀ {rows : List (DKey × V × V)} {es : List DictEntry}, Paired (fun (r : DKey × V × V) (e : DictEntry) => e.hash = r.1.hash w ∧ RelV r.2.1 e.key ∧ RelV r.2.2 e.val) rows es → (∀ r ∈ rows, ∃ n b, r.1 = .tup n ∧ r.2.1 = .ref b ∧ NestedIs h n (.ref b) ∧ n.depth ≤ 8) →
    ∃ xs : List (NestedKey × Addr × Value), es = xs.map (entryOfKey (nestedKind P w)) ∧ (∀ x ∈ xs, (nestedKind P w).is h x.1 x.2.1) ∧ Paired GT rows xs := by
  intro rows es pr
  induction pr with
  | nil => intro _; exact ⟨[], rfl, (fun e he => by cases he), .nil⟩
  | @cons r e rs es g _ ih =>
    intro hl
    obtain ⟨xs, h1, h2, h3⟩ := ih fun q hq => hl q (List.mem_cons_of_mem _ hq)
    obtain ⟨n, b, l1, l2, l3, l4⟩ := hl r List.mem_cons_self
    obtain ⟨g1, g2, g3⟩ := g
    rw [l2] at g2
    have g2 : e.key = .ref b := g2
    refine ⟨(n, b, e.val) :: xs, ?_, fun q hq => ?_, .cons ⟨l1, l2, g3⟩ h3⟩
    · rw [List.map_cons, ← h1]
      congr 1
      obtain ⟨e1, e2, e3⟩ := e
      simp only at g1 g2
      rw [l1] at g1
      subst g1 g2
      rfl
    · rcases List.mem_cons.mp hq with z | hq
      · subst z; exact ⟨l3, l4⟩
      · exact h2 q hq
theorem tup_view (ho : h.get? a = some o) (R : RowsO w o rows) (hl : ∀ r ∈ rows, ∃ n b, r.1 = .tup n ∧ r.2.1 = .ref b ∧ NestedIs h n (.ref b) ∧ n.depth ≤ 8) : ∃ xs : List (NestedKey × Addr × Value), h.DictOfH (nestedKind P w) a xs ∧ Paired GT rows xs := by
  obtain ⟨es, ep, hd, pr⟩ := R.at_
  obtain ⟨xs, h1, h2, h3⟩ := tup_rows (P := P) pr hl
  refine ⟨xs, ⟨o, es, ep, ho, R.ex, hd, h1, h2, ?_⟩, h3⟩
  have nd := R.nd
  rw [gt_keys h3] at nd
  exact nd.of_map _ (fun x y h e => h (by rw [e]))
theorem tup_back {xs : List (NestedKey × Addr × Value)} (dd : h.DictOfH (nestedKind P w) a xs) (pr : Paired GT rows xs) (sz : rows.length ≤ sizeLine) : ∃ o, h.get? a = some o ∧ RowsO w o rows := by
  obtain ⟨o, es, ep, ho, hx, hd, he, his, nd⟩ := dd
  refine ⟨o, ho, hx, ⟨es, ep, hd, ?_⟩, ?_, sz⟩
  · rw [he]
    clear hd he his nd sz
    induction pr with
    | nil => exact .nil
    | @cons r x rs xs g _ ih =>
      refine .cons ⟨?_, ?_, ?_⟩ ih
      · rw [g.1]; rfl
      · rw [g.2.1]; rfl
      · exact g.2.2
  · rw [gt_keys pr]
    exact nd.map _ (fun x y h e => h (by cases e; rfl))
end
/-! ### looked up, put -/
theorem gl_get {rows : List (DKey × V × V)} {vs : List (Key × Value)} (h : Paired GL rows vs) (k : Key) : RelO (rget rows (.leaf k)) (valueAt vs k) := by
  induction h with
  | nil => exact True.intro
  | @cons r p rs vs g _ ih =>
    unfold rget valueAt at ih ⊢
    rw [List.find?_cons, List.find?_cons]
    by_cases c : p.1 = k
    · have c1 : decide (r.1 = DKey.leaf k) = true := decide_eq_true (by rw [g.1, c])
      have c2 : decide (p.1 = k) = true := decide_eq_true c
      rw [c1, c2]
      exact g.2.2
    · have c1 : decide (r.1 = DKey.leaf k) = false := decide_eq_false (by rw [g.1]; intro z; exact c (DKey.leaf.inj z))
      have c2 : decide (p.1 = k) = false := decide_eq_false c
      rw [c1, c2]
      exact ih
theorem gt_get {rows : List (DKey × V × V)} {xs : List (NestedKey × Addr × Value)} (h : Paired GT rows xs) (k : NestedKey) : RelO (rget rows (.tup k)) ((atKey xs k).map (·.2)) := by
  induction h with
  | nil => exact True.intro
  | @cons r p rs vs g _ ih =>
    unfold rget atKey at ih ⊢
    rw [List.find?_cons, List.find?_cons]
    by_cases c : p.1 = k
    · have c1 : decide (r.1 = DKey.tup k) = true := decide_eq_true (by rw [g.1, c])
      have c2 : decide (p.1 = k) = true := decide_eq_true c
      rw [c1, c2]
      exact g.2.2
    · have c1 : decide (r.1 = DKey.tup k) = false := decide_eq_false (by rw [g.1]; intro z; exact c (DKey.tup.inj z))
      have c2 : decide (p.1 = k) = false := decide_eq_false c
      rw [c1, c2]
      exact ih
theorem paired_map {α β : Type} {F : α → β → Prop} {f : α → α} {g : β → β} (hf : ∀ a b, F a b → F (f a) (g b)) : ∀ {l : List α} {m : List β}, Paired F l m → Paired F (l.map f) (m.map g) := by
  intro l m h
  induction h with
  | nil => exact .nil
  | cons r _ ih => exact .cons (hf _ _ r) ih
theorem paired_app {α β : Type} {F : α → β → Prop} {l l' : List α} {m m' : List β} (h : Paired F l m) (h' : Paired F l' m') : Paired F (l ++ l') (m ++ m') := by
  induction h with
  | nil => exact h'
  | cons r _ ih => exact .cons r ih
theorem gl_any {rows : List (DKey × V × V)} {vs : List (Key × Value)} (h : Paired GL rows vs) (k : Key) : (rows.any fun r => decide (r.1 = .leaf k)) = vs.any fun p => decide (p.1 = k) := by
  induction h with
  | nil => rfl
  | @cons r p rs vs g _ ih =>
    rw [List.any_cons, List.any_cons, ih]
    congr 1
    rw [g.1]
    by_cases c : p.1 = k
    · rw [decide_eq_true c, decide_eq_true (by rw [c])]
    · rw [decide_eq_false c, decide_eq_false fun z => c (DKey.leaf.inj z)]
theorem gt_any {rows : List (DKey × V × V)} {xs : List (NestedKey × Addr × Value)} (h : Paired GT rows xs) (k : NestedKey) : (rows.any fun r => decide (r.1 = .tup k)) = (atKey xs k).isSome := by
  induction h with
  | nil => rfl
  | @cons r p rs vs g _ ih =>
    unfold atKey at ih ⊢
    rw [List.any_cons, List.find?_cons, ih, g.1]
    by_cases c : p.1 = k
    · rw [decide_eq_true c, decide_eq_true (by rw [c])]; rfl
    · rw [decide_eq_false c, decide_eq_false fun z => c (DKey.tup.inj z)]; rfl
theorem gl_put {rows : List (DKey × V × V)} {vs : List (Key × Value)} (h : Paired GL rows vs) (k : Key) {v : V} {u : Value} (r : RelV v u) : Paired GL (rput rows (.leaf k) (kV k) v) (stored vs k u) := by
  unfold rput stored
  rw [gl_any h k]
  split
  · refine paired_map (fun a b g => ?_) h
    by_cases c : b.1 = k
    · rw [if_pos c, if_pos (by rw [g.1, c])]
      exact ⟨g.1, g.2.1, r⟩
    · rw [if_neg c, if_neg (by rw [g.1]; intro z; exact c (DKey.leaf.inj z))]
      exact g
  · exact paired_app h (.cons ⟨rfl, rfl, r⟩ .nil)
theorem gt_put {rows : List (DKey × V × V)} {xs : List (NestedKey × Addr × Value)} (h : Paired GT rows xs) (k : NestedKey) (b : Addr) {v : V} {u : Value} (r : RelV v u) : Paired GT (rput rows (.tup k) (.ref b) v) (storedH xs k b u) := by
  unfold rput storedH
  rw [gt_any h k]
  split
  · refine paired_map (fun a x g => ?_) h
    unfold putAt
    by_cases c : x.1 = k
    · rw [if_pos c, if_pos (by rw [g.1, c])]
      exact ⟨g.1, g.2.1, r⟩
    · rw [if_neg c, if_neg (by rw [g.1]; intro z; exact c (DKey.tup.inj z))]
      exact g
  · exact paired_app h (.cons ⟨rfl, rfl, r⟩ .nil)
theorem rput_len (rows : List (DKey × V × V)) (k : DKey) (u v : V) : (rput rows k u v).length ≤ rows.length + 1 := by
  unfold rput
  split <;> simp
/-! ### a dict's operations -/
section
variable {X : Cx} {pins : List (Addr × Obj)} {σ : St} {H : Hp} {s : Shared} {a : Addr} {o : Obj} {rows : List (DKey × V × V)} {k : DKey} {y v : V} {u r : Value} {A : Around} {E : Value → Shared → Prop}
theorem dO_at (I : Inv X pins σ H s) (h : H a = some (dO a o)) : s.heap.get? a = some o := (I.hok a _ h).1
/-- all keys of one class with k -/
def Hom (rows : List (DKey × V × V)) (k : DKey) : Prop := ∀ r ∈ rows, isTupK r.1 = isTupK k
theorem Hom.leaf {l : Key} (hk : Hom rows (.leaf l)) (ks : ∀ r ∈ rows, KeyIs s.heap r.1 r.2.1) : ∀ r ∈ rows, ∃ l, r.1 = .leaf l ∧ r.2.1 = kV l := fun r hr => by
  have h1 := hk r hr
  have h2 := ks r hr
  obtain ⟨r1, r2, r3⟩ := r
  cases r1 with
  | leaf l' => exact ⟨l', rfl, h2⟩
  | tup n => cases h1
theorem Hom.tup {n : NestedKey} (hk : Hom rows (.tup n)) (ks : ∀ r ∈ rows, KeyIs s.heap r.1 r.2.1) : ∀ r ∈ rows, ∃ n b, r.1 = .tup n ∧ r.2.1 = .ref b ∧ NestedIs s.heap n (.ref b) ∧ n.depth ≤ 8 := fun r hr => by
  have h1 := hk r hr
  have h2 := ks r hr
  obtain ⟨r1, r2, r3⟩ := r
  cases r1 with
  | leaf l' => cases h1
  | tup n =>
    obtain ⟨b, e, q⟩ := h2
    exact ⟨n, b, rfl, e, q⟩
theorem room8 (hu : A.units + 65 < cLine) : (nestedKind X.prog X.w).room A.in1 := by
  show A.units + 1 + 8 < cLine
  omega
theorem room8' (hu : A.units + 65 < cLine) : (nestedKind X.prog X.w).room A := by
  show A.units + 8 < cLine
  omega
theorem x_get {Q : Value → Shared → Prop} (hu : A.units + 65 < cLine) (I : Inv X pins σ H s) (h : H a = some (dO a o)) (R : RowsO X.w o rows) (ks : ∀ r ∈ rows, KeyIs s.heap r.1 r.2.1) (hk : KeyIs s.heap k y) (hm : Hom rows k) (ry : RelV y u) (g : rget rows k = some v)
    (q : ∀ w' s', Inv X pins σ H s' → RelV v w' → Q w' s') : wpAny (model X.prog X.w) A (getItem (.ref a) u) Q E s := by
  cases k with
  | leaf l =>
    cases hk
    obtain ⟨vs, dd, pr⟩ := leaf_view (P := X.prog) (dO_at I h) R (hm.leaf ks)
    obtain ⟨w', hw, rw'⟩ := RelO.some_of (v := v) (o := valueAt vs l) (by rw [← g]; exact gl_get pr l)
    exact wpAny_getItem_of (kV_is ry) dd.mapOf hw (q w' _ (I.tok _) rw')
  | tup n =>
    obtain ⟨b, rfl, hn⟩ := hk
    cases (show u = Value.ref b from ry)
    obtain ⟨xs, dd, pr⟩ := tup_view (P := X.prog) (dO_at I h) R (hm.tup ks)
    obtain ⟨w', hw, rw'⟩ := RelO.some_of (v := v) (o := (atKey xs n).map (·.2)) (by rw [← g]; exact gt_get pr n)
    obtain ⟨p, hp, hp2⟩ := Option.map_eq_some_iff.mp hw
    refine wpAny_getItem_heap (room8 hu) hn dd hp ?_
    rw [hp2]
    exact q w' _ (I.tok _) rw'
theorem x_in {Q : Value → Shared → Prop} (hu : A.units + 65 < cLine) (hd : (a == sysModules) = false) (I : Inv X pins σ H s) (h : H a = some (dO a o)) (R : RowsO X.w o rows) (ks : ∀ r ∈ rows, KeyIs s.heap r.1 r.2.1) (hk : KeyIs s.heap k y) (hm : Hom rows k) (ry : RelV y u)
    (q : ∀ s', Inv X pins σ H s' → Q (.bool (rget rows k).isSome) s') : wpAny (model X.prog X.w) A (compareOp .In u (.ref a)) Q E s := by
  cases k with
  | leaf l =>
    cases hk
    obtain ⟨vs, dd, pr⟩ := leaf_view (P := X.prog) (dO_at I h) R (hm.leaf ks)
    refine wpAny_in_of (kV_is ry) hd dd.mapOf ?_
    rw [← (gl_get pr l).isSome_eq]
    exact q _ (I.tok _)
  | tup n =>
    obtain ⟨b, rfl, hn⟩ := hk
    cases (show u = Value.ref b from ry)
    obtain ⟨xs, dd, pr⟩ := tup_view (P := X.prog) (dO_at I h) R (hm.tup ks)
    refine wpAny_in_heap (room8 hu) hn hd dd ?_
    have z := (gt_get pr n).isSome_eq
    rw [Option.isSome_map] at z
    rw [← z]
    exact q _ (I.tok _)
theorem x_notIn {Q : Value → Shared → Prop} (hu : A.units + 65 < cLine) (hd : (a == sysModules) = false) (I : Inv X pins σ H s) (h : H a = some (dO a o)) (R : RowsO X.w o rows) (ks : ∀ r ∈ rows, KeyIs s.heap r.1 r.2.1) (hk : KeyIs s.heap k y) (hm : Hom rows k) (ry : RelV y u)
    (q : ∀ s', Inv X pins σ H s' → Q (.bool (!(rget rows k).isSome)) s') : wpAny (model X.prog X.w) A (compareOp .NotIn u (.ref a)) Q E s := by
  cases k with
  | leaf l =>
    cases hk
    obtain ⟨vs, dd, pr⟩ := leaf_view (P := X.prog) (dO_at I h) R (hm.leaf ks)
    refine wpAny_notIn_of (kV_is ry) hd dd.mapOf ?_
    rw [← (gl_get pr l).isSome_eq]
    exact q _ (I.tok _)
  | tup n =>
    obtain ⟨b, rfl, hn⟩ := hk
    cases (show u = Value.ref b from ry)
    obtain ⟨xs, dd, pr⟩ := tup_view (P := X.prog) (dO_at I h) R (hm.tup ks)
    refine PyProof.Rows.wpAny_notIn_heap (room8 hu) hn hd dd ?_
    have z := (gt_get pr n).isSome_eq
    rw [Option.isSome_map] at z
    rw [← z]
    exact q _ (I.tok _)
theorem x_get2 {d : V} {Q : Value → Shared → Prop} (hu : A.units + 65 < cLine) (hd : (a == sysModules) = false) (I : Inv X pins σ H s) (h : H a = some (dO a o)) (R : RowsO X.w o rows) (ks : ∀ r ∈ rows, KeyIs s.heap r.1 r.2.1) (hk : KeyIs s.heap k y) (hm : Hom rows k) (ry : RelV y u) (rd : RelV d r)
    (q : ∀ w' s', Inv X pins σ H s' → RelV ((rget rows k).getD d) w' → Q w' s') : wpAny (model X.prog X.w) A (call (.builtin "dict.get") [.ref a, u, r]) Q E s := by
  cases k with
  | leaf l =>
    cases hk
    obtain ⟨vs, dd, pr⟩ := leaf_view (P := X.prog) (dO_at I h) R (hm.leaf ks)
    exact call_meetsIn PySem.F.slot_dict_get dd.typeIs PySem.F.entry_dict_get (PySem.F.args_dict_get_3 _ _ _) (meets_dict_get_default (mixKind X.prog X.w) a (kV_is ry) hd r) ⟨_, dd.mapOf, q _ _ (I.tok _) ((gl_get pr l).getD rd)⟩
  | tup n =>
    obtain ⟨b, rfl, hn⟩ := hk
    cases (show u = Value.ref b from ry)
    obtain ⟨xs, dd, pr⟩ := tup_view (P := X.prog) (dO_at I h) R (hm.tup ks)
    exact call_meetsIn PySem.F.slot_dict_get dd.typeIs PySem.F.entry_dict_get (PySem.F.args_dict_get_3 _ _ _) (meetsH_dict_get_default (nestedKind X.prog X.w) a b hd r) ⟨room8 hu, n, xs, hn, dd, q _ _ (I.tok _) ((gt_get pr n).getD rd)⟩
theorem x_wrote {h' : Heap} {o' : Obj} {t' : Nat} (I : Inv X pins σ H s) (h : H a = some (dO a o)) (hs : Heap.SameBut a s.heap h') (ho : h'.get? a = some o') : Inv X pins σ (upd H a (dO a o')) { s with heap := h', toks := t' } :=
  d_write I (by rw [h]; exact True.intro) hs ⟨o', ho⟩ ⟨ho, ⟨o', ho⟩, fun h1 h2 z k => k _ z⟩
theorem x_set {Q : Unit → Shared → Prop} (hu : A.units + 65 < cLine) (I : Inv X pins σ H s) (h : H a = some (dO a o)) (R : RowsO X.w o rows) (hz : rows.length < sizeLine) (ks : ∀ r ∈ rows, KeyIs s.heap r.1 r.2.1) (hk : KeyIs s.heap k y) (hm : Hom rows k) (ry : RelV y u) (rv : RelV v r)
    (q : ∀ o' s', RowsO X.w o' (rput rows k y v) → Inv X pins σ (upd H a (dO a o')) s' → Q () s') : wpAny (model X.prog X.w) A (setItem (.ref a) u r) Q E s := by
  have hl : (rput rows k y v).length ≤ sizeLine := by have := rput_len rows k y v; omega
  cases k with
  | leaf l =>
    cases hk
    obtain ⟨vs, dd, pr⟩ := leaf_view (P := X.prog) (dO_at I h) R (hm.leaf ks)
    have hzv : vs.length ≤ sizeLine := by rw [← Paired.length pr]; exact R.sz
    refine wpAny_setItem_pairs (hsz := hzv) (kV_is ry) dd fun h' dd' hs => ?_
    obtain ⟨o', ho', R'⟩ := leaf_back dd' (gl_put pr l rv) hl
    exact q o' _ R' (x_wrote I h hs ho')
  | tup n =>
    obtain ⟨b, rfl, hn⟩ := hk
    cases (show u = Value.ref b from ry)
    obtain ⟨xs, dd, pr⟩ := tup_view (P := X.prog) (dO_at I h) R (hm.tup ks)
    have hzv : xs.length ≤ sizeLine := by rw [← Paired.length pr]; exact R.sz
    refine wpAny_setItem_heap (hsz := hzv) (room8 hu) hn dd fun h' dd' hs => ?_
    obtain ⟨o', ho', R'⟩ := tup_back dd' (gt_put pr n b rv) hl
    exact q o' _ R' (x_wrote I h hs ho')
end
end Dn
/-! Dicts as data: looked up, put. -/
namespace Dn
open PySem L2
def kEq (c c' : D) : Bool := decide (toK c = toK c')
def dget (kvs : List (D × D)) (c : D) : Option D := (kvs.find? fun p => kEq p.1 c).map (·.2)
def dput (kvs : List (D × D)) (c d : D) : List (D × D) := if (kvs.any fun p => kEq p.1 c) = true then kvs.map (fun p => if kEq p.1 c = true then (p.1, d) else p) else kvs ++ [(c, d)]
def clsK : D → Bool
  | .tup _ => true
  | _ => false
/-- it may be a key there -/
def keyOk (kvs : List (D × D)) (c : D) : Bool := (toK c).isSome && kvs.all fun p => clsK p.1 == clsK c
theorem toK_cls {c : D} {k : DKey} (h : toK c = some k) : isTupK k = clsK c := by
  cases c with
  | int i => cases h; rfl
  | str i => cases h; rfl
  | tup xs =>
    have hk' : (match toN (.tup xs) with
      | some k => if k.depth ≤ 8 then some (DKey.tup k) else none
      | none => none) = some k := h
    cases q : toN (.tup xs) with
    | none => rw [q] at hk'; cases hk'
    | some n =>
      rw [q] at hk'
      dsimp only at hk'
      split at hk'
      · cases hk'; rfl
      · cases hk'
  | _ => cases h
section
variable {K : KW} {S H : Hp} {t : Th} {m : Store} {rows : List (DKey × V × V)}
theorem dkv_get {c : D} {k : DKey} (hk : toK c = some k) : ∀ {kvs : List (D × D)}, DKV K S t rows kvs → (dget kvs c = none → rget rows k = none) ∧ ∀ d, dget kvs c = some d → ∃ v, rget rows k = some v ∧ DR K S t v d := by
  induction rows with
  | nil => intro kvs h; cases h; exact ⟨fun _ => rfl, fun d h => by cases h⟩
  | cons r rows ih =>
    intro kvs h
    cases h with
    | @cons k1 u v c1 d1 _ kvs q1 h1 h2 h3 =>
      have ih := ih h3
      unfold dget rget at ih ⊢
      rw [List.find?_cons, List.find?_cons]
      by_cases z : k1 = k
      · have a1 : kEq c1 c = true := decide_eq_true (by rw [q1, hk, z])
        have a2 : decide (k1 = k) = true := decide_eq_true z
        dsimp only
        rw [a1, a2]
        exact ⟨fun h => (by cases h), fun d h => (by cases h; exact ⟨v, rfl, h2⟩)⟩
      · have a1 : kEq c1 c = false := decide_eq_false (by rw [q1, hk]; intro w; exact z (Option.some.inj w))
        have a2 : decide (k1 = k) = false := decide_eq_false z
        dsimp only
        rw [a1, a2]
        exact ih
theorem dkv_has {c : D} {k : DKey} (hk : toK c = some k) {kvs : List (D × D)} (h : DKV K S t rows kvs) : (rget rows k).isSome = (dget kvs c).isSome := by
  obtain ⟨h1, h2⟩ := dkv_get hk h
  cases q : dget kvs c with
  | none => rw [h1 q]; rfl
  | some d => obtain ⟨v, e, _⟩ := h2 d q; rw [e]; rfl
theorem dkv_len : ∀ {kvs : List (D × D)}, DKV K S t rows kvs → rows.length = kvs.length := by
  induction rows with
  | nil => intro kvs h; cases h; rfl
  | cons r rows ih => intro kvs h; cases h with | cons _ _ _ h3 => simp [ih h3]
theorem dkv_app {rows' : List (DKey × V × V)} {kvs' : List (D × D)} (g : DKV K S t rows' kvs') : ∀ {kvs : List (D × D)}, DKV K S t rows kvs → DKV K S t (rows ++ rows') (kvs ++ kvs') := by
  induction rows with
  | nil => intro kvs h; cases h; exact g
  | cons r rows ih => intro kvs h; cases h with | cons a b c h3 => exact .cons a b c (ih h3)
theorem dkv_any {c : D} {k : DKey} (hk : toK c = some k) : ∀ {kvs : List (D × D)}, DKV K S t rows kvs → (rows.any fun r => decide (r.1 = k)) = kvs.any fun p => kEq p.1 c := by
  induction rows with
  | nil => intro kvs h; cases h; rfl
  | cons r rows ih =>
    intro kvs h
    cases h with
    | @cons k1 u v c1 d1 _ kvs q1 h1 h2 h3 =>
      rw [List.any_cons, List.any_cons, ih h3]
      congr 1
      unfold kEq
      rw [q1, hk]
      by_cases z : k1 = k
      · rw [decide_eq_true z, decide_eq_true (by rw [z])]
      · rw [decide_eq_false z, decide_eq_false fun w => z (Option.some.inj w)]
theorem dkv_put {c d : D} {k : DKey} {y v : V} (hk : toK c = some k) (hy : DR K S t y c) (hv : DR K S t v d) {kvs : List (D × D)} (h : DKV K S t rows kvs) : DKV K S t (rput rows k y v) (dput kvs c d) := by
  unfold rput dput
  rw [dkv_any hk h]
  split
  · rename_i hany
    clear hany
    induction rows generalizing kvs with
    | nil => cases h; exact .nil
    | cons r rows ih =>
      cases h with
      | @cons k1 u w c1 d1 _ kvs q1 h1 h2 h3 =>
        simp only [List.map_cons]
        by_cases z : k1 = k
        · have a1 : kEq c1 c = true := decide_eq_true (by rw [q1, hk, z])
          rw [if_pos z, if_pos a1]
          exact .cons q1 h1 hv (ih h3)
        · have a1 : ¬ kEq c1 c = true := by
            intro w
            have := of_decide_eq_true w
            rw [q1, hk] at this
            exact z (Option.some.inj this)
          rw [if_neg z, if_neg a1]
          exact .cons q1 h1 h2 (ih h3)
  · exact dkv_app (.cons hk hy hv .nil) h
theorem dkv_hom {c : D} {k : DKey} (hk : toK c = some k) {kvs : List (D × D)} (h : DKV K S t rows kvs) (ok : keyOk kvs c = true) : Hom rows k := by
  unfold keyOk at ok
  simp only [Bool.and_eq_true, List.all_eq_true, beq_iff_eq] at ok
  obtain ⟨_, ok⟩ := ok
  intro r hr
  rw [toK_cls hk]
  induction rows generalizing kvs with
  | nil => cases hr
  | cons r' rows ih =>
    cases h with
    | @cons k1 u w c1 d1 _ kvs q1 h1 h2 h3 =>
      rcases List.mem_cons.mp hr with e | hr
      · subst e
        show isTupK k1 = _
        rw [toK_cls q1]
        exact ok (c1, d1) List.mem_cons_self
      · exact ih h3 (fun p hp => ok p (List.mem_cons_of_mem _ hp)) hr
/-- a dict that may be read -/
@[simp] def dctG (m : Store) : D → Option (List (D × D))
  | .dct kvs => some kvs
  | .ref n => match m[n]? with
    | some (.dct kvs) => some kvs
    | _ => none
  | _ => none
theorem BR.dctG {v : V} {d : D} {kvs : List (D × D)} (hi : HI K S H t m) (h : BR K S H t v d) (e : dctG m d = some kvs) : ∃ a o rows, v = .ref a ∧ (a == sysModules) = false ∧ H a = some (dO a o) ∧ RowsO K.w o rows ∧ DKV K S t rows kvs := by
  cases d with
  | dct l => cases e; exact h.dct hi
  | ref n =>
    have e : (match m[n]? with
      | some (Ob.dct kvs) => some kvs
      | _ => none) = some kvs := e
    cases q : m[n]? with
    | none => rw [q] at e; cases e
    | some ob =>
      rw [q] at e
      cases ob with
      | dct l =>
        cases e
        obtain ⟨a, o, rows, h1, _, h2⟩ := h.refd hi q
        exact ⟨a, o, rows, h1, h2⟩
      | _ => cases e
  | _ => cases e
theorem BR.key {v : V} {c : D} {k : DKey} (h : BR K S H t v c) (hk : toK c = some k) : DR K S t v c := h.dat (fun xs z => by subst z; cases hk) (fun xs z => by subst z; cases hk)
end
section
variable {X : Cx}
/-- a dict and a key -/
def DKat (X : Cx) (H : Hp) (x y : V) (S : Hp) (t : Th) (kvs : List (D × D)) (c : D) : Prop := ∃ m a o rows k, HI X.kw S H t m ∧ x = .ref a ∧ (a == sysModules) = false ∧ H a = some (dO a o) ∧ RowsO X.w o rows ∧ DKV X.kw S t rows kvs ∧ DR X.kw S t y c ∧ toK c = some k ∧ keyOk kvs c = true
theorem DKat.of {S H : Hp} {t : Th} {m : Store} {x y : V} {d c : D} {kvs : List (D × D)} (i : HI X.kw S H t m) (bx : BR X.kw S H t x d) (b_y : BR X.kw S H t y c) (e : dctG m d = some kvs) (ok : keyOk kvs c = true) : DKat X H x y S t kvs c := by
  obtain ⟨a, o, rows, h1, h2, h3, h4, h5⟩ := bx.dctG i e
  have hs : (toK c).isSome = true := by
    unfold keyOk at ok
    simp only [Bool.and_eq_true] at ok
    exact ok.1
  obtain ⟨k, hk⟩ := Option.isSome_iff_exists.mp hs
  exact ⟨m, a, o, rows, k, i, h1, h2, h3, h4, h5, b_y.key hk, hk, ok⟩
def rInD (X : Cx) : R2 := fun y x H Q => ∃ S t kvs c, DKat X H x y S t kvs c ∧ Q (.bl (dget kvs c).isSome) H
def rNotInD (X : Cx) : R2 := fun y x H Q => ∃ S t kvs c, DKat X H x y S t kvs c ∧ Q (.bl (!(dget kvs c).isSome)) H
def rIxD (X : Cx) : R2 := fun x y H Q => ∃ S t kvs c d, DKat X H x y S t kvs c ∧ dget kvs c = some d ∧ ∀ v, DR X.kw S t v d → Q v H
theorem op_inD (hu : X.A.units + 65 < cLine) : OpR X (compareOp .In) (rInD X) := by
  intro pins s σ H y x v u Q I ry rx h
  obtain ⟨S, t, kvs, c, ⟨m, a, o, rows, k, i, rfl, hd, hH, R, dk, hy, hk, ok⟩, q⟩ := h
  obtain rfl : u = Value.ref a := rx
  refine x_in hu hd I hH R (keys_are I i.sub dk) (key_is I i.sub hk hy) (dkv_hom hk dk ok) ry fun s' I' => ?_
  rw [dkv_has hk dk]
  exact ⟨.bl _, H, I', rfl, q⟩
theorem op_notInD (hu : X.A.units + 65 < cLine) : OpR X (compareOp .NotIn) (rNotInD X) := by
  intro pins s σ H y x v u Q I ry rx h
  obtain ⟨S, t, kvs, c, ⟨m, a, o, rows, k, i, rfl, hd, hH, R, dk, hy, hk, ok⟩, q⟩ := h
  obtain rfl : u = Value.ref a := rx
  refine x_notIn hu hd I hH R (keys_are I i.sub dk) (key_is I i.sub hk hy) (dkv_hom hk dk ok) ry fun s' I' => ?_
  rw [dkv_has hk dk]
  exact ⟨.bl _, H, I', rfl, q⟩
theorem dO_type {pins : List (Addr × Obj)} {σ : St} {H : Hp} {s : Shared} {a : Addr} {o : Obj} {w : World} {rows : List (DKey × V × V)} (I : Inv X pins σ H s) (h : H a = some (dO a o)) (R : RowsO w o rows) :
    s.TypeIs (.ref a) "dict" ∧ ∀ b, Value.ref a = .ref b → ∃ ob, s.heap.get? b = some ob ∧ ob.dict = none := by
  have e := dO_at I h
  refine ⟨⟨o, e, R.ex.1⟩, fun b q => ?_⟩
  cases q
  exact ⟨o, e, R.ex.2.1⟩
theorem ix_D (hu : X.A.units + 65 < cLine) : IxR X (rIxD X) := by
  intro value slice pins s σ H x y v u Q I rx ry h hs
  obtain ⟨S, t, kvs, c, d, ⟨m, a, o, rows, k, i, rfl, hd, hH, R, dk, hy, hk, ok⟩, hg, q⟩ := h
  obtain rfl : v = Value.ref a := rx
  obtain ⟨w, hw, rw'⟩ := (dkv_get hk dk).2 d hg
  exact PyProof.Rows.tail_any (dO_type I hH R).1 PySem.F.slot_dict_getitem.lookup (x_get hu I hH R (keys_are I i.sub dk) (key_is I i.sub hk hy) (dkv_hom hk dk ok) ry hw fun w' s' I' r => ⟨w, H, I', r, q w rw'⟩) hs
def inDG : Store → D → D → Option D := fun m y x => (dctG m x).bind fun kvs => if keyOk kvs y = true then some (.bl (dget kvs y).isSome) else none
def notInDG : Store → D → D → Option D := fun m y x => (dctG m x).bind fun kvs => if keyOk kvs y = true then some (.bl (!(dget kvs y).isSome)) else none
def ixDG : Store → D → D → Option D := fun m x y => (dctG m x).bind fun kvs => if keyOk kvs y = true then dget kvs y else none
theorem dG_some {m : Store} {x : D} {α : Type} {f : List (D × D) → Option α} {z : α} (h : (dctG m x).bind f = some z) : ∃ kvs, dctG m x = some kvs ∧ f kvs = some z := by
  cases q : dctG m x with
  | none => rw [q] at h; cases h
  | some kvs => rw [q] at h; exact ⟨kvs, rfl, h⟩
theorem od_inD (hu : X.A.units + 65 < cLine) : OpD X (compareOp .In) inDG := by
  refine ⟨_, op_inD hu, fun S H t m y x c d z Q i b_y bx hz q => ?_⟩
  obtain ⟨kvs, h1, h2⟩ := dG_some hz
  split at h2
  · rename_i ok
    cases h2
    exact ⟨S, t, kvs, c, .of i bx b_y h1 ok, q _ _ _ .refl i (.bl _)⟩
  · cases h2
theorem od_notInD (hu : X.A.units + 65 < cLine) : OpD X (compareOp .NotIn) notInDG := by
  refine ⟨_, op_notInD hu, fun S H t m y x c d z Q i b_y bx hz q => ?_⟩
  obtain ⟨kvs, h1, h2⟩ := dG_some hz
  split at h2
  · rename_i ok
    cases h2
    exact ⟨S, t, kvs, c, .of i bx b_y h1 ok, q _ _ _ .refl i (.bl _)⟩
  · cases h2
theorem id_D (hu : X.A.units + 65 < cLine) : IxD X ixDG := by
  refine ⟨_, ix_D hu, fun S H t m x y d c z Q i bx b_y hz q => ?_⟩
  obtain ⟨kvs, h1, h2⟩ := dG_some hz
  split at h2
  · rename_i ok
    exact ⟨S, t, kvs, c, z, .of i bx b_y h1 ok, h2, fun v r => q v _ _ .refl i r⟩
  · cases h2
/-! ### methods of a dict -/
def tDM (X : Cx) (r : V → List V → Hp → VK → Prop) (to : TE) (t : TA) : TE := fun σ H Q => to σ H fun x H1 => (∃ a o rows, x = .ref a ∧ H1 a = some (dO a o) ∧ RowsO X.w o rows) ∧ t σ H1 fun xs H2 => r x xs H2 Q
theorem pe_dm {o e : Expr} {es : List Expr} {to : TE} {t : TA} {name : Str} {apos cpos : Pos} {id : String} {r : V → List V → Hp → VK → Prop} (slot : Slot "dict" name id) (hty : typeOf (.builtin id) = pure (.type "method_descriptor")) (hm : MtR X id r) (ho : PE X o to) (ha : PA X (e :: es) t)
    (hbase : attributeBase o name X.env (eval o X.env) = eval o X.env := by rfl)
    (hfew : ((backTo cpos (starEach (e :: es) X.env)).all (fun x => !x.1) && (backToKw cpos (keywordEach [] X.env)).all (fun x => x.1.isSome)
      && decide ((e :: es).length + ([] : List Keyword).length + (if ([] : List Keyword).isEmpty then 0 else 1) < 30)) = true := by rfl)
    (hline : (apos.endLine == cpos.line) = true := by rfl) (hs : starEach (e :: es) X.env = (false, eval e X.env) :: starEach es X.env := by rfl) (hplain : (backTo cpos (starEach es X.env)).any (·.1) = false := by rfl) :
    PE X (.Call (.Attribute o name apos) (e :: es) [] cpos) (tDM X r to t) := by
  refine ⟨fun pins s σ H Q I h => ?_⟩
  refine wpAny_Call_method_late hbase hfew hline rfl (thn (ho.run pins s σ H _ I h) fun v s1 ⟨x, H1, I1, r1, ⟨a, ob, rows, ex, hH, R⟩, q1⟩ => ?_)
  subst ex
  obtain rfl : v = Value.ref a := r1
  obtain ⟨h1, h2⟩ := dO_type I1 hH R
  refine ⟨"dict", id, PySem.F.plainAttrs_dict, slot, hty, h1, h2, ?_⟩
  have hA := ha.run cpos pins s1 σ H1 _ I1 q1
  rw [hs] at hA ⊢
  refine Calls.callWith_builtin (by show (false || (backTo cpos (starEach es X.env)).any (·.1)) = false; rw [hplain] <;> rfl) (Calls.evalArgs_plain ?_)
  exact thn hA fun us s2 ⟨vs, H2, I2, r2, q2⟩ => hm pins s2 σ H2 (.ref a) vs (.ref a) us Q I2 rfl r2 q2
def rGet2 (X : Cx) : V → List V → Hp → VK → Prop := fun x xs H Q => ∃ S t kvs c d y z, xs = [y, z] ∧ DKat X H x y S t kvs c ∧ DR X.kw S t z d ∧ ∀ v, DR X.kw S t v ((dget kvs c).getD d) → Q v H
theorem mt_get2 (hu : X.A.units + 65 < cLine) : MtR X "dict.get" (rGet2 X) := by
  intro pins s σ H x xs v us Q I rx rxs h
  obtain ⟨S, t, kvs, c, d, y, z, rfl, ⟨m, a, o, rows, k, i, rfl, hd, hH, R, dk, hy, hk, ok⟩, hz, q⟩ := h
  obtain rfl : v = Value.ref a := rx
  obtain ⟨u1, u2, rfl, r1, r2⟩ := vals2 rxs
  refine x_get2 hu hd I hH R (keys_are I i.sub dk) (key_is I i.sub hk hy) (dkv_hom hk dk ok) r1 r2 fun w' s' I' r => ⟨_, H, I', r, ?_⟩
  obtain ⟨g1, g2⟩ := dkv_get hk dk
  cases e : dget kvs c with
  | none =>
    rw [e] at q
    rw [g1 e]
    exact q _ hz
  | some b =>
    rw [e] at q
    obtain ⟨w, hw, rw'⟩ := g2 b e
    rw [hw]
    exact q _ rw'
/-- a method of a dict -/
@[simp] def dmE (g : Store → D → List D → Option D) (o : EvE) (a : EvA) : EvE := fun C e m => (o C e m).bind fun d m1 => (R.of (dctG m1 d) m1).bind fun _ m2 => (a C e m2).bind fun xs m3 => .of (g m3 d xs) m3
def DmD (X : Cx) (id : String) (g : Store → D → List D → Option D) : Prop :=
  ∃ r : V → List V → Hp → VK → Prop, MtR X id r ∧ ∀ S H t m x d xs ds z (Q : VK), HI X.kw S H t m → BR X.kw S H t x d → DRs X.kw S t xs ds → g m d ds = some z → (∀ v S' H', Stp S H t S' H' t → HI X.kw S' H' t m → DR X.kw S' t v z → Q v H') → r x xs H Q
def getDG : Store → D → List D → Option D := fun m d xs => match xs with
  | [c, z] => (dctG m d).bind fun kvs => if keyOk kvs c = true then some ((dget kvs c).getD z) else none
  | _ => none
theorem dm_get (hu : X.A.units + 65 < cLine) : DmD X "dict.get" getDG := by
  refine ⟨_, mt_get2 hu, fun S H t m x d xs ds z Q i bx rs hz q => ?_⟩
  unfold getDG at hz
  split at hz
  · rename_i c z'
    obtain ⟨kvs, h1, h2⟩ := dG_some hz
    split at h2
    · rename_i ok
      cases h2
      cases rs with
      | cons r1 rs =>
        cases rs with
        | cons r2 rs =>
          cases rs
          exact ⟨S, t, kvs, c, z', _, _, rfl, .of i bx (.inl r1) h1 ok, r2, fun v r => q v _ _ .refl i r⟩
    · cases h2
  · cases hz
end
section
variable {X : Cx} {G : Cfg} {W : WX} {a b c o : Expr} {es : List Expr} {fa fb fc fo : EvE} {fs : EvA}
theorem de_dm {id : String} {name : Str} {apos cpos : Pos} {g : Store → D → List D → Option D} (hg : DmD X id g) (slot : Slot "dict" name id) (hty : typeOf (.builtin id) = pure (.type "method_descriptor")) (hK : X.kw = G.K) (ho : PE X o (semB G W fo)) (ha : PA X (a :: es) (semA G W fs))
    (hbase : attributeBase o name X.env (eval o X.env) = eval o X.env := by rfl)
    (hfew : ((backTo cpos (starEach (a :: es) X.env)).all (fun x => !x.1) && (backToKw cpos (keywordEach [] X.env)).all (fun x => x.1.isSome)
      && decide ((a :: es).length + ([] : List Keyword).length + (if ([] : List Keyword).isEmpty then 0 else 1) < 30)) = true := by rfl)
    (hline : (apos.endLine == cpos.line) = true := by rfl) (hs : starEach (a :: es) X.env = (false, eval a X.env) :: starEach es X.env := by rfl) (hplain : (backTo cpos (starEach es X.env)).any (·.1) = false := by rfl) :
    PE X (.Call (.Attribute o name apos) (a :: es) [] cpos) (semE G W (dmE g fo fs)) := by
  obtain ⟨r, hr1, hr2⟩ := hg
  refine (pe_dm slot hty hr1 ho ha hbase hfew hline hs hplain).imp fun σ H Q ⟨S, t, m, e, si, h⟩ => ?_
  refine ⟨S, t, m, e, si, (Gd.split h).imp fun S1 H1 t1 m1 d p1 i1 ⟨_, _, h1⟩ v rv => ?_⟩
  have si1 := si.stp p1 i1
  cases q : dctG m1 d with
  | none => rw [q] at h1; exact h1.elim
  | some kvs1 =>
    rw [q] at h1
    obtain ⟨ad, ob, rows, e1, e2, e3, e4, e5⟩ := rv.dctG i1 q
    refine ⟨⟨ad, ob, rows, e1, e3, by
      have hw : X.w = G.K.w := congrArg KW.w hK
      rw [hw]; exact e4⟩, S1, t1, m1, e, si1, ?_⟩
    simp only [R.of_some, R.bind_ok] at h1
    refine (Gd.split h1).imp fun S2 H2 t2 m2 xs p2 i2 ⟨_, _, h3⟩ vs rs => ?_
    cases hz : g m2 d xs with
    | none => rw [hz] at h3; exact h3.elim
    | some z =>
      rw [hz] at h3
      exact hr2 S2 H2 t2 m2 v d vs xs z Q (hK ▸ i2) (hK ▸ rv.stp i1 p2) (hK ▸ rs) hz fun u S' H' p i ru => h3 S' H' t2 p (hK ▸ i) u (hK ▸ ru)
end
end Dn
/-! Dicts of one's own: made, written, settled. -/
namespace Dn
open PySem L2
def o0 : Obj := { cls := .type "dict", data := .dict #[] }
theorem rows0 (w : World) : RowsO w o0 [] := ⟨⟨rfl, rfl, rfl⟩, ⟨#[], 0, rfl, .nil⟩, List.nodup_nil, Nat.zero_le _⟩
section
variable {X : Cx}
theorem laid0 {pins : List (Addr × Obj)} {σ : St} {H : Hp} {s : Shared} (I : Inv X pins σ H s) : Inv X pins σ (upd H s.heap.objs.size (dO s.heap.objs.size o0)) { s with heap := s.heap.push o0 } ∧ (s.heap.objs.size == sysModules) = false ∧ H s.heap.objs.size = none := by
  have e : (s.heap.push o0).get? s.heap.objs.size = some o0 := Heap.get?_push_size _ rfl
  exact ⟨I.laid (t' := s.toks) (fun b o q => Heap.get?_push_of_some _ q) (Nat.le_refl _) ⟨e, ⟨_, e⟩, fun h1 h2 z k => k _ z⟩, beq_eq_false_iff_ne.mpr (Ne.symm (Nat.ne_of_lt I.big)), I.hok.fresh (Nat.le_refl _)⟩
/-- {} -/
theorem pe_dnewX {pos : Pos} : PE X (.Dict [] [] pos) (fun _ H Q => ∀ p, H p = none → (p == sysModules) = false → Q (.ref p) (upd H p (dO p o0))) := ⟨fun pins s σ H Q I h => by
  obtain ⟨I1, h1, h2⟩ := laid0 I
  exact wpAny_Dict_empty ⟨.ref s.heap.objs.size, _, I1, rfl, h _ h2 h1⟩⟩
/-- d[k] = v, by values -/
def tSetX (X : Cx) : TSet := fun x y v H Q => ∃ S t kvs c m a o rows k, HI X.kw S H t m ∧ x = .ref a ∧ H a = some (dO a o) ∧ RowsO X.w o rows ∧ rows.length < sizeLine ∧ DKV X.kw S t rows kvs ∧ DR X.kw S t y c ∧ toK c = some k ∧ keyOk kvs c = true ∧ ∀ o', RowsO X.w o' (rput rows k y v) → Q (upd H a (dO a o'))
theorem set_dict (hu : X.A.units + 65 < cLine) : PSet X (tSetX X) := by
  intro pins s σ H x y v xv yv u Q I rx ry rv h
  obtain ⟨S, t, kvs, c, m, a, o, rows, k, i, rfl, hH, R, hz, dk, hy, hk, ok, q⟩ := h
  obtain rfl : xv = Value.ref a := rx
  exact x_set hu I hH R hz (keys_are I i.sub dk) (key_is I i.sub hk hy) (dkv_hom hk dk ok) ry rv fun o' s' R' I' => ⟨_, I', q o' R'⟩
end
abbrev EvD := Orc → Env → Store → R (List (D × D))
/-- a new dict -/
def semD (G : Cfg) (W : WX) (f : EvD) : TE := fun σ H Q => ∃ S t m e, SI G.K G.x S H t m σ e ∧ Gd G W σ S H t (f G.C e m) fun S' H' t' _ kvs => ∀ p, OwnAt G.K S' H' t' p (.dct kvs) → H p = none → Q (.ref p) H'
@[simp] def emptyD : EvD := fun _ _ m => .ok [] m
/-- settled at once -/
@[simp] def dctE (f : EvD) : EvE := fun C e m => (f C e m).bind fun kvs m1 => .ok (.dct kvs) m1
@[simp] def ownOD (i : Nat) (kvs : List (D × D)) (e : Env) : Option Env := if i < e.length then some (e.set i (.own (.dct kvs))) else none
@[simp] def ownDS (i : Nat) (f : EvD) : EvS := fun C e m => liftS (f C e m) e fun kvs m1 => .of (ownOD i kvs e) m1
/-- d[k] = v -/
@[simp] def dputS (i : Nat) (fk fv : EvE) : EvS := fun C e m => match e[i]? with
  | some (.own (.dct kvs)) => liftS (fv C e m) e fun d m1 => liftS (fk C e m1) e fun c m2 => if keyOk kvs c = true ∧ kvs.length < LIM then .nx (e.set i (.own (.dct (dput kvs c d)))) m2 else .stuck
  | _ => .stuck
section
variable {X : Cx} {G : Cfg} {W : WX} {E : Snap} {a b : Expr} {fa fb fk : EvE} {f : EvD} {pos : Pos}
theorem own0 {K : KW} {S H : Hp} {t : Th} {m : Store} {p : Addr} (i : HI K S H t m) (hp : H p = none) (hz : (p == sysModules) = false) : HI K S (upd H p (dO p o0)) t m ∧ Stp S H t S (upd H p (dO p o0)) t ∧ OwnAt K S (upd H p (dO p o0)) t p (.dct []) := by
  obtain ⟨i2, p2⟩ := new_hi0 (o := dO p o0) i hp
  have hS : S p = none := by
    cases q : S p with
    | none => rfl
    | some o => rw [i.sub p o q] at hp; cases hp
  exact ⟨i2, p2, hS, fun n q => i.off n p q hp, .dct hz upd_same (rows0 _) .nil⟩
theorem dd_empty : PE X (.Dict [] [] pos) (semD G W emptyD) := pe_dnewX.imp fun σ H Q ⟨S, t, m, e, si, g⟩ p hp hz => by
  obtain ⟨i2, p2, ho⟩ := own0 (K := G.K) si.hi hp hz
  exact g S _ t p2 i2 p ho hp
theorem OwnAt.settleD {K : KW} {S S' H H' : Hp} {t t' : Th} {m : Store} {p : Addr} {d : D} (i : HI K S' H' t' m) (q : Stp S H t S' H' t') (ho : OwnAt K S' H' t' p d) (hn : H p = none) :
    ∃ S2, Stp S H t S2 H' t' ∧ HI K S2 H' t' m ∧ DR K S2 t' (.ref p) d := by
  obtain ⟨u, hp, hdr⟩ := ho.at_.dr
  refine ⟨upd S' p u, ⟨q.keep, q.dom, fun a ha => ?_, q.th, q.thn⟩, settle_hi i ho.off hp ho.nt, hdr _ (fun a o z => ?_) upd_same⟩
  · rw [upd_ne (fun z => ha (by rw [z]; exact hn))]; exact q.hs a ha
  · rw [upd_ne (ne_of_none z ho.off)]; exact z
theorem de_dct {e : Expr} (h : PE X e (semD G W f)) : PE X e (semE G W (dctE f)) := by
  refine h.imp fun σ H Q ⟨S, t, m, e, si, g⟩ => ⟨S, t, m, e, si, ?_⟩
  unfold dctE at g
  revert g
  cases f G.C e m with
  | ok ys m2 =>
    intro g S' H' t' q i p ho hn
    obtain ⟨S2, q2, i2, r⟩ := ho.settleD i q hn
    exact g S2 H' t' q2 i2 _ r
  | exc c fs m' => exact id
  | stuck => exact id
theorem ds_ownD {i : Nat} {x : Str} {pos' : Pos} (hN : X.N.Nodup) (hi : X.N[i]? = some x) (hx : Loc X.env.scope x) (ha : PE X a (semD G W f)) (hf : X.fn x = true ∨ X.env.scope.names.lookup x = some .local) (hs : swapsWith a (some (.Name x pos')) pos.line X.env = pure false := by rfl) :
    PS X (.Assign [.Name x pos'] a pos) (semS G W E (ownDS i f)) := (ps_set hN hi hx ha hs hf).imp fun D σ H h => by
  obtain ⟨S, t, m, e, sf, h⟩ := h
  refine ⟨S, t, m, e, sf.si, (GS.lift sf h).imp fun S1 H1 t1 m1 kvs p1 i1 h1 p ho hn => ?_⟩
  unfold ownOD at h1
  split at h1
  · rename_i hj
    have sf1 := sf.stp p1 i1
    obtain ⟨q1, q2⟩ := sf.newOwn hn
    exact h1 S1 H1 t1 _ (sf1.setOwn hj ho (fun k c _ => q1 k c) q2)
  · exact h1.elim
theorem ds_dput {i : Nat} {x : Str} {px spos : Pos} (hu : X.A.units + 65 < cLine) (hK : X.kw = G.K) (hN : X.N[i]? = some x) (hv : Vis X.env.scope x) (hk : PE X b (semE G W fk)) (ha : PE X a (semE G W fa)) (hd : (x == ("__debug__" : Str)) = false := by decide) (hcd : (x == ("__classdict__" : Str)) = false := by decide)
    (hasg : ∀ v, assign (.Subscript (.Name x px) b spos) X.env v = (do
      let ov ← holding [v] (eval (.Name x px) X.env)
      let iv ← holding [v, ov] (eval b X.env)
      standAt spos
      holding [v, ov, iv] (setItem ov iv v)
      release [v, ov, iv] []) := by intro _; rfl)
    (hs : swapsWithSole [.Subscript (.Name x px) b spos] a pos.line X.env = pure false := by rfl) (hw : swappedStores [.Subscript (.Name x px) b spos] a X.env = pure none := by rfl)
    (h1 : (assignEach [.Subscript (.Name x px) b spos] X.env).map (·.2) = [assign (.Subscript (.Name x px) b spos) X.env] := by rfl) :
    PS X (.Assign [.Subscript (.Name x px) b spos] a pos) (semS G W E (dputS i fk fa)) := by
  refine (ps_asg ha (pg_sub (pe_var (i := i) hN hv hd hcd) hk (set_dict hu) hasg) hs hw h1).imp fun D σ H ⟨S, t, m, e, sf, h⟩ => ?_
  unfold dputS at h
  split at h
  · rename_i kvs hi
    obtain ⟨p, hp, ho⟩ := sf.si.own i _ hi
    refine ⟨S, t, m, e, sf.si, (GS.lift sf h).imp fun S1 H1 t1 m1 d p1 i1 h1 v rv => ?_⟩
    have sf1 := sf.stp p1 i1
    refine ⟨_, hp, S1, t1, m1, e, sf1.si, (GS.lift sf1 h1).imp fun S2 H2 t2 m2 c p2 i2 h2 w rw' => ?_⟩
    have sf2 := sf1.stp p2 i2
    split at h2
    · rename_i ok
      have ho2 := (ho.stp sf.si.hi p1).stp i1 p2
      obtain ⟨o, rows, z, hH, R, dk⟩ := ho2.dct'
      have hs : (toK c).isSome = true := by
        have := ok.1
        unfold keyOk at this
        simp only [Bool.and_eq_true] at this
        exact this.1
      obtain ⟨k, hk⟩ := Option.isSome_iff_exists.mp hs
      have hw' : X.w = G.K.w := congrArg KW.w hK
      have hl : rows.length < sizeLine := by
        rw [dkv_len dk]
        exact Nat.lt_of_lt_of_le ok.2 (lim_le (Nat.le_refl _))
      refine ⟨S2, t2, kvs, c, m2, p, o, rows, k, hK ▸ i2, rfl, hH, by rw [hw']; exact R, hl, hK ▸ dk, hK ▸ rw', hk, ok.1, fun o' R' => ?_⟩
      exact h2 _ _ _ σ (sf2.chg hi hp (.dct z upd_same (by rw [← hw']; exact R') (dkv_put hk rw' (rv.stp i1 p2) dk)))
    · exact h2.elim
  · exact h.elim
end
end Dn
/-! Dict comprehensions. -/
namespace Dn
open PySem L2
section
variable {X : Cx} {pins : List (Addr × Obj)} {σ : St} {H : Hp} {s : Shared} {a : Addr} {o : Obj} {rows : List (DKey × V × V)} {k : DKey} {y v : V} {u r : Value} {A : Around} {E : Value → Shared → Prop}
theorem x_dictSet {Q : Unit → Shared → Prop} (hu : A.units + 65 < cLine) (I : Inv X pins σ H s) (h : H a = some (dO a o)) (R : RowsO X.w o rows) (hz : rows.length < sizeLine) (ks : ∀ r ∈ rows, KeyIs s.heap r.1 r.2.1) (hk : KeyIs s.heap k y) (hm : Hom rows k) (ry : RelV y u) (rv : RelV v r)
    (q : ∀ o' s', RowsO X.w o' (rput rows k y v) → Inv X pins σ (upd H a (dO a o')) s' → Q () s') : wpAny (model X.prog X.w) A (dictSet a u r) Q E s := by
  have hl : (rput rows k y v).length ≤ sizeLine := by have := rput_len rows k y v; omega
  cases k with
  | leaf l =>
    cases hk
    obtain ⟨vs, dd, pr⟩ := leaf_view (P := X.prog) (dO_at I h) R (hm.leaf ks)
    have hzv : vs.length ≤ sizeLine := by rw [← Paired.length pr]; exact R.sz
    refine wpAny_dictSet_pairs (hsz := hzv) (kV_is ry) dd fun h' dd' hs => ?_
    obtain ⟨o', ho', R'⟩ := leaf_back dd' (gl_put pr l rv) hl
    exact q o' _ R' (x_wrote I h hs ho')
  | tup n =>
    obtain ⟨b, rfl, hn⟩ := hk
    cases (show u = Value.ref b from ry)
    obtain ⟨xs, dd, pr⟩ := tup_view (P := X.prog) (dO_at I h) R (hm.tup ks)
    have hzv : xs.length ≤ sizeLine := by rw [← Paired.length pr]; exact R.sz
    refine wpAny_dictSet_heap (hsz := hzv) (room8' hu) hn dd fun h' dd' hs => ?_
    obtain ⟨o', ho', R'⟩ := tup_back dd' (gt_put pr n b rv) hl
    exact q o' _ R' (x_wrote I h hs ho')
end
section
variable {X : Cx}
/-- what a put into the dict at D asks, and what follows it -/
def Puts (X : Cx) (D : Addr) (y z : V) (H5 : Hp) (Nx : Hp → Prop) : Prop := ∃ S t m o rows kvs c k, HI X.kw S H5 t m ∧ H5 D = some (dO D o) ∧ RowsO X.w o rows ∧ rows.length < sizeLine ∧ DKV X.kw S t rows kvs ∧ DR X.kw S t y c ∧ toK c = some k ∧ keyOk kvs c = true ∧ ∀ o', RowsO X.w o' (rput rows k y z) → Nx (upd H5 D (dO D o'))
/-- {k: v for target in iter if ..} -/
def tDcX (X : Cx) (wi : TI) (g : TG) (tt : TT) (tk tv : TE) (vs : List Nat) : TE := fun σ H Q => wi σ H fun J H1 => ∀ D, H1 D = none → (D == sysModules) = false → ∃ W : Nat → Nat → Hp → Prop, (∃ m, W 0 m (upd H1 D (dO D o0))) ∧
  ∀ i m H, W i m H → (J.stop i H ∧ Q (.ref D) H) ∨ (J.go i H ∧ ∃ Nx : Hp → Prop, (∀ H', Nx H' → ∃ m', m' < m ∧ W (i + 1) m' H') ∧ ∀ x H', J.yld i H x H' →
    g x (wipe σ vs) H' fun σ2 H2 => wipe σ2 vs = wipe σ vs ∧ tt σ2 H2 fun b H3 => if b = true then tk σ2 H3 fun y H4 => tv σ2 H4 fun z H5 => Puts X D y z H5 Nx else Nx H3)
abbrev CE (X : Cx) (scope : Scope) (C : Addr) (cl : List (Str × Addr)) : PySem.Env := compEnvC scope cl C X.env
theorem dcX_core {pins : List (Addr × Obj)} {s : Shared} {σ : St} {H : Hp} {Q : VK} {kx vx tg iter : Expr} {ifs : List Expr} {scope : Scope} {own : List (Str × Nat)} {pos pos' : Pos} {wi : TI} {g : TG} {tt : TT} {tk tv : TE} {use : Option (Value → Sem Unit)} {Qf : Value → Shared → Prop} (hu : X.A.units + 65 < cLine) (hc : X.calm = true) (hN : X.N.Nodup) (I : Inv X pins σ H s) (hi : PI X tg iter wi) (ok : BlkOk X.N X.env.scope scope own)
    (hg : ∀ s H C cl fp, PG (X.blk s H scope (CE X scope C cl) fp) tg g) (ht : ∀ s H C cl fp, PTs (X.blk s H scope (CE X scope C cl) fp) ifs tt) (hk : ∀ s H C cl fp, PE (X.blk s H scope (CE X scope C cl) fp) kx tk) (he : ∀ s H C cl fp, PE (X.blk s H scope (CE X scope C cl) fp) vx tv)
    (hs : ∀ x, foldedSetIterable iter X.env x = pure x) (h : tDcX X wi g tt tk tv (own.map (·.2)) σ H Q)
    (end_ : ∀ D C s' m H', Inv X pins σ H' s' → Q (.ref D) H' → s'.heap.Ns C m → FpOk X pins H' C → compPost (model X.prog X.w) X.A X.xe use Qf (.ref D) C (.ok .next) s') :
    wpAny (model X.prog X.w) X.A (comprehension (.DictComp kx vx [⟨tg, iter, ifs, 0⟩] scope pos) scope X.env pos' newDict false (eval iter X.env) use) Qf X.xe s := by
  have fr : ∀ z ∈ scope.names, z.2 = .free → ∃ c, X.env.cells.lookup z.1 = some c := fun z hz e => (ok.free z hz e).elim (fun w => I.ok.has _ (.inl w)) fun w => I.ok.has _ (.inr w)
  refine wpAny_comprehension_free (use := use) rfl hs (closure_ok fr) ok.kind (fun z hz e => by rw [ok.uniq z hz, e]) (thn (hi.run pins s σ H _ I h) fun xv s1 hx => thn hx fun itv s2 ⟨it, fp, tn, J, H2, e, I2, T, st2, f2, q⟩ => ?_)
  subst e
  refine wpAny_newObj_type (newEnv_comp ?_)
  obtain ⟨I3, zD, nD⟩ := laid0 I2
  obtain ⟨W, ⟨m0, w0⟩, turn⟩ := q _ nD zD
  have below : ∀ b ∈ fp, b < s2.heap.objs.size := fun b hb => let ⟨_, z, _⟩ := T.obj _ _ st2 b hb; Heap.lt_size z
  generalize hDD : s2.heap.objs.size = D at I3 zD nD w0 turn below ⊢
  generalize hs3 : ({ s2 with heap := s2.heap.push o0 } : Shared) = s3 at I3
  have h3 : s3.heap = s2.heap.push o0 := by rw [← hs3]
  have keep3 : ∀ b o, s2.heap.get? b = some o → s3.heap.get? b = some o := fun b o z => by rw [h3]; exact Heap.get?_push_of_some _ z
  generalize hH3 : upd H2 D (dO D o0) = H3 at I3 w0
  have f3 : ∀ b ∈ fp, FpOk X pins H3 b ∧ b < s3.heap.objs.size := fun b hb => by
    have lt := below b hb
    refine ⟨⟨?_, (f2 b hb).2⟩, by rw [h3, Heap.size_push, hDD]; exact Nat.lt_succ_of_lt lt⟩
    rw [← hH3, upd_ne (Nat.ne_of_lt lt)]
    exact (f2 b hb).1
  have st3 : tn 0 s3.heap := T.keep _ _ _ st2 fun b _ o z => keep3 b o z
  have I4 := block_start I3 ok hN f3
  have e3 : s2.heap.push { cls := .type "dict", data := .dict #[] } = s3.heap := h3.symm
  rw [e3]
  generalize hcl : cellsFrom (s3.heap.objs.size + 1) scope.names (cloFrom X.env.cells scope.names []) = cl at I4 ⊢
  have hC : (compEnvC scope cl s3.heap.objs.size X.env).locals = s3.heap.objs.size := rfl
  have pg : PG (X.blk s3 H3 scope (compEnvC scope cl s3.heap.objs.size X.env) fp) tg g := hg s3 H3 s3.heap.objs.size cl fp
  have pt : PTs (X.blk s3 H3 scope (compEnvC scope cl s3.heap.objs.size X.env) fp) ifs tt := ht s3 H3 s3.heap.objs.size cl fp
  have pk : PE (X.blk s3 H3 scope (compEnvC scope cl s3.heap.objs.size X.env) fp) kx tk := hk s3 H3 s3.heap.objs.size cl fp
  have pv : PE (X.blk s3 H3 scope (compEnvC scope cl s3.heap.objs.size X.env) fp) vx tv := he s3 H3 s3.heap.objs.size cl fp
  show codeAny _ _ (.compStart (.DictComp kx vx [⟨tg, iter, ifs, 0⟩] scope pos) 0 (.ref it) (.ref D) (compEnvC scope cl s3.heap.objs.size X.env)) (compPost (model X.prog X.w) X.A X.xe use Qf (.ref D) s3.heap.objs.size) _
  generalize hce : compEnvC scope cl s3.heap.objs.size X.env = ce at I4 hC pg pt pk pv ⊢
  generalize hs4 : ({ s3 with heap := pushCells (s3.heap.push { cls := .type "dict", data := .dict #[] }) scope.names } : Shared) = s4 at I4
  have es4 : ({ s2 with heap := pushCells (s3.heap.push { cls := .type "dict", data := .dict #[] }) scope.names } : Shared) = s4 := by rw [← hs4, ← hs3]
  rw [es4]
  have st4 : tn 0 s4.heap := T.keep _ _ _ st3 fun b _ o z => by rw [← hs4]; exact pushCells_keeps _ _ _ _ (Heap.get?_push_of_some _ z)
  have fpo : ∀ {σ' : St} {H' : Hp} {s' : Shared}, Inv (X.blk s3 H3 scope ce fp) [] σ' H' s' → (∀ b ∈ fp, H' b = none) → ∀ b ∈ fp, FpOk (X.blk s3 H3 scope ce fp) [] H' b := fun {_ _ _} I' nn b hb =>
    ⟨nn b hb, (I'.ok.exf b hb).1, I'.ok.exfs b hb, .inl hb, fun x c z => (I'.ok.exf b hb).2 x c z, fun p hp => absurd (show p ∈ ([] : List (Addr × Obj)) ++ [] from hp) (by simp)⟩
  have loop : codeAny (model X.prog X.w) X.A (.compLoop (.DictComp kx vx [⟨tg, iter, ifs, 0⟩] scope pos) 0 (.ref it) (.ref D) ce) (compPost (model X.prog X.w) X.A X.xe use Qf (.ref D) s3.heap.objs.size) s4 := by
    refine compLoop_anyD (fun n s' => ∃ i H', Inv (X.blk s3 H3 scope ce fp) [] (wipe σ (own.map (·.2))) H' s' ∧ tn i s'.heap ∧ (∀ b ∈ fp, H' b = none) ∧ W i n H') (fun n s5 ⟨i, H5, I5, st5, n5, w5⟩ => ?_) m0 ⟨0, H3, I4, st4, fun b hb => (f3 b hb).1.1, w0⟩
    rcases turn i n H5 w5 with ⟨stop, qq⟩ | ⟨go, Nx, hNx, step⟩
    · refine thnF (T.done (X.blk s3 H3 scope ce fp) rfl rfl rfl hc i [] s5 _ H5 (fun _ _ => False) I5 (fpo I5 n5) st5 stop) fun r s6 ⟨hr, I6⟩ => ?_
      subst hr
      have I7 : Inv X pins σ H5 s6 := I3.call' (ch := fp) I6.os I6.base I6.hok I6.bare fun b hb => ⟨(f3 b hb).1.2.2.2.1, (f3 b hb).1.2.1, (f3 b hb).1.2.2.2.2.1, (f3 b hb).1.2.2.2.2.2⟩
      have nC : H5 s3.heap.objs.size = none := by
        have z : H5 ce.locals = none := I6.free
        rw [hC] at z
        exact z
      obtain ⟨mm, hn, _⟩ := I6.loc
      have hn : s6.heap.Ns ce.locals mm := hn
      rw [hC] at hn
      exact end_ D _ s6 mm H5 I7 qq hn (I3.fpOk (Nat.le_refl _) nC)
    · refine thnF (T.item (X.blk s3 H3 scope ce fp) rfl rfl rfl hc i [] s5 _ H5 (fun _ _ => False) I5 (fpo I5 n5) st5 go) fun r s6 ⟨w, hr, h6⟩ => ?_
      subst hr
      refine thnF h6 fun _ s7 ⟨x, H7, I7, r7, y7, st7, n7⟩ => ?_
      refine thnF (pg.run _ s7 _ H7 x w _ (I7.pinned (fpo I7 n7) (T.obj _ _ st7)) r7 (step x H7 y7)) fun _ s8 ⟨σ8, H8, I8, hw8, q8⟩ => ?_
      refine thnF (pt.run _ s8 σ8 H8 _ I8 q8) fun b s9 ⟨H9, I9, q9⟩ => ?_
      have fin : ∀ {s' : Shared} {H' : Hp}, Inv (X.blk s3 H3 scope ce fp) ([] ++ pinsAt fp s7.heap) σ8 H' s' → Nx H' → ∃ m, m < n ∧ ∃ i H', Inv (X.blk s3 H3 scope ce fp) [] (wipe σ (own.map (·.2))) H' s' ∧ tn i s'.heap ∧ (∀ b ∈ fp, H' b = none) ∧ W i m H' := fun {s' H'} I' nx => by
        obtain ⟨m', lt, w'⟩ := hNx H' nx
        have pin : ∀ b ∈ fp, ∀ o, s7.heap.get? b = some o → s'.heap.get? b = some o ∧ H' b = none := fun b hb o z => ⟨(I'.pin (b, o) (List.mem_append_right _ (List.mem_append_right _ (mem_pinsAt hb z)))).1, (I'.pin (b, o) (List.mem_append_right _ (List.mem_append_right _ (mem_pinsAt hb z)))).2.1⟩
        have hl : (wipe σ (own.map (·.2))).length = σ8.length := by rw [← hw8, wipe_length]
        refine ⟨m', lt, i + 1, H', (I'.unpinned (pins := [])).weak hl (fun j z hz => ?_), T.keep _ _ _ st7 fun b hb o z => (pin b hb o z).1, fun b hb => ?_, w'⟩
        · rw [← hw8] at hz
          exact (wipe_some hz).1
        · obtain ⟨o, z, _⟩ := T.obj _ _ st7 b hb
          exact (pin b hb o z).2
      cases b with
      | false => exact fin I9 q9
      | true =>
        refine thnF (pk.run _ s9 σ8 H9 _ I9 q9) fun z s10 ⟨yk, H10, I10, r10, q10⟩ => ?_
        refine thnF (pv.run _ s10 σ8 H10 _ I10 q10) fun z2 s11 ⟨yv, H11, I11, r11, S, t, m, o, rows, kvs, c, k, i, hD11, R, hz, dk, hy, hkk, okk, nx⟩ => ?_
        exact x_dictSet (X := X.blk s3 H3 scope ce fp) hu I11 hD11 R hz (keys_are I11 i.sub dk) (key_is I11 i.sub hkk hy) (dkv_hom hkk dk okk) r10 r11 fun o' s12 R' I12 => fin I12 (nx o' R')
  exact codeAny_compStart_dict loop (T.self X.A 0 _ _ _ st4 loop)
theorem pe_dcX {kx vx tg iter : Expr} {ifs : List Expr} {scope : Scope} {own : List (Str × Nat)} {pos : Pos} {wi : TI} {g : TG} {tt : TT} {tk tv : TE} (hu : X.A.units + 65 < cLine) (hc : X.calm = true) (hN : X.N.Nodup) (hi : PI X tg iter wi) (ok : BlkOk X.N X.env.scope scope own)
    (hg : ∀ s H C cl fp, PG (X.blk s H scope (CE X scope C cl) fp) tg g) (ht : ∀ s H C cl fp, PTs (X.blk s H scope (CE X scope C cl) fp) ifs tt) (hk : ∀ s H C cl fp, PE (X.blk s H scope (CE X scope C cl) fp) kx tk) (he : ∀ s H C cl fp, PE (X.blk s H scope (CE X scope C cl) fp) vx tv)
    (hs : ∀ x, foldedSetIterable iter X.env x = pure x) : PE X (.DictComp kx vx [⟨tg, iter, ifs, 0⟩] scope pos) (tDcX X wi g tt tk tv (own.map (·.2))) := by
  refine ⟨fun pins s σ H Q I h => ?_⟩
  rw [arm_eval_DictComp]
  refine dcX_core hu hc hN I hi ok hg ht hk he hs h fun D C s' m H' I' q hn f => ⟨m, hn, fun h'' sb => ?_⟩
  obtain ⟨f0, f1, f2, f3, f4, f5⟩ := f
  exact ⟨.ref D, H', I'.turned (t' := s'.toks) (fun b o hb e => (sb.2 b hb).trans e) f0 f1 f3 f4 f5, rfl, q⟩
/-- name = {k: v for ..} -/
theorem ps_setDcX {i : Nat} {y : Str} {py : Pos} {kx vx tg iter : Expr} {ifs : List Expr} {scope : Scope} {own : List (Str × Nat)} {pos spos : Pos} {wi : TI} {g : TG} {tt : TT} {tk tv : TE} (hu : X.A.units + 65 < cLine) (hc : X.calm = true) (hN : X.N.Nodup) (hy : X.N[i]? = some y) (hyl : X.env.scope.names.lookup y = some .local)
    (hsw : swapsWith (.DictComp kx vx [⟨tg, iter, ifs, 0⟩] scope pos) (some (.Name y py)) spos.line X.env = pure true) (hi : PI X tg iter wi) (ok : BlkOk X.N X.env.scope scope own)
    (hg : ∀ s H C cl fp, PG (X.blk s H scope (CE X scope C cl) fp) tg g) (ht : ∀ s H C cl fp, PTs (X.blk s H scope (CE X scope C cl) fp) ifs tt) (hk : ∀ s H C cl fp, PE (X.blk s H scope (CE X scope C cl) fp) kx tk) (he : ∀ s H C cl fp, PE (X.blk s H scope (CE X scope C cl) fp) vx tv)
    (hs : ∀ x, foldedSetIterable iter X.env x = pure x) : PS X (.Assign [.Name y py] (.DictComp kx vx [⟨tg, iter, ifs, 0⟩] scope pos) spos) (tAsg (tDcX X wi g tt tk tv (own.map (·.2))) (gName i)) := by
  refine ⟨fun pins s σ H De I h => ?_⟩
  rw [exec_Assign_Name_used _ _ _ _ hsw]
  refine wpAny_bind (wpAny_standAt (wpAny_bind ?_))
  show wpAny _ X.A (do let _ ← comprehension (.DictComp kx vx [⟨tg, iter, ifs, 0⟩] scope pos) scope X.env (firstIterPos [⟨tg, iter, ifs, 0⟩] pos) newDict false (eval iter X.env) (some (assign (.Name y py) X.env))) _ _ s
  have h : tDcX X wi g tt tk tv (own.map (·.2)) σ H (fun x H1 => gName i x σ H1 De.nx) := h
  refine wpAny_bind (thn (dcX_core (Qf := fun _ s' => SP X pins De .next s') hu hc hN I hi ok hg ht hk he hs h fun D C s' m H' I' q hn f => ?_) fun _ s' hq => wpAny_pure (wpAny_pure hq))
  show wpAny _ _ (assign (.Name y py) X.env (.ref D)) _ _ _
  refine wpAny_assign_Name (store_ok2 (v := V.ref D) I' hN hy (.inl hyl) rfl (fun s2 I2 ⟨a, sb, ha⟩ => ?_) (.inr hyl))
  obtain ⟨f0, f1, f2, f3, f4, f5⟩ := f
  have haC : C ≠ a := ha.elim (fun z => by rw [z]; exact f1) fun z e => f4 y a z e.symm
  exact ⟨m, hn.sameBut sb haC, fun h3 sb3 => ⟨_, H', I2.turned (t' := s2.toks) (fun b o hb e => (sb3.2 b hb).trans e) f0 f1 f3 f4 f5, q⟩⟩
end
end Dn
/-! Dict comprehensions, by data. -/
namespace Dn
open PySem L2
def dcL (C : Orc) (g : Tg) (tt : EvT) (tk tv : EvE) (e : Env) : List D → List (D × D) → Store → R (List (D × D))
  | [], acc, m => .ok acc m
  | d :: ds, acc, m => match asg g d e with
    | none => .stuck
    | some e1 => (noX (tt C e1 m)).bind fun b m1 => if b = true then (noX (tk C e1 m1)).bind fun c m2 => (noX (tv C e1 m2)).bind fun x m3 => if keyOk acc c = true ∧ acc.length < LIM then dcL C g tt tk tv e ds (dput acc c x) m3 else .stuck else dcL C g tt tk tv e ds acc m1
/-- {k: v for g in it if t}; vs the block's own slots -/
@[simp] def dcF (it : EvA) (g : Tg) (tt : EvT) (tk tv : EvE) (vs : List Nat) : EvD := fun C e m => (it C e m).bind fun ds m1 => dcL C g tt tk tv (wipeE e vs) ds [] m1
section
variable {X : Cx} {G : Cfg} {W : WX}
theorem stp_own {S H S5 H5 : Hp} {t t5 : Th} {D : Addr} {u : HO} (q : Stp S H t S5 H5 t5) (nH : H D = none) : Stp S H t S5 (upd H5 D u) t5 := by
  refine ⟨fun a o ha hn => ?_, fun a ha => ?_, q.hs, q.th, q.thn⟩
  · rw [upd_ne (ne_of_none ha nH)]; exact q.keep a o ha hn
  · rw [upd_ne (fun z => ha (by rw [z]; exact nH))]; exact q.dom a ha
theorem sem_dc {fi : EvA} {g : Tg} {tt : EvT} {tk tv : EvE} {vs : List Nat} {σ : St} {H : Hp} {Q : VK} (hK : X.kw = G.K)
    (hws : ∀ v σ H Q, semG G.K G.x g v (wipe σ vs) H Q → semG G.K G.x g v (wipe σ vs) H fun σ2 H2 => wipe σ2 vs = wipe σ vs ∧ Q σ2 H2)
    (h : semD G W (dcF fi g tt tk tv vs) σ H Q) : tDcX X (semI2 G W fi) (semG G.K G.x g) (semT G W0 tt) (semE G W0 tk) (semE G W0 tv) vs σ H Q := by
  have hw : X.w = G.K.w := congrArg KW.w hK
  obtain ⟨S, t, m, e, si, h⟩ := h
  unfold dcF at h
  refine ⟨S, t, m, e, si, ?_⟩
  cases hi : fi G.C e m with
  | exc c fs m' => rw [hi] at h; exact h
  | stuck => rw [hi] at h; exact h
  | ok ds m1 =>
  rw [hi] at h
  intro S1 H1 t1 p1 i1 J it D hD zD
  have h : Gd G W σ S H t (dcL G.C g tt tk tv (wipeE e vs) ds [] m1) _ := h
  have nH : H D = none := by
    cases q : H D with
    | none => rfl
    | some o => exact absurd hD (p1.dom D (by rw [q]; simp))
  refine ⟨fun i k H2 => k = ds.length - i ∧ i ≤ ds.length ∧ ∃ S2 t2 m2 o rows acc, HI G.K S2 H2 t2 m2 ∧ Stp S H t S2 H2 t2 ∧ Stp S1 H1 t1 S2 H2 t2 ∧ S2 D = none ∧ (∀ n, t2 n ≠ some D) ∧ H2 D = some (dO D o) ∧ RowsO G.K.w o rows ∧ DKV G.K S2 t2 rows acc ∧
    Gd G W σ S H t (dcL G.C g tt tk tv (wipeE e vs) (ds.drop i) acc m2) (fun S' H' t' _ zs => ∀ p, OwnAt G.K S' H' t' p (.dct zs) → H p = none → Q (.ref p) H'), ⟨ds.length, by simp, Nat.zero_le _, ?_⟩, ?_⟩
  · obtain ⟨i2, p2, ho⟩ := own0 (K := G.K) i1 hD zD
    exact ⟨S1, t1, m1, o0, [], [], i2, p1.trans p2, p2, ho.off, ho.nt, upd_same, rows0 _, .nil, by rw [List.drop_zero]; exact h⟩
  · rintro i k H2 ⟨rfl, hi, S2, t2, m2, o, rows, acc, i2, p2, q2, hS, ht, hH, RR, hd, h2⟩
    by_cases hlt : i < ds.length
    · right
      have hx : ds[i]? = some ds[i] := List.getElem?_eq_getElem hlt
      obtain ⟨hgo, hy⟩ := it.go i _ S2 H2 t2 m2 hx q2 i2
      refine ⟨hgo, _, fun H' q => ⟨ds.length - (i + 1), by omega, q⟩, fun x H3 y => ?_⟩
      obtain ⟨S3, p3, i3, r3⟩ := hy x H3 y
      rw [List.drop_eq_getElem_cons hlt] at h2
      unfold dcL at h2
      cases ha : asg g ds[i] (wipeE e vs) with
      | none => rw [ha] at h2; exact h2.elim
      | some e1 =>
        rw [ha] at h2
        dsimp only at h2
        have nD3 : H3 D = some (dO D o) := p3.keep D _ hH ht
        have siw : SI G.K G.x S3 H3 t2 m2 (wipe σ vs) (wipeE e vs) := SI.wipe ((si.stp p2 i2).stp p3 i3) vs
        refine hws x σ H3 _ ⟨S3, t2, m2, _, _, e1, siw, r3, ha, fun σ2 si2 o2 _ => ?_⟩
        refine ⟨S3, t2, m2, e1, si2, ?_⟩
        cases hb : tt G.C e1 m2 with
        | exc c fs m' => rw [hb] at h2; exact h2.elim
        | stuck => rw [hb] at h2; exact h2.elim
        | ok b m4 =>
        rw [hb] at h2
        simp only [noX_ok, R.bind_ok] at h2
        intro S4 H4 t4 p4 i4
        have keep4 : H4 D = some (dO D o) := p4.keep D _ nD3 ht
        have ht4 := p4.offs (by rw [nD3]; simp) ht
        have hS3 : S3 D = none := (p3.hs D (by rw [hH]; simp)).trans hS
        have hS4 : S4 D = none := (p4.hs D (by rw [nD3]; simp)).trans hS3
        have hd4 : DKV G.K S4 t4 rows acc := (hd.mono (i2.ssub p3) p3.th).mono (i3.ssub p4) p4.th
        have q4 := (q2.trans p3).trans p4
        cases b with
        | false =>
          exact ⟨rfl, hlt, S4, t4, m4, o, rows, acc, i4, (p2.trans p3).trans p4, q4, hS4, ht4, keep4, RR, hd4, h2⟩
        | true =>
          refine ⟨S4, t4, m4, e1, si2.stp p4 i4, ?_⟩
          rw [if_pos rfl] at h2
          cases hz : tk G.C e1 m4 with
          | exc c fs m' => rw [hz] at h2; exact h2.elim
          | stuck => rw [hz] at h2; exact h2.elim
          | ok c5 m5 =>
          rw [hz] at h2
          simp only [noX_ok, R.bind_ok] at h2
          intro S5 H5 t5 p5 i5 v5 r5
          refine ⟨S5, t5, m5, e1, (si2.stp p4 i4).stp p5 i5, ?_⟩
          cases hz6 : tv G.C e1 m5 with
          | exc c fs m' => rw [hz6] at h2; exact h2.elim
          | stuck => rw [hz6] at h2; exact h2.elim
          | ok x6 m6 =>
          rw [hz6] at h2
          simp only [noX_ok, R.bind_ok] at h2
          intro S6 H6 t6 p6 i6 v6 r6
          have keep5 : H5 D = some (dO D o) := p5.keep D _ keep4 ht4
          have ht5 := p5.offs (by rw [keep4]; simp) ht4
          have keep6 : H6 D = some (dO D o) := p6.keep D _ keep5 ht5
          have ht6 := p6.offs (by rw [keep5]; simp) ht5
          have hS5 : S5 D = none := (p5.hs D (by rw [keep4]; simp)).trans hS4
          have hS6 : S6 D = none := (p6.hs D (by rw [keep5]; simp)).trans hS5
          have hd6 : DKV G.K S6 t6 rows acc := (hd4.mono (i4.ssub p5) p5.th).mono (i5.ssub p6) p6.th
          split at h2
          · rename_i ok
            have hs : (toK c5).isSome = true := by
              have := ok.1
              unfold keyOk at this
              simp only [Bool.and_eq_true] at this
              exact this.1
            obtain ⟨kk, hk⟩ := Option.isSome_iff_exists.mp hs
            have hl : rows.length < sizeLine := by
              rw [dkv_len hd6]
              exact Nat.lt_of_lt_of_le ok.2 (lim_le (Nat.le_refl _))
            refine ⟨S6, t6, m6, o, rows, acc, c5, kk, hK ▸ i6, keep6, by rw [hw]; exact RR, hl, hK ▸ hd6, hK ▸ r5.stp i5 p6, hk, ok.1, fun o' R' => ?_⟩
            have i7 := own_hi (o := dO D o') i6 hS6 (by rw [keep6]; simp) ht6
            have q6 := (q4.trans p5).trans p6
            exact ⟨rfl, hlt, S6, t6, m6, o', _, _, i7, stp_own ((((p2.trans p3).trans p4).trans p5).trans p6) nH, stp_own q6 hD, hS6, ht6, upd_same, by rw [← hw]; exact R', dkv_put hk (r5.stp i5 p6) r6 hd6, h2⟩
          · exact h2.elim
    · left
      have e0 : i = ds.length := by omega
      subst e0
      refine ⟨it.stop S2 H2 t2 m2 q2 i2, ?_⟩
      rw [List.drop_length] at h2
      exact h2 S2 H2 t2 p2 i2 D ⟨hS, ht, .dct zD hH RR hd⟩ nH
/-- {k: v for tg in iter if ..} -/
theorem dd_dc {kx vx tg iter : Expr} {ifs : List Expr} {scope : Scope} {own : List (Str × Nat)} {ws : List Nat} {pos : Pos} {fi : EvA} {g : Tg} {tt : EvT} {tk tv : EvE} (hu : X.A.units + 65 < cLine) (hK : X.kw = G.K) (hc : X.calm = true) (hN : X.N.Nodup) (ok : BlkOk X.N X.env.scope scope own) (hw : own.map (·.2) = ws) (hi : PI X tg iter (semI2 G W fi))
    (hv : (tslots g).all (fun j => ws.contains j) = true) (hg : ∀ s H C cl fp, PG (X.blk s H scope (CE X scope C cl) fp) tg (semG G.K G.x g)) (ht : ∀ s H C cl fp, PTs (X.blk s H scope (CE X scope C cl) fp) ifs (semT G W0 tt))
    (hk : ∀ s H C cl fp, PE (X.blk s H scope (CE X scope C cl) fp) kx (semE G W0 tk)) (he : ∀ s H C cl fp, PE (X.blk s H scope (CE X scope C cl) fp) vx (semE G W0 tv)) (hs : ∀ x, foldedSetIterable iter X.env x = pure x := by intro _; rfl) :
    PE X (.DictComp kx vx [⟨tg, iter, ifs, 0⟩] scope pos) (semD G W (dcF fi g tt tk tv ws)) := by
  subst hw
  exact (pe_dcX hu hc hN hi ok hg ht hk he hs).imp fun σ H Q h => sem_dc hK (lc_ws hv) h
end
end Dn
/-! Dicts walked: keys, items. -/
namespace Dn
open PySem L2
theorem paired_at {α β : Type} {F : α → β → Prop} : ∀ {l : List α} {m : List β}, Paired F l m → ∀ {i : Nat} {a : α}, l[i]? = some a → ∃ b, m[i]? = some b ∧ F a b
  | _, _, .nil, i, a, h => by simp at h
  | _, _, .cons r p, 0, a, h => by simp at h; subst h; exact ⟨_, by simp, r⟩
  | _, _, .cons r p, i + 1, a, h => by simpa using paired_at p (by simpa using h)
/-- the dict's keys, in their order -/
def ItkX (d : Addr) (o : Obj) (rows : List (DKey × V × V)) : It :=
  ⟨fun i H => H d = some (dO d o) ∧ i < rows.length, fun i H x H' => H' = H ∧ ∃ k v, rows[i]? = some (k, x, v), fun i H => H d = some (dO d o) ∧ rows.length ≤ i⟩
/-- its items, each a new pair -/
def ItiX (d : Addr) (o : Obj) (rows : List (DKey × V × V)) : It :=
  ⟨fun i H => H d = some (dO d o) ∧ i < rows.length, fun i H x H' => ∃ T k u v, rows[i]? = some (k, u, v) ∧ x = .ref T ∧ H T = none ∧ H' = upd H T (.tup [u, v]), fun i H => H d = some (dO d o) ∧ rows.length ≤ i⟩
section
variable {P : Program} {w w' : World} {K : PySem.W.Frag} {tg : Expr} {d : Addr} {o : Obj} {es : Array DictEntry} {ep : Nat} {rows : List (DKey × V × V)}
theorem rows_size (R : RowsO w o rows) (hod : o.data = .dict es ep) : es.size = rows.length ∧ Paired (fun (r : DKey × V × V) (e : DictEntry) => e.hash = r.1.hash w ∧ RelV r.2.1 e.key ∧ RelV r.2.2 e.val) rows es.toList := by
  obtain ⟨es', ep', h1, h2⟩ := R.at_
  rw [hod] at h1
  cases h1
  have := Paired.length h2
  exact ⟨by rw [this]; simp, h2⟩
theorem turn_keysX (it : Addr) (R : RowsO w' o rows) (hod : o.data = .dict es ep) : Turn P w K tg (ItkX d o rows) [it] it (fun i h => h.IsKeyIter it d i rows.length ep) where
  mem := by simp
  obj := fun i h st b hb => by
    obtain rfl : b = it := by simpa using hb
    obtain ⟨oi, e, c, dd⟩ := st
    exact ⟨oi, e, fun v z => by rw [dd] at z; cases z⟩
  keep := fun i h h' st k => st.at fun oi e => k it (by simp) oi e
  item := by
    intro X hP hw hK hc i pins s σ H E I hf st hg
    obtain ⟨hd, hi⟩ := hg
    obtain ⟨f0, f1, f2, f3, f4, f5⟩ := hf it (by simp)
    obtain ⟨hsz, pr⟩ := rows_size R hod
    have hx : rows[i]? = some rows[i] := List.getElem?_eq_getElem hi
    obtain ⟨en, hen, _, hkey, _⟩ := paired_at pr hx
    subst hP hw hK
    refine next_key_item st (dO_at I hd) hod hsz (by simpa using hen) fun h' st' sb => ?_
    have I1 : Inv X pins σ H { s with heap := h' } := I.turned (t' := s.toks) (fun b ob hb e => (sb.2 b hb).trans e) f0 f1 f3 f4 f5
    obtain ⟨oi, e, c, dd⟩ := id st'
    exact ⟨en.key, rfl, go_of (s := { s with heap := h' }) e c dd (by decide) ⟨rows[i].2.1, H, I1, hkey, ⟨rfl, rows[i].1, rows[i].2.2, hx⟩, st', fun b hb => (hf b hb).1⟩⟩
  done := by
    intro X hP hw hK hc i pins s σ H E I hf st hg
    obtain ⟨hd, hi⟩ := hg
    obtain ⟨f0, f1, f2, f3, f4, f5⟩ := hf it (by simp)
    obtain ⟨hsz, pr⟩ := rows_size R hod
    subst hP hw hK
    exact next_key_end (I.ok.hd hc) st (dO_at I hd) hod hsz hi fun h' eb => ⟨rfl, I.turned (t' := s.toks) (fun b ob hb e => eb b ob hb e) f0 f1 f3 f4 f5⟩
  self := fun A i s Q E st h => by
    refine wpAny_pyIter_slot st.typeIs PySem.F.slot_dict_keyiterator_iter (wpAny_call_entry PySem.F.slot_dict_keyiterator_iter st.typeIs PySem.F.entry_dict_keyiterator_iter ?_ (PySem.F.args_dict_keyiterator_iter_1 _))
    show wpAny _ _ (ret (.ref it)) _ _ s
    exact wpAny_pure ⟨_, rfl, "dict_keyiterator", _, st.typeIs, PySem.F.slot_dict_keyiterator_next.lookup, h⟩
theorem turn_itemsX {elts : List Expr} {kk : Nat} {tpos : Pos} (it : Addr) (R : RowsO w' o rows) (hod : o.data = .dict es ep) :
    Turn P w K (.Tuple elts kk tpos) (ItiX d o rows) [it] it (fun i h => ∃ ok ov, IsItemIter h it d i rows.length ep ok ov) where
  mem := by simp
  obj := fun i h st b hb => by
    obtain rfl : b = it := by simpa using hb
    obtain ⟨ok, ov, e⟩ := st
    exact ⟨_, e, fun v z => nomatch z⟩
  keep := fun i h h' st k => let ⟨ok, ov, e⟩ := st; ⟨ok, ov, k it (by simp) _ e⟩
  item := by
    intro X hP hw hK hc i pins s σ H E I hf st hg
    obtain ⟨hd, hi⟩ := hg
    obtain ⟨hsz, pr⟩ := rows_size R hod
    have hx : rows[i]? = some rows[i] := List.getElem?_eq_getElem hi
    obtain ⟨en, hen, _, hkey, hval⟩ := paired_at pr hx
    obtain ⟨ok, ov, he⟩ := st
    rw [← hsz] at he
    have hlt : it < s.heap.objs.size := Heap.lt_size he
    have hie : i < es.size := by omega
    have een : es[i] = en := by
      have : es.toList[i]? = some es[i] := by simp [hie]
      rw [this] at hen
      exact Option.some.inj hen
    subst hP hw hK
    refine DT.nextI he ⟨o, dO_at I hd, R.ex, hod⟩ hie fun h' ho hT hz hk => ?_
    rw [een] at hT
    rw [een] at ho
    refine ⟨_, rfl, wpAny_letOwnedTupleGo_items (s := { s with heap := h' }) ho fun h'' he' sb => ?_⟩
    have hT2 : h''.get? s.heap.objs.size = some { cls := .type "tuple", data := .seq #[en.key, en.val] } := (sb.2 _ (Nat.ne_of_gt hlt)).trans hT
    have new : ObjOk X.prog X.w (upd H s.heap.objs.size (.tup [rows[i].2.1, rows[i].2.2])) h'' s.heap.objs.size (.tup [rows[i].2.1, rows[i].2.2]) :=
      ⟨by show 2 ≤ sizeLine; decide, [en.key, en.val], .cons hkey (.cons hval .nil), ⟨_, hT2, rfl, _, rfl⟩⟩
    have I1 : Inv X pins σ (upd H s.heap.objs.size (.tup [rows[i].2.1, rows[i].2.2])) { s with heap := h'' } :=
      I.turnedNew (t' := s.toks) (ch := [it]) (fun b ob hb e => (sb.2 b (by simpa using hb)).trans (hk b ob (by simpa using hb) e)) hf (Nat.le_refl _) new
    refine ⟨.ref s.heap.objs.size, _, I1, rfl, ⟨_, rows[i].1, _, _, hx, rfl, I.hok.fresh (Nat.le_refl _), rfl⟩, ⟨en.key, en.val, ?_⟩, fun b hb => ?_⟩
    · rw [← hsz]; exact he'
    · obtain rfl : b = it := by simpa using hb
      rw [upd_ne (Nat.ne_of_lt hlt)]
      exact (hf b (by simp)).1
  done := by
    intro X hP hw hK hc i pins s σ H E I hf st hg
    obtain ⟨hd, hi⟩ := hg
    obtain ⟨f0, f1, f2, f3, f4, f5⟩ := hf it (by simp)
    obtain ⟨hsz, pr⟩ := rows_size R hod
    obtain ⟨ok, ov, he⟩ := st
    rw [← hsz] at he
    subst hP hw hK
    exact DT.endI (I.ok.hd hc) he ⟨o, dO_at I hd, R.ex, hod⟩ (by omega) fun h' eb => ⟨rfl, I.turned (t' := s.toks) (fun b ob hb e => eb b ob hb e) f0 f1 f3 f4 f5⟩
  self := fun A i s Q E st h => let ⟨_, _, e⟩ := st; PySem.W.kcp_self e h
end
section
variable {X : Cx}
/-- a list, a tuple, a text, or a dict's keys -/
def iSeqX (X : Cx) (tl : TE) : TI := fun σ H R => tl σ H fun x H1 =>
  ((∃ a xs, x = .ref a ∧ SqL X.K H1 a xs ∧ (xs.length ≤ sizeLine → R (Itl X.K a) H1)) ∨ (∃ a xs, x = .ref a ∧ SqT X.K H1 a xs ∧ (xs.length ≤ sizeLine → R (Itt X.K a) H1)) ∨ ∃ z, x = .str z ∧ R (Its z) H1) ∨
  ∃ d o rows, x = .ref d ∧ (d == sysModules) = false ∧ H1 d = some (dO d o) ∧ RowsO X.w o rows ∧ R (ItkX d o rows) H1
theorem pi_seqX {tg l : Expr} {tl : TE} (hl : PE X l tl) : PI X tg l (iSeqX X tl) := by
  refine ⟨fun pins s σ H R I h => ?_⟩
  refine thn (hl.run pins s σ H _ I h) fun v s1 ⟨x, H1, I1, r1, q1⟩ => ?_
  rcases q1 with q1 | ⟨d, o, rows, e, hz, hd, R', q⟩
  · -- as pi_seq, over a value that stands
    have z : wpAny (model X.prog X.w) X.A (pyIter v) (PIE X pins σ tg R) X.xe s1 := by
      rcases q1 with ⟨a, xs, e, hq, q⟩ | ⟨a, xs, e, hq, q⟩ | ⟨z, e, q⟩
      · subst e
        cases r1
        obtain ⟨its, rv, p, hz⟩ := I1.list hq
        exact wpAny_pyIter_list p.isList (pi_one (tk := s1.toks) I1 _ (turn_list a _) ⟨_, Heap.get?_push_size _ rfl, rfl, rfl⟩ (q hz))
      · subst e
        cases r1
        obtain ⟨its, rv, p, hz⟩ := I1.tuple hq
        exact wpAny_pyIter_tuple (show s1.heap.IsTuple a its.toArray from p) (pi_one (tk := s1.toks) I1 _ (turn_tuple a _) ⟨_, Heap.get?_push_size _ rfl, rfl, rfl⟩ (q hz))
      · subst e
        obtain ⟨t, rfl⟩ := r1
        cases ha : z.cps.all (· < 128)
        · exact wpAny_pyIter_wide ha (pi_one (tk := s1.toks) I1 _ (turn_str _ z t "str_iterator" (.inr rfl)) ⟨_, Heap.get?_push_size _ rfl, rfl, rfl⟩ q)
        · exact wpAny_pyIter_ascii ha (pi_one (tk := s1.toks) I1 _ (turn_str _ z t "str_ascii_iterator" (.inl rfl)) ⟨_, Heap.get?_push_size _ rfl, rfl, rfl⟩ q)
    exact z
  · subst e
    obtain rfl : v = Value.ref d := r1
    obtain ⟨es, ep, hdt, pr⟩ := R'.at_
    refine iter_keys hz (dO_at I1 hd) R'.ex hdt (pi_one (tk := s1.toks) I1 _ (turn_keysX _ R' hdt) ⟨_, Heap.get?_push_size _ rfl, rfl, ?_⟩ q)
    rw [(rows_size R' hdt).1] <;> rfl
def iItemsX (X : Cx) (td : TE) : TI := fun σ H R => td σ H fun x H1 => ∃ d o rows, x = .ref d ∧ (d == sysModules) = false ∧ H1 d = some (dO d o) ∧ RowsO X.w o rows ∧ R (ItiX d o rows) H1
theorem pi_itemsX {e : Expr} {td : TE} {apos cpos : Pos} {elts : List Expr} {kk : Nat} {tpos : Pos} (he : PE X e td) (hbase : attributeBase e "items" X.env (eval e X.env) = eval e X.env := by rfl) (hline : (apos.endLine == cpos.line) = true := by rfl) :
    PI X (.Tuple elts kk tpos) (.Call (.Attribute e "items" apos) [] [] cpos) (iItemsX X td) := by
  refine ⟨fun pins s σ H R I h => ?_⟩
  refine wpAny_Call_method (T := "dict") (id := "dict.items") hbase rfl hline PySem.F.plainAttrs_dict PySem.F.slot_dict_items PySem.F.type_dict_items (thn (he.run pins s σ H _ I h) fun u s1 ⟨x, H1, I1, rx, d, o, rows, ex, hz, hd, R', q⟩ => ?_)
  subst ex
  obtain rfl : u = Value.ref d := rx
  obtain ⟨t1, t2⟩ := dO_type I1 hd R'
  obtain ⟨es, ep, hdt, pr⟩ := R'.at_
  have hsz := (rows_size R' hdt).1
  refine ⟨t1, t2, ?_⟩
  have raw : DT.Raw s1.heap d es ep := ⟨o, dO_at I1 hd, R'.ex, hdt⟩
  have I2 : Inv X pins σ H1 { s1 with heap := s1.heap.push { cls := .type "dict_items", data := .fields #[.ref d] } } := I1.kept (t' := s1.toks) fun b ob q => Heap.get?_push_of_some _ q
  refine Calls.callWith_builtin rfl (PySem.evalArgs_none (DT.callItems hz raw ?_))
  refine DT.iterI ⟨_, Heap.get?_push_size _ rfl, rfl, rfl⟩ (raw.push _) (pi_one (tk := s1.toks) I2 _ (turn_itemsX _ R' hdt) ⟨.none, .none, ?_⟩ q)
  rw [← hsz]
  exact Heap.get?_push_size _ rfl
end
@[simp] def itemsOf2 (d : D) : Option (List D) := match itemsOf d with
  | some xs => some xs
  | none => match d with
    | .dct kvs => some (kvs.map (·.1))
    | _ => none
/-- what is walked: a list, a tuple, a text, a dict's keys -/
@[simp] def seqI2 (f : EvE) : EvA := fun C e m => (f C e m).bind fun d m1 => .of (itemsOf2 d) m1
/-- d.items() -/
@[simp] def itmsI (f : EvE) : EvA := fun C e m => (f C e m).bind fun d m1 => .of (match d with
  | .dct kvs => some (kvs.map fun p => .tup [p.1, p.2])
  | _ => none) m1
section
variable {K : KW} {S H : Hp} {t : Th} {m : Store}
theorem dkv_at {rows : List (DKey × V × V)} : ∀ {kvs : List (D × D)} {i : Nat} {c d : D}, DKV K S t rows kvs → kvs[i]? = some (c, d) → ∃ k u v, rows[i]? = some (k, u, v) ∧ DR K S t u c ∧ DR K S t v d := by
  induction rows with
  | nil => intro kvs i c d h e; cases h; simp at e
  | cons r rows ih =>
    intro kvs i c d h e
    cases h with
    | cons k1 h1 h2 h3 =>
      cases i with
      | zero => simp at e; obtain ⟨rfl, rfl⟩ := e; exact ⟨_, _, _, rfl, h1, h2⟩
      | succ i => simpa using ih h3 (by simpa using e)
theorem itr_keysX {a : Addr} {o : Obj} {rows : List (DKey × V × V)} {kvs : List (D × D)} (h : S a = some (dO a o)) (sz : rows.length ≤ sizeLine) (dk : DKV K S t rows kvs) : ItR K S t (ItkX a o rows) (kvs.map (·.1)) where
  len := by rw [List.length_map, ← dkv_len dk]; exact sz
  go := fun i d S2 H2 t2 m2 e ss ts i2 => by
    rw [List.getElem?_map] at e
    cases q : kvs[i]? with
    | none => rw [q] at e; cases e
    | some p =>
      rw [q] at e
      cases e
      obtain ⟨k, u, v, h1, h2, h3⟩ := dkv_at dk q
      refine ⟨⟨i2.sub _ _ (ss _ _ h), (List.getElem?_eq_some_iff.mp h1).1⟩, fun x H' ⟨e1, k', v', e2⟩ => ?_⟩
      subst e1
      rw [h1] at e2
      cases e2
      exact ⟨S2, .refl, i2, h2.mono ss ts⟩
  stop := fun S2 H2 t2 m2 ss ts i2 => ⟨i2.sub _ _ (ss _ _ h), by rw [List.length_map, dkv_len dk]; exact Nat.le_refl _⟩
theorem itr_itemsX {a : Addr} {o : Obj} {rows : List (DKey × V × V)} {kvs : List (D × D)} (h : S a = some (dO a o)) (sz : rows.length ≤ sizeLine) (dk : DKV K S t rows kvs) : ItR K S t (ItiX a o rows) (kvs.map fun p => .tup [p.1, p.2]) where
  len := by rw [List.length_map, ← dkv_len dk]; exact sz
  go := fun i d S2 H2 t2 m2 e ss ts i2 => by
    rw [List.getElem?_map] at e
    cases q : kvs[i]? with
    | none => rw [q] at e; cases e
    | some p =>
      rw [q] at e
      cases e
      obtain ⟨k, u, v, h1, h2, h3⟩ := dkv_at dk q
      refine ⟨⟨i2.sub _ _ (ss _ _ h), (List.getElem?_eq_some_iff.mp h1).1⟩, fun x H' ⟨T, k', u', v', e2, ex, hT, e1⟩ => ?_⟩
      subst e1 ex
      rw [h1] at e2
      cases e2
      obtain ⟨i3, p3⟩ := new_hi (o := .tup [u, v]) i2 hT
      have s3 := i2.ssub p3
      exact ⟨_, p3, i3, .tup (.inl (.inl upd_same)) (.cons ((h2.mono ss ts).mono s3 p3.th) (.cons ((h3.mono ss ts).mono s3 p3.th) .nil))⟩
  stop := fun S2 H2 t2 m2 ss ts i2 => ⟨i2.sub _ _ (ss _ _ h), by rw [List.length_map, dkv_len dk]; exact Nat.le_refl _⟩
end
section
variable {X : Cx} {G : Cfg} {W : WX} {tg a : Expr} {fa : EvE} {pos p : Pos}
theorem di_seq2 (hK : X.kw = G.K) (ha : PE X a (semE G W fa)) : PI X tg a (semI G W (seqI2 fa)) := by
  have hw : X.w = G.K.w := congrArg KW.w hK
  refine (pi_seqX ha).imp fun σ H R ⟨S, t, m, e, si, g⟩ => ⟨S, t, m, e, si, (Gd.sp g).imp fun S1 H1 t1 m1 d p1 i1 h1 v rv => ?_⟩
  rw [kw_K hK]
  cases rv with
  | lst h hs => exact .inl (.inl ⟨_, _, rfl, .of (i1.sub _ _ h), fun hl => Gd.now h1 i1 _ (itr_list (.of h) hs hl)⟩)
  | frz h hs => exact .inl (.inl ⟨_, _, rfl, i1.sub.sqL h, fun hl => Gd.now h1 i1 _ (itr_list h hs hl)⟩)
  | tup h hs => exact .inl (.inr (.inl ⟨_, _, rfl, i1.sub.sqT h, fun hl => Gd.now h1 i1 _ (itr_tup h hs hl)⟩))
  | str z =>
    refine .inl (.inr (.inr ⟨z, rfl, ?_⟩))
    have h2 : Gd G W σ S1 H1 t1 (Dn.R.of (match (if short z.cps.toList = true then some (signs z) else none) with
      | some xs => some xs
      | none => none) m1) _ := h1
    by_cases c : short z.cps.toList = true
    · rw [if_pos c] at h2
      exact Gd.now h2 i1 _ (itr_str (by have := short_le c; simpa [Str.length] using this))
    · rw [if_neg c] at h2; exact h2.elim
  | dct hz hS RR dk => exact .inr ⟨_, _, _, rfl, hz, i1.sub _ _ hS, by rw [hw]; exact RR, Gd.now h1 i1 _ (itr_keysX hS RR.sz dk)⟩
  | non => exact h1.elim
  | bl b => exact h1.elim
  | int b => exact h1.elim
  | ref b => exact h1.elim
  | ins _ _ _ => exact h1.elim
theorem di_items {apos cpos : Pos} {elts : List Expr} {kk : Nat} {tpos : Pos} (hK : X.kw = G.K) (ha : PE X a (semE G W fa)) (hbase : attributeBase a "items" X.env (eval a X.env) = eval a X.env := by rfl) (hline : (apos.endLine == cpos.line) = true := by rfl) :
    PI X (.Tuple elts kk tpos) (.Call (.Attribute a "items" apos) [] [] cpos) (semI G W (itmsI fa)) := by
  have hw : X.w = G.K.w := congrArg KW.w hK
  refine (pi_itemsX ha hbase hline).imp fun σ H R ⟨S, t, m, e, si, g⟩ => ⟨S, t, m, e, si, (Gd.sp g).imp fun S1 H1 t1 m1 d p1 i1 h1 v rv => ?_⟩
  cases rv with
  | dct hz hS RR dk => exact ⟨_, _, _, rfl, hz, i1.sub _ _ hS, by rw [hw]; exact RR, Gd.now h1 i1 _ (itr_itemsX hS RR.sz dk)⟩
  | _ => exact h1.elim
end
end Dn
/-! An instance that never changes again is settled. -/
namespace Dn
open PySem L2
mutual
/-- no name of the store stands in it -/
def noR : D → Bool
  | .ref _ => false
  | .tup xs => noRs xs
  | .lst xs => noRs xs
  | .frz xs => noRs xs
  | .dct kvs => noRk kvs
  | .ins _ fs => noRf fs
  | _ => true
def noRs : List D → Bool
  | [] => true
  | d :: ds => noR d && noRs ds
def noRk : List (D × D) → Bool
  | [] => true
  | (c, d) :: r => noR c && (noR d && noRk r)
def noRf : List (Str × D) → Bool
  | [] => true
  | (_, d) :: r => noR d && noRf r
end
def noRo : Ob → Bool
  | .lst xs => noRs xs
  | .ins _ fs => noRf fs
  | .dct kvs => noRk kvs
  | .gone => true
section
variable {K : KW} {S : Hp} {t t' : Th}
mutual
theorem DR.noR : ∀ {v : V} {d : D}, noR d = true → DR K S t v d → DR K S t' v d
  | _, _, _, .non => .non
  | _, _, _, .bl b => .bl b
  | _, _, _, .int i => .int i
  | _, _, _, .str x => .str x
  | _, _, n, .lst h hs => .lst h (DRs.noR (by simpa [Dn.noR] using n) hs)
  | _, _, n, .frz h hs => .frz h (DRs.noR (by simpa [Dn.noR] using n) hs)
  | _, _, n, .tup h hs => .tup h (DRs.noR (by simpa [Dn.noR] using n) hs)
  | _, _, n, .ref h => by simp [Dn.noR] at n
  | _, _, n, .ins c h hs => .ins c h (FRs.noR (by simpa [Dn.noR] using n) hs)
  | _, _, n, .dct z h r hs => .dct z h r (DKV.noR (by simpa [Dn.noR] using n) hs)
theorem DRs.noR : ∀ {vs : List V} {ds : List D}, noRs ds = true → DRs K S t vs ds → DRs K S t' vs ds
  | _, _, _, .nil => .nil
  | _, _, n, .cons h hs => .cons (DR.noR (by simp [Dn.noRs] at n; exact n.1) h) (DRs.noR (by simp [Dn.noRs] at n; exact n.2) hs)
theorem FRs.noR : ∀ {vs : List (Str × V)} {ds : List (Str × D)}, noRf ds = true → FRs K S t vs ds → FRs K S t' vs ds
  | _, _, _, .nil => .nil
  | _, _, n, .cons h hs => .cons (DR.noR (by simp [Dn.noRf] at n; exact n.1) h) (FRs.noR (by simp [Dn.noRf] at n; exact n.2) hs)
theorem DKV.noR : ∀ {vs : List (DKey × V × V)} {ds : List (D × D)}, noRk ds = true → DKV K S t vs ds → DKV K S t' vs ds
  | _, _, _, .nil => .nil
  | _, _, n, .cons k h g hs => .cons k (DR.noR (by simp [Dn.noRk] at n; exact n.1) h) (DR.noR (by simp [Dn.noRk] at n; exact n.2.1) g) (DKV.noR (by simp [Dn.noRk] at n; exact n.2.2) hs)
end
theorem ObR.noR {a : Addr} {u : HO} {o : Ob} (n : noRo o = true) (h : ObR K S t a u o) : ObR K S t' a u o := by
  cases h with
  | lst h => exact .lst (h.noR n)
  | dct z r h => exact .dct z r (h.noR n)
  | ins c h => exact .ins c (h.noR n)
end
theorem stl_hi {K : KW} {S H S' H' : Hp} {t t' : Th} {m m' : Store} {c : Str} {fs : List (Str × D)} (i : HI K S H t m) (p : Stp S H t S' H' t') (i' : HI K S' H' t' m') (hm : m'[m.length]? = some (.ins c fs)) (nr : m'.all noRo = true) (hl : m'.length = m.length + 1) :
    ∃ a S2 t2, t' m.length = some a ∧ Stp S H t S2 H' t2 ∧ HI K S2 H' t2 (m'.take m.length) ∧ DR K S2 t2 (.ref a) (.ins c fs) := by
  obtain ⟨a, u, h1, h2, h3, h4⟩ := i'.stb _ _ hm (by simp)
  have nn := fun o ho => List.all_eq_true.mp nr o ho
  have nf : noRf fs = true := nn _ (List.mem_of_getElem? hm)
  cases h4 with
  | @ins C dx _ vs _ hc hf =>
    have tl : ∀ {k : Nat} {b : Addr}, t k = some b → k < m.length := fun {k b} e => by
      rcases Nat.lt_or_ge k m.length with z | z
      · exact z
      · rw [i.out k z] at e; cases e
    have ha : H a = none := p.thn _ _ h1 (i.out _ (Nat.le_refl _))
    have ss : Sub S' (upd S' a (.ins C dx vs)) := fun b o e => by rw [upd_ne (fun z => by subst z; rw [h2] at e; cases e)]; exact e
    refine ⟨a, upd S' a (.ins C dx vs), fun k => if k < m.length then t' k else none, h1, ⟨p.keep, p.dom, fun b hb => ?_, fun k b e => ?_, fun k b e g => ?_⟩, ⟨fun b o e => ?_, fun k o e g => ?_, fun k b e => ?_, fun k j b e g => ?_, fun k e => ?_⟩,
      .ins hc upd_same ((hf.noR (t' := fun k => if k < m.length then t' k else none) nf).mono ss (.refl _))⟩
    · rw [upd_ne (fun z => hb (by rw [z]; exact ha))]; exact p.hs b hb
    · rw [if_pos (tl e)]; exact p.th _ _ e
    · skip
      split at e
      · exact p.thn _ _ e g
      · cases e
    · by_cases z : b = a
      · subst z; rw [upd_same] at e; cases e; exact h3
      · rw [upd_ne z] at e; exact i'.sub _ _ e
    · have hk : k < m.length := by
        rcases Nat.lt_or_ge k m.length with z | z
        · exact z
        · rw [List.getElem?_eq_none (by simp; omega)] at e; cases e
      rw [List.getElem?_take_of_lt hk] at e
      obtain ⟨b, w, e1, e2, e3, e4⟩ := i'.stb k o e g
      refine ⟨b, w, ?_, ?_, e3, (e4.noR (nn _ (List.mem_of_getElem? e))).mono ss (.refl _)⟩
      · rw [if_pos hk]; exact e1
      · rw [upd_ne (fun z => by subst z; have := i'.inj _ _ _ e1 h1; omega)]; exact e2
    · skip
      split at e
      · exact i'.off _ _ e
      · cases e
    · skip
      split at e <;> split at g
      · exact i'.inj _ _ _ e g
      all_goals first | cases e | cases g
    · skip
      rw [if_neg]
      simp at e
      omega
/-- what was made is settled at once -/
def stlR (k : Nat) (d : D) (m : Store) : R D := match d with
  | .ref n => match m[n]? with
    | some (.ins c fs) => if n = k ∧ m.length = k + 1 ∧ m.all noRo = true then .ok (.ins c fs) (m.take k) else .stuck
    | _ => .stuck
  | _ => .stuck
@[simp] def stlE (f : EvE) : EvE := fun C e m => (f C e m).bind fun d m1 => stlR m.length d m1
section
variable {X : Cx} {G : Cfg} {W : WX} {a : Expr} {fa : EvE}
theorem de_stl (h : PE X a (semE G W fa)) : PE X a (semE G W (stlE fa)) := h.imp fun σ H Q ⟨S, t, m, e, si, g⟩ => ⟨S, t, m, e, si, by
  revert g
  show Gd G W σ S H t ((fa G.C e m).bind fun d m1 => stlR m.length d m1) _ → _
  cases fa G.C e m with
  | exc c fs m' => exact id
  | stuck => exact id
  | ok d m' =>
    intro g S' H' t' p i v rv
    rw [R.bind_ok] at g
    unfold stlR at g
    split at g
    · split at g
      · rename_i n _ c fs hm
        split at g
        · rename_i hn
          obtain ⟨hn, hl, nr⟩ := hn
          subst hn
          obtain ⟨b, S2, t2, h1, h2, h3, h4⟩ := stl_hi si.hi p i hm nr hl
          cases rv with
          | ref hv =>
            rw [h1] at hv
            cases hv
            exact g S2 H' t2 h2 h3 _ h4
        · exact g.elim
      · exact g.elim
    · exact g.elim⟩
end
end Dn
/-! == and != of instances whose class has an __eq__ of its own. -/
namespace Dn
open PySem L2
section
open PySem.Spec PyProof.Rows PySem.SeqAt
variable {M : Model} {prog : Program} {w : World} {A : Around} {E : Value → Shared → Prop} {s : Shared} {K : PySem.W.Frag} {x y C f : Addr} {ox oy : Obj} {od oe : Option Obj}
theorem ifb_ne {args : List Value} {Q : Option Value → Shared → Prop} (X : K.In s.heap) (I : PySem.W.InstAt s.heap x ox C od)
    (hs : PySem.W.findIn K (.ref C) "__ne__" = some (some (.builtin "object.__ne__")))
    (h : wpAny M A (call (.builtin "object.__ne__") (.ref x :: args)) (fun v => Q (some v)) E s) : wpAny M A (callSpecialIfBound? (.ref x) "__ne__" args) Q E s := by
  have last : wpAny M A ((call (.builtin "object.__ne__") ([.ref x] ++ args)) >>= fun v => pure (some v)) Q E s :=
    wpAny_bind (wpAny_mono h (fun _ _ z => wpAny_pure z) fun _ _ z => z)
  simp only [callSpecialIfBound?, bindSpecialIfBound?]
  refine wpAny_holding (wpAny_bind (wpAny_bind (wpAny_bind (I.type.here ((PySem.W.looks_findIn X hs).here (wpAny_bind (wpAny_askSetting (wpAny_ite ?_))))))))
  split
  · refine wpAny_bind (wpAny_of_eq (F.cmp_object.ne.bind _) (wpAny_pure ?_))
    exact last
  · refine wpAny_tryCatch (wpAny_bind (wpAny_of_eq (F.cmp_object.ne.bind _) (wpAny_pure ?_)))
    exact last
theorem ne_fin {Q : Fin → Shared → Prop} (hu : A.units < cLine) (X : K.In s.heap) (I : PySem.W.InstAt s.heap x ox C od) (hs : PySem.W.findIn K (.ref C) "__eq__" = some (some (.ref f))) (hf : PySem.W.isFn K (.ref f) = true)
    (h : wpAny (model prog w) A (call (.ref f) [.ref x, .ref y]) (fun v s' => ∃ k, v = .bool k ∧ Q (.done (.ret (.bool (!k)))) s') E s) : wpAny (model prog w) A (Builtin.«object.__ne__» ⟨[.ref x, .ref y], []⟩) Q E s := by
  unfold Builtin.«object.__ne__»
  repeat (first
    | with_reducible refine wpAny_cRoomFor hu ?_
    | (refine wpAny_bind (m := callSpecialIfBound? (.ref x) (Str.ofString "__eq__") [.ref y]) (PySem.W.ifBound_K X I hs hf (wpAny_mono h (fun v s' z => ?_) fun _ _ z => z))
       obtain ⟨k, rfl, q⟩ := z
       repeat (first | exact q | exact wpAny_pure q | exact wpAny_truthy_bool q | (refine wpAny_bind (m := truthy (.bool _)) (wpAny_truthy_bool ?_)) | wp_step))
    | wp_step)
theorem cmp_ne {Q : Value → Shared → Prop} (hu : A.units + 1 < cLine) (X : K.In s.heap) (I : PySem.W.InstAt s.heap x ox C od) (J : PySem.W.InstAt s.heap y oy C oe)
    (hn : PySem.W.findIn K (.ref C) "__ne__" = some (some (.builtin "object.__ne__"))) (hm : PySem.W.mroIn K C (.type "object") = some true) (hs : PySem.W.findIn K (.ref C) "__eq__" = some (some (.ref f))) (hf : PySem.W.isFn K (.ref f) = true)
    (h : wpAny (model prog w) A.in1 (call (.ref f) [.ref x, .ref y]) (fun v s' => ∃ k, v = .bool k ∧ Q (.bool (!k)) s') E s) : wpAny (model prog w) A (richCompare .NotEq (.ref x) (.ref y)) Q E s := by
  have one : wpAny (model prog w) A (tryCompare (.ref x) "__ne__" (.ref y)) (fun r s' => ∃ k, r = some (.bool k) ∧ Q (.bool k) s') E s := by
    unfold tryCompare
    refine wpAny_bind (ifb_ne X I hn (wpAny_call (codeAny_call_builtin F.cmp_object.ne.plain F.cmpEntry_ne (PySem.W.check_slot F.cmpKind_ne F.cmpSplit_ne (I.type.andThen (PySem.W.looks_mroIn X hm)) (F.cmpArgs_ne _ _) ?_))))
    refine ne_fin (A := A.in1) hu X I hs hf (wpAny_mono h (fun v s' z => ?_) fun _ _ z => z)
    obtain ⟨k, rfl, q⟩ := z
    exact ⟨k, rfl, wpAny_pure ⟨_, rfl, q⟩⟩
  unfold richCompare
  simp only [oneThing_ref, cmpInfo_NotEq]
  refine wpAny_holding (wpAny_bind (wpAny_cRoomFor (Nat.lt_of_succ_lt hu) ?_))
  refine wpAny_bind (I.type.here (wpAny_bind (J.type.here ?_)))
  rw [show (Value.ref C != Value.ref C) = false from by simp]
  simp only [Bool.false_eq_true, if_false]
  refine wpAny_bind (wpAny_pure ?_)
  simp only [Bool.false_eq_true, if_false]
  refine wpAny_bind (wpAny_mono one (fun r s' z => ?_) fun _ _ z => z)
  obtain ⟨k, rfl, q⟩ := z
  exact wpAny_pure q
end

/-! ### by data -/
section
variable {P : Program} {w : World} {K : PySem.W.Frag} {mg : Str → Option Value} {base : Heap}
/-- a method that may be called from one deeper -/
structure MtL (P : Program) (w : World) (K : PySem.W.Frag) (mg : Str → Option Value) (base : Heap) (G : Cfg) (n f np : Nat) (C : Addr) (x : Str) : Prop where
  ok : ∃ (j : Nat) (a : Addr) (fd : FuncData) (ps : List Str), FnOk P w K mg base (L2N.CX P w) j a fd ps (spD G f np) ∧ Meth K C x a ∧ Binds K fd ps [] ∧ (j + 1 ≤ n ∨ ∀ vs H Q E, ¬ spD G f np vs H Q E)
theorem mtl_zero {T : Tab} {Xs : Nat → Option (Addr × List Str)} {k f np : Nat} {C : Addr} {x : Str} (F : Mth P w K mg base ⟨⟨K, w⟩, run T 0, Xs, none⟩ 0 f np C x) : MtL P w K mg base ⟨⟨K, w⟩, run T 0, Xs, none⟩ 0 k np C x := by
  obtain ⟨a, fd, ps, F, hm, hb⟩ := F.ok
  have no : ∀ (j : Nat) vs H Q E, ¬ spD ⟨⟨K, w⟩, run T 0, Xs, none⟩ j np vs H Q E := fun j vs H Q E ⟨_, _, _, _, _, _, _, g⟩ => g.elim
  exact ⟨0, a, fd, ps, F.imp fun _ _ _ _ h => absurd h (no _ _ _ _ _), hm, hb, .inr (no k)⟩
theorem mtl_step {T : Tab} {Xs : Nat → Option (Addr × List Str)} {n k f np : Nat} {C : Addr} {x : Str} (F : Mth P w K mg base ⟨⟨K, w⟩, run T n, Xs, none⟩ n f np C x) (hT : T k = some ⟨np, np, callS f⟩) :
    MtL P w K mg base ⟨⟨K, w⟩, run T (n + 1), Xs, none⟩ (n + 1) k np C x := by
  obtain ⟨a, fd, ps, F, hm, hb⟩ := F.ok
  refine ⟨n, a, fd, ps, F.imp fun vs H Q E ⟨hl, S, t, m, ds, hi, hd, g⟩ => ⟨hl, S, t, m, ds, hi, hd, ?_⟩, hm, hb, .inl (Nat.le_refl _)⟩
  have g : Gd _ _ _ S H t (run T (n + 1) k ds m) _ := g
  rwa [run_wrap hT (hd.length.symm.trans hl)] at g
end
def boolR (f : Bool → Bool) (r : R D) : R D := match r with
  | .ok (.bl b) m => .ok (.bl (f b)) m
  | _ => .stuck
/-- x == y, x != y (g: what becomes of the answer), f the def of __eq__ -/
@[simp] def ownEqE (g : Bool → Bool) (c : Str) (f : Nat) (a b : EvE) : EvE := fun C e m => (a C e m).bind fun x m1 => (b C e m1).bind fun y m2 => match insG m2 x, insG m2 y with
  | some (c', _), some (c2, _) => if c' = c ∧ c2 = c then boolR g (C f [x, y] m2) else .stuck
  | _, _ => .stuck
def rOwnD (G : Cfg) (f : Nat) (C : Addr) (g : Bool → Bool) : R2 := fun x y H Q => ∃ a dx vs b dy ws, x = .ref a ∧ y = .ref b ∧ H a = some (.ins C dx vs) ∧ H b = some (.ins C dy ws) ∧ spD G f 2 [x, y] H (fun v H' => ∃ k, v = .bl k ∧ Q (.bl (g k)) H') fun _ _ _ => False
section
variable {X : Cx} {G : Cfg} {W : WX} {a b : Expr} {fa fb : EvE} {pos : Pos} {n f : Nat} {C : Addr} {c : Str}
theorem run_own {pins : List (Addr × Obj)} {σ : St} {H : Hp} {s : Shared} {Q : VK} {j : Nat} {A' : Around} {ad x y : Addr} {fd : FuncData} {ps : List Str} {g : Bool → Bool} (F : FnOk X.prog X.w X.K X.mg X.base (L2N.CX X.prog X.w) j ad fd ps (spD G f 2)) (hb : Binds X.K fd ps [])
    (hr : Room j A') (e0 : Env0 X.prog X.w X.K X.mg X.base A' X.stack s H) (I : Inv X pins σ H s) (q : spD G f 2 [.ref x, .ref y] H (fun v H' => ∃ k, v = .bl k ∧ Q (.bl (g k)) H') fun _ _ _ => False) :
    wpAny (model X.prog X.w) A' (call (.ref ad) [.ref x, .ref y]) (fun v s' => ∃ k, v = .bool k ∧ EP X pins σ Q (.bool (g k)) s') X.xe s := by
  have r2 : Vals [V.ref x, V.ref y] [Value.ref x, Value.ref y] := .cons rfl (.cons rfl .nil)
  have hl := F.len _ _ _ _ q
  have bs := hb s [.ref x, .ref y] I.kIn (by simpa using hl)
  rw [List.append_nil] at bs
  refine wpAny_call (codeAny_mono (F.run A' X.stack s H ⟨[.ref x, .ref y], []⟩ [.ref x, .ref y] [.ref x, .ref y] _ _ hr e0 bs r2 q) fun r s' hq => ?_)
  cases r with
  | error e => exact L2N.passAt (takes0 (X := X)) σ pins H s e s' I hq
  | ok fl =>
    cases fl with
    | ret u =>
      obtain ⟨z, H', I', rz, k, ez, hz⟩ := I.after hq
      subst ez
      cases rz
      exact ⟨k, rfl, .bl (g k), H', I', rfl, hz⟩
    | next => exact False.elim hq
    | brk => exact False.elim hq
    | cont => exact False.elim hq
theorem op_eqOwn (F : MtL X.prog X.w X.K X.mg X.base G n f 2 C "__eq__") (hr : Room n X.A) : OpR X (compareOp .Eq) (rOwnD G f C id) := by
  intro pins s σ H x y v u Q I rx ry h
  obtain ⟨a, dx, vs, b, dy, ws, rfl, rfl, ha, hb, q⟩ := h
  cases rx
  cases ry
  obtain ⟨j, ad, fd, ps, F, hm, hbd, hj⟩ := F.ok
  have hr' : Room (j + 1) X.A := hj.elim (fun z => hr.mono z) (fun z => absurd q (z _ _ _ _))
  obtain ⟨_, J, _⟩ := ins_get I.hok ha
  obtain ⟨_, J', _⟩ := ins_get I.hok hb
  obtain ⟨_, J, _⟩ := J.look
  obtain ⟨_, J', _⟩ := J'.look
  obtain ⟨mm, hF⟩ := I.fr
  show wpAny (model X.prog X.w) X.A (richCompare .Eq (.ref a) (.ref b)) _ X.xe s
  refine PySem.W.cmp_K (op := .Eq) (tb := .ref C) hr.units0 hF I.ok.mod.kin J J'.type (by simp [PySem.W.notFirst]) hm.at_ hm.fn (wpAny_mono (run_own F hbd (hr'.mono (Nat.le_succ j)) I.env0 I q) (fun v s' z => ?_) fun _ _ z => z)
  obtain ⟨k, rfl, z⟩ := z
  exact z
theorem op_neOwn (F : MtL X.prog X.w X.K X.mg X.base G n f 2 C "__eq__") (hr : Room n X.A) (hn : PySem.W.findIn X.K (.ref C) "__ne__" = some (some (.builtin "object.__ne__"))) (ho : PySem.W.mroIn X.K C (.type "object") = some true) : OpR X (compareOp .NotEq) (rOwnD G f C not) := by
  intro pins s σ H x y v u Q I rx ry h
  obtain ⟨a, dx, vs, b, dy, ws, rfl, rfl, ha, hb, q⟩ := h
  cases rx
  cases ry
  obtain ⟨j, ad, fd, ps, F, hm, hbd, hj⟩ := F.ok
  have hr' : Room (j + 1) X.A := hj.elim (fun z => hr.mono z) (fun z => absurd q (z _ _ _ _))
  obtain ⟨_, J, _⟩ := ins_get I.hok ha
  obtain ⟨_, J', _⟩ := ins_get I.hok hb
  obtain ⟨_, J, _⟩ := J.look
  obtain ⟨_, J', _⟩ := J'.look
  show wpAny (model X.prog X.w) X.A (richCompare .NotEq (.ref a) (.ref b)) _ X.xe s
  exact cmp_ne (by have := hr'.un; omega) I.kIn J J' hn ho hm.at_ hm.fn (run_own F hbd hr'.in1 I.env0.in1 I q)
theorem own_use {g : Bool → Bool} (T : ClsT X.K X.mg c C) (hK : X.kw = G.K) {σ : St} {H : Hp} {Q : VK} (h : semE G W (ownEqE g c f fa fb) σ H Q) : tOp (rOwnD G f C g) (semE G W fa) (semE G W fb) σ H Q := by
  obtain ⟨S, t, m, e, si, h⟩ := h
  refine ⟨S, t, m, e, si, (Gd.split h).imp fun S1 H1 t1 m1 x p1 i1 ⟨_, _, h1⟩ v rv => ?_⟩
  refine ⟨S1, t1, m1, e, si.stp p1 i1, (Gd.split h1).imp fun S2 H2 t2 m2 y p2 i2 ⟨_, _, h2⟩ u ru => ?_⟩
  have rv := rv.stp i1 p2
  cases hx : insG m2 x with
  | none => rw [hx] at h2; exact h2.elim
  | some zx =>
    cases hy : insG m2 y with
    | none => rw [hx, hy] at h2; exact h2.elim
    | some zy =>
      rw [hx, hy] at h2
      obtain ⟨cx, fx⟩ := zx
      obtain ⟨cy, fy⟩ := zy
      dsimp only at h2
      split at h2
      · rename_i hc
        obtain ⟨rfl, rfl⟩ := hc
        obtain ⟨a, Ca, dx, vs, rfl, a1, a2, _⟩ := insAt i2 rv hx
        obtain ⟨b, Cb, dy, ws, rfl, b1, b2, _⟩ := insAt i2 ru hy
        have ta := T.at_
        rw [kw_K hK] at ta
        obtain rfl : Ca = C := by rw [a1] at ta; exact Option.some.inj ta
        obtain rfl : Cb = Ca := by rw [b1] at a1; exact Option.some.inj a1
        refine ⟨a, dx, vs, b, dy, ws, rfl, rfl, a2, b2, rfl, S2, t2, m2, [x, y], i2, .cons rv (.cons ru .nil), ?_⟩
        revert h2
        show Gd G W σ S2 H2 t2 (boolR g (G.C f [x, y] m2)) _ → _
        cases G.C f [x, y] m2 with
        | exc c gs m3 => exact fun h => h.elim
        | stuck => exact fun h => h.elim
        | ok d m3 =>
          cases d with
          | bl k => exact fun h S' H' t' p i v rv => ⟨k, by cases rv; rfl, h S' H' t' p i _ (.bl _)⟩
          | _ => exact fun h => h.elim
      · exact h2.elim
theorem de_eqOwn (T : ClsT X.K X.mg c C) (F : MtL X.prog X.w X.K X.mg X.base G n f 2 C "__eq__") (hr : Room n X.A) (hK : X.kw = G.K) (ha : PE X a (semE G W fa)) (hb : PE X b (semE G W fb)) (hm : behindInMarks .Eq b = false) : PE X (.Compare a [.Eq] [b] pos) (semE G W (ownEqE id c f fa fb)) :=
  (pe_cmpR (op_eqOwn F hr) ha hb hm).imp fun σ H Q h => own_use T hK h
theorem de_neOwn (T : ClsT X.K X.mg c C) (F : MtL X.prog X.w X.K X.mg X.base G n f 2 C "__eq__") (hr : Room n X.A) (hn : PySem.W.findIn X.K (.ref C) "__ne__" = some (some (.builtin "object.__ne__"))) (ho : PySem.W.mroIn X.K C (.type "object") = some true) (hK : X.kw = G.K)
    (ha : PE X a (semE G W fa)) (hb : PE X b (semE G W fb)) (hm : behindInMarks .NotEq b = false) : PE X (.Compare a [.NotEq] [b] pos) (semE G W (ownEqE not c f fa fb)) :=
  (pe_cmpR (op_neOwn F hr hn ho) ha hb hm).imp fun σ H Q h => own_use T hK h
end
end Dn
/-! == and != of dicts. -/
namespace Dn
open PySem L2 PySem.SeqAt
/-! ### rows by place -/
theorem rget_none {rows : List (DKey × V × V)} {k : DKey} (h : ∀ r ∈ rows, r.1 ≠ k) : rget rows k = none := by
  unfold rget
  rw [List.find?_eq_none.mpr (fun r hr => by simpa using h r hr)]
  rfl
theorem rget_at {rows : List (DKey × V × V)} (nd : (rows.map (·.1)).Nodup) : ∀ {j : Nat} {r : DKey × V × V}, rows[j]? = some r → rget rows r.1 = some r.2.2 := by
  induction rows with
  | nil => intro j r h; simp at h
  | cons q rows ih =>
    intro j r h
    rw [List.map_cons, List.nodup_cons] at nd
    unfold rget at ih ⊢
    rw [List.find?_cons]
    cases j with
    | zero => simp at h; subst h; rw [decide_eq_true rfl]; rfl
    | succ j =>
      have h' : rows[j]? = some r := by simpa using h
      have hm : r.1 ∈ rows.map (·.1) := List.mem_map_of_mem (List.mem_of_getElem? h')
      rw [decide_eq_false (show ¬ q.1 = r.1 from fun e => nd.1 (by rw [e]; exact hm))]
      exact ih nd.2 h'
theorem paired_back {α β : Type} {F : α → β → Prop} : ∀ {l : List α} {m : List β}, Paired F l m → ∀ {i : Nat} {b : β}, m[i]? = some b → ∃ a, l[i]? = some a ∧ F a b
  | _, _, .nil, i, a, h => by simp at h
  | _, _, .cons r p, 0, a, h => by simp at h; subst h; exact ⟨_, by simp, r⟩
  | _, _, .cons r p, i + 1, a, h => by simpa using paired_back p (by simpa using h)
section
variable {X : Cx} {pins : List (Addr × Obj)} {σ : St} {H : Hp} {s : Shared} {a b : Addr} {o o' : Obj} {rows rows' : List (DKey × V × V)} {k : DKey} {y : V} {u : Value} {A : Around} {E : Value → Shared → Prop} {es : Array DictEntry} {ep : Nat}
/-- a key is sought -/
theorem x_find {Q : Option Nat → Shared → Prop} (hu : A.units + 64 < cLine) (I : Inv X pins σ H s) (h : H a = some (dO a o)) (R : RowsO X.w o rows) (hod : o.data = .dict es ep) (ks : ∀ r ∈ rows, KeyIs s.heap r.1 r.2.1) (hk : KeyIs s.heap k y) (hm : Hom rows k) (ry : RelV y u)
    (qn : rget rows k = none → Q none s) (qs : ∀ j r, rows[j]? = some r → r.1 = k → Q (some j) s) : wpAny (model X.prog X.w) A (dictFind a u (k.hash X.w)) Q E s := by
  have ho := dO_at I h
  cases k with
  | leaf l =>
    cases hk
    obtain ⟨vs, dd, pr⟩ := leaf_view (P := X.prog) ho R (hm.leaf ks)
    obtain ⟨o1, es1, ep1, ho1, _, hd1, hk1, hp1, nd1⟩ := dd
    rw [ho] at ho1
    cases ho1
    rw [hod] at hd1
    cases hd1
    refine wpAny_dictFind_of (knd := mixKind X.prog X.w) (kV_is ry) ho hod hk1 ?_
    cases hj : es.findIdx? fun e => (mixKind X.prog X.w).is l e.key with
    | none =>
      refine qn (rget_none fun r hr e => ?_)
      obtain ⟨i, hi⟩ := List.getElem?_of_mem hr
      obtain ⟨p, hp, g⟩ := paired_at pr hi
      have el : p.1 = l := DKey.leaf.inj (g.1.symm.trans e)
      have hlen : vs.length = es.size := by rw [← hp1.length]; exact Array.length_toList
      have hil : i < es.size := by rw [← hlen]; exact (List.getElem?_eq_some_iff.mp hp).1
      have z := (hp1.get? (i := i) (e := es[i]) (k := p.1) (v := p.2) (by rw [Array.getElem?_toList]; exact Array.getElem?_eq_getElem hil) hp).1
      rw [el] at z
      have w := Array.findIdx?_eq_none_iff.mp hj es[i] (Array.getElem_mem hil)
      rw [z] at w
      cases w
    | some j =>
      obtain ⟨hjl, hjk, _⟩ := Array.findIdx?_eq_some_iff_getElem.mp hj
      have hlen : vs.length = es.size := by rw [← hp1.length]; exact Array.length_toList
      have hv : vs[j]? = some vs[j] := List.getElem?_eq_getElem (by rw [hlen]; exact hjl)
      obtain ⟨r, hr, g⟩ := paired_back pr hv
      have z := (hp1.get? (i := j) (e := es[j]) (k := vs[j].1) (v := vs[j].2) (by rw [Array.getElem?_toList]; exact Array.getElem?_eq_getElem hjl) hv).1
      have el : vs[j].1 = l := (mixKind X.prog X.w).inj _ _ _ z hjk
      exact qs j r hr (by rw [g.1, el])
  | tup n =>
    obtain ⟨c, rfl, hn⟩ := hk
    cases (show u = Value.ref c from ry)
    obtain ⟨xs, dd, pr⟩ := tup_view (P := X.prog) ho R (hm.tup ks)
    obtain ⟨o1, es1, ep1, ho1, _, hd1, he1, his1, nd1⟩ := dd
    rw [ho] at ho1
    cases ho1
    rw [hod] at hd1
    cases hd1
    refine wpAny_dictFind_heap (knd := nestedKind X.prog X.w) (show A.units + 8 < cLine by omega) hn ho hod he1 his1 nd1 (fun hz => qn (rget_none fun r hr e => ?_)) fun j p hj => ?_
    · obtain ⟨i, hi⟩ := List.getElem?_of_mem hr
      obtain ⟨p, hp, g⟩ := paired_at pr hi
      have el : p.1 = n := DKey.tup.inj (g.1.symm.trans e)
      exact hz i p.2 (by rw [hp, ← el])
    · obtain ⟨r, hr, g⟩ := paired_back pr hj
      exact qs j r hr g.1
/-- what the comparing meets, row by row -/
inductive EqH (P : Program) (w : World) (A : Around) (s : Shared) (rb : List (DKey × V × V)) : List (DKey × V × V) → Bool → Prop
  | nil : EqH P w A s rb [] true
  | miss {k : DKey} {u v : V} {r : List (DKey × V × V)} : rget rb k = none → EqH P w A s rb ((k, u, v) :: r) false
  | hit {k : DKey} {u v z : V} {r : List (DKey × V × V)} {e b : Bool} : rget rb k = some z → (∀ v' z', RelV v v' → RelV z z' → EqP P w A s v' z' e) → EqH P w A s rb r b → EqH P w A s rb ((k, u, v) :: r) (e && b)
theorem EqH.inv {P : Program} {w : World} {rb : List (DKey × V × V)} {k : DKey} {u v : V} {r : List (DKey × V × V)} {e : Bool} (h : EqH P w A s rb ((k, u, v) :: r) e) :
    (rget rb k = none ∧ e = false) ∨ ∃ z e1 e2, rget rb k = some z ∧ (∀ v' z', RelV v v' → RelV z z' → EqP P w A s v' z' e1) ∧ EqH P w A s rb r e2 ∧ e = (e1 && e2) := by
  cases h with
  | miss hn => exact .inl ⟨hn, rfl⟩
  | hit hz he hr => exact .inr ⟨_, _, _, hz, he, hr, rfl⟩
theorem x_same {nm : String} {Q : Bool → Shared → Prop} {e : Bool} (hu : A.units + 64 < cLine) (ha : (a == sysModules) = false) (hb : (b == sysModules) = false) (I : Inv X pins σ H s) (h : H a = some (dO a o)) (R : RowsO X.w o rows) (h' : H b = some (dO b o')) (R' : RowsO X.w o' rows')
    (ks : ∀ r ∈ rows, KeyIs s.heap r.1 r.2.1) (ks' : ∀ r ∈ rows', KeyIs s.heap r.1 r.2.1) (hm : rows.length = rows'.length → ∀ r ∈ rows, Hom rows' r.1) (hits : rows.length = rows'.length → EqH X.prog X.w A s rows' rows e) (q : Q (rows.length == rows'.length && e) s) :
    wpAny (model X.prog X.w) A (Builtin.Dict.samePairs nm a b) Q E s := by
  obtain ⟨es, ep, hda, pa⟩ := R.at_
  obtain ⟨es', ep', hdb, pb⟩ := R'.at_
  have hoa := dO_at I h
  have hob := dO_at I h'
  obtain ⟨hla, _⟩ := rows_size R hda
  obtain ⟨hlb, _⟩ := rows_size R' hdb
  unfold Builtin.Dict.samePairs Builtin.Dict.showsAll
  rw [if_neg (show ¬ (a == sysModules) = true by rw [ha]; exact Bool.false_ne_true), if_neg (show ¬ (b == sysModules) = true by rw [hb]; exact Bool.false_ne_true)]
  refine wpAny_bind (wpAny_pure (wpAny_bind (wpAny_pure (wpAny_bind (wpAny_dictEntries hoa hda ?_)))))
  dsimp only
  refine wpAny_bind (wpAny_dictEntries hob hdb ?_)
  by_cases hsz : rows.length = rows'.length
  case neg =>
    have hbf : (rows.length == rows'.length) = false := by simpa using hsz
    rw [hbf, Bool.false_and] at q
    rw [hla, hlb, if_pos (by simpa using hsz)]
    exact wpAny_bind (wpAny_rule (wpAny_pure q))
  case pos =>
    have q : Q e s := by simpa [hsz] using q
    have hits := hits hsz
    have hm := hm hsz
    rw [hla, hlb, if_neg (by rw [hsz]; simp)]
    refine wpAny_bind (wpAny_dictEpoch hoa hda (wpAny_bind ?_))
    rw [Std.Legacy.Range.forIn_eq_forIn_range']
    simp only [Std.Legacy.Range.size, Nat.sub_zero, Nat.add_sub_cancel, Nat.div_one]
    refine wpAny_forIn_list _ (fun rest c s' => s' = s ∧ c = (none, ()) ∧ ∃ i, rest = List.range' i (rows.length - i) ∧ i ≤ rows.length ∧ EqH X.prog X.w A s rows' (rows.drop i) e) _ ?_ ?_ _ _ ⟨rfl, rfl, 0, by simp, Nat.zero_le _, hits⟩
    · rintro x rest c s' ⟨rfl, rfl, i, hr, hi, hpre⟩
      have hlt : i < rows.length := by
        rcases Nat.lt_or_ge i rows.length with z | z
        · exact z
        · rw [Nat.sub_eq_zero_of_le z] at hr; simp at hr
      obtain ⟨rfl, hrest⟩ : x = i ∧ rest = List.range' (i + 1) (rows.length - (i + 1)) := by
        rw [show rows.length - i = rows.length - (i + 1) + 1 by omega, List.range'_succ] at hr
        injection hr with h1 h2
        exact ⟨h1, h2⟩
      refine wpAny_bind (wpAny_dictEntries hoa hda ?_)
      have hle : x < es.size := by rw [hla]; exact hlt
      rw [Array.getElem?_eq_getElem hle]
      obtain ⟨k, u, v, hkv⟩ : ∃ k u v, rows[x] = (k, u, v) := ⟨_, _, _, rfl⟩
      have hrow : rows[x]? = some (k, u, v) := by rw [List.getElem?_eq_getElem hlt, hkv]
      have hmem : (k, u, v) ∈ rows := List.mem_of_getElem? hrow
      rw [List.drop_eq_getElem_cons hlt, hkv] at hpre
      obtain ⟨en, hen, g1, g2, g3⟩ := paired_at pa hrow
      have een : en = es[x] := by
        rw [Array.getElem?_toList, Array.getElem?_eq_getElem hle] at hen
        exact (Option.some.inj hen).symm
      subst een
      show wpAny _ _ (holding [es[x].key, es[x].val] _ >>= _) _ _ _
      rw [g1]
      refine wpAny_bind (wpAny_holding (wpAny_bind (x_find hu I h' R' hdb ks' (ks _ hmem) (hm _ hmem) g2 (fun hn => ?_) fun j r hj er => ?_)))
      · rcases hpre.inv with ⟨_, ee⟩ | ⟨z, _, _, hz, _⟩
        · rw [ee] at q
          refine wpAny_pure ?_
          show wpAny _ _ (if (!false) = true then _ else _) _ _ _
          rw [if_pos (by decide)]
          exact wpAny_pure (wpAny_pure q)
        · rw [hn] at hz; cases hz
      · have hjl : j < es'.size := by rw [hlb]; exact (List.getElem?_eq_some_iff.mp hj).1
        obtain ⟨en', hen', f1, f2, f3⟩ := paired_at pb hj
        have een' : en' = es'[j] := by
          rw [Array.getElem?_toList, Array.getElem?_eq_getElem hjl] at hen'
          exact (Option.some.inj hen').symm
        subst een'
        have hg := rget_at R'.nd hj
        rw [er] at hg
        refine wpAny_bind (wpAny_dictEntries hob hdb ?_)
        rw [Array.getElem?_eq_getElem hjl]
        rcases hpre.inv with ⟨hn, _⟩ | ⟨z, e1, e2, hz, he, hrr, ee⟩
        · rw [hg] at hn; cases hn
        · have ez : r.2.2 = z := Option.some.inj (hg.symm.trans hz)
          rw [← ez] at he
          refine wpAny_holding (he _ _ g3 f3 _ _ ?_)
          cases e1 with
          | false =>
            rw [ee, Bool.false_and] at q
            show wpAny _ _ (if (!false) = true then _ else _) _ _ _
            rw [if_pos (by decide)]
            exact wpAny_pure (wpAny_pure q)
          | true =>
            rw [Bool.true_and] at ee
            rw [← ee] at hrr
            show wpAny _ _ (if (!true) = true then _ else _) _ _ _
            rw [if_neg (by decide)]
            refine wpAny_bind (wpAny_dictEpoch hoa hda ?_)
            rw [if_neg (by simp)]
            exact wpAny_pure ⟨rfl, rfl, x + 1, hrest, hlt, hrr⟩
    · rintro c s' ⟨rfl, rfl, i, hr, hi, hpre⟩
      have hin : i = rows.length := by
        rcases Nat.lt_or_ge i rows.length with z | z
        · rw [show rows.length - i = rows.length - (i + 1) + 1 by omega, List.range'_succ] at hr
          cases hr
        · exact Nat.le_antisymm hi z
      refine wpAny_pure ?_
      rw [hin, List.drop_length] at hpre
      cases hpre
      exact q
theorem x_eqDct {Q : Value → Shared → Prop} {e : Bool} (hu : A.units + 65 < cLine) (ha : (a == sysModules) = false) (hb : (b == sysModules) = false) (I : Inv X pins σ H s) (h : H a = some (dO a o)) (R : RowsO X.w o rows) (h' : H b = some (dO b o')) (R' : RowsO X.w o' rows')
    (ks : ∀ r ∈ rows, KeyIs s.heap r.1 r.2.1) (ks' : ∀ r ∈ rows', KeyIs s.heap r.1 r.2.1) (hm : rows.length = rows'.length → ∀ r ∈ rows, Hom rows' r.1) (hits : rows.length = rows'.length → EqH X.prog X.w A.in1 s rows' rows e) (q : Q (.bool (rows.length == rows'.length && e)) s) :
    wpAny (model X.prog X.w) A (compareOp .Eq (.ref a) (.ref b)) Q E s := by
  have ta := (dO_type I h R).1
  have tb := (dO_type I h' R').1
  show wpAny (model X.prog X.w) A (richCompare .Eq (.ref a) (.ref b)) Q E s
  refine wpAny_richCompare_same_room (op := .Eq) ta tb PySem.F.slot_dict_eq (wpAny_call_entry PySem.F.slot_dict_eq ta PySem.F.entry_dict_eq ?_ (PySem.F.args_dict_eq_2 _ _)) (by omega)
  show wpAny _ _ (Builtin.Dict.dictSlotArgs "__eq__" ⟨[.ref a, .ref b], []⟩ >>= _) _ _ s
  have args : ∀ (Q' : Value × Value → Shared → Prop), Q' (.ref a, .ref b) s → wpAny (model X.prog X.w) A.in1 (Builtin.Dict.dictSlotArgs "__eq__" ⟨[.ref a, .ref b], []⟩) Q' E s := fun Q' q' => by
    unfold Builtin.Dict.dictSlotArgs
    refine wpAny_bind (wpAny_notOrdered_dict ta ?_)
    show wpAny _ _ (pure (Value.ref a, Value.ref b)) _ _ s
    exact wpAny_pure q'
  refine wpAny_bind (args _ (wpAny_bind (wpAny_isInstance (T := "dict") tb PySem.F.sub_dict_dict ?_)))
  simp only [Bool.not_true, Bool.false_eq_true, if_false]
  refine wpAny_bind (wpAny_pure (wpAny_bind (wpAny_pure (wpAny_bind (x_same (A := A.in1) (show A.units + 1 + 64 < cLine by omega) ha hb I h R h' R' ks ks' hm hits (wpAny_pure ⟨_, rfl, (fun z => by cases z), ?_⟩))))))
  simpa using q
theorem x_neDct {Q : Value → Shared → Prop} {e : Bool} (hu : A.units + 65 < cLine) (ha : (a == sysModules) = false) (hb : (b == sysModules) = false) (I : Inv X pins σ H s) (h : H a = some (dO a o)) (R : RowsO X.w o rows) (h' : H b = some (dO b o')) (R' : RowsO X.w o' rows')
    (ks : ∀ r ∈ rows, KeyIs s.heap r.1 r.2.1) (ks' : ∀ r ∈ rows', KeyIs s.heap r.1 r.2.1) (hm : rows.length = rows'.length → ∀ r ∈ rows, Hom rows' r.1) (hits : rows.length = rows'.length → EqH X.prog X.w A.in1 s rows' rows e) (q : Q (.bool (!(rows.length == rows'.length && e))) s) :
    wpAny (model X.prog X.w) A (compareOp .NotEq (.ref a) (.ref b)) Q E s := by
  have ta := (dO_type I h R).1
  have tb := (dO_type I h' R').1
  show wpAny (model X.prog X.w) A (richCompare .NotEq (.ref a) (.ref b)) Q E s
  refine wpAny_richCompare_same_room (op := .NotEq) ta tb PySem.F.slot_dict_ne (wpAny_call_entry PySem.F.slot_dict_ne ta PySem.F.entry_dict_ne ?_ (PySem.F.args_dict_ne_2 _ _)) (by omega)
  show wpAny _ _ (Builtin.Dict.dictSlotArgs "__ne__" ⟨[.ref a, .ref b], []⟩ >>= _) _ _ s
  have args : ∀ (Q' : Value × Value → Shared → Prop), Q' (.ref a, .ref b) s → wpAny (model X.prog X.w) A.in1 (Builtin.Dict.dictSlotArgs "__ne__" ⟨[.ref a, .ref b], []⟩) Q' E s := fun Q' q' => by
    unfold Builtin.Dict.dictSlotArgs
    refine wpAny_bind (wpAny_notOrdered_dict ta ?_)
    show wpAny _ _ (pure (Value.ref a, Value.ref b)) _ _ s
    exact wpAny_pure q'
  refine wpAny_bind (args _ (wpAny_bind (wpAny_isInstance (T := "dict") tb PySem.F.sub_dict_dict ?_)))
  simp only [Bool.not_true, Bool.false_eq_true, if_false]
  refine wpAny_bind (wpAny_pure (wpAny_bind (wpAny_pure (wpAny_bind (x_same (A := A.in1) (show A.units + 1 + 64 < cLine by omega) ha hb I h R h' R' ks ks' hm hits (wpAny_pure ⟨_, rfl, (fun z => by cases z), ?_⟩))))))
  simpa using q
end
/-! ### by data -/
/-- the rows of one dict against another one -/
def eqKV (kb : List (D × D)) : List (D × D) → Option Bool
  | [] => some true
  | (c, d) :: r => match dget kb c with
    | none => some false
    | some y => match twoP d y with
      | some z => (eqKV kb r).map fun b => PyData.eqv z.1 z.2 && b
      | none => none
def dctEq (ka kb : List (D × D)) : Option Bool := if ka.length = kb.length then (if (ka.all fun p => keyOk kb p.1) = true then eqKV kb ka else none) else some false
def eqDG : Store → D → D → Option D := fun m x y => (dctG m x).bind fun ka => (dctG m y).bind fun kb => (dctEq ka kb).map .bl
def neDG : Store → D → D → Option D := fun m x y => (dctG m x).bind fun ka => (dctG m y).bind fun kb => (dctEq ka kb).map fun b => .bl (!b)
section
variable {X : Cx} {pins : List (Addr × Obj)} {σ : St} {H S : Hp} {t : Th} {s : Shared} {A : Around}
theorem eqh_of (hu : A.units + 64 < cLine) (I : Inv X pins σ H s) (ss : Sub S H) {rows' : List (DKey × V × V)} {kb : List (D × D)} (hb : DKV X.kw S t rows' kb) : ∀ {rows : List (DKey × V × V)} {ka : List (D × D)} {e : Bool}, DKV X.kw S t rows ka → eqKV kb ka = some e → EqH X.prog X.w A s rows' rows e := by
  intro rows
  induction rows with
  | nil => intro ka e h g; cases h; cases g; exact .nil
  | cons r rows ih =>
    intro ka e h g
    cases h with
    | @cons k u v c d _ kvs hk h1 h2 h3 =>
      unfold eqKV at g
      split at g
      · rename_i hn
        cases g
        exact .miss ((dkv_get hk hb).1 hn)
      · rename_i y hy
        obtain ⟨z, hz, rz⟩ := (dkv_get hk hb).2 y hy
        split at g
        · rename_i w hw
          obtain ⟨p1, p2⟩ := w
          obtain ⟨q1, q2, q3, q4⟩ := twoP_ok hw
          cases hr : eqKV kb kvs with
          | none => rw [hr] at g; cases g
          | some e2 =>
            rw [hr] at g
            cases g
            refine .hit hz (fun v' z' rv' rz' => ?_) (ih h3 hr)
            obtain ⟨as, a1⟩ := Dp.reads I p1 v v' (toP_dp ss d v p1 h2 q1) rv'
            obtain ⟨bs, b1⟩ := Dp.reads I p2 z z' (toP_dp ss y z p2 rz q2) rz'
            exact (eqAt_reads p1 p2 A s v' z' as bs a1 b1 (canLay_of_shaped q3) (canLay_of_shaped q4) (room_of_shaped q3 hu)).eqP
        · cases g
theorem hom_all {rows rows' : List (DKey × V × V)} {ka kb : List (D × D)} (hb : DKV X.kw S t rows' kb) (ok : (ka.all fun p => keyOk kb p.1) = true) (h : DKV X.kw S t rows ka) : ∀ r ∈ rows, Hom rows' r.1 := by
  induction rows generalizing ka with
  | nil => intro r hr; cases hr
  | cons q rows ih =>
    cases h with
    | @cons k u v c d _ kvs hk h1 h2 h3 =>
      rw [List.all_cons, Bool.and_eq_true] at ok
      intro r hr
      rcases List.mem_cons.mp hr with e | hr
      · subst e; exact dkv_hom hk hb ok.1
      · exact ih ok.2 h3 r hr
def DDat (X : Cx) (H : Hp) (x y : V) (e : Bool) : Prop := ∃ S t m a b o o' rows rows' ka kb, HI X.kw S H t m ∧ x = .ref a ∧ y = .ref b ∧ (a == sysModules) = false ∧ (b == sysModules) = false ∧ H a = some (dO a o) ∧ H b = some (dO b o') ∧ RowsO X.w o rows ∧ RowsO X.w o' rows' ∧
  DKV X.kw S t rows ka ∧ DKV X.kw S t rows' kb ∧ dctEq ka kb = some e
theorem DDat.of {m : Store} {x y : V} {d c : D} {ka kb : List (D × D)} {e : Bool} (i : HI X.kw S H t m) (bx : BR X.kw S H t x d) (b_y : BR X.kw S H t y c) (h1 : dctG m d = some ka) (h2 : dctG m c = some kb) (h3 : dctEq ka kb = some e) : DDat X H x y e := by
  obtain ⟨a, o, rows, a1, a2, a3, a4, a5⟩ := bx.dctG i h1
  obtain ⟨b, o', rows', b1, b2, b3, b4, b5⟩ := b_y.dctG i h2
  exact ⟨S, t, m, a, b, o, o', rows, rows', ka, kb, i, a1, b1, a2, b2, a3, b3, a4, b4, a5, b5, h3⟩
theorem DDat.go {x y : V} {e : Bool} (hu : A.units + 64 < cLine) (I : Inv X pins σ H s) (h : DDat X H x y e) : ∃ a b o o' rows rows' e', x = .ref a ∧ y = .ref b ∧ (a == sysModules) = false ∧ (b == sysModules) = false ∧ H a = some (dO a o) ∧ H b = some (dO b o') ∧ RowsO X.w o rows ∧ RowsO X.w o' rows' ∧
    (∀ r ∈ rows, KeyIs s.heap r.1 r.2.1) ∧ (∀ r ∈ rows', KeyIs s.heap r.1 r.2.1) ∧ (rows.length = rows'.length → ∀ r ∈ rows, Hom rows' r.1) ∧ (rows.length = rows'.length → EqH X.prog X.w A s rows' rows e') ∧ (rows.length == rows'.length && e') = e := by
  obtain ⟨S, t, m, a, b, o, o', rows, rows', ka, kb, i, rfl, rfl, a2, b2, a3, b3, a4, b4, a5, b5, h⟩ := h
  have la := dkv_len a5
  have lb := dkv_len b5
  unfold dctEq at h
  by_cases hl : ka.length = kb.length
  · rw [if_pos hl] at h
    split at h
    · rename_i ok
      exact ⟨a, b, o, o', rows, rows', e, rfl, rfl, a2, b2, a3, b3, a4, b4, keys_are I i.sub a5, keys_are I i.sub b5, fun _ => hom_all b5 ok a5, fun _ => eqh_of hu I i.sub b5 a5 h, by rw [show (rows.length == rows'.length) = true by rw [la, lb]; simpa using hl, Bool.true_and]⟩
    · cases h
  · rw [if_neg hl] at h
    cases h
    exact ⟨a, b, o, o', rows, rows', true, rfl, rfl, a2, b2, a3, b3, a4, b4, keys_are I i.sub a5, keys_are I i.sub b5, fun z => absurd (by rw [← la, ← lb]; exact z) hl, fun z => absurd (by rw [← la, ← lb]; exact z) hl, by rw [show (rows.length == rows'.length) = false by rw [la, lb]; simpa using hl, Bool.false_and]⟩
theorem dd_some {m : Store} {x y : D} {f : Bool → D} {z : D} (h : ((dctG m x).bind fun ka => (dctG m y).bind fun kb => (dctEq ka kb).map f) = some z) : ∃ ka kb e, dctG m x = some ka ∧ dctG m y = some kb ∧ dctEq ka kb = some e ∧ f e = z := by
  obtain ⟨ka, h1, h2⟩ := dG_some h
  obtain ⟨kb, h3, h4⟩ := dG_some h2
  obtain ⟨e, h5, h6⟩ := Option.map_eq_some_iff.mp h4
  exact ⟨ka, kb, e, h1, h3, h5, h6⟩
theorem od_eqD (hu : X.A.units + 65 < cLine) : OpD X (compareOp .Eq) eqDG := by
  refine ⟨fun x y H Q => ∃ e, DDat X H x y e ∧ Q (.bl e) H, fun pins s σ H x y v u Q I rx ry ⟨e, dd, q⟩ => ?_, fun S H t m x y d c z Q i bx b_y hz q => ?_⟩
  · obtain ⟨a, b, o, o', rows, rows', e', rfl, rfl, a2, b2, a3, b3, a4, b4, k1, k2, hm, hh, ee⟩ := dd.go (A := X.A.in1) (show X.A.units + 1 + 64 < cLine by omega) I
    cases rx
    cases ry
    exact x_eqDct (by omega) a2 b2 I a3 a4 b3 b4 k1 k2 hm hh ⟨.bl e, H, I, by rw [ee]; rfl, q⟩
  · obtain ⟨ka, kb, e, h1, h2, h3, rfl⟩ := dd_some hz
    exact ⟨e, .of i bx b_y h1 h2 h3, q _ _ _ .refl i (.bl _)⟩
theorem od_neD (hu : X.A.units + 65 < cLine) : OpD X (compareOp .NotEq) neDG := by
  refine ⟨fun x y H Q => ∃ e, DDat X H x y e ∧ Q (.bl (!e)) H, fun pins s σ H x y v u Q I rx ry ⟨e, dd, q⟩ => ?_, fun S H t m x y d c z Q i bx b_y hz q => ?_⟩
  · obtain ⟨a, b, o, o', rows, rows', e', rfl, rfl, a2, b2, a3, b3, a4, b4, k1, k2, hm, hh, ee⟩ := dd.go (A := X.A.in1) (show X.A.units + 1 + 64 < cLine by omega) I
    cases rx
    cases ry
    exact x_neDct (by omega) a2 b2 I a3 a4 b3 b4 k1 k2 hm hh ⟨.bl (!e), H, I, by rw [ee]; rfl, q⟩
  · obtain ⟨ka, kb, e, h1, h2, h3, rfl⟩ := dd_some hz
    exact ⟨e, .of i bx b_y h1 h2 h3, q _ _ _ .refl i (.bl _)⟩
end
end Dn
/-! sorted of a dict. -/
namespace PySem.W
open PySem PySem.Calls PyProof.Rows
section
variable {prog : Program} {w : World} {A : Around} {E : Value → Shared → Prop} {s : Shared} {β : Type} {vs : List Value} {bs : List β} {enc : β → PyData} {R : Value → β → Prop}
/-- sorted of what collect tells -/
theorem dn_sortedC {x : Addr} {Q : Value → Shared → Prop} (hcol : ∀ (E : Value → Shared → Prop) (R : List Value → Shared → Prop), (∀ (h1 : Heap) (tk : Nat), (∀ b o, s.heap.get? b = some o → h1.get? b = some o) → R vs { s with heap := h1, toks := tk }) → wpAny (model prog w) A.in1 (collect (.ref x)) R E s)
    (e : EachIs R vs bs) (er : EachIs (fun v b => ∃ as, Reads s.heap v (enc b) as) vs bs) (hal : AllAlike (bs.map enc)) (hk : Sortable (bs.map enc)) (hL : bs.length ≤ sizeLine) (hu : ∀ b, b ∈ bs → A.units + 2 + (enc b).depth < cLine)
    (h : ∀ (h1 h2 : Heap) (tk : Nat) out c, (∀ b o, s.heap.get? b = some o → h1.get? b = some o) → (∀ b o, h1.get? b = some o → h2.get? b = some o) → h2.get? h1.objs.size = some (seqObj "list" (List.toArray out) c) → out.length = bs.length → EachIs R out (bs.mergeSort (dataLe false enc)) → Q (.ref h1.objs.size) { s with heap := h2, toks := tk }) :
    wpAny (model prog w) A (call (.builtin "sorted") [.ref x]) Q E s := by
  have hvs : vs.length ≤ sizeLine := by rw [e.length]; exact hL
  refine call_function_entry_kw kind_sorted plain_sorted entry_sorted (args_sorted1 _) ?_
  unfold Builtin.«sorted»
  refine wpAny_bind (m := checkCount "sorted" 1 1 _) (wpAny_pure ?_)
  refine wpAny_bind (hcol _ _ fun h1 tk hk1 => ?_)
  refine wpAny_bind (wpAny_newList ?_ (by simpa using hvs))
  have at1 : (h1.push (seqObj "list" vs.toArray 0)).get? h1.objs.size = some (seqObj "list" vs.toArray 0) := Heap.get?_push_size _ rfl
  have old1 : ∀ b o, h1.get? b = some o → b ≠ h1.objs.size ∧ (h1.push (seqObj "list" vs.toArray 0)).get? b = some o := fun b o q => ⟨Nat.ne_of_lt (Heap.lt_size q), Heap.get?_push_of_some _ q⟩
  show wpAny _ _ _ _ _ { s with heap := h1.push (seqObj "list" vs.toArray 0), toks := tk }
  have er1 : EachIs (fun v b => ∃ as, Reads (sortingHeap (h1.push (seqObj "list" vs.toArray 0)) h1.objs.size vs) v (enc b) as) vs bs := er.mono fun _ _ ⟨as, r⟩ => ⟨as, PyProof.Rows.Reads.keeps (fun b o q => by
    obtain ⟨q1, q2⟩ := old1 b o (hk1 b o q)
    exact sortingHeap_old q1 q2) r⟩
  refine wpAny_bind (wpAny_holding (wpAny_call_entry_kw slot_list_sort ⟨_, at1, rfl⟩ entry_list_sort ?body (args_list_sort _)))
  case body =>
    show wpAny (model prog w) A.in1.in1 (Builtin.«list.sort» ⟨[.ref h1.objs.size], []⟩) _ _ _
    refine wpAny_mono (Q := fun f s' => f = .done (.ret .none) ∧ s' = { s with heap := sortedHeap (h1.push (seqObj "list" vs.toArray 0)) h1.objs.size vs (sortVals (dataKind (sortingHeap (h1.push (seqObj "list" vs.toArray 0)) h1.objs.size vs) (bs.map enc)) false vs vs).toArray, toks := tk })
      (list_sort_vals (s := { s with heap := h1.push (seqObj "list" vs.toArray 0), toks := tk }) at1 (SortsAt.data (s := { s with heap := sortingHeap (h1.push (seqObj "list" vs.toArray 0)) h1.objs.size vs, toks := tk }) (each_map (R := fun v d => ∃ as, Reads (sortingHeap (h1.push (seqObj "list" vs.toArray 0)) h1.objs.size vs) v d as) enc er1) hal hk (bound_map hu)) hvs ⟨rfl, rfl⟩) (fun f s' hf => ?_) fun _ _ e => e
    obtain ⟨rfl, rfl⟩ := hf
    refine ⟨_, rfl, wpAny_pure ⟨_, rfl, ?_⟩⟩
    obtain ⟨c, hc2⟩ := sortedHeap_at (vs := vs) (out := (sortVals (dataKind (sortingHeap (h1.push (seqObj "list" vs.toArray 0)) h1.objs.size vs) (bs.map enc)) false vs vs).toArray) at1
    refine h h1 _ tk _ c hk1 (fun b o q => ?_) hc2 (by rw [sortVals_length false rfl]; exact e.length) (sortVals_data false e er1 hal)
    obtain ⟨q1, q2⟩ := old1 b o q
    rw [sortedHeap_old q1 (Heap.lt_size q2)]
    exact q2
end
end PySem.W
namespace Dn
open PySem L2
section
variable {X : Cx}
def rSortDct (X : Cx) : List V → Hp → VK → Prop := fun xs H Q => ∃ S t m a o rows kvs, HI X.kw S H t m ∧ xs = [V.ref a] ∧ (a == sysModules) = false ∧ H a = some (dO a o) ∧ RowsO X.w o rows ∧ DKV X.kw S t rows kvs ∧ sortOk (kvs.map (·.1)) = true ∧ ∀ p ws, H p = none → DRs X.kw S t ws (sortedD (kvs.map (·.1))) → Q (.ref p) (upd H p (.lst ws))
theorem key_vals {w : World} {S : Hp} {K : KW} {t : Th} {rows : List (DKey × V × V)} {es : List DictEntry} (pr : Paired (fun (r : DKey × V × V) (e : DictEntry) => e.hash = r.1.hash w ∧ RelV r.2.1 e.key ∧ RelV r.2.2 e.val) rows es) : ∀ {kvs : List (D × D)}, DKV K S t rows kvs →
    ∃ vs, Vals vs (es.map (·.key)) ∧ DRs K S t vs (kvs.map (·.1)) := by
  induction pr with
  | nil => intro kvs h; cases h; exact ⟨[], .nil, .nil⟩
  | cons r _ ih =>
    intro kvs h
    cases h with
    | cons k1 h1 h2 h3 =>
      obtain ⟨vs, q1, q2⟩ := ih h3
      exact ⟨_ :: vs, .cons r.2.1 q1, .cons h1 q2⟩
theorem items_keys {es : Array DictEntry} {acc : Array Value} (h : PySem.ItemsOf (fun i v => ∃ hi : i < es.size, v = es[i].key) acc es.size) : acc.toList = es.toList.map (·.key) := by
  refine List.ext_getElem? fun i => ?_
  rw [List.getElem?_map]
  by_cases hi : i < es.size
  · have ha : i < acc.size := by rw [h.1]; exact hi
    have e1 : acc[i]? = some acc[i] := Array.getElem?_eq_getElem ha
    obtain ⟨_, e2⟩ := h.2 i _ e1
    rw [Array.getElem?_toList, e1, Array.getElem?_toList, Array.getElem?_eq_getElem hi, e2]
    rfl
  · rw [List.getElem?_eq_none (by rw [Array.length_toList, h.1]; omega), List.getElem?_eq_none (by rw [Array.length_toList]; omega)]
    rfl
theorem cr_sortDct (hc : X.calm = true) (hu : X.A.units + 65 < cLine) : CallR X (.builtin "sorted") (rSortDct X) := by
  intro pins s σ H xs us Q I r h
  obtain ⟨S, t, m, a, o, rows, kvs, hi, rfl, lo, hH, RR, hd, ok, q⟩ := h
  obtain ⟨u, rfl, ru⟩ := vals1 r
  obtain rfl : u = Value.ref a := ru
  obtain ⟨hl, hp, hal, hk⟩ := sortOk_ok ok
  obtain ⟨es, ep, hod, pr⟩ := RR.at_
  obtain ⟨vs, rv, dv⟩ := key_vals pr hd
  have e1 := each_of dv rv
  have hz : es.size ≤ sizeLine := by rw [(rows_size RR hod).1]; exact RR.sz
  refine PySem.W.dn_sortedC (fun E' R' hR => PySem.W.kdu_collect (A := X.A.in1) (KdlSrc.rawDict (es := es) (ep := ep) lo) (I.ok.hd hc) ⟨o, dO_at I hH, RR.ex, hod⟩ hz fun h' tk acc hk' hacc => by rw [items_keys hacc]; exact hR h' tk hk') e1 (each_reads I hi.sub e1 fun d hd => (hp d hd).1) hal hk (lim_le hl) (fun b hb => ?_) fun h1 h2 tk out c k1 k2 at2 ol eo => ?_
  · have := (hp b hb).2
    omega
  · obtain ⟨ws, rw', dw⟩ := each_back eo
    have I1 : Inv X pins σ H { s with heap := h1, toks := tk } := I.kept (t' := tk) k1
    refine ⟨.ref h1.objs.size, upd H h1.objs.size (.lst ws), I1.laid (t' := tk) k2 (Nat.le_refl _) ⟨?_, out, c, rw', at2⟩, rfl, q _ ws (I1.hok.fresh (Nat.le_refl _)) dw⟩
    have : ws.length = (sortedD (kvs.map (·.1))).length := dw.length
    rw [this, mergeSort_len]
    exact lim_le hl
def sortFD : Store → List D → Option (List D) := fun m xs => match xs with
  | [d] => (dctG m d).bind fun kvs => if sortOk (kvs.map (·.1)) = true then some (sortedD (kvs.map (·.1))) else none
  | _ => none
theorem cf_sortD (hc : X.calm = true) (hu : X.A.units + 65 < cLine) : CallF X (.builtin "sorted") sortFD := by
  refine ⟨_, cr_sortDct hc hu, fun S H t m xs ds zs Q i bs hz q => ?_⟩
  unfold sortFD at hz
  split at hz
  · obtain ⟨kvs, h1, h2⟩ := dG_some hz
    split at h2
    · rename_i ok
      cases h2
      cases bs with
      | cons b1 b2 =>
        cases b2
        obtain ⟨a, o, rows, rfl, a2, a3, a4, a5⟩ := b1.dctG i h1
        refine ⟨S, t, m, a, o, rows, kvs, i, rfl, a2, a3, a4, a5, ok, fun p ws hp dw => ?_⟩
        obtain ⟨p2, i2, r⟩ := new_own i hp dw
        exact q _ _ _ p2 i2 r hp
    · cases h2
  · cases hz
@[simp] def orF {α β γ : Type} (g g' : α → β → Option γ) : α → β → Option γ := fun a b => match g a b with
  | some z => some z
  | none => g' a b
theorem _root_.Dn.CallF.or {f : Value} {g g' : Store → List D → Option (List D)} (h : CallF X f g) (h' : CallF X f g') : CallF X f (orF g g') := by
  obtain ⟨r1, c1, d1⟩ := h
  obtain ⟨r2, c2, d2⟩ := h'
  refine ⟨fun xs H Q => r1 xs H Q ∨ r2 xs H Q, fun pins s σ H xs us Q I r h => ?_, fun S H t m xs ds zs Q i bs hz q => ?_⟩
  · rcases h with h | h
    · exact c1 pins s σ H xs us Q I r h
    · exact c2 pins s σ H xs us Q I r h
  · unfold orF at hz
    split at hz
    · rename_i z e
      exact .inl (d1 S H t m xs ds _ Q i bs (e.trans hz) q)
    · exact .inr (d2 S H t m xs ds _ Q i bs hz q)
theorem _root_.Dn.CallD.or {f : Value} {g g' : Store → List D → Option D} (h : CallD X f g) (h' : CallD X f g') : CallD X f (orF g g') := by
  obtain ⟨r1, c1, d1⟩ := h
  obtain ⟨r2, c2, d2⟩ := h'
  refine ⟨fun xs H Q => r1 xs H Q ∨ r2 xs H Q, fun pins s σ H xs us Q I r h => ?_, fun S H t m xs ds zs Q i bs hz q => ?_⟩
  · rcases h with h | h
    · exact c1 pins s σ H xs us Q I r h
    · exact c2 pins s σ H xs us Q I r h
  · unfold orF at hz
    split at hz
    · rename_i z e
      exact .inl (d1 S H t m xs ds _ Q i bs (e.trans hz) q)
    · exact .inr (d2 S H t m xs ds _ Q i bs hz q)
/-- sorted of lists, tuples, dicts -/
def sortF3 : Store → List D → Option (List D) := orF sortF2 sortFD
theorem cf_sort3 (hc : X.calm = true) (hu : X.A.units + 65 < cLine) : CallF X (.builtin "sorted") sortF3 := (cf_sort2 hu).or (cf_sortD hc hu)
def sortG3 : Store → List D → Option D := fun m xs => (sortF3 m xs).map .lst
theorem cb_sort3 (hc : X.calm = true) (hu : X.A.units + 65 < cLine) : CallD X (.builtin "sorted") sortG3 := (cf_sort3 hc hu).settle
end
end Dn
/-! Dicts of one's own: pop, update, displays. -/
namespace Dn
open PySem L2
/-! ### rows -/
def rdrop (rows : List (DKey × V × V)) (k : DKey) : List (DKey × V × V) := rows.filter fun r => decide (r.1 ≠ k)
def rmerge (rows more : List (DKey × V × V)) : List (DKey × V × V) := more.foldl (fun acc r => rput acc r.1 r.2.1 r.2.2) rows
def ddrop (kvs : List (D × D)) (c : D) : List (D × D) := kvs.filter fun p => !kEq p.1 c
def dmerge (kvs more : List (D × D)) : List (D × D) := more.foldl (fun acc p => dput acc p.1 p.2) kvs
def leafs (kvs : List (D × D)) : Bool := kvs.all fun p => !clsK p.1
section
variable {K : KW} {S : Hp} {t : Th} {w : World} {rows rows2 : List (DKey × V × V)}
theorem gl_drop {vs : List (Key × Value)} (h : Paired GL rows vs) (k : Key) : Paired GL (rdrop rows (.leaf k)) (without vs k) := by
  induction h with
  | nil => exact .nil
  | @cons r p rs vs g _ ih =>
    unfold rdrop without at ih ⊢
    rw [List.filter_cons, List.filter_cons]
    by_cases c : p.1 = k
    · rw [if_neg (by simp [g.1, c]), if_neg (by simp [c])]
      exact ih
    · rw [if_pos (by simpa [g.1] using c), if_pos (by simpa using c)]
      exact .cons g ih
theorem rdrop_id {k : DKey} (h : rget rows k = none) : rdrop rows k = rows := by
  unfold rdrop
  refine List.filter_eq_self.mpr fun r hr => ?_
  unfold rget at h
  rw [Option.map_eq_none_iff, List.find?_eq_none] at h
  simpa using h r hr
theorem rdrop_len (k : DKey) : (rdrop rows k).length ≤ rows.length := List.length_filter_le _ _
theorem dkv_drop {c : D} {k : DKey} (hk : toK c = some k) : ∀ {kvs : List (D × D)}, DKV K S t rows kvs → DKV K S t (rdrop rows k) (ddrop kvs c) := by
  induction rows with
  | nil => intro kvs h; cases h; exact .nil
  | cons r rows ih =>
    intro kvs h
    cases h with
    | @cons k1 u v c1 d1 _ kvs q1 h1 h2 h3 =>
      have ih := ih h3
      unfold rdrop ddrop at ih ⊢
      rw [List.filter_cons, List.filter_cons]
      by_cases z : k1 = k
      · rw [if_neg (by simp [z]), if_neg (by simp [kEq, q1, hk, z])]
        exact ih
      · rw [if_pos (by simpa using z), if_pos (by simp [kEq, q1, hk, z])]
        exact .cons q1 h1 h2 ih
theorem gl_merge {vs2 : List (Key × Value)} (h2 : Paired GL rows2 vs2) : ∀ {rows : List (DKey × V × V)} {vs : List (Key × Value)}, Paired GL rows vs → Paired GL (rmerge rows rows2) (merged vs vs2) := by
  induction h2 with
  | nil => intro rows vs h; exact h
  | @cons r p rs ps g _ ih =>
    intro rows vs h
    have e := gl_put h p.1 g.2.2
    rw [← g.1, ← g.2.1] at e
    exact ih e
theorem dkv_merge : ∀ {more : List (D × D)}, DKV K S t rows2 more → ∀ {rows : List (DKey × V × V)} {kvs : List (D × D)}, DKV K S t rows kvs → DKV K S t (rmerge rows rows2) (dmerge kvs more) := by
  induction rows2 with
  | nil => intro more h rows kvs g; cases h; exact g
  | cons r rows2 ih =>
    intro more h rows kvs g
    cases h with
    | cons q1 h1 h2 h3 => exact ih h3 (dkv_put q1 h1 h2 g)
theorem rmerge_len : ∀ (more rows : List (DKey × V × V)), (rmerge rows more).length ≤ rows.length + more.length
  | [], rows => by show rows.length ≤ _; simp
  | r :: more, rows => by
    have h1 := rmerge_len more (rput rows r.1 r.2.1 r.2.2)
    have h2 := rput_len rows r.1 r.2.1 r.2.2
    show (rmerge (rput rows r.1 r.2.1 r.2.2) more).length ≤ _
    rw [List.length_cons]; omega
theorem leafs_hom : ∀ {kvs : List (D × D)}, leafs kvs = true → DKV K S t rows kvs → Hom rows (.leaf (.inl 0)) := by
  induction rows with
  | nil => intro kvs _ _ r hr; cases hr
  | cons q rows ih =>
    intro kvs ok h
    cases h with
    | @cons k u v c d _ kvs q1 h1 h2 h3 =>
      unfold leafs at ok
      rw [List.all_cons, Bool.and_eq_true] at ok
      intro r hr
      rcases List.mem_cons.mp hr with e | hr
      · subst e
        show isTupK k = false
        rw [toK_cls q1]
        simpa using ok.1
      · exact ih ok.2 h3 r hr
end
theorem upd_id {H : Hp} {a : Addr} {o : HO} (h : H a = some o) : upd H a o = H := by
  funext b
  by_cases e : b = a
  · subst e; rw [upd_same, h]
  · rw [upd_ne e]
/-! ### d.pop(k, x) -/
section
variable {X : Cx}
def rPopX (X : Cx) : V → List V → Hp → VK → Prop := fun x xs H Q => ∃ S t kvs c y z m a o rows k, xs = [y, z] ∧ HI X.kw S H t m ∧ x = .ref a ∧ (a == sysModules) = false ∧ H a = some (dO a o) ∧ RowsO X.w o rows ∧ DKV X.kw S t rows kvs ∧ DR X.kw S t y c ∧ toK c = some (.leaf k) ∧ keyOk kvs c = true ∧
  ∀ o' v, RowsO X.w o' (rdrop rows (.leaf k)) → Q v (upd H a (dO a o'))
theorem mt_popX : MtR X "dict.pop" (rPopX X) := by
  intro pins s σ H x xs v us Q I rx rxs h
  obtain ⟨S, t, kvs, c, y, z, m, a, o, rows, k, rfl, i, rfl, hd, hH, R, dk, hy, hk, ok, q⟩ := h
  obtain rfl : v = Value.ref a := rx
  obtain ⟨u1, u2, rfl, r1, r2⟩ := vals2 rxs
  have ks := keys_are I i.sub dk
  obtain ⟨vs, dd, pr⟩ := leaf_view (P := X.prog) (dO_at I hH) R ((dkv_hom hk dk ok).leaf ks)
  have hz : vs.length ≤ sizeLine := by rw [← Paired.length pr]; exact R.sz
  have hy' : y = kV k := key_is I i.sub hk hy
  subst hy'
  have hp : (keyPart u1).isSome = true := by
    cases k with
    | inl j => obtain ⟨_, e⟩ := (show ∃ t, u1 = Value.int j t from r1); subst e; rfl
    | inr j => obtain ⟨_, e⟩ := (show ∃ t, u1 = Value.str j t from r1); subst e; rfl
  have g := gl_get pr k
  cases e : rget rows (.leaf k) with
  | some b =>
    rw [e] at g
    obtain ⟨w', hw, rw'⟩ := RelO.some_of g
    refine call_meetsIn PySem.F.slot_dict_pop dd.typeIs PySem.F.entry_dict_pop (PySem.F.args_dict_pop_3 _ _ _) (meets_dict_pop_there (mixKind X.prog X.w) a (kV_is r1) [u2] (.inr ⟨_, rfl⟩) hp) ⟨vs, w', dd, hz, hw, fun h' dd' hs => ?_⟩
    obtain ⟨o', ho', R'⟩ := leaf_back dd' (gl_drop pr k) (Nat.le_trans (rdrop_len _) R.sz)
    exact ⟨b, _, x_wrote I hH hs ho', rw', q o' b R'⟩
  | none =>
    rw [e] at g
    have hn := RelO.none_of g
    refine call_meetsIn PySem.F.slot_dict_pop dd.typeIs PySem.F.entry_dict_pop (PySem.F.args_dict_pop_3 _ _ _) (meets_dict_pop_default (mixKind X.prog X.w) a (kV_is r1) hd hp u2) ⟨vs, dd, hn, ⟨z, H, I.tok _, r2, ?_⟩⟩
    have q' := q o z (by rw [rdrop_id e]; exact R)
    rwa [upd_id hH] at q'
def rUpdX (X : Cx) : V → List V → Hp → VK → Prop := fun x xs H Q => ∃ S t kvs more y m a b o o2 rows rows2, xs = [y] ∧ HI X.kw S H t m ∧ x = .ref a ∧ y = .ref b ∧ a ≠ b ∧ (a == sysModules) = false ∧ (b == sysModules) = false ∧ H a = some (dO a o) ∧ H b = some (dO b o2) ∧ RowsO X.w o rows ∧ RowsO X.w o2 rows2 ∧
  DKV X.kw S t rows kvs ∧ DKV X.kw S t rows2 more ∧ leafs kvs = true ∧ leafs more = true ∧ rows.length + rows2.length ≤ sizeLine ∧ ∀ o', RowsO X.w o' (rmerge rows rows2) → Q .non (upd H a (dO a o'))
theorem mt_updX : MtR X "dict.update" (rUpdX X) := by
  intro pins s σ H x xs v us Q I rx rxs h
  obtain ⟨S, t, kvs, more, y, m, a, b, o, o2, rows, rows2, rfl, i, rfl, rfl, hab, hd, hd2, hH, hH2, R, R2, dk, dk2, l1, l2, hz, q⟩ := h
  obtain rfl : v = Value.ref a := rx
  obtain ⟨u1, rfl, r1⟩ := vals1 rxs
  obtain rfl : u1 = Value.ref b := r1
  obtain ⟨vs, dd, pr⟩ := leaf_view (P := X.prog) (dO_at I hH) R ((leafs_hom l1 dk).leaf (keys_are I i.sub dk))
  obtain ⟨vs2, dd2, pr2⟩ := leaf_view (P := X.prog) (dO_at I hH2) R2 ((leafs_hom l2 dk2).leaf (keys_are I i.sub dk2))
  refine call_meetsIn PySem.F.slot_dict_update dd.typeIs PySem.F.entry_dict_update (PySem.F.args_dict_update_2 _ _) (meets_dict_update (mixKind X.prog X.w) a b hab hd2) ⟨vs, vs2, dd, dd2, by rw [← Paired.length pr, ← Paired.length pr2]; exact hz, fun h' dd' _ hs => ?_⟩
  obtain ⟨o', ho', R'⟩ := leaf_back dd' (gl_merge pr2 pr) (Nat.le_trans (rmerge_len _ _) hz)
  exact ⟨.non, _, x_wrote (t' := s.toks) I hH hs ho', rfl, q o' R'⟩
end
/-! ### statements -/
/-- d.pop(k, x) -/
@[simp] def popDS (i : Nat) (f : EvA) : EvS := fun C e m => match e[i]? with
  | some (.own (.dct kvs)) => liftS (f C e m) e fun xs m1 => match xs with
    | [c, _] => if keyOk kvs c = true ∧ clsK c = false then .nx (e.set i (.own (.dct (ddrop kvs c)))) m1 else .stuck
    | _ => .stuck
  | _ => .stuck
/-- d.update(e) -/
@[simp] def updDS (i : Nat) (f : EvE) : EvS := fun C e m => match e[i]? with
  | some (.own (.dct kvs)) => liftS (f C e m) e fun d m1 => match d with
    | .dct more => if leafs kvs = true ∧ leafs more = true ∧ kvs.length + more.length ≤ LIM then .nx (e.set i (.own (.dct (dmerge kvs more)))) m1 else .stuck
    | _ => .stuck
  | _ => .stuck
/-- d[k], d[k'] = v, v' -/
@[simp] def dput2S (i : Nat) (f k1 k2 : EvE) : EvS := fun C e m => match e[i]? with
  | some (.own (.dct kvs)) => liftS (f C e m) e fun d m1 => match d with
    | .tup [x, y] => liftS (k1 C e m1) e fun c m2 => if keyOk kvs c = true ∧ kvs.length < LIM then
        liftS (k2 C (e.set i (.own (.dct (dput kvs c x)))) m2) (e.set i (.own (.dct (dput kvs c x)))) fun c2 m3 => if keyOk (dput kvs c x) c2 = true ∧ (dput kvs c x).length < LIM then .nx (e.set i (.own (.dct (dput (dput kvs c x) c2 y)))) m3 else .stuck
      else .stuck
    | _ => .stuck
  | _ => .stuck
section
variable {X : Cx} {G : Cfg} {W : WX} {E : Snap} {a b c : Expr} {fa fb fk : EvE} {fs : EvA} {f : EvD} {pos : Pos}
theorem ds_dpop {i : Nat} {x : Str} {px apos cpos : Pos} (hK : X.kw = G.K) (hN : X.N[i]? = some x) (hv : Vis X.env.scope x) (ha : PA X [a, b] (semA G W fs)) (hd : (x == ("__debug__" : Str)) = false := by decide) (hcd : (x == ("__classdict__" : Str)) = false := by decide)
    (hbase : attributeBase (.Name x px) "pop" X.env (eval (.Name x px) X.env) = eval (.Name x px) X.env := by rfl)
    (hfew : ((backTo cpos (starEach [a, b] X.env)).all (fun x => !x.1) && (backToKw cpos (keywordEach [] X.env)).all (fun x => x.1.isSome)
      && decide ([a, b].length + ([] : List Keyword).length + (if ([] : List Keyword).isEmpty then 0 else 1) < 30)) = true := by rfl)
    (hline : (apos.endLine == cpos.line) = true := by rfl) (he : starEach [a, b] X.env = (false, eval a X.env) :: starEach [b] X.env := by rfl) (hplain : (backTo cpos (starEach [b] X.env)).any (·.1) = false := by rfl)
    (hs : swapsWith (.Call (.Attribute (.Name x px) "pop" apos) [a, b] [] cpos) none pos.line X.env = pure false := by rfl) :
    PS X (.Expr (.Call (.Attribute (.Name x px) "pop" apos) [a, b] [] cpos) pos) (semS G W E (popDS i fs)) := by
  have hw : X.w = G.K.w := congrArg KW.w hK
  refine (ps_expr (pe_dm PySem.F.slot_dict_pop PySem.F.type_dict_pop mt_popX (pe_var (i := i) hN hv hd hcd) ha hbase hfew hline he hplain) hs).imp fun D σ H ⟨S, t, m, e, sf, h⟩ => ?_
  unfold popDS at h
  split at h
  · rename_i kvs hi
    obtain ⟨p, hp, ho⟩ := sf.si.own i _ hi
    obtain ⟨o, rows, z, hH, R, dk⟩ := ho.dct'
    refine ⟨_, hp, ⟨p, o, rows, rfl, hH, by rw [hw]; exact R⟩, S, t, m, e, sf.si, (GS.lift sf h).imp fun S1 H1 t1 m1 xs p1 i1 h1 vs rs => ?_⟩
    split at h1
    · rename_i c y
      split at h1
      · rename_i ok
        obtain ⟨ok, hc⟩ := ok
        have sf1 := sf.stp p1 i1
        have ho1 := ho.stp sf.si.hi p1
        obtain ⟨o1, rows1, z1, hH1, R1, dk1⟩ := ho1.dct'
        cases rs with
        | cons r1 rs =>
          cases rs with
          | cons r2 rs =>
            cases rs
            have hsm : (toK c).isSome = true := by
              have := ok
              unfold keyOk at this
              simp only [Bool.and_eq_true] at this
              exact this.1
            obtain ⟨k, hk⟩ := Option.isSome_iff_exists.mp hsm
            cases k with
            | tup n => have := toK_cls hk; rw [hc] at this; cases this
            | leaf l =>
              exact ⟨S1, t1, kvs, c, _, _, m1, p, o1, rows1, l, rfl, hK ▸ i1, rfl, z1, hH1, by rw [hw]; exact R1, hK ▸ dk1, hK ▸ r1, hk, ok, fun o' v R' => h1 _ _ _ σ (sf1.chg hi hp (.dct z1 upd_same (by rw [← hw]; exact R') (dkv_drop hk dk1)))⟩
      · exact h1.elim
    · exact h1.elim
  · exact h.elim
theorem ds_dupd {i : Nat} {x : Str} {px apos cpos : Pos} (hK : X.kw = G.K) (hN : X.N[i]? = some x) (hv : Vis X.env.scope x) (ha : PE X a (semE G W fa)) (hd : (x == ("__debug__" : Str)) = false := by decide) (hcd : (x == ("__classdict__" : Str)) = false := by decide)
    (hbase : attributeBase (.Name x px) "update" X.env (eval (.Name x px) X.env) = eval (.Name x px) X.env := by rfl)
    (hfew : ((backTo cpos (starEach [a] X.env)).all (fun x => !x.1) && (backToKw cpos (keywordEach [] X.env)).all (fun x => x.1.isSome)
      && decide ([a].length + ([] : List Keyword).length + (if ([] : List Keyword).isEmpty then 0 else 1) < 30)) = true := by rfl)
    (hline : (apos.endLine == cpos.line) = true := by rfl) (he : starEach [a] X.env = (false, eval a X.env) :: starEach [] X.env := by rfl) (hplain : (backTo cpos (starEach [] X.env)).any (·.1) = false := by rfl)
    (hs : swapsWith (.Call (.Attribute (.Name x px) "update" apos) [a] [] cpos) none pos.line X.env = pure false := by rfl) :
    PS X (.Expr (.Call (.Attribute (.Name x px) "update" apos) [a] [] cpos) pos) (semS G W E (updDS i fa)) := by
  have hw : X.w = G.K.w := congrArg KW.w hK
  refine (ps_expr (pe_dm PySem.F.slot_dict_update PySem.F.type_dict_update mt_updX (pe_var (i := i) hN hv hd hcd) (pa_cons ha pa_nil he) hbase hfew hline he hplain) hs).imp fun D σ H ⟨S, t, m, e, sf, h⟩ => ?_
  unfold updDS at h
  split at h
  · rename_i kvs hi
    obtain ⟨p, hp, ho⟩ := sf.si.own i _ hi
    obtain ⟨o, rows, z, hH, R, dk⟩ := ho.dct'
    refine ⟨_, hp, ⟨p, o, rows, rfl, hH, by rw [hw]; exact R⟩, S, t, m, e, sf.si, (GS.lift sf h).imp fun S1 H1 t1 m1 d p1 i1 h1 v rv => ?_⟩
    split at h1
    · rename_i more
      split at h1
      · rename_i ok
        obtain ⟨l1, l2, hl⟩ := ok
        have sf1 := sf.stp p1 i1
        have ho1 := ho.stp sf.si.hi p1
        obtain ⟨o1, rows1, z1, hH1, R1, dk1⟩ := ho1.dct'
        cases rv with
        | @dct q o2 rows2 _ z2 hS R2 dk2 =>
          have hne : p ≠ q := fun e => by rw [← e, ho1.off] at hS; cases hS
          exact ⟨S1, t1, kvs, more, _, m1, p, q, o1, o2, rows1, rows2, rfl, hK ▸ i1, rfl, rfl, hne, z1, z2, hH1, i1.sub _ _ hS, by rw [hw]; exact R1, by rw [hw]; exact R2, hK ▸ dk1, hK ▸ dk2, l1, l2, by
            rw [dkv_len dk1, dkv_len dk2]; exact lim_le hl, fun o' R' => h1 _ _ _ σ (sf1.chg hi hp (.dct z1 upd_same (by rw [← hw]; exact R') (dkv_merge dk2 dk1)))⟩
      · exact h1.elim
    · exact h1.elim
  · exact h.elim
/-- d[k] = .. as a target -/
theorem sub_dput {De : Ends} {i : Nat} {S H : Hp} {t : Th} {m : Store} {σ : St} {e : Env} {v : V} {d : D} {kvs : List (D × D)} {Kt : D → Store → SR} {Q : St → Hp → Prop} (hK : X.kw = G.K) (sf : SF G E S H t m σ e) (hi : e[i]? = some (.own (.dct kvs))) (rv : DR G.K S t v d)
    (h : GS G W E De (liftS (fk G.C e m) e fun c m2 => if keyOk kvs c = true ∧ kvs.length < LIM then Kt c m2 else .stuck)) (q : ∀ S' H' t' m' c, Sub S S' → TSub t t' → SF G E S' H' t' m' σ (e.set i (.own (.dct (dput kvs c d)))) → GS G W E De (Kt c m') → Q σ H') :
    gSub (tVar i) (semE G W fk) (tSetX X) v σ H Q := by
  obtain ⟨p, hp, ho⟩ := sf.si.own i _ hi
  refine ⟨_, hp, S, t, m, e, sf.si, (GS.lift sf h).imp fun S2 H2 t2 m2 c p2 i2 h2 w rw' => ?_⟩
  have sf2 := sf.stp p2 i2
  split at h2
  · rename_i ok
    have ho2 := ho.stp sf.si.hi p2
    obtain ⟨o, rows, z, hH, R, dk⟩ := ho2.dct'
    have hs : (toK c).isSome = true := by
      have := ok.1
      unfold keyOk at this
      simp only [Bool.and_eq_true] at this
      exact this.1
    obtain ⟨k, hk⟩ := Option.isSome_iff_exists.mp hs
    have hw' : X.w = G.K.w := congrArg KW.w hK
    have hl : rows.length < sizeLine := by
      rw [dkv_len dk]
      exact Nat.lt_of_lt_of_le ok.2 (lim_le (Nat.le_refl _))
    have rv2 := rv.stp sf.si.hi p2
    refine ⟨S2, t2, kvs, c, m2, p, o, rows, k, hK ▸ i2, rfl, hH, by rw [hw']; exact R, hl, hK ▸ dk, hK ▸ rw', hk, ok.1, fun o' R' => ?_⟩
    exact q S2 _ t2 m2 c (sf.si.hi.ssub p2) p2.th (sf2.chg hi hp (.dct z upd_same (by rw [← hw']; exact R') (dkv_put hk rw' rv2 dk))) h2
  · exact h2.elim
theorem ds_dput2 {i : Nat} {x : Str} {px px2 sp sp2 pt : Pos} {kt : Nat} {k1 k2 : Expr} {f1 f2 : EvE} (hu : X.A.units + 65 < cLine) (hK : X.kw = G.K) (hc : X.calm = true) (hN : X.N[i]? = some x) (hv : Vis X.env.scope x) (ha : PE X a (semE G W fa)) (hk1 : PE X k1 (semE G W f1)) (hk2 : PE X k2 (semE G W f2))
    (hd : (x == ("__debug__" : Str)) = false := by decide) (hcd : (x == ("__classdict__" : Str)) = false := by decide)
    (hg1 : ∀ v, assign (.Subscript (.Name x px) k1 sp) X.env v = (do
      let ov ← holding [v] (eval (.Name x px) X.env)
      let iv ← holding [v, ov] (eval k1 X.env)
      standAt sp
      holding [v, ov, iv] (setItem ov iv v)
      release [v, ov, iv] []) := by intro _; rfl)
    (hg2 : ∀ v, assign (.Subscript (.Name x px2) k2 sp2) X.env v = (do
      let ov ← holding [v] (eval (.Name x px2) X.env)
      let iv ← holding [v, ov] (eval k2 X.env)
      standAt sp2
      holding [v, ov, iv] (setItem ov iv v)
      release [v, ov, iv] []) := by intro _; rfl)
    (n0 : (assignEach ([] : List Expr) X.env).map (·.2) = [] := by rfl)
    (n1 : (assignEach [.Subscript (.Name x px2) k2 sp2] X.env).map (·.2) = assign (.Subscript (.Name x px2) k2 sp2) X.env :: (assignEach [] X.env).map (·.2) := by rfl)
    (n2 : (assignEach [.Subscript (.Name x px) k1 sp, .Subscript (.Name x px2) k2 sp2] X.env).map (·.2) = assign (.Subscript (.Name x px) k1 sp) X.env :: (assignEach [.Subscript (.Name x px2) k2 sp2] X.env).map (·.2) := by rfl)
    (hn : (assignEach [.Subscript (.Name x px) k1 sp, .Subscript (.Name x px2) k2 sp2] X.env).length = 2 := by rfl) (hst : (assignEach [.Subscript (.Name x px) k1 sp, .Subscript (.Name x px2) k2 sp2] X.env).findIdx? (·.1) = none := by rfl)
    (hs : swapsWithSole [.Tuple [.Subscript (.Name x px) k1 sp, .Subscript (.Name x px2) k2 sp2] kt pt] a pos.line X.env = pure false := by rfl) (hw : swappedStores [.Tuple [.Subscript (.Name x px) k1 sp, .Subscript (.Name x px2) k2 sp2] kt pt] a X.env = pure none := by rfl)
    (h1 : (assignEach [.Tuple [.Subscript (.Name x px) k1 sp, .Subscript (.Name x px2) k2 sp2] kt pt] X.env).map (·.2) = [assign (.Tuple [.Subscript (.Name x px) k1 sp, .Subscript (.Name x px2) k2 sp2] kt pt) X.env] := by rfl) :
    PS X (.Assign [.Tuple [.Subscript (.Name x px) k1 sp, .Subscript (.Name x px2) k2 sp2] kt pt] a pos) (semS G W E (dput2S i fa f1 f2)) := by
  refine (ps_asg ha (pg_tup (n := 2) hc (pgs_cons (pg_sub (pe_var (i := i) hN hv hd hcd) hk1 (set_dict hu) hg1) (pgs_cons (pg_sub (pe_var (i := i) hN hv hd hcd) hk2 (set_dict hu) hg2) pgs_nil n1) n2) hn hst) hs hw h1).imp fun De σ H ⟨S, t, m, e, sf, h⟩ => ?_
  unfold dput2S at h
  split at h
  · rename_i kvs hi
    refine ⟨S, t, m, e, sf.si, (GS.lift sf h).imp fun S1 H1 t1 m1 d p1 i1 h1 v rv => ?_⟩
    have sf1 := sf.stp p1 i1
    split at h1
    · rename_i y z
      cases rv with
      | @tup ad vs _ hS rs =>
        cases rs with
        | cons r1 rs =>
          cases rs with
          | cons r2 rs =>
            cases rs
            refine ⟨ad, _, rfl, kw_K hK ▸ i1.sub.sqT hS, rfl, _, _, rfl, sub_dput hK sf1 hi r1 h1 fun S2 H2 t2 m2 c s2 ts2 sf2 h2 => ⟨_, _, rfl, ?_⟩⟩
            have hl : i < e.length := (List.getElem?_eq_some_iff.mp hi).1
            have r2' := r2.mono s2 ts2
            refine sub_dput hK sf2 (List.getElem?_set_self hl) r2' h2 fun S3 H3 t3 m3 c3 s3 ts3 sf3 h3 => ⟨rfl, ?_⟩
            rw [List.set_set] at sf3
            exact h3 S3 H3 t3 σ sf3
    · exact h1.elim
  · exact h.elim
/-! ### displays -/
def rowsM (kvs : List (Key × V)) : List (DKey × V × V) := kvs.foldl (fun acc kv => rput acc (.leaf kv.1) (kV kv.1) kv.2) []
def tDispX (X : Cx) (trs : List (TE × TE)) : TE := fun σ H Q => ∀ p, H p = none → (p == sysModules) = false → tPairs trs σ (upd H p (dO p o0)) fun ps H2 => H2 p = some (dO p o0) ∧ ∃ kvs : List (Key × V), ps = kvs.map (fun kv => (kV kv.1, kv.2)) ∧ kvs.length ≤ 15 ∧ ∀ o', RowsO X.w o' (rowsM kvs) → Q (.ref p) (upd H2 p (dO p o'))
theorem gl_rows {vs : List (Key × V)} {ws : List (Key × Value)} (h : KV vs ws) : ∀ {rows : List (DKey × V × V)} {us : List (Key × Value)}, Paired GL rows us → Paired GL (vs.foldl (fun acc kv => rput acc (.leaf kv.1) (kV kv.1) kv.2) rows) (merged us ws) := by
  unfold KV at h
  induction h with
  | nil => intro rows us g; exact g
  | @cons p q ps qs h _ ih =>
    intro rows us g
    have e := gl_put g p.1 h.2
    rw [List.foldl_cons]
    have z := ih e
    rw [h.1] at z ⊢
    exact z
theorem rows_len : ∀ (vs : List (Key × V)) (rows : List (DKey × V × V)), (vs.foldl (fun acc kv => rput acc (.leaf kv.1) (kV kv.1) kv.2) rows).length ≤ rows.length + vs.length
  | [], rows => by show rows.length ≤ _; simp
  | r :: more, rows => by
    have h1 := rows_len more (rput rows (.leaf r.1) (kV r.1) r.2)
    have h2 := rput_len rows (.leaf r.1) (kV r.1) r.2
    rw [List.foldl_cons, List.length_cons]
    omega
theorem pe_dispX {keys : List (Option Expr)} {values : List Expr} {trs : List (TE × TE)} (h : PPs X pos keys values trs) (hall : keys.all (·.isSome) = true) (hl : keys.length = values.length) (h0 : keys ≠ []) (h15 : keys.length ≤ 15) : PE X (.Dict keys values pos) (tDispX X trs) := by
  refine ⟨fun pins s σ H Q I q => ?_⟩
  obtain ⟨I1, b1, b2⟩ := laid0 I
  refine wpAny_Dict_walk (knd := mixKind X.prog X.w) hall hl h0 h15 (thn (h.run pins _ σ _ _ I1 (q _ b2 b1)) fun ws s2 ⟨ps, H2, I2, rel, e, kvs, ep, lk, q2⟩ => ?_)
  subst ep
  obtain ⟨rs, c, rk⟩ := carries_of (P := X.prog) (w := X.w) rel
  have at2 := dO_at I2 e
  obtain ⟨us, dd, pr⟩ := leaf_view (P := X.prog) at2 (rows0 X.w) (fun r hr => by cases hr)
  cases pr
  refine ⟨rs, c, dd, fun h' dd' hs => ?_⟩
  have hz : (rowsM kvs).length ≤ sizeLine := by
    have h1 := rows_len kvs []
    rw [List.length_nil] at h1
    unfold rowsM
    rw [sizeLine_eq]; omega
  obtain ⟨o', ho', R'⟩ := leaf_back dd' (gl_rows rk .nil) hz
  exact ⟨.ref s.heap.objs.size, _, x_wrote I2 e hs ho', rfl, q2 o' R'⟩
/-- the pairs of a display -/
def prsD : List (EvE × EvE) → Orc → Env → Store → R (List (D × D))
  | [], _, _, m => .ok [] m
  | (k, v) :: r, C, e, m => (k C e m).bind fun x m1 => (v C e m1).bind fun y m2 => (prsD r C e m2).bind fun ps m3 => .ok ((x, y) :: ps) m3
/-- {k: v, ..}, keys ints and texts -/
@[simp] def dispD (l : List (EvE × EvE)) : EvD := fun C e m => (prsD l C e m).bind fun ps m1 => if ((ps.all fun p => (toK p.1).isSome && !clsK p.1) && decide (ps.length ≤ 15)) = true then .ok (dmerge [] ps) m1 else .stuck
theorem prs_use {F : List (D × D) → Store → R (List (D × D))} {P : Hp → Hp → Th → Store → List (D × D) → Prop} {S0 H0 : Hp} {t0 : Th} : ∀ (l : List (EvE × EvE)) {f : List (D × D) → List (D × D)} {σ : St} {S H : Hp} {t : Th} {m : Store} {e : Env} {Q : List (V × V) → Hp → Prop}, Stp S0 H0 t0 S H t → SI G.K G.x S H t m σ e → Gd G W σ S0 H0 t0 ((prsD l G.C e m).bind fun ps m1 => F (f ps) m1) P →
    (∀ S' H' t' m' ps vs, Stp S0 H0 t0 S' H' t' → Stp S H t S' H' t' → HI G.K S' H' t' m' → Gd G W σ S0 H0 t0 (F (f ps) m') P → Paired (fun (v : V × V) (p : D × D) => DR G.K S' t' v.1 p.1 ∧ DR G.K S' t' v.2 p.2) vs ps → Q vs H') → tPairs (l.map fun p => (semE G W p.1, semE G W p.2)) σ H Q
  | [], f, σ, S, H, t, m, e, Q, q0, si, g, h => h S H t m [] [] q0 .refl si.hi g .nil
  | (k, v) :: r, f, σ, S, H, t, m, e, Q, q0, si, g, h => by
    have g' : Gd G W σ S0 H0 t0 ((k G.C e m).bind fun x m1 => (v G.C e m1).bind fun y m2 => (prsD r G.C e m2).bind fun ps m3 => F (f ((x, y) :: ps)) m3) P := by
      unfold prsD at g
      revert g
      cases k G.C e m with
      | ok x m1 =>
        simp only [R.bind_ok]
        cases v G.C e m1 with
        | ok y m2 =>
          simp only [R.bind_ok]
          cases prsD r G.C e m2 <;> exact id
        | exc c fs m' => exact id
        | stuck => exact id
      | exc c fs m' => exact id
      | stuck => exact id
    refine ⟨S, t, m, e, si, ?_⟩
    show Gd G W σ S H t (k G.C e m) _
    cases hk : k G.C e m with
    | exc c fs m' => rw [hk] at g'; exact fun S' H' t' cls dx p i x => g' S' H' t' cls dx (q0.trans p) i x
    | stuck => rw [hk] at g'; exact g'
    | ok x m1 =>
      rw [hk] at g'
      intro S1 H1 t1 p1 i1 a ra
      have si1 := si.stp p1 i1
      have q1 := q0.trans p1
      rw [R.bind_ok] at g'
      refine ⟨S1, t1, m1, e, si1, ?_⟩
      show Gd G W σ S1 H1 t1 (v G.C e m1) _
      cases hv : v G.C e m1 with
      | exc c fs m' => rw [hv] at g'; exact fun S' H' t' cls dx p i x => g' S' H' t' cls dx (q1.trans p) i x
      | stuck => rw [hv] at g'; exact g'
      | ok y m2 =>
        rw [hv] at g'
        intro S2 H2 t2 p2 i2 b rb
        rw [R.bind_ok] at g'
        refine prs_use r (f := fun ps => f ((x, y) :: ps)) (q1.trans p2) (si1.stp p2 i2) g' fun S3 H3 t3 m3 ps vs r3 p3 i3 g3 rs => ?_
        exact h S3 H3 t3 m3 _ _ r3 ((p1.trans p2).trans p3) i3 g3 (.cons ⟨(ra.stp i1 p2).stp i2 p3, rb.stp i2 p3⟩ rs)
theorem disp_rows {K : KW} {S : Hp} {t : Th} : ∀ {vs : List (V × V)} {ps : List (D × D)}, Paired (fun (v : V × V) (p : D × D) => DR K S t v.1 p.1 ∧ DR K S t v.2 p.2) vs ps → (ps.all fun p => (toK p.1).isSome && !clsK p.1) = true →
    ∃ kvs : List (Key × V), vs = kvs.map (fun kv => (kV kv.1, kv.2)) ∧ kvs.length = ps.length ∧ ∀ {rows : List (DKey × V × V)} {acc : List (D × D)}, DKV K S t rows acc → DKV K S t (kvs.foldl (fun acc kv => rput acc (.leaf kv.1) (kV kv.1) kv.2) rows) (dmerge acc ps)
  | _, _, .nil, _ => ⟨[], rfl, rfl, fun h => h⟩
  | _, _, .cons (a := (a, b)) (b := (c, d)) g r, ok => by
    rw [List.all_cons, Bool.and_eq_true, Bool.and_eq_true] at ok
    obtain ⟨⟨hs, hc⟩, ok⟩ := ok
    obtain ⟨kvs, e1, e2, e3⟩ := disp_rows r ok
    obtain ⟨k, hk⟩ := Option.isSome_iff_exists.mp hs
    cases k with
    | tup n => have := toK_cls hk; rw [show clsK c = false by simpa using hc] at this; cases this
    | leaf l =>
      have ea : a = kV l := by
        have g1 := g.1
        cases c with
        | int i => cases hk; cases g1; rfl
        | str x => cases hk; cases g1; rfl
        | tup xs =>
          have hk : (match toN (.tup xs) with
            | some k => if k.depth ≤ 8 then some (DKey.tup k) else none
            | none => none) = some (DKey.leaf l) := hk
          split at hk
          · split at hk <;> cases hk
          · cases hk
        | _ => cases hk
      refine ⟨(l, b) :: kvs, by rw [List.map_cons, ← e1, ea], by simp [e2], fun h => ?_⟩
      rw [List.foldl_cons]
      exact e3 (dkv_put hk (ea ▸ g.1) g.2 h)
theorem dd_disp {keys : List (Option Expr)} {values : List Expr} {l : List (EvE × EvE)} (hK : X.kw = G.K) (h : PPs X pos keys values (l.map fun p => (semE G W p.1, semE G W p.2))) (hall : keys.all (·.isSome) = true) (hl : keys.length = values.length) (h0 : keys ≠ []) (h15 : keys.length ≤ 15) :
    PE X (.Dict keys values pos) (semD G W (dispD l)) := by
  have hw : X.w = G.K.w := congrArg KW.w hK
  refine (pe_dispX h hall hl h0 h15).imp fun σ H Q ⟨S, t, m, e, si, g⟩ p hp hz => ?_
  obtain ⟨i2, p2, own⟩ := own0 si.hi hp hz
  have si2 := si.stp p2 i2
  refine prs_use l (f := fun ps => ps) p2 si2 g fun S3 H3 t3 m3 ps vs r3 p3 i3 g3 rs => ?_
  have own3 := own.stp i2 p3
  have k3 := p3.keep p _ upd_same own.nt
  refine ⟨k3, ?_⟩
  split at g3
  · rename_i ok
    rw [Bool.and_eq_true] at ok
    obtain ⟨kvs, e1, e2, e3⟩ := disp_rows rs ok.1
    refine ⟨kvs, e1, by rw [e2]; exact of_decide_eq_true ok.2, fun o' R' => ?_⟩
    have i4 := own_hi (o := dO p o') i3 own3.off (by rw [k3]; simp) own3.nt
    have st : Stp S H t S3 (upd H3 p (dO p o')) t3 := stp_own r3 hp
    have dk : DKV G.K S3 t3 (rowsM kvs) (dmerge [] ps) := e3 .nil
    exact g3 S3 _ t3 st i4 p ⟨own3.off, own3.nt, .dct hz upd_same (by rw [← hw]; exact R') dk⟩ hp
  · exact g3.elim
end
end Dn
/-! list(zip(a, b)). -/
namespace Dn
open PySem L2
/-- a zip in the midst of its way -/
structure ZSt (h : Heap) (z TI TO i1 i2 l1 l2 L : Addr) (xs ys : Array Value) (i : Nat) : Prop where
  ti : IsPair h TI (.ref i1) (.ref i2)
  n1 : h.IsListIter i1 l1 i
  n2 : h.IsListIter i2 l2 i
  b1 : h.IsList l1 xs
  b2 : h.IsList l2 ys
  zz : (IsZip h z TI TO .none ∧ ∃ a b, IsPair h TO a b) ∨ ∃ T f oT, IsZipHeld h z TI TO T f ∧ h.get? T = some oT ∧ T ≠ z ∧ T ≠ i1 ∧ T ≠ i2 ∧ T ≠ L
structure LApart (L z TI TO i1 i2 l1 l2 : Addr) : Prop where
  z : z ≠ L
  ti : TI ≠ L
  to : TO ≠ L
  i1 : i1 ≠ L
  i2 : i2 ≠ L
  l1 : l1 ≠ L
  l2 : l2 ≠ L
theorem ZSt.keep {h h' : Heap} {z TI TO i1 i2 l1 l2 L : Addr} {xs ys : Array Value} {i : Nat} (st : ZSt h z TI TO i1 i2 l1 l2 L xs ys i) (ap : LApart L z TI TO i1 i2 l1 l2) (k : ∀ b o, b ≠ L → h.get? b = some o → h'.get? b = some o) : ZSt h' z TI TO i1 i2 l1 l2 L xs ys i where
  ti := k _ _ ap.ti st.ti
  n1 := st.n1.at fun o e => k _ o ap.i1 e
  n2 := st.n2.at fun o e => k _ o ap.i2 e
  b1 := st.b1.at fun o e => k _ o ap.l1 e
  b2 := st.b2.at fun o e => k _ o ap.l2 e
  zz := by
    rcases st.zz with ⟨q, a, b, r⟩ | ⟨T, f, oT, q, r, r1, r2, r3, r4⟩
    · exact .inl ⟨k _ _ ap.z q, a, b, k _ _ ap.to r⟩
    · exact .inr ⟨T, f, oT, k _ _ ap.z q, k _ _ r4 r, r1, r2, r3, r4⟩
section
variable {prog : Program} {w : World} {A : Around} {E : Value → Shared → Prop} {s : Shared} {z TI TO i1 i2 l1 l2 L : Addr} {xs ys : Array Value} {i : Nat} {x y : Value}
theorem ZSt.item {Q : Option Value → Shared → Prop} (Dz : ZipApart z TI TO i1 i2 l1 l2) (st : ZSt s.heap z TI TO i1 i2 l1 l2 L xs ys i) (hL : L < s.heap.objs.size) (hx : xs[i]? = some x) (hy : ys[i]? = some y)
    (q : ∀ h', ZSt h' z TI TO i1 i2 l1 l2 L xs ys (i + 1) → IsPair h' s.heap.objs.size x y → (∀ b o, b ≠ z → b ≠ TO → b ≠ i1 → b ≠ i2 → s.heap.get? b = some o → h'.get? b = some o) → Q (some (.ref s.heap.objs.size)) { s with heap := h' }) : wpAny (model prog w) A (pyNext (.ref z)) Q E s := by
  have off : ∀ {c : Addr} {o : Obj}, s.heap.get? c = some o → s.heap.objs.size ≠ c := fun e => Nat.ne_of_gt (Heap.lt_size e)
  have m1 : s.heap.objs.size ≠ i1 := let ⟨_, e, _⟩ := st.n1; off e
  have m2 : s.heap.objs.size ≠ i2 := let ⟨_, e, _⟩ := st.n2; off e
  rcases st.zz with ⟨hz, a, b, hTO⟩ | ⟨T, f, oT, hz, hT, r1, r2, r3, r4⟩
  · refine wpAny_pyNext_zip_item Dz hz st.ti hTO st.n1 st.n2 st.b1 st.b2 hx hy fun h' c1 c2 c3 c4 c5 c6 hk => q h' ?_ c5 hk
    exact ⟨hk _ _ Dz.TIz Dz.TITO Dz.TIi1 Dz.TIi2 st.ti, c3, c4, st.b1.at fun o e => hk _ o Dz.l1z Dz.l1TO Dz.l1i1 Dz.l1i2 e, st.b2.at fun o e => hk _ o Dz.l2z Dz.l2TO Dz.l2i1 Dz.l2i2 e, .inr ⟨_, false, _, c1, c5, off hz, m1, m2, Nat.ne_of_gt hL⟩⟩
  · refine wpAny_pyNext_zip_item_held Dz hz hT st.ti st.n1 st.n2 st.b1 st.b2 hx hy fun h' c1 c3 c4 c5 c6 hk => q h' ?_ c5 fun b o e1 _ e3 e4 e => hk b o e1 e3 e4 e
    exact ⟨hk _ _ Dz.TIz Dz.TIi1 Dz.TIi2 st.ti, c3, c4, st.b1.at fun o e => hk _ o Dz.l1z Dz.l1i1 Dz.l1i2 e, st.b2.at fun o e => hk _ o Dz.l2z Dz.l2i1 Dz.l2i2 e, .inr ⟨T, true, oT, c1, hk _ _ r1 r2 r3 hT, r1, r2, r3, r4⟩⟩
theorem ZSt.stop {Q : Option Value → Shared → Prop} (hh : A.handled = none) (Dz : ZipApart z TI TO i1 i2 l1 l2) (st : ZSt s.heap z TI TO i1 i2 l1 l2 L xs ys i) (hend : xs[i]? = none ∨ ys[i]? = none)
    (q : ∀ h', (∀ b o, b ≠ z → b ≠ TO → b ≠ i1 → b ≠ i2 → s.heap.get? b = some o → h'.get? b = some o) → Q none { s with heap := h' }) : wpAny (model prog w) A (pyNext (.ref z)) Q E s := by
  rcases st.zz with ⟨hz, a, b, hTO⟩ | ⟨T, f, oT, hz, hT, r1, r2, r3, r4⟩
  · exact wpAny_pyNext_zip_end hh Dz hz st.ti hTO st.n1 st.n2 st.b1 st.b2 hend fun h' hk => q h' hk
  · exact wpAny_pyNext_zip_end_held hh Dz hz hT st.ti st.n1 st.n2 st.b1 st.b2 hend fun h' hk => q h' fun b o e1 _ e3 e4 e => hk b o e1 e3 e4 e
end
section
variable {X : Cx} {pins : List (Addr × Obj)} {σ : St} {z TI TO i1 i2 l1 l2 L : Addr} {xs ys : Array Value} {S0 H0 : Hp} {t : Th} {m : Store} {dx dy : List D} {xv yv : List V}
/-- the list that was made, and all else -/
def ZEnd (X : Cx) (pins : List (Addr × Obj)) (σ : St) (S0 H0 : Hp) (t : Th) (m : Store) (L : Addr) (zs : List D) (s' : Shared) : Prop := ∃ S' H', Inv X pins σ H' s' ∧ Stp S0 H0 t S' H' t ∧ HI X.kw S' H' t m ∧ OwnAt X.kw S' H' t L (.lst zs)
theorem zl_loop {A : Around} {s : Shared} (hh : A.handled = none) (Dz : ZipApart z TI TO i1 i2 l1 l2) (ap : LApart L z TI TO i1 i2 l1 l2) (hL0 : H0 L = none) (rx : Vals xv xs.toList) (ry : Vals yv ys.toList) (i0 : HI X.kw S0 H0 t m) (ex : DRs X.kw S0 t xv dx) (ey : DRs X.kw S0 t yv dy) (hz : (zips dx dy).length ≤ sizeLine) (res : Value)
    {R : Result → Shared → Prop} (hR : ∀ h tk, ZEnd X pins σ S0 H0 t m L (zips dx dy) { s with heap := h, toks := tk } → R (.ok (.ret res)) { s with heap := h, toks := tk }) :
    ∀ (n i : Nat) (S H : Hp) (h : Heap) (tk : Nat) (vs : List V), TO < h.objs.size → (zips dx dy).length - i = n → i ≤ (zips dx dy).length → ZSt h z TI TO i1 i2 l1 l2 L xs ys i → Inv X pins σ H { s with heap := h, toks := tk } → (∀ c ∈ [z, TI, TO, i1, i2], FpOk X pins H c) →
      Stp S0 H0 t S H t → HI X.kw S H t m → H L = some (.lst vs) → S L = none → (∀ k, t k ≠ some L) → DRs X.kw S t vs ((zips dx dy).take i) →
      codeAny (model X.prog X.w) A (.builtin "list.extend.loop" ⟨[.ref L, .ref z, res], []⟩) R { s with heap := h, toks := tk } := by
  have lx : xs.size = dx.length := by rw [← ex.length, rx.length, Array.length_toList]
  have ly : ys.size = dy.length := by rw [← ey.length, ry.length, Array.length_toList]
  intro n
  induction n with
  | zero =>
    intro i S H h tk vs hto hn hi st I hf p i2' hL hS ht dv
    have hin : i = (zips dx dy).length := by omega
    refine codeAny_builtin PySem.F.entry_extend_loop ?_
    rw [Around.under_plainId PySem.F.plain_extend_loop _]
    show wpAny _ A.in1 (pyNext (.ref z) >>= _) _ _ _
    have hend : xs[i]? = none ∨ ys[i]? = none := by
      rw [zips_len] at hin
      rcases Nat.le_total dx.length dy.length with g | g
      · exact .inl (Array.getElem?_eq_none (by omega))
      · exact .inr (Array.getElem?_eq_none (by omega))
    refine wpAny_bind (st.stop (s := { s with heap := h, toks := tk }) (A := A.in1) hh Dz hend fun h' hk => wpAny_pure (hR h' tk ?_))
    have I1 : Inv X pins σ H { s with heap := h', toks := tk } := I.turnedL (s := { s with heap := h, toks := tk }) (t' := tk) (ch := [z, TI, TO, i1, i2]) (fun b o hb e => hk b o (fun q => hb (by simp [q])) (fun q => hb (by simp [q])) (fun q => hb (by simp [q])) (fun q => hb (by simp [q])) e) hf
    rw [hin, List.take_length] at dv
    exact ⟨S, H, I1, p, i2', hS, ht, .lst hL dv⟩
  | succ n ih =>
    intro i S H h tk vs hto hn hi st I hf p i2' hL hS ht dv
    have hlt : i < (zips dx dy).length := by omega
    have hg : (zips dx dy)[i]? = some (zips dx dy)[i] := List.getElem?_eq_getElem hlt
    obtain ⟨d, c, hd, hc, ezc⟩ := zips_get dx dy i _ hg
    obtain ⟨v, hv, rv⟩ := ex.get hd
    obtain ⟨u, hu, ru⟩ := ey.get hc
    obtain ⟨v', hv', rv'⟩ := rx.get hv
    obtain ⟨u', hu', ru'⟩ := ry.get hu
    refine codeAny_builtin PySem.F.entry_extend_loop ?_
    rw [Around.under_plainId PySem.F.plain_extend_loop _]
    show wpAny _ A.in1 (pyNext (.ref z) >>= _) _ _ _
    obtain ⟨zl, its, cn, rl, hll, eL⟩ := I.lstM hL
    refine wpAny_bind (st.item (s := { s with heap := h, toks := tk }) Dz (Heap.lt_size eL) (by rw [← Array.getElem?_toList]; exact hv') (by rw [← Array.getElem?_toList]; exact hu') fun h' st' hT hk => ?_)
    dsimp only at hT hk ⊢
    generalize hTe : h.objs.size = T at hT ⊢
    have hTn : H T = none := I.hok.fresh (by rw [← hTe]; exact Nat.le_refl _)
    have new : ObjOk X.prog X.w (upd H T (.tup [v, u])) h' T (.tup [v, u]) := ⟨by show 2 ≤ sizeLine; decide, [v', u'], .cons rv' (.cons ru' .nil), ⟨_, hT, rfl, _, rfl⟩⟩
    have I1 : Inv X pins σ (upd H T (.tup [v, u])) { s with heap := h', toks := tk } := I.turnedNew (t' := tk) (ch := [z, TI, TO, i1, i2]) (fun b o hb e => hk b o (fun q => hb (by simp [q])) (fun q => hb (by simp [q])) (fun q => hb (by simp [q])) (fun q => hb (by simp [q])) e) hf (by rw [← hTe]; exact Nat.le_refl _) new
    have rv2 : DR X.kw S t v d := rv.stp i0 p
    have ru2 : DR X.kw S t u c := ru.stp i0 p
    obtain ⟨p3, i3, r3⟩ := new_tup (K := X.kw) i2' hTn (.cons rv2 (.cons ru2 .nil))
    have hTL : L ≠ T := fun q => by rw [q] at hL; rw [hTn] at hL; cases hL
    have hL1 : upd H T (.tup [v, u]) L = some (.lst vs) := by rw [upd_ne hTL]; exact hL
    have hS1 : upd S T (.tup [v, u]) L = none := by rw [upd_ne hTL]; exact hS
    obtain ⟨zl1, its1, cn1, rl1, hll1, eL1⟩ := I1.lstM hL1
    have hvl : vs.length = i := by
      have := dv.length
      rw [List.length_take] at this
      omega
    have hzl : its1.toArray.size < sizeLine := by
      rw [List.size_toArray, ← rl1.length, hvl]
      omega
    show wpAny _ A.in1 (updateSeq L (·.push (Value.ref T)) >>= _) _ _ _
    refine wpAny_bind (wpAny_updateSeq eL1 rfl (wpAny_pure ⟨plainId_quiet PySem.F.plain_extend_loop _, ?_⟩) (by omega) (by show (its1.toArray.push _).size ≤ _; rw [Array.size_push]; omega))
    have old : ∀ b o, b ≠ L → h'.get? b = some o → (h'.update L (Obj.mapSeq (·.push (Value.ref T)))).get? b = some o := fun b o hb e => (Heap.get?_update_other _ _ (Ne.symm hb)).trans e
    have I2 : Inv X pins σ (upd (upd H T (.tup [v, u])) L (.lst (vs ++ [.ref T]))) { s with heap := h'.update L (Obj.mapSeq (·.push (Value.ref T))), toks := tk } := by
      refine I1.write (t' := tk) (by rw [hL1]; exact True.intro) (.inl rfl) old ⟨_, Heap.get?_update_self _ eL1 rfl⟩ ⟨?_, its1 ++ [.ref T], cn1 + 1, rl1.append (.cons (show RelV (V.ref T) (Value.ref T) from rfl) .nil), ?_⟩
      · rw [List.length_append, hvl]; show i + 1 ≤ _; omega
      · rw [Heap.get?_update_self _ eL1 rfl]
        simp [Obj.mapSeq]
    have i4 := own_hi (o := .lst (vs ++ [V.ref T])) i3 hS1 (by rw [hL1]; simp) ht
    refine ih (i + 1) _ _ _ tk _ (Nat.lt_trans (by rw [← hTe]; exact hto) (Heap.lt_size (old T _ (Ne.symm hTL) hT))) (by omega) hlt (st'.keep ap old) I2 (fun c hc => ?_) (stp_own (p.trans p3) hL0) i4 upd_same hS1 ht ?_
    · have hcL : c ≠ L := by
        have e' : c = z ∨ c = TI ∨ c = TO ∨ c = i1 ∨ c = i2 := by simpa using hc
        rcases e' with q | q | q | q | q
        · rw [q]; exact ap.z
        · rw [q]; exact ap.ti
        · rw [q]; exact ap.to
        · rw [q]; exact ap.i1
        · rw [q]; exact ap.i2
      have hcT : c ≠ T := by
        have hcl : c < h.objs.size := by
          have e' : c = z ∨ c = TI ∨ c = TO ∨ c = i1 ∨ c = i2 := by simpa using hc
          rcases e' with q | q | q | q | q
          · rw [q]; rcases st.zz with ⟨w, _⟩ | ⟨_, _, _, w, _⟩ <;> exact Heap.lt_size w
          · rw [q]; exact Heap.lt_size st.ti
          · rw [q]; exact hto
          · rw [q]; obtain ⟨_, w, _⟩ := st.n1; exact Heap.lt_size w
          · rw [q]; obtain ⟨_, w, _⟩ := st.n2; exact Heap.lt_size w
        rw [← hTe]; exact Nat.ne_of_lt hcl
      have q := hf c hc
      exact ⟨by rw [upd_ne hcL, upd_ne hcT]; exact q.1, q.2⟩
    · rw [List.take_add_one, hg]
      exact (dv.stp i2' p3).append (.cons (by rw [ezc]; exact r3) .nil)
end
section
theorem zip_nolen : typeLookup (.type "zip") "__len__" = pure none := am_miss_of_fast (by decide +kernel)
theorem zip_nohint : typeLookup (.type "zip") "__length_hint__" = pure none := am_miss_of_fast (by decide +kernel)
theorem zip_hint {prog : Program} {w : World} {A : Around} {E : Value → Shared → Prop} {s : Shared} {z : Addr} (hT : s.TypeIs (.ref z) "zip") {Q : Bool → Shared → Prop} (h : Q true s) : wpAny (model prog w) A (Builtin.List.listLengthHint (.ref z)) Q E s := by
  unfold Builtin.List.listLengthHint
  refine wpAny_bind (wpAny_specialOf hT zip_nolen ?_)
  repeat (first | exact h | exact wpAny_pure h | (refine wpAny_bind (wpAny_specialOf hT zip_nohint ?_)) | wp_step)
end
section
variable {X : Cx} {pins : List (Addr × Obj)} {σ : St} {z TI TO i1 i2 l1 l2 : Addr} {xs ys : Array Value} {S H : Hp} {t : Th} {m : Store} {dx dy : List D} {xv yv : List V} {s : Shared} {A : Around} {E : Value → Shared → Prop}
theorem zl_list {Q : Value → Shared → Prop} (hh : A.handled = none) (I : Inv X pins σ H s) (Dz : ZipApart z TI TO i1 i2 l1 l2) (hz : IsZip s.heap z TI TO .none) (hti : IsPair s.heap TI (.ref i1) (.ref i2)) (hto : IsPair s.heap TO .none .none) (n1 : s.heap.IsListIter i1 l1 0) (n2 : s.heap.IsListIter i2 l2 0)
    (b1 : s.heap.IsList l1 xs) (b2 : s.heap.IsList l2 ys) (hf : ∀ c ∈ [z, TI, TO, i1, i2], FpOk X pins H c) (rx : Vals xv xs.toList) (ry : Vals yv ys.toList) (i0 : HI X.kw S H t m) (ex : DRs X.kw S t xv dx) (ey : DRs X.kw S t yv dy) (hzl : (zips dx dy).length ≤ sizeLine)
    (q : ∀ h tk, ZEnd X pins σ S H t m s.heap.objs.size (zips dx dy) { s with heap := h, toks := tk } → Q (.ref s.heap.objs.size) { s with heap := h, toks := tk }) : wpAny (model X.prog X.w) A (call (.type "list") [.ref z]) Q E s := by
  have lt1 : l1 < s.heap.objs.size := let ⟨_, e, _⟩ := b1; Heap.lt_size e
  have lt2 : l2 < s.heap.objs.size := let ⟨_, e, _⟩ := b2; Heap.lt_size e
  have li1 : i1 < s.heap.objs.size := let ⟨_, e, _⟩ := n1; Heap.lt_size e
  have li2 : i2 < s.heap.objs.size := let ⟨_, e, _⟩ := n2; Heap.lt_size e
  have lz := Heap.lt_size hz
  have lti := Heap.lt_size hti
  have lto := Heap.lt_size hto
  generalize hLe : s.heap.objs.size = L at *
  have ap : LApart L z TI TO i1 i2 l1 l2 := ⟨Nat.ne_of_lt lz, Nat.ne_of_lt lti, Nat.ne_of_lt lto, Nat.ne_of_lt li1, Nat.ne_of_lt li2, Nat.ne_of_lt lt1, Nat.ne_of_lt lt2⟩
  have hLn : H L = none := I.hok.fresh (by rw [hLe]; exact Nat.le_refl _)
  refine callType_codes (Q₁ := fun obj s₁ => obj = .ref L ∧ s₁ = { s with heap := s.heap.push { cls := .type "list", data := .seq #[] } }) PySem.F.called_list (PySem.F.typeCall_list_1 _) PySem.F.entry_list_init
    (by rw [← hLe]; exact code_list_new _ ⟨rfl, rfl⟩) fun obj s₁ h₁ => ?_
  obtain ⟨rfl, rfl⟩ := h₁
  have e0 : (s.heap.push { cls := .type "list", data := .seq #[] }).get? L = some { cls := .type "list", data := .seq #[] } := by rw [← hLe]; exact Heap.get?_push_size _ rfl
  refine ⟨⟨_, e0, rfl⟩, PySem.F.args_list_init_2 _ _, ?_⟩
  -- what comes behind, from any heap in which L stands empty
  have key : ∀ (h : Heap) (c tk : Nat), (∀ b o, s.heap.get? b = some o → h.get? b = some o) → h.get? L = some { cls := .type "list", data := .seq #[] c } →
      codeAny (model X.prog X.w) A.in1 (.builtin "list.extend.loop" ⟨[.ref L, .ref z, .none], []⟩) (wants (fun r s₂ => r = Value.none ∧ Q (.ref L) s₂) E) { s with heap := h, toks := tk } := by
    intro h c tk hk hL
    have I1 : Inv X pins σ (upd H L (.lst [])) { s with heap := h, toks := tk } := I.laid (t' := tk) hk (by rw [hLe]; exact Nat.le_refl _) ⟨Nat.zero_le _, [], c, .nil, hL⟩
    obtain ⟨i2', p2⟩ := new_hi0 (o := .lst []) i0 hLn
    have hS : S L = none := by
      cases e : S L with
      | none => rfl
      | some o => rw [i0.sub L o e] at hLn; cases hLn
    refine zl_loop (A := A.in1) hh Dz ap hLn rx ry i0 ex ey hzl .none (fun h2 tk2 z => ⟨rfl, q h2 tk2 z⟩) _ 0 S _ h tk [] (Heap.lt_size (hk _ _ hto)) rfl (Nat.zero_le _) ⟨hk _ _ hti, n1.at fun o e => hk _ o e, n2.at fun o e => hk _ o e, b1.at fun o e => hk _ o e, b2.at fun o e => hk _ o e, .inl ⟨hk _ _ hz, _, _, hk _ _ hto⟩⟩ I1 (fun c' hc => ?_) p2 i2' upd_same hS (fun k e => i0.off k L e hLn) .nil
    have g := hf c' hc
    refine ⟨?_, g.2⟩
    have e' : c' = z ∨ c' = TI ∨ c' = TO ∨ c' = i1 ∨ c' = i2 := by simpa using hc
    have hcl : c' ≠ L := by
      rcases e' with q | q | q | q | q
      · rw [q]; exact ap.z
      · rw [q]; exact ap.ti
      · rw [q]; exact ap.to
      · rw [q]; exact ap.i1
      · rw [q]; exact ap.i2
    rw [upd_ne hcl]
    exact g.1
  show wpAny _ _ (do let old ← Builtin.List.listItems (.ref L); Builtin.List.listUpdate (.ref L) (fun _ => #[]); letGo old.toList.reverse; Builtin.List.listExtendWith (.ref L) (.ref z) .none) _ _ _
  refine wpAny_bind ?_
  unfold Builtin.List.listItems
  refine wpAny_bind (wpAny_seqItems e0 rfl (wpAny_pure ?_))
  show wpAny _ _ (updateSeq L (fun _ => #[]) >>= fun _ => letGo (#[] : Array Value).toList.reverse >>= fun _ => Builtin.List.listExtendWith (.ref L) (.ref z) .none) _ _ _
  refine wpAny_bind (wpAny_updateSeq e0 rfl (wpAny_bind (wpAny_letGo ?_)))
  have e1 := Heap.get?_update_self (Obj.mapSeq (fun _ => (#[] : Array Value))) e0 rfl
  have k1 : ∀ b o, s.heap.get? b = some o → ((s.heap.push { cls := .type "list", data := .seq #[] }).update L (Obj.mapSeq (fun _ => (#[] : Array Value)))).get? b = some o := fun b o e =>
    (Heap.get?_update_other _ _ (fun q => absurd (Heap.lt_size e) (by rw [hLe, q]; exact Nat.lt_irrefl _))).trans (Heap.get?_push_of_some _ e)
  generalize (s.heap.push { cls := .type "list", data := .seq #[] }).update L (Obj.mapSeq (fun _ => (#[] : Array Value))) = h1 at e1 k1 ⊢
  unfold Builtin.List.listExtendWith
  refine wpAny_bind (wpAny_typeOf (T := "zip") ⟨_, k1 _ _ hz, rfl⟩ ?_)
  have c1 : Builtin.List.listSameRef (.ref L) (.ref z) = false := by simp [Builtin.List.listSameRef, Ne.symm ap.z]
  have c2 : (Value.type "zip" == Value.type "list") = false := by decide
  have c3 : (Value.type "zip" == Value.type "tuple") = false := by decide
  simp only [c1, c2, c3, Bool.or_false, Bool.false_eq_true, if_false]
  refine wpAny_bind (wpAny_pyIter_zip (k1 _ _ hz) (wpAny_bind (wpAny_holding (zip_hint ⟨_, k1 _ _ hz, rfl⟩ ?_))))
  simp only [Bool.true_or, if_true]
  refine wpAny_bind (wpAny_rule (wpAny_bind ?_))
  show wpAny _ _ (updateSeq L (·.push .none) >>= fun _ => updateSeq L (·.pop)) _ _ _
  refine wpAny_bind (wpAny_updateSeq e1 rfl ?_)
  have e2 := Heap.get?_update_self (Obj.mapSeq (·.push Value.none)) e1 rfl
  refine wpAny_updateSeq (hz := by seq_fits) e2 rfl ?_
  have e3 := Heap.get?_update_self (Obj.mapSeq (·.pop)) e2 rfl
  refine wpAny_pure ⟨plainId_quiet PySem.F.plain_extend_loop _, key _ _ _ (fun b o e => ?_) e3⟩
  have hb : L ≠ b := fun q => absurd (Heap.lt_size e) (by rw [hLe, q]; exact Nat.lt_irrefl _)
  exact (Heap.get?_update_other _ _ hb).trans ((Heap.get?_update_other _ _ hb).trans (k1 b o e))
end
/-! ### the rule -/
@[simp] def zipLG : List D → Option (List D)
  | [.lst xs, .lst ys] => if short (zips xs ys) = true then some (zips xs ys) else none
  | _ => none
section
open PyProof.Rows
variable {X : Cx} {G : Cfg} {W : WX} {a b : Expr} {fs : EvA} {p p3 q pos : Pos}
theorem df_listZip (hc : X.calm = true) (hK : X.kw = G.K) (hg : Gl X "list") (hm : X.mg "list" = none) (hg2 : Gl X "zip") (hm2 : X.mg "zip" = none) (ha : PA X [a, b] (semA G W fs))
    (na : starEach [.Call (.Name "zip" p3) [a, b] [] q] X.env = (false, eval (.Call (.Name "zip" p3) [a, b] [] q) X.env) :: starEach [] X.env := by rfl)
    (hs : starEach [a, b] X.env = (false, eval a X.env) :: starEach [b] X.env := by rfl) (hpl : (backTo q (starEach [b] X.env)).any (·.1) = false := by rfl) :
    PE X (.Call (.Name "list" p) [.Call (.Name "zip" p3) [a, b] [] q] [] pos) (semF G W (argI zipLG fs)) := by
  refine ⟨fun pins s σ H Q I h => ?_⟩
  obtain ⟨S, t, m, e, si, g⟩ := h
  have g := Gd.sp g
  refine Call_ (ld_blt I hg hm boot_list (PyProof.Rows.callWith_type1 (args_cons (Call_ (ld_blt I hg2 hm2 PyProof.Rows.boot_zip (PyProof.Rows.callWith_type1 (thn (ha.run q pins s σ H (fun vs H1 => ∃ S1 t1 m1 ds, Stp S H t S1 H1 t1 ∧ HI G.K S1 H1 t1 m1 ∧ DRs G.K S1 t1 vs ds ∧ Gd G W σ S1 H1 t1 (.of (zipLG ds) m1) fun S' H' t' _ xs => ∀ p, OwnAt G.K S' H' t' p (.lst xs) → H p = none → Q (.ref p) H') I
    ⟨S, t, m, e, si, g.imp fun S1 H1 t1 m1 ds p1 i1 h1 vs rs => ⟨S1, t1, m1, ds, p1, i1, rs, h1⟩⟩) fun us s1 ⟨vs, H1, I1, r1, S1, t1, m1, ds, p1, i1, rs, h1⟩ => ?_) hs hpl))) na) na))
  have h1' := h1
  unfold zipLG at h1'
  split at h1'
  · rename_i xs ys
    cases rs with
    | cons d1 rs =>
    cases rs with
    | cons d2 rs =>
    cases rs
    cases d1 with
    | @lst l1 vx _ e1 d1 =>
    cases d2 with
    | @lst l2 vy _ e2 d2 =>
    cases r1 with
    | cons r r1 =>
    cases r1 with
    | cons r' r1 =>
    cases r1
    cases r
    cases r'
    split at h1'
    · rename_i hsh
      have kK := kw_K hK
      obtain ⟨its1, v1, pl1, _⟩ := I1.list (.of (i1.sub _ _ e1))
      obtain ⟨its2, v2, pl2, _⟩ := I1.list (.of (i1.sub _ _ e2))
      refine call_zip_2 pl1.isList pl2.isList fun h' hz hTI hTO n1 n2 hsz hk => ?_
      have fresh5 : ∀ c, c ∈ [s1.heap.objs.size + 4, s1.heap.objs.size + 2, s1.heap.objs.size + 3, s1.heap.objs.size, s1.heap.objs.size + 1] → FpOk X pins H1 c := fun c hcm => by
        have hle : s1.heap.objs.size ≤ c := by
          have e' : c = s1.heap.objs.size + 4 ∨ c = s1.heap.objs.size + 2 ∨ c = s1.heap.objs.size + 3 ∨ c = s1.heap.objs.size ∨ c = s1.heap.objs.size + 1 := by simpa using hcm
          rcases e' with z | z | z | z | z <;> (rw [z]; first | exact Nat.le_add_right _ _ | exact Nat.le_refl _)
        exact I1.fpOk hle (I1.hok.fresh hle)
      have I2 : Inv X pins σ H1 { s1 with heap := h' } := I1.kept (t' := s1.toks) hk
      refine args_nil ?_
      refine zl_list (s := { s1 with heap := h' }) (I1.ok.hd hc) I2 (PySem.W.ktu_apart s1.heap.objs.size l1 l2 pl1.lt pl2.lt) hz hTI hTO n1 n2 (pl1.isList.at fun o e => hk _ o e) (pl2.isList.at fun o e => hk _ o e) fresh5 (by simpa using v1) (by simpa using v2) (hK ▸ i1) (hK ▸ d1) (hK ▸ d2) (short_le hsh) fun h2 tk ⟨S', H', I', p', i', own⟩ => ?_
      refine ⟨.ref h'.objs.size, H', I', rfl, h1' S' H' t1 p' (hK ▸ i') _ (hK ▸ own) ?_⟩
      cases z : H h'.objs.size with
      | none => rfl
      | some o =>
        have n := I2.hok.fresh (Nat.le_refl h'.objs.size)
        exact absurd n (p1.dom _ (by rw [z]; simp))
    · exact h1'.elim
  · exact h1'.elim
end
end Dn
/-! isinstance with classes of the text; tuples that stand at the top. -/
namespace Dn
open PySem L2
/-- what isinstance asks of a class -/
structure ClsI (K : PySem.W.Frag) (C : Addr) : Prop where
  ca : PySem.W.findIn K (.ref C) "__class__" = some (some (.builtin "object.__class__"))
  cn : PySem.W.specialIn K (.builtin "object.__class__") "__get__" = some (some (.builtin "getset_descriptor.__get__"))
  ct : PySem.W.takesIn K (.builtin "object.__class__") = some true
  cm : PySem.W.mroIn K C (.type "object") = some true
@[simp] def isOwnE (c : Str) (f : EvE) : EvE := fun C e m => (f C e m).bind fun d m1 => match insG m1 d with
  | some (c', _) => if c' = c then .ok (.bl true) m1 else .stuck
  | none => .stuck
section
variable {X : Cx} {G : Cfg} {W : WX} {a : Expr} {fa : EvE} {p pos py : Pos} {c : Str} {C : Addr}
theorem de_isOwn (T : ClsT X.K X.mg c C) (ci : ClsI X.K C) (hK : X.kw = G.K) (hg : Gl X "isinstance") (hm : X.mg "isinstance" = none) (hgy : Gl X c) (ha : PE X a (semE G W fa))
    (hdy : (c == ("__debug__" : Str)) = false := by decide) (h1 : starEach [a, .Name c py] X.env = (false, eval a X.env) :: starEach [.Name c py] X.env := by rfl) (h2 : starEach [.Name c py] X.env = (false, eval (.Name c py) X.env) :: starEach [] X.env := by rfl)
    (hpl : (backTo pos (starEach [.Name c py] X.env)).any (·.1) = false := by rfl) :
    PE X (.Call (.Name "isinstance" p) [a, .Name c py] [] pos) (semE G W (isOwnE c fa)) := by
  refine (pe_callB call_isi hg hm PyProof.Rows.boot_isinstance (pa_cons ha (pa_cons (pe_glob (v := .ref C) hgy T.g rfl hdy) pa_nil h2) h1) (by decide) (by decide) h1 hpl).imp fun σ H Q ⟨S, t, m, e, si, g⟩ => ⟨S, t, m, e, si, (Gd.sp g).imp fun S1 H1 t1 m1 d p1 i1 g1 v rv => ?_⟩
  cases hi : insG m1 d with
  | none => rw [hi] at g1; exact g1.elim
  | some z =>
    obtain ⟨c', fl⟩ := z
    rw [hi] at g1
    dsimp only at g1
    split at g1
    · rename_i hc
      subst hc
      obtain ⟨ad, C', dx, vs, rfl, q2, q3, q4⟩ := insAt i1 rv hi
      have ta := T.at_
      rw [kw_K hK, q2] at ta
      obtain rfl : C' = C := Option.some.inj ta
      exact ⟨.ref ad, .ref C', .ref C', .ref C', true, rfl, .own C', .base (.ins q3 T.cls ci.ca ci.cn ci.ct ci.cm), by unfold PySem.W.kitOne; rw [if_pos (by simp)], Gd.now g1 i1 _ (.bl true)⟩
    · exact g1.elim
end
/-! ### tuples of texts at the top -/
structure TupG (K : PySem.W.Frag) (mg : Str → Option Value) (x : Str) (ss : List Str) : Prop where
  at_ : ∃ (a : Addr) (o : Obj) (its : Array Value) (n : Nat), mg x = some (.ref a) ∧ K.lookup a = some o ∧ o.cls = .type "tuple" ∧ o.data = .seq its n ∧ its.size ≤ sizeLine ∧ Vals (ss.map V.str) its.toList
section
variable {X : Cx} {G : Cfg} {W : WX} {pos : Pos} {x : Str} {ss : List Str}
theorem strs_dr {K : KW} {S : Hp} {t : Th} : ∀ ss : List Str, DRs K S t (ss.map V.str) (ss.map D.str)
  | [] => .nil
  | s :: ss => .cons (.str s) (strs_dr ss)
theorem de_globT (hK : X.kw = G.K) (hg : Gl X x) (T : TupG X.K X.mg x ss) (hdb : (x == ("__debug__" : Str)) = false := by decide) : PE X (.Name x pos) (semE G W (conE (.tup (ss.map D.str)))) := by
  obtain ⟨a, o, its, n, h1, h2, h3, h4, h5, h6⟩ := T.at_
  exact de_glob (v := .ref a) hg h1 rfl (fun S t => .tup (.inr ⟨o, its, n, kw_K hK ▸ h2, h3, h4, h5, h6⟩) (strs_dr ss)) hdb
end
end Dn
/-! name = {k: v for ..}; walks of lists as walks of all. -/
namespace Dn
open PySem L2
section
variable {X : Cx} {G : Cfg} {W : WX} {E : Snap}
theorem pi_2 {tg e : Expr} {f : EvA} (h : PI X tg e (semI G W f)) : PI X tg e (semI2 G W f) := h.imp fun _ _ _ => semI2_of
theorem df_sortD {a : Expr} {es : List Expr} {fs : EvA} {p pos : Pos} (hc : X.calm = true) (hu : X.A.units + 65 < cLine) (hK : X.kw = G.K) (hg : Gl X "sorted") (hm : X.mg "sorted" = none) (hv : bootBuiltins "sorted" = some (.builtin "sorted")) (ha : PA X (a :: es) (semAB G W fs))
    (he : starEach (a :: es) X.env = (false, eval a X.env) :: starEach es X.env := by rfl) (hpl : (backTo pos (starEach es X.env)).any (·.1) = false := by rfl) : PE X (.Call (.Name "sorted" p) (a :: es) [] pos) (semF G W (bltF sortFD fs)) :=
  df_bb (cf_sortD hc hu) hK hg hm hv ha (by decide) (by decide) he hpl
theorem ds_setDcV {i : Nat} {y : Str} {py : Pos} {kx vx tg iter : Expr} {ifs : List Expr} {scope : Scope} {own : List (Str × Nat)} {ws : List Nat} {lpos spos : Pos} {fi : EvA} {g : Tg} {tt : EvT} {tk tv : EvE} (hu : X.A.units + 65 < cLine) (hK : X.kw = G.K) (hc : X.calm = true) (hN : X.N.Nodup) (hy : X.N[i]? = some y)
    (hyl : X.env.scope.names.lookup y = some .local) (hsw : swapsWith (.DictComp kx vx [⟨tg, iter, ifs, 0⟩] scope lpos) (some (.Name y py)) spos.line X.env = pure true) (ok : BlkOk X.N X.env.scope scope own) (hw : own.map (·.2) = ws) (hi : PI X tg iter (semI2 G W fi))
    (hv : (tslots g).all (fun j => ws.contains j) = true) (hg : ∀ s H C cl fp, PG (X.blk s H scope (CE X scope C cl) fp) tg (semG G.K G.x g)) (ht : ∀ s H C cl fp, PTs (X.blk s H scope (CE X scope C cl) fp) ifs (semT G W0 tt))
    (hk : ∀ s H C cl fp, PE (X.blk s H scope (CE X scope C cl) fp) kx (semE G W0 tk)) (he : ∀ s H C cl fp, PE (X.blk s H scope (CE X scope C cl) fp) vx (semE G W0 tv)) (hs : ∀ x, foldedSetIterable iter X.env x = pure x := by intro _; rfl) :
    PS X (.Assign [.Name y py] (.DictComp kx vx [⟨tg, iter, ifs, 0⟩] scope lpos) spos) (semS G W E (asgS (.nm i) (dctE (dcF fi g tt tk tv ws)))) := by
  subst hw
  refine (ps_setDcX hu hc hN hy hyl hsw hi ok hg ht hk he hs).imp fun D σ H h => sem_dc hK (lc_ws hv) ?_
  have h1 := sem_set h
  obtain ⟨S, t, m, e, si, g⟩ := h1
  refine ⟨S, t, m, e, si, ?_⟩
  unfold dctE at g
  revert g
  cases dcF fi g tt tk tv (own.map (·.2)) G.C e m with
  | ok ys m2 =>
    intro g S' H' t' q i p ho hn
    obtain ⟨S2, q2, i2, r⟩ := ho.settleD i q hn
    exact g S2 H' t' q2 i2 _ r
  | exc c fs m' => exact id
  | stuck => exact id
theorem sw_trueD {kx vx : Expr} {gs : List Comprehension} {scope : Scope} {pos py : Pos} {y : Str} {l : Nat} {env : PySem.Env} (hk : env.scope.kind = .function) (hy : env.scope.names.lookup y = some .local) (hl : (py.line == pos.line) = true)
    (ha : (scope.names.any fun (n, k) => n == y && (k == .local || k == .cell)) = false) : swapsWith (.DictComp kx vx gs scope pos) (some (.Name y py)) l env = pure true := by
  have k1 : env.kindOf y = some .local := hy
  have k2 : env.blockKind = .function := by unfold PySem.Env.blockKind; rw [hk]; rfl
  unfold swapsWith
  simp only [k1, k2, ha, Expr.pos, hl]
  rfl
theorem blT_use {f : EvE} {σ : St} {H : Hp} {Q : Bool → Hp → Prop} (h : semT G W (blT f) σ H Q) : semE G W f σ H fun x H' => ∃ k, x = .bl k ∧ Q k H' := by
  obtain ⟨S, t, m, e, si, h⟩ := h
  refine ⟨S, t, m, e, si, (Gd.split h).imp fun S1 H1 t1 m1 x p1 i1 ⟨_, _, h2⟩ v rv => ?_⟩
  cases x with
  | bl b => cases rv; exact ⟨b, rfl, Gd.now h2 i1⟩
  | _ => exact h2.elim
theorem dt_eqOwn {a b : Expr} {fa fb : EvE} {pos : Pos} {n f : Nat} {C : Addr} {c : Str} (T : ClsT X.K X.mg c C) (F : MtL X.prog X.w X.K X.mg X.base G n f 2 C "__eq__") (hr : Room n X.A) (hK : X.kw = G.K) (ha : PE X a (semE G W fa)) (hb : PE X b (semE G W fb)) (hm : behindInMarks .Eq b = false) :
    PT X (.Compare a [.Eq] [b] pos) (semT G W (blT (ownEqE id c f fa fb))) :=
  (pt_cmpR (op_eqOwn F hr) ha hb hm).imp fun σ H Q h => own_use T hK (blT_use h)
theorem dt_neOwn {a b : Expr} {fa fb : EvE} {pos : Pos} {n f : Nat} {C : Addr} {c : Str} (T : ClsT X.K X.mg c C) (F : MtL X.prog X.w X.K X.mg X.base G n f 2 C "__eq__") (hr : Room n X.A) (hn : PySem.W.findIn X.K (.ref C) "__ne__" = some (some (.builtin "object.__ne__"))) (ho : PySem.W.mroIn X.K C (.type "object") = some true) (hK : X.kw = G.K)
    (ha : PE X a (semE G W fa)) (hb : PE X b (semE G W fb)) (hm : behindInMarks .NotEq b = false) : PT X (.Compare a [.NotEq] [b] pos) (semT G W (blT (ownEqE not c f fa fb))) :=
  (pt_cmpR (op_neOwn F hr hn ho) ha hb hm).imp fun σ H Q h => own_use T hK (blT_use h)
end
end Dn
/-! Methods of texts: find, join, split; str(x), int(text). -/
namespace Dn
open PySem L2
@[simp] def isStr : D → Option Str
  | .str s => some s
  | _ => none
/-- s.m(a), a datum -/
@[simp] def tmE (g : Store → Str → D → Option D) (o a : EvE) : EvE := fun C e m => (o C e m).bind fun x m1 => (R.of (isStr x) m1).bind fun s m2 => (a C e m2).bind fun y m3 => .of (g m3 s y) m3
/-- s.m(a), a new list -/
@[simp] def tmF (g : Store → Str → D → Option (List D)) (o a : EvE) : EvA := fun C e m => (o C e m).bind fun x m1 => (R.of (isStr x) m1).bind fun s m2 => (a C e m2).bind fun y m3 => .of (g m3 s y) m3
def TmD (X : Cx) (id : String) (g : Store → Str → D → Option D) : Prop :=
  ∃ r : V → List V → Hp → VK → Prop, MtR X id r ∧ ∀ S H t m s y e z (Q : VK), HI X.kw S H t m → BR X.kw S H t y e → g m s e = some z → (∀ v S' H', Stp S H t S' H' t → HI X.kw S' H' t m → DR X.kw S' t v z → Q v H') → r (.str s) [y] H Q
def TmF (X : Cx) (id : String) (g : Store → Str → D → Option (List D)) : Prop :=
  ∃ r : V → List V → Hp → VK → Prop, MtR X id r ∧ ∀ S H t m s y e zs (Q : VK), HI X.kw S H t m → BR X.kw S H t y e → g m s e = some zs → (∀ p S' H', Stp S H t S' H' t → HI X.kw S' H' t m → OwnAt X.kw S' H' t p (.lst zs) → H p = none → Q (.ref p) H') → r (.str s) [y] H Q
@[simp] def toStrs : List D → Option (List Str)
  | [] => some []
  | .str i :: ds => (toStrs ds).map fun is => i :: is
  | _ :: _ => none
theorem toStrs_v {K : KW} {S : Hp} {t : Th} : ∀ {ds : List D} {vs : List V} {is : List Str}, DRs K S t vs ds → toStrs ds = some is → vs = is.map V.str
  | [], _, _, h, e => by cases h; unfold toStrs at e; cases e; rfl
  | .str i :: ds, _, _, .cons (.str _) h2, e => by
    unfold toStrs at e
    cases q : toStrs ds with
    | none => rw [q] at e; cases e
    | some js =>
      rw [q] at e
      cases e
      rw [List.map_cons, toStrs_v h2 q]
  | .non :: _, _, _, _, e => by unfold toStrs at e; cases e
  | .bl _ :: _, _, _, _, e => by unfold toStrs at e; cases e
  | .int _ :: _, _, _, _, e => by unfold toStrs at e; cases e
  | .tup _ :: _, _, _, _, e => by unfold toStrs at e; cases e
  | .lst _ :: _, _, _, _, e => by unfold toStrs at e; cases e
  | .frz _ :: _, _, _, _, e => by unfold toStrs at e; cases e
  | .ref _ :: _, _, _, _, e => by unfold toStrs at e; cases e
  | .dct _ :: _, _, _, _, e => by unfold toStrs at e; cases e
  | .ins _ _ :: _, _, _, _, e => by unfold toStrs at e; cases e
theorem drs_strs {K : KW} {S : Hp} {t : Th} : ∀ ys : List Str, DRs K S t (ys.map V.str) (ys.map D.str)
  | [] => .nil
  | y :: ys => .cons (.str y) (drs_strs ys)
def findT : Store → Str → D → Option D := fun _ s y => match y with
  | .str b => some (.int (Txt.find s b))
  | _ => none
def joinS (s : Str) (ds : List D) : Option D := (toStrs ds).bind fun ys => if (ys.map (·.length)).sum + ys.length * s.length ≤ 16777216 then some (.str (Txt.join s ys)) else none
def joinT : Store → Str → D → Option D := fun _ s y => match y with
  | .lst ds => joinS s ds
  | .tup ds => joinS s ds
  | _ => none
def splitT : Store → Str → D → Option (List D) := fun _ s y => match y with
  | .str b => if (b.length == 0) = false ∧ s.length + 2 ≤ LIM then some ((Txt.split s b).map .str) else none
  | _ => none
section
variable {X : Cx}
theorem tm_find : TmD X "str.find" findT := by
  refine ⟨_, mt_find, fun S H t m s y e z Q i b_y hz q => ?_⟩
  unfold findT at hz
  split at hz
  · cases hz
    exact ⟨_, _, rfl, by rw [b_y.str], q _ _ _ .refl i (.int _)⟩
  · cases hz
theorem tm_join : TmD X "str.join" joinT := by
  refine ⟨_, mt_join, fun S H t m s y e z Q i b_y hz q => ?_⟩
  have fin : ∀ a vs ds, (SqL X.K H a vs ∨ SqT X.K H a vs) → y = V.ref a → DRs X.kw S t vs ds → joinS s ds = some z → ∃ a p, ∃ ys : List Str, (V.str s) = .str a ∧ [y] = [.ref p] ∧ (SqL X.K H p (ys.map V.str) ∨ SqT X.K H p (ys.map V.str)) ∧
      (ys.map (·.length)).sum + ys.length * a.length ≤ 16777216 ∧ Q (.str (Txt.join a ys)) H := by
    intro a vs ds hs hy hd hz
    unfold joinS at hz
    cases h1 : toStrs ds with
    | none => rw [h1] at hz; cases hz
    | some ys =>
      rw [h1] at hz
      simp only [Option.bind_some] at hz
      split at hz
      · rename_i hl
        cases hz
        have e := toStrs_v hd h1
        subst e
        exact ⟨s, a, ys, rfl, by rw [hy], hs, hl, q _ _ _ .refl i (.str _)⟩
      · cases hz
  unfold joinT at hz
  split at hz
  · obtain ⟨a, vs, hy, a2, a3⟩ := b_y.lst i
    exact fin a vs _ (.inl (.of a2)) hy a3 hz
  · obtain ⟨a, vs, hy, _, a2, a3⟩ := b_y.tup i
    exact fin a vs _ (.inr a2) hy a3 hz
  · cases hz
theorem tm_split : TmF X "str.split" splitT := by
  refine ⟨_, mt_split, fun S H t m s y e zs Q i b_y hz q => ?_⟩
  unfold splitT at hz
  split at hz
  · split at hz
    · rename_i hc
      cases hz
      refine ⟨_, _, rfl, by rw [b_y.str], hc.1, lim_le hc.2, fun p hp => ?_⟩
      obtain ⟨p2, i2, r⟩ := new_own i hp (drs_strs _)
      exact q _ _ _ p2 i2 r hp
    · cases hz
  · cases hz
@[simp] def strG : Store → List D → Option D := fun _ xs => match xs with
  | [.int i] => if i.natAbs.log2 < 1920 then some (.str (toString i)) else none
  | [.str s] => some (.str s)
  | _ => none
theorem cb_str : CallD X (.type "str") strG := by
  refine ⟨_, call_str_int.or SkE.call_str_str, fun S H t m xs ds z Q i bs hz q => ?_⟩
  unfold strG at hz
  split at hz
  · obtain ⟨v, rfl, b⟩ := bs.one
    split at hz
    · rename_i hl
      cases hz
      exact .inl ⟨_, by rw [b.int], hl, q _ _ _ .refl i (.str _)⟩
    · cases hz
  · obtain ⟨v, rfl, b⟩ := bs.one
    cases hz
    exact .inr ⟨_, by rw [b.str], q _ _ _ .refl i (.str _)⟩
  · cases hz
/-- int of a number or a text -/
@[simp] def intG2 : Store → List D → Option D := fun m xs => match xs with
  | [.str s] => if s.length ≤ 640 then (PySem.intText? s).map .int else none
  | xs => intG m xs
theorem cb_int2 : CallD X (.type "int") intG2 := by
  obtain ⟨r, r1, r2⟩ := cb_int (X := X)
  refine ⟨_, call_int_str.or r1, fun S H t m xs ds z Q i bs hz q => ?_⟩
  unfold intG2 at hz
  split at hz
  · obtain ⟨v, rfl, b⟩ := bs.one
    split at hz
    · rename_i s hl
      cases h1 : PySem.intText? s with
      | none => rw [h1] at hz; cases hz
      | some n =>
        rw [h1] at hz
        cases hz
        exact .inl ⟨_, _, by rw [b.str], h1, hl, q _ _ _ .refl i (.int _)⟩
    · cases hz
  · exact .inr (r2 S H t m _ _ z Q i bs hz q)
end
section
variable {X : Cx} {G : Cfg} {W : WX} {o a : Expr} {fo fa : EvE}
theorem de_tm {id : String} {name : Str} {apos pos : Pos} {g : Store → Str → D → Option D} (hg : TmD X id g) (slot : Slot "str" name id) (hty : typeOf (.builtin id) = pure (.type "method_descriptor")) (hK : X.kw = G.K) (ho : PE X o (semB G W fo)) (ha : PE X a (semB G W fa))
    (hs : starEach [a] X.env = [(false, eval a X.env)] := by rfl) (hbase : attributeBase o name X.env (eval o X.env) = eval o X.env := by rfl) (hline : (apos.endLine == pos.line) = true := by rfl) :
    PE X (.Call (.Attribute o name apos) [a] [] pos) (semE G W (tmE g fo fa)) := by
  obtain ⟨r, h1, h2⟩ := hg
  refine (pe_m1 slot hty h1 ho ha hs hbase hline).imp fun σ H Q ⟨S, t, m, e, si, h⟩ => ⟨S, t, m, e, si, (Gd.split h).imp fun S1 H1 t1 m1 x p1 i1 ⟨_, _, h3⟩ v rv => ?_⟩
  cases x with
  | str s =>
    have ev : v = .str s := rv.str
    simp only [isStr, R.of_some, R.bind_ok] at h3
    refine ⟨⟨s, ev⟩, S1, t1, m1, e, si.stp p1 i1, (Gd.split h3).imp fun S2 H2 t2 m2 y p2 i2 ⟨_, _, h4⟩ w rw' => ?_⟩
    cases hz : g m2 s y with
    | none => rw [hz] at h4; exact h4.elim
    | some z =>
      rw [hz] at h4
      rw [ev]
      exact h2 S2 H2 t2 m2 s w y z Q (hK ▸ i2) (hK ▸ rw') hz fun u S' H' p i ru => h4 S' H' t2 p (hK ▸ i) u (hK ▸ ru)
  | _ => exact h3.elim
theorem df_tm {id : String} {name : Str} {apos pos : Pos} {g : Store → Str → D → Option (List D)} (hg : TmF X id g) (slot : Slot "str" name id) (hty : typeOf (.builtin id) = pure (.type "method_descriptor")) (hK : X.kw = G.K) (ho : PE X o (semB G W fo)) (ha : PE X a (semB G W fa))
    (hs : starEach [a] X.env = [(false, eval a X.env)] := by rfl) (hbase : attributeBase o name X.env (eval o X.env) = eval o X.env := by rfl) (hline : (apos.endLine == pos.line) = true := by rfl) :
    PE X (.Call (.Attribute o name apos) [a] [] pos) (semF G W (tmF g fo fa)) := by
  obtain ⟨r, h1, h2⟩ := hg
  refine (pe_m1 slot hty h1 ho ha hs hbase hline).imp fun σ H Q ⟨S, t, m, e, si, h⟩ => ⟨S, t, m, e, si, (Gd.split h).imp fun S1 H1 t1 m1 x p1 i1 ⟨_, _, h3⟩ v rv => ?_⟩
  cases x with
  | str s =>
    have ev : v = .str s := rv.str
    simp only [isStr, R.of_some, R.bind_ok] at h3
    refine ⟨⟨s, ev⟩, S1, t1, m1, e, si.stp p1 i1, (Gd.split h3).imp fun S2 H2 t2 m2 y p2 i2 ⟨_, _, h4⟩ w rw' => ?_⟩
    cases hz : g m2 s y with
    | none => rw [hz] at h4; exact h4.elim
    | some z =>
      rw [hz] at h4
      rw [ev]
      refine h2 S2 H2 t2 m2 s w y z Q (hK ▸ i2) (hK ▸ rw') hz fun u S' H' p i ru hn => h4 S' H' t2 p (hK ▸ i) u (hK ▸ ru) ?_
      cases q : H u with
      | none => rfl
      | some o => exact absurd hn (p2.dom u (p1.dom u (by rw [q]; simp)))
  | _ => exact h3.elim
end
end Dn
/-! *text among items. -/
namespace Dn
open PySem L2
theorem str_it : typeLookup (.type "str") "__iter__" = pure (some (.builtin "str.__iter__")) := by rw [typeLookup_type, builtinLookup_eq_fast]; kernel_rfl
theorem vals_signs {α : Type} {f : α → Str} : ∀ (l : List α) (us : List Value), us.length = l.length → (∀ (j : Nat) (v : Value), us[j]? = some v → ∃ (c : α) (u : Tok), l[j]? = some c ∧ v = Value.str (f c) u) → Vals (l.map fun c => V.str (f c)) us
  | [], [], _, _ => .nil
  | [], _ :: _, h, _ => by cases h
  | _ :: _, [], h, _ => by cases h
  | c :: l, u :: us, h, g => by
    obtain ⟨c', t, e1, e2⟩ := g 0 u rfl
    have e1 : some c = some c' := e1
    cases e1
    exact .cons ⟨t, e2⟩ (vals_signs l us (by simpa using h) fun j v e => g (j + 1) v e)
theorem star_str {X : Cx} {pins : List (Addr × Obj)} {σ : L2.St} {H : Hp} {s : Shared} {x : Str} {t : Tok} {E : Value → Shared → Prop} {Q : List Value → Shared → Prop} (hc : X.calm = true) (I : Inv X pins σ H s) (hz : x.length ≤ sizeLine)
    (hQ : ∀ us s', Inv X pins σ H s' → Vals (x.cps.toList.map fun c => V.str ⟨#[c]⟩) us → Q us s') : PySem.W.StarOf (model X.prog X.w) X.A E (.str x t) Q s := by
  have z : wpAny (model X.prog X.w) X.A (collect (.str x t)) Q E s := by
    refine wpAny_collect_str (I.ok.hd hc) x t (fun s' acc hk hg hd ho hi => ?_) hz
    have es : s' = { s with heap := s'.heap, toks := s'.toks } := by
      cases s
      cases s'
      simp_all
    rw [es]
    refine hQ _ _ (I.kept hk) (vals_signs _ _ (by simpa using hi.1) fun j v e => ?_)
    obtain ⟨c, u, h1, h2⟩ := hi.2 j v (by rw [← Array.getElem?_toList]; exact e)
    exact ⟨c, u, by rw [Array.getElem?_toList]; exact h1, h2⟩
  unfold PySem.W.StarOf notIterableAtAll
  exact wpAny_bind (wpAny_specialOf (T := "str") (v := .str x t) rfl str_it (wpAny_pure ⟨rfl, z⟩))
def tStarS (te : TE) (t : TA) : TA := fun σ H Q => te σ H fun x H1 => ∃ z, x = V.str z ∧ z.length ≤ sizeLine ∧ t σ H1 fun ys H2 => Q ((z.cps.toList.map fun c => V.str ⟨#[c]⟩) ++ ys) H2
theorem pa_starS {X : Cx} {e : Expr} {es : List Expr} {te : TE} {t : TA} {p : Pos} (hc : X.calm = true) (he : PE X e te) (hr : PA X es t) (hs : starEach (.Starred e p :: es) X.env = (true, eval e X.env) :: starEach es X.env := by rfl) : PA X (.Starred e p :: es) (tStarS te t) := by
  refine ⟨fun pos pins s σ H Q I h => ?_⟩
  refine PySem.W.items_star (thn (he.run pins s σ H _ I h) fun v s1 ⟨y, H1, I1, ry, z, ey, hz, q⟩ => ?_) hs
  subst ey
  obtain ⟨t', rfl⟩ := ry
  refine star_str hc I1 hz fun us s2 I2 rv => ?_
  exact thn (hr.run pos pins s2 σ H1 _ I2 q) fun ws s3 ⟨vs, H3, I3, r3, q3⟩ => ⟨_ ++ vs, H3, I3, rv.append r3, q3⟩
theorem drs_signs {K : KW} {S : Hp} {t : Th} (z : Str) : DRs K S t (z.cps.toList.map fun c => V.str ⟨#[c]⟩) (signs z) := by
  unfold signs
  generalize z.cps.toList = l
  induction l with
  | nil => exact .nil
  | cons c l ih => exact .cons (.str _) ih
@[simp] def strOnly (f : EvE) : EvE := fun C e m => (f C e m).bind fun d m1 => (R.of (isStr d) m1).bind fun s m2 => .ok (.str s) m2
section
variable {X : Cx} {G : Cfg} {W : WX} {a : Expr} {es : List Expr} {fa : EvE} {fs : EvA}
theorem da_starS {sp : Pos} (hc : X.calm = true) (hK : X.kw = G.K) (ha : PE X a (semE G W fa)) (hr : PA X es (semA G W fs)) (hs : starEach (.Starred a sp :: es) X.env = (true, eval a X.env) :: starEach es X.env := by rfl) : PA X (.Starred a sp :: es) (semA G W (starA (strOnly fa) fs)) := by
  refine (pa_starS hc ha hr hs).imp fun σ H Q ⟨S, t, m, e, si, g⟩ => ⟨S, t, m, e, si, ?_⟩
  unfold starA strOnly at g
  refine (Gd.sp (Gd.sp g)).imp fun S1 H1 t1 m1 d p1 i1 h1 v rv => ?_
  cases rv with
  | str z =>
    simp only [isStr, R.of_some, R.bind_ok] at h1
    have h1 := Gd.now h1 i1
    simp only [itemsOf] at h1
    split at h1
    · rename_i hz
      simp only [R.of_some, R.bind_ok] at h1
      refine ⟨z, rfl, by have := short_le hz; simpa [Str.length] using this, S1, t1, m1, e, si.stp p1 i1, (Gd.sp h1).imp fun S2 H2 t2 m2 ys p2 i2 h2 ws rs => ?_⟩
      exact Gd.now h2 i2 _ ((drs_signs z).append rs)
    · exact h1.elim
  | _ => exact h1.elim
end
end Dn
/-! A tuple of anything == (); a tuple of tuples of texts at the top. -/
namespace Dn
open PySem L2
def eqNil : Store → D → D → Option D := fun _ x y => match x, y with
  | .tup (_ :: _), .tup [] => some (.bl false)
  | _, _ => none
section
variable {X : Cx}
theorem op_eqNil (hu : X.A.units + 65 < cLine) : OpR X (compareOp .Eq) (fun x y H Q => ∃ a b v vs, x = .ref a ∧ y = .ref b ∧ SqT X.K H a (v :: vs) ∧ SqT X.K H b [] ∧ Q (.bl false) H) := by
  intro pins s σ H x y v u Q I rx ry h
  obtain ⟨a, b, w, ws, rfl, rfl, h1, h2, q⟩ := h
  obtain rfl : v = Value.ref a := rx
  obtain rfl : u = Value.ref b := ry
  obtain ⟨its, rv, t1, hz⟩ := I.tuple h1
  obtain ⟨its2, rv2, t2, hz2⟩ := I.tuple h2
  have e2 : its2 = [] := by cases rv2; rfl
  subst e2
  have n1 : its.length = ws.length + 1 := by rw [← rv.length]; rfl
  have r := SeqAt.RcAt.tuples (A := X.A) (s := s) (e := fun _ => true) t1 t2 (by omega) (fun j j1 j2 => absurd j2 (by simp)) X.prog X.w
  have k : ((List.range (min its.toArray.size ([] : List Value).toArray.size)).all (fun _ => true) && its.toArray.size == ([] : List Value).toArray.size) = false := by
    simp [n1]
  rw [k] at r
  exact r _ _ ⟨.bl false, H, I, rfl, q⟩
/-- x == y of data, or of a tuple and () -/
theorem od_eqN (hu : X.A.units + 65 < cLine) : OpD X (compareOp .Eq) (orO eqNil eqG) := by
  refine OpD.or ⟨_, op_eqNil hu, fun S H t m x y d e z Q i bx b_y hz q => ?_⟩ (od_eq hu)
  unfold eqNil at hz
  split at hz
  · cases hz
    obtain ⟨a, vs, rfl, _, a2, a3⟩ := bx.tup i
    obtain ⟨b, ws, rfl, _, b2, b3⟩ := b_y.tup i
    cases a3 with
    | cons h1 h2 =>
      cases b3
      exact ⟨_, _, _, _, rfl, rfl, a2, b2, q _ _ _ .refl i (.bl _)⟩
  · cases hz
end
/-- what the top has at an address: a tuple -/
def TupAt (K : PySem.W.Frag) (a : Addr) (vs : List V) : Prop := ∃ (o : Obj) (its : Array Value) (n : Nat), K.lookup a = some o ∧ o.cls = .type "tuple" ∧ o.data = .seq its n ∧ its.size ≤ sizeLine ∧ Vals vs its.toList
inductive TupAts (K : PySem.W.Frag) : List Addr → List (List Str) → Prop where
  | nil : TupAts K [] []
  | cons {a : Addr} {as : List Addr} {ss : List Str} {sss : List (List Str)} : TupAt K a (ss.map V.str) → TupAts K as sss → TupAts K (a :: as) (ss :: sss)
structure TupG2 (K : PySem.W.Frag) (mg : Str → Option Value) (x : Str) (sss : List (List Str)) : Prop where
  at_ : ∃ (a : Addr) (as : List Addr), mg x = some (.ref a) ∧ TupAt K a (as.map V.ref) ∧ TupAts K as sss
section
variable {X : Cx} {G : Cfg} {W : WX} {pos : Pos} {x : Str} {sss : List (List Str)}
theorem tupAts_dr {K : KW} {S : Hp} {t : Th} : ∀ {as : List Addr} {sss : List (List Str)}, TupAts K.K as sss → DRs K S t (as.map V.ref) (sss.map fun ss => D.tup (ss.map D.str))
  | _, _, .nil => .nil
  | _, _, .cons ⟨o, its, n, h2, h3, h4, h5, h6⟩ h => .cons (.tup (.inr ⟨o, its, n, h2, h3, h4, h5, h6⟩) (strs_dr _)) (tupAts_dr h)
theorem de_globT2 (hK : X.kw = G.K) (hg : Gl X x) (T : TupG2 X.K X.mg x sss) (hdb : (x == ("__debug__" : Str)) = false := by decide) : PE X (.Name x pos) (semE G W (conE (.tup (sss.map fun ss => D.tup (ss.map D.str))))) := by
  obtain ⟨a, as, h1, ⟨o, its, n, h2, h3, h4, h5, h6⟩, h7⟩ := T.at_
  have h7' : TupAts G.K.K as sss := by rw [← hK]; exact h7
  exact de_glob (v := .ref a) hg h1 rfl (fun S t => .tup (.inr ⟨o, its, n, kw_K hK ▸ h2, h3, h4, h5, h6⟩) (tupAts_dr h7')) hdb
end
end Dn
/-! list(d), len(d) of a dict. -/
namespace Dn
open PySem L2
theorem call_len_dctr {prog : Program} {w : World} {A : Around} {E : Value → Shared → Prop} {s : Shared} {d : Addr} {es : Array DictEntry} {ep : Nat} {Q : Value → Shared → Prop} (hd : (d == sysModules) = false) (hm : s.heap.DictRaw d es ep) (hfit : (es.size : Int) < 2 ^ 63)
    (h : Q (.int es.size (s.toks + 1)) { s with toks := s.toks + 1 + 1 }) : wpAny (model prog w) A (call (.builtin "len") [.ref d]) Q E s := by
  refine Calls.call_function_entry kind_len plain_len entry_len (args_len1 _) ?_
  unfold Builtin.«len»
  refine wpAny_bind (m := oneArg "len" _) (wpAny_pure ?_)
  refine wpAny_bind (m := callSpecial? (.ref d) (Str.ofString "__len__")) (wpAny_callSpecial?_slot (name := Str.ofString "__len__") hm.typeIs F.slot_dict_len (call_len_raw hd hm ?_))
  show wpAny _ _ _ _ _ { s with toks := s.toks + 1 }
  refine wpAny_bind (wpAny_holding (wpAny_pure ?_))
  refine wpAny_bind (wpAny_letGo ?_)
  show wpAny _ _ (if ((es.size : Nat) : Int) < 0 then _ else _) _ _ _
  rw [if_neg (by omega)]
  show wpAny _ _ (if ((es.size : Nat) : Int) ≥ 2 ^ 63 then _ else _) _ _ _
  rw [if_neg (by omega)]
  exact wpAny_bind (wpAny_mkInt (wpAny_pure ⟨_, rfl, h⟩))
section
variable {X : Cx}
def rDct (X : Cx) (P : (kvs : List (D × D)) → Prop) (R : Hp → VK → Hp → Th → Store → List (D × D) → Prop) : List V → Hp → VK → Prop := fun xs H Q => ∃ S t m a o rows kvs, HI X.kw S H t m ∧ xs = [V.ref a] ∧ (a == sysModules) = false ∧ H a = some (dO a o) ∧ RowsO X.w o rows ∧ DKV X.kw S t rows kvs ∧ P kvs ∧ R H Q S t m kvs
theorem cr_listDct (hc : X.calm = true) : CallR X (.type "list") (rDct X (fun _ => True) fun H Q S t m kvs => ∀ p ws, H p = none → DRs X.kw S t ws (kvs.map (·.1)) → Q (.ref p) (upd H p (.lst ws))) := by
  intro pins s σ H xs us Q I r h
  obtain ⟨S, t, m, a, o, rows, kvs, hi, rfl, lo, hH, RR, hd, _, q⟩ := h
  obtain ⟨u, rfl, ru⟩ := vals1 r
  obtain rfl : u = Value.ref a := ru
  obtain ⟨es, ep, hod, pr⟩ := RR.at_
  obtain ⟨vs, rv, dv⟩ := key_vals pr hd
  have hz : es.size ≤ sizeLine := by rw [(rows_size RR hod).1]; exact RR.sz
  have raw : s.heap.DictRaw a es ep := ⟨o, dO_at I hH, RR.ex, hod⟩
  refine PySem.W.kdl_call (KdlSrc.rawDict (es := es) (ep := ep) lo) (I.ok.hd hc) raw hz fun h' tk acc' c' hkeep hS hacc => ?_
  refine ⟨.ref s.heap.objs.size, upd H s.heap.objs.size (.lst vs), I.laid hkeep (Nat.le_refl _) (show ObjOk X.prog X.w _ _ _ (.lst vs) from ⟨?_, acc'.toList, c', ?_, ?_⟩), rfl, q _ _ (I.hok.fresh (Nat.le_refl _)) dv⟩
  · have h1 := rv.length
    have h2 : es.toList.length = es.size := Array.length_toList
    simp only [List.length_map] at h1
    omega
  · rw [items_keys hacc]; exact rv
  · rw [Array.toArray_toList]; exact hS
def listFD : Store → List D → Option (List D) := fun m xs => match xs with
  | [d] => (dctG m d).map fun kvs => kvs.map (·.1)
  | _ => none
theorem cf_listD (hc : X.calm = true) : CallF X (.type "list") listFD := by
  refine ⟨_, cr_listDct hc, fun S H t m xs ds zs Q i bs hz q => ?_⟩
  unfold listFD at hz
  split at hz
  · rename_i d
    cases h1 : dctG m d with
    | none => rw [h1] at hz; cases hz
    | some kvs =>
      rw [h1] at hz
      cases hz
      cases bs with
      | cons b1 b2 =>
        cases b2
        obtain ⟨a, o, rows, rfl, a2, a3, a4, a5⟩ := b1.dctG i h1
        refine ⟨S, t, m, a, o, rows, kvs, i, rfl, a2, a3, a4, a5, trivial, fun p ws hp dw => ?_⟩
        obtain ⟨p2, i2, r⟩ := new_own i hp dw
        exact q _ _ _ p2 i2 r hp
  · cases hz
/-- list of a list, a tuple, a dict -/
def listG3 : Store → List D → Option D := fun m xs => (orF listF listFD m xs).map .lst
theorem cb_list3 (hc : X.calm = true) : CallD X (.type "list") listG3 := (cf_list.or (cf_listD hc)).settle
theorem cr_lenDct : CallR X (.builtin "len") (rDct X (fun kvs => kvs.length ≤ LIM) fun H Q _ _ _ kvs => Q (.int kvs.length) H) := by
  intro pins s σ H xs us Q I r h
  obtain ⟨S, t, m, a, o, rows, kvs, hi, rfl, lo, hH, RR, hd, hl, q⟩ := h
  obtain ⟨u, rfl, ru⟩ := vals1 r
  obtain rfl : u = Value.ref a := ru
  obtain ⟨es, ep, hod, pr⟩ := RR.at_
  obtain ⟨vs, rv, dv⟩ := key_vals pr hd
  have e1 : es.size = kvs.length := by
    have h1 := rv.length
    have h2 := dv.length
    have h3 : es.toList.length = es.size := Array.length_toList
    simp only [List.length_map] at h1 h2
    omega
  have raw : s.heap.DictRaw a es ep := ⟨o, dO_at I hH, RR.ex, hod⟩
  refine call_len_dctr lo raw (by rw [e1]; have : LIM = 1000000 := rfl; omega) ?_
  rw [e1]
  exact ⟨.int kvs.length, H, I.tok _, ⟨_, rfl⟩, q⟩
def lenDG : Store → List D → Option D := fun m xs => match xs with
  | [d] => (dctG m d).bind fun kvs => if kvs.length ≤ LIM then some (.int kvs.length) else none
  | _ => none
theorem cb_lenD : CallD X (.builtin "len") lenDG := by
  refine ⟨_, cr_lenDct, fun S H t m xs ds z Q i bs hz q => ?_⟩
  unfold lenDG at hz
  split at hz
  · obtain ⟨kvs, h1, h2⟩ := dG_some hz
    split at h2
    · rename_i ok
      cases h2
      cases bs with
      | cons b1 b2 =>
        cases b2
        obtain ⟨a, o, rows, rfl, a2, a3, a4, a5⟩ := b1.dctG i h1
        exact ⟨S, t, m, a, o, rows, kvs, i, rfl, a2, a3, a4, a5, ok, q _ _ _ .refl i (.int _)⟩
    · cases h2
  · cases hz
end
end Dn
/-! max of a list of whole numbers. -/
namespace Dn
open PySem L2
def maxI : List Int → Int
  | [] => 0
  | [x] => x
  | x :: y :: l => max x (maxI (y :: l))
theorem maxI_ok : ∀ {l : List Int}, l ≠ [] → maxI l ∈ l ∧ ∀ x ∈ l, x ≤ maxI l
  | [], h => absurd rfl h
  | [x], _ => ⟨List.mem_cons_self, fun y hy => by rw [List.mem_singleton.mp hy]; exact Int.le_refl _⟩
  | x :: y :: l, _ => by
    obtain ⟨h1, h2⟩ := maxI_ok (l := y :: l) (by simp)
    have e : maxI (x :: y :: l) = max x (maxI (y :: l)) := rfl
    rw [e]
    constructor
    · by_cases h : x ≤ maxI (y :: l)
      · rw [Int.max_eq_right h]; exact List.mem_cons_of_mem _ h1
      · rw [Int.max_eq_left (by omega)]; exact List.mem_cons_self
    · intro z hz
      rcases List.mem_cons.mp hz with rfl | hz
      · omega
      · have := h2 z hz
        omega
def maxLG : Store → List D → Option D := fun _ xs => match xs with
  | [.lst ds] => (toInts ds).bind fun is => if is = [] then none else some (.int (maxI is))
  | _ => none
section
variable {X : Cx}
theorem cb_maxL (hc : X.calm = true) : CallD X (.builtin "max") maxLG := by
  refine ⟨_, cr_max hc, fun S H t m xs ds z Q i bs hz q => ?_⟩
  unfold maxLG at hz
  split at hz
  · rename_i es
    obtain ⟨v, rfl, b⟩ := bs.one
    obtain ⟨a, vs, rfl, a2, a3⟩ := b.lst i
    cases h : toInts es with
    | none => rw [h] at hz; cases hz
    | some is =>
      rw [h] at hz
      simp only [Option.bind_some] at hz
      split at hz
      · cases hz
      · rename_i hne
        cases hz
        have := toInts_v a3 h
        subst this
        obtain ⟨m1, m2⟩ := maxI_ok hne
        refine ⟨a, is, rfl, .of a2, List.length_pos_iff.mpr hne, fun x hx hle => ?_⟩
        have : x = maxI is := by
          have h1 := hle _ m1
          have h2 := m2 _ hx
          omega
        rw [this]
        exact q _ _ _ .refl i (.int _)
  · cases hz
/-- max of two numbers, or of a list -/
theorem cb_max3 (hc : X.calm = true) : CallD X (.builtin "max") (orF maxG maxLG) := (cb_max hc).or (cb_maxL hc)
end
end Dn
namespace Dn.K47
open PySem L2
/-! What law_k47_whole_words reaches, as combinators (printed by pr.py). -/
noncomputable def B_law : EvS :=
  (seqS (ownS 1 (bltF lstG (consA (varE 0) (consA (conE (.int 0)) nilA))))
  (seqS (stoS 1) (seqS (asgS (.nm 2) (fnE 1 (consA (varE 1) nilA)))
  (seqS (forS (seqI (bin addA (bin addA (fldE "Question" "clauses" (varE 2)) (fldE "Question" "unless" (varE 2))) (fnE 2 (consA (varE 1) nilA)))) (.nm 3)
  (seqS (ifS (blT (bin neG (fnE 3 (consA (varE 3) nilA)) (tmE joinT (conE (.str " ")) (fnE 4 (consA (varE 3) nilA)))))
  (retS (conE (.bl false)))
  nxS)
  (seqS (asgS (.nm 8) (frzE (lcF (seqI (fldE "Clause" "atoms" (varE 3))) (.tp [(.nm 11), (.nm 12), (.nm 13)]) (blT (bin eqG (bin ixG (brwE 13) (conE (.int 0))) (conE (.str "when")))) (bin ixG (brwE 13) (conE (.int 1))) [11, 12, 13])))
  (seqS (forS (seqI (fldE "Clause" "atoms" (varE 3))) (.nm 9)
  (ifS (blT (bin neG (fnE 5 (consA (fnE 6 (consA (varE 9) nilA)) nilA)) (brwE 9)))
  (retS (conE (.bl false)))
  nxS))
  (forS (seqI (fldE "Clause" "tests" (varE 3))) (.nm 10)
  (ifS (blT (bin neG (fnE 7 (consA (fnE 8 (consA (varE 10) nilA)) (consA (varE 8) nilA))) (brwE 10)))
  (retS (conE (.bl false)))
  nxS))))))
  (seqS (ownS 4 (bltF lstG (consA (bltE tupG (consA (conE (.str "lives(ann,rome)@3")) (consA (bltE tupG (consA (conE (.str "lives")) (consA (bltE tupG (consA (bltE tupG (consA (conE (.str "name")) (consA (conE (.str "ann")) nilA))) (consA (bltE tupG (consA (conE (.str "name")) (consA (conE (.str "rome")) nilA))) nilA))) (consA (bltE tupG (consA (conE (.str "day")) (consA (conE (.int 3)) nilA))) nilA)))) nilA))) nilA)))
  (seqS (appS 4 (bltE tupG (consA (conE (.str "pays(?p)@now")) (consA (bltE tupG (consA (conE (.str "pays")) (consA (bltE tupG (consA (bltE tupG (consA (conE (.str "any")) (consA (conE (.str "p")) nilA))) nilA)) (consA (bltE tupG (consA (conE (.str "now")) nilA)) nilA)))) nilA))))
  (seqS (forS (seqI (bltE tupG (consA (conE (.str "lives")) (consA (conE (.str "lives()@3")) (consA (conE (.str "lives(ann,)@3")) (consA (conE (.str "lives(ann)@")) (consA (conE (.str "lives(ann)@03")) (consA (conE (.str "lives(ann)@?")) (consA (conE (.str "lives(Ann)@3")) (consA (conE (.str "")) nilA)))))))))) (.nm 5)
  (appS 4 (bltE tupG (consA (varE 5) (consA (conE .non) nilA)))))
  (seqS (forS (seqI (bltE tupG (consA (conE (.str "lives(ann)@1000000")) (consA (conE (.str "(ann)@3")) (consA (conE (.str "Lives(ann)@3")) (consA (conE (.str "lives(a,b,c,d,e)@3")) (consA (conE (.str "(ann)@")) (consA (conE (.str "lives(ann)3")) nilA)))))))) (.nm 5)
  (appS 4 (bltE tupG (consA (varE 5) (consA (conE .non) nilA)))))
  (seqS (frzS 4) (seqS (forS (seqI (varE 4)) (.tp [(.nm 5), (.nm 6)])
  (ifS (blT (bin neG (fnE 5 (consA (varE 5) nilA)) (brwE 6)))
  (retS (conE (.bl false)))
  nxS))
  (seqS (ownS 7 (bltF lstG (consA (bltE tupG (consA (conE (.str "?t<5")) (consA (bltE tupG (consA (conE (.str "less")) (consA (bltE tupG (consA (conE (.str "when")) (consA (conE (.str "t")) nilA))) (consA (bltE tupG (consA (conE (.str "day")) (consA (conE (.int 5)) nilA))) nilA)))) nilA))) (consA (bltE tupG (consA (conE (.str "5<=now")) (consA (bltE tupG (consA (conE (.str "most")) (consA (bltE tupG (consA (conE (.str "day")) (consA (conE (.int 5)) nilA))) (consA (bltE tupG (consA (conE (.str "now")) nilA)) nilA)))) nilA))) nilA))))
  (seqS (ownS 7 (binF catF (brwE 7) (frzE (bltF lstG (consA (bltE tupG (consA (conE (.str "?p!=ann")) (consA (bltE tupG (consA (conE (.str "unlike")) (consA (bltE tupG (consA (conE (.str "any")) (consA (conE (.str "p")) nilA))) (consA (bltE tupG (consA (conE (.str "name")) (consA (conE (.str "ann")) nilA))) nilA)))) nilA))) (consA (bltE tupG (consA (conE (.str "?p=?q")) (consA (bltE tupG (consA (conE (.str "same")) (consA (bltE tupG (consA (conE (.str "any")) (consA (conE (.str "p")) nilA))) (consA (bltE tupG (consA (conE (.str "any")) (consA (conE (.str "q")) nilA))) nilA)))) nilA))) nilA))))))
  (seqS (ownS 7 (binF catF (brwE 7) (frzE (bltF lstG (consA (bltE tupG (consA (conE (.str "?p=at")) (consA (bltE tupG (consA (conE (.str "same")) (consA (bltE tupG (consA (conE (.str "any")) (consA (conE (.str "p")) nilA))) (consA (bltE tupG (consA (conE (.str "name")) (consA (conE (.str "at")) nilA))) nilA)))) nilA))) (consA (bltE tupG (consA (conE (.str "au!=?q")) (consA (bltE tupG (consA (conE (.str "unlike")) (consA (bltE tupG (consA (conE (.str "name")) (consA (conE (.str "au")) nilA))) (consA (bltE tupG (consA (conE (.str "any")) (consA (conE (.str "q")) nilA))) nilA)))) nilA))) nilA))))))
  (seqS (appS 7 (bltE tupG (consA (conE (.str "?t=?u")) (consA (bltE tupG (consA (conE (.str "same")) (consA (bltE tupG (consA (conE (.str "when")) (consA (conE (.str "t")) nilA))) (consA (bltE tupG (consA (conE (.str "when")) (consA (conE (.str "u")) nilA))) nilA)))) nilA))))
  (seqS (forS (seqI (bltE tupG (consA (conE (.str "?t<")) (consA (conE (.str "<5")) (consA (conE (.str "?t")) (consA (conE (.str "?p<ann")) (consA (conE (.str "ann<=rome")) (consA (conE (.str "?t<ann")) (consA (conE (.str "?t<05")) (consA (conE (.str "?t==5")) (consA (conE (.str "")) (consA (conE (.str "?t<1000000")) nilA)))))))))))) (.nm 5)
  (appS 7 (bltE tupG (consA (varE 5) (consA (conE .non) nilA)))))
  (seqS (frzS 7) (seqS (forS (seqI (varE 7)) (.tp [(.nm 5), (.nm 6)])
  (ifS (blT (bin neG (fnE 7 (consA (varE 5) (consA (frzE (bltF lstG (consA (conE (.str "t")) (consA (conE (.str "u")) nilA)))) nilA))) (brwE 6)))
  (retS (conE (.bl false)))
  nxS))
  (retS (andE (bin eqG (fnE 9 (consA (frzE (bltF lstG (consA (bltE tupG (consA (conE (.str "ann")) (consA (conE (.str "rome")) nilA))) (consA (bltE tupG (consA (conE (.str "bob")) (consA (conE (.str "oslo")) nilA))) nilA)))) nilA)) (conE (.str "ann,rome;bob,oslo"))) (andE (bin eqG (fnE 9 (consA (frzE (bltF lstG (consA (bltE tupG nilA) nilA))) nilA)) (conE (.str "yes"))) (bin eqG (fnE 9 (consA (bltE tupG nilA) nilA)) (conE (.str "-")))))))))))))))))))))))
noncomputable def B_law_question : EvS :=
  (seqS (asgS (.nm 1) (fnE 10 (consA (varE 0) (consA (frzE (bltF lstG (consA (bltE tupG (consA (bltE tupG (consA (conE (.str "any")) (consA (conE (.str "p")) nilA))) nilA)) (consA (bltE tupG (consA (bltE tupG (consA (conE (.str "any")) (consA (conE (.str "p")) nilA))) nilA)) (consA (bltE tupG nilA) (consA (bltE tupG (consA (bltE tupG (consA (conE (.str "any")) (consA (conE (.str "p")) nilA))) (consA (bltE tupG (consA (conE (.str "any")) (consA (conE (.str "q")) nilA))) nilA))) nilA)))))) nilA))))
  (seqS (asgS (.nm 2) (frzE (lcF (argI rng1 (consA (bin addA (conE (.int 1)) (bin fdivG (fnE 11 (consA (varE 0) (consA (conE (.int 4)) nilA))) (conE (.int 3)))) nilA)) (.nm 4) yesT (fnE 12 (consA (varE 0) (consA (varE 1) (consA (conE (.int 2)) (consA (conE (.bl true)) nilA))))) [4])))
  (seqS (asgS (.nm 3) (frzE (lcF (argI rng1 (consA (fnE 11 (consA (varE 0) (consA (conE (.int 2)) nilA))) nilA)) (.nm 4) yesT (fnE 12 (consA (varE 0) (consA (varE 1) (consA (conE (.int 2)) (consA (conE (.bl true)) nilA))))) [4])))
  (retS (stlE (newE "Question" 13 (consA (varE 1) (consA (bltE tupleG (consA (brwE 2) nilA)) (consA (bltE tupleG (consA (brwE 3) nilA)) nilA)))))))))
noncomputable def B_law_rules : EvS :=
  (seqS (asgS (.tp [(.nm 1), (.nm 2), (.nm 3)]) (bltE tupG (consA (bltE tupG (consA (conE (.str "any")) (consA (conE (.str "p")) nilA))) (consA (bltE tupG (consA (conE (.str "any")) (consA (conE (.str "q")) nilA))) (consA (bltE tupG (consA (conE (.str "when")) (consA (conE (.str "t")) nilA))) nilA)))))
  (seqS (asgS (.nm 4) (stlE (newE "Clause" 15 (consA (bltE tupG (consA (bltE tupG (consA (conE (.str "lives")) (consA (bltE tupG (consA (varE 1) (consA (varE 2) nilA))) (consA (varE 3) nilA)))) (consA (bltE tupG (consA (conE (.str "lives")) (consA (bltE tupG (consA (varE 1) (consA (bltE tupG (consA (conE (.str "any")) (consA (conE (.str "r")) nilA))) nilA))) (consA (varE 3) nilA)))) nilA))) (consA (bltE tupG (consA (bltE tupG (consA (conE (.str "unlike")) (consA (varE 2) (consA (bltE tupG (consA (conE (.str "any")) (consA (conE (.str "r")) nilA))) nilA)))) nilA)) nilA)))))
  (seqS (asgS (.nm 5) (stlE (newE "Clause" 15 (consA (bltE tupG (consA (bltE tupG (consA (conE (.str "pays")) (consA (bltE tupG (consA (varE 1) nilA)) (consA (varE 3) nilA)))) (consA (bltE tupG (consA (conE (.str "lives")) (consA (bltE tupG (consA (varE 1) (consA (bltE tupG (consA (conE (.str "name")) (consA (conE (.str "rome")) nilA))) nilA))) (consA (varE 3) nilA)))) nilA))) (consA (bltE tupG nilA) nilA)))))
  (seqS (asgS (.nm 6) (stlE (newE "Clause" 15 (consA (bltE tupG (consA (bltE tupG (consA (conE (.str "pays")) (consA (bltE tupG (consA (varE 1) nilA)) (consA (varE 3) nilA)))) nilA)) (consA (bltE tupG (consA (bltE tupG (consA (conE (.str "less")) (consA (varE 3) (consA (bltE tupG (consA (conE (.str "day")) (consA (conE (.int 3)) nilA))) nilA)))) nilA)) nilA)))))
  (retS (bltE tupleG (consA (frzE (lcF (seqI (bltE tupG (consA (varE 4) (consA (varE 5) (consA (varE 6) nilA))))) (.nm 7) (blT (bin eqG (fnE 11 (consA (varE 0) (consA (conE (.int 3)) nilA))) (conE (.int 0)))) (varE 7) [7])) nilA)))))))
noncomputable def B_clause_text : EvS :=
  (retS (tmE joinT (conE (.str " ")) (frzE (bltF lstG (starA (seqOnly (frzE (lcF (seqI (fldE "Clause" "atoms" (varE 0))) (.nm 1) yesT (fnE 6 (consA (varE 1) nilA)) [1]))) (starA (seqOnly (frzE (lcF (seqI (fldE "Clause" "tests" (varE 0))) (.nm 2) yesT (fnE 8 (consA (varE 2) nilA)) [2]))) nilA))))))
noncomputable def B_law_words : EvS :=
  (seqS (ownS 1 (bltF lstG nilA))
  (seqS (forS (seqI (fldE "Clause" "atoms" (varE 0))) (.tp [(.nm 2), (.nm 3), (.nm 4)])
  (appS 1 (bin addA (bin addA (bin addA (bin addA (brwE 2) (conE (.str "("))) (tmE joinT (conE (.str ",")) (frzE (lcF (seqI (varE 3)) (.nm 9) yesT (fnE 17 (consA (varE 9) nilA)) [9])))) (conE (.str ")@"))) (fnE 17 (consA (varE 4) nilA)))))
  (seqS (asgS (.nm 5) (dctE (dispD [((conE (.str "less")), (conE (.str "<"))), ((conE (.str "most")), (conE (.str "<="))), ((conE (.str "same")), (conE (.str "="))), ((conE (.str "unlike")), (conE (.str "!=")))])))
  (retS (bin addA (brwE 1) (frzE (lcF (seqI (fldE "Clause" "tests" (varE 0))) (.tp [(.nm 6), (.nm 7), (.nm 8)]) yesT (bin addA (bin addA (fnE 17 (consA (varE 7) nilA)) (bin ixDG (brwE 5) (brwE 6))) (fnE 17 (consA (varE 8) nilA))) [6, 7, 8])))))))
noncomputable def B_atom_of : EvS :=
  (seqS (parS [1, 2] (consM (tmE findT (brwE 0) (conE (.str "("))) (consM (tmE findT (brwE 0) (conE (.str ")@"))) nilM)))
  (seqS (ifS (orT (blT (bin ltG (brwE 1) (conE (.int 0)))) (blT (bin ltG (brwE 2) (brwE 1))))
  (retS (conE .non))
  nxS)
  (seqS (asgS (.nm 3) (frzE (lcF (seqI (frzE (tmF splitT (slA (brwE 0) (intO (bin addA (brwE 1) (conE (.int 1)))) (intO (varE 2))) (conE (.str ","))))) (.nm 5) yesT (fnE 18 (consA (varE 5) (consA (conE (.bl false)) nilA))) [5])))
  (seqS (asgS (.nm 4) (fnE 18 (consA (slA (brwE 0) (intO (bin addA (brwE 2) (conE (.int 2)))) noO) (consA (conE (.bl true)) nilA))))
  (seqS (ifS (orT (blT (bin inG (conE .non) (brwE 3))) (orT (blT (bin isG (brwE 4) (conE .non))) (orT (notT (blT (fnE 19 (consA (slA (brwE 0) noO (intO (varE 1))) nilA)))) (blT (bin gtG (bltE lenG (consA (brwE 3) nilA)) (conE (.int 4)))))))
  (retS (conE .non))
  nxS)
  (retS (bltE tupG (consA (slA (brwE 0) noO (intO (varE 1))) (consA (bltE tupleG (consA (brwE 3) nilA)) (consA (varE 4) nilA))))))))))
noncomputable def B_atom_text : EvS :=
  (seqS (asgS (.tp [(.nm 1), (.nm 2), (.nm 3)]) (varE 0))
  (retS (bin addA (bin addA (bin addA (bin addA (brwE 1) (conE (.str "("))) (tmE joinT (conE (.str ",")) (frzE (lcF (seqI (varE 2)) (.nm 4) yesT (fnE 20 (consA (varE 4) nilA)) [4])))) (conE (.str ")@"))) (fnE 20 (consA (varE 3) nilA)))))
noncomputable def B_test_of : EvS :=
  (seqS (forS (seqI (conE (.tup (List.map (fun ss => D.tup (List.map D.str ss)) ([(["<=", "most"] : List Str), (["!=", "unlike"] : List Str), (["<", "less"] : List Str), (["=", "same"] : List Str)] : List (List Str)))))) (.tp [(.nm 2), (.nm 3)])
  (seqS (asgS (.nm 4) (tmE findT (brwE 0) (brwE 2)))
  (ifS (blT (bin gtG (brwE 4) (conE (.int 0))))
  (seqS (asgS (.nm 5) (bltE tupG (consA (slA (brwE 0) noO (intO (varE 4))) (consA (slA (brwE 0) (intO (bin addA (brwE 4) (bltE lenG (consA (brwE 2) nilA)))) noO) nilA))))
  (seqS (asgS (.nm 6) (bltE anyG (consA (frzE (lcF (seqI (varE 5)) (.nm 8) yesT (fnE 21 (consA (varE 8) (consA (varE 1) nilA))) [8])) nilA)))
  (seqS (asgS (.nm 7) (bltE tupG (consA (varE 3) (consA (fnE 18 (consA (bin ixG (brwE 5) (conE (.int 0))) (consA (varE 6) nilA))) (consA (fnE 18 (consA (bin ixG (brwE 5) (conE (.int 1))) (consA (varE 6) nilA))) nilA)))))
  (retS (ifE (andT (blT (bin notInG (conE .non) (brwE 7))) (blT (fnE 22 (consA (varE 7) nilA)))) (varE 7) (conE .non))))))
  nxS)))
  (retS (conE .non)))
noncomputable def B_test_text : EvS :=
  (seqS (asgS (.nm 1) (bin ixG (frzE (lcF (seqI (conE (.tup (List.map (fun ss => D.tup (List.map D.str ss)) ([(["<=", "most"] : List Str), (["!=", "unlike"] : List Str), (["<", "less"] : List Str), (["=", "same"] : List Str)] : List (List Str)))))) (.tp [(.nm 2), (.nm 3)]) (blT (bin eqG (brwE 3) (bin ixG (brwE 0) (conE (.int 0))))) (varE 2) [2, 3])) (conE (.int 0))))
  (retS (bin addA (bin addA (fnE 20 (consA (bin ixG (brwE 0) (conE (.int 1))) nilA)) (brwE 1)) (fnE 20 (consA (bin ixG (brwE 0) (conE (.int 2))) nilA)))))
noncomputable def B_answers_text : EvS :=
  (retS (ifE (blT (bin neG (bltE listG (consA (brwE 0) nilA)) (frzE (bltF lstG nilA)))) (tmE joinT (conE (.str ";")) (frzE (lcF (seqI (varE 0)) (.nm 1) yesT (fnE 23 (consA (varE 1) nilA)) [1]))) (conE (.str "-"))))
noncomputable def B_law_pick : EvS :=
  (retS (bin ixG (brwE 1) (fnE 11 (consA (varE 0) (consA (bltE lenG (consA (brwE 1) nilA)) nilA)))))
noncomputable def B_law_take : EvS :=
  (seqS (asgS (.nm 2) (ifE (blT (bin neG (bin ixG (brwE 0) (conE (.int 0))) (frzE (bltF lstG nilA)))) (bin ixG (bin ixG (brwE 0) (conE (.int 0))) (bin modG (bin ixG (brwE 0) (conE (.int 1))) (bltE lenG (consA (bin ixG (brwE 0) (conE (.int 0))) nilA)))) (conE (.int 7))))
  (seqS (asgS (.nm 3) (bin fdivG (bin ixG (brwE 0) (conE (.int 1))) (bltE maxLG (consA (frzE (bltF lstG (consA (conE (.int 1)) (consA (bltE lenG (consA (bin ixG (brwE 0) (conE (.int 0))) nilA)) nilA)))) nilA))))
  (seqS (stoAug addI (varE 0) (conE (.int 1)) (conE (.int 1)))
  (seqS (ifS (blT (bin geG (brwE 2) (bin powG (conE (.int 10)) (conE (.int 18)))))
  (seqS (forS (argI rng1 (consA (bin modG (brwE 3) (conE (.int 40))) nilA)) (.nm 5)
  (asgS (.nm 2) (bin fdivG (brwE 2) (conE (.int 97)))))
  (retS (bin modG (bin modG (bltE intG2 (consA (brwE 2) nilA)) (conE (.int 97))) (brwE 1))))
  nxS)
  (seqS (asgS (.nm 4) (bin modG (bin mulG (bin addA (bin addA (bin modG (bltE intG2 (consA (bin addA (brwE 2) (bin mulG (conE (.int 31)) (brwE 3))) nilA)) (conE (.int 1000003))) (bin mulG (conE (.int 977)) (bin ixG (brwE 0) (conE (.int 1))))) (conE (.int 13))) (conE (.int 48271))) (conE (.int 2147483647))))
  (retS (bin modG (bltE intG2 (consA (bin modG (bin mulG (brwE 4) (conE (.int 65537))) (conE (.int 4294967291))) nilA)) (brwE 1))))))))
noncomputable def B_law_clause : EvS :=
  (seqS (ownS 4 (lcF (argI rng1 (consA (bin addA (conE (.int 1)) (fnE 11 (consA (varE 0) (consA (varE 2) nilA)))) nilA)) (.nm 12) yesT (fnE 24 (consA (varE 0) (consA (varE 3) nilA))) [12]))
  (seqS (forS (seqI (varE 1)) (.nm 5)
  (ifS (notT (blT (bltE anyG (consA (frzE (lcF (ownI 4) (.tp [(.nm 8), (.nm 6), (.nm 10)]) yesT (bin inG (brwE 5) (brwE 6)) [8, 6, 10])) nilA))))
  (setS 4 (conE (.int 0)) (ifE (blT (bin eqG (bltE lenG (consA (brwE 1) nilA)) (conE (.int 1)))) (bltE tupG (consA (conE (.str "lives")) (consA (bltE tupG (consA (varE 5) (consA (fnE 25 (consA (varE 0) nilA)) nilA))) (consA (bin ixG (bin ixG (brwE 4) (conE (.int 0))) (conE (.int 2))) nilA)))) (bltE tupG (consA (conE (.str "lives")) (consA (bltE tupG (consA (bin ixG (brwE 1) (conE (.int 0))) (consA (bin ixG (brwE 1) (conE (.int 1))) nilA))) (consA (bin ixG (bin ixG (brwE 4) (conE (.int 0))) (conE (.int 2))) nilA))))))
  nxS))
  (seqS (ownDS 6 emptyD)
  (seqS (ownDS 7 emptyD)
  (seqS (frzS 4) (seqS (forS (seqI (varE 4)) (.tp [(.nm 8), (.nm 9), (.nm 10)])
  (seqS (forS (seqI (varE 9)) (.nm 5)
  (dputS 6 (varE 5) (conE (.bl true))))
  (dputS 7 (varE 10) (conE (.bl true)))))
  (seqS (ownS 11 (bltF lstG nilA))
  (seqS (forS (argI rng1 (consA (fnE 11 (consA (varE 0) (consA (conE (.int 3)) nilA))) nilA)) (.nm 12)
  (ifS (andT (blT (bin eqG (fnE 11 (consA (varE 0) (consA (conE (.int 3)) nilA))) (conE (.int 0)))) (blT (bin gtG (bltE lenDG (consA (brwE 6) nilA)) (conE (.int 1)))))
  (appS 11 (bltE tupG (consA (fnE 10 (consA (varE 0) (consA (frzE (bltF lstG (consA (conE (.str "same")) (consA (conE (.str "unlike")) (consA (conE (.str "unlike")) nilA))))) nilA))) (consA (fnE 10 (consA (varE 0) (consA (bltE listG3 (consA (brwE 6) nilA)) nilA))) (consA (fnE 10 (consA (varE 0) (consA (bin addA (bltE listG3 (consA (brwE 6) nilA)) (frzE (bltF lstG (consA (bltE tupG (consA (conE (.str "name")) (consA (conE (.str "oslo")) nilA))) nilA)))) nilA))) nilA)))))
  (seqS (asgS (.nm 13) (fnE 10 (consA (varE 0) (consA (bin addA (bin addA (bltE listG3 (consA (brwE 7) nilA)) (frzE (bltF lstG (consA (bltE tupG (consA (conE (.str "day")) (consA (conE (.int 3)) nilA))) (consA (bltE tupG (consA (conE (.str "day")) (consA (conE (.int 6)) nilA))) nilA))))) (ifE (blT (varE 3)) (frzE (bltF lstG (consA (bltE tupG (consA (conE (.str "now")) nilA)) nilA))) (frzE (bltF lstG nilA)))) nilA))))
  (appS 11 (bltE tupG (consA (fnE 10 (consA (varE 0) (consA (frzE (bltF lstG (consA (conE (.str "less")) (consA (conE (.str "less")) (consA (conE (.str "most")) (consA (conE (.str "same")) (consA (conE (.str "unlike")) nilA))))))) nilA))) (consA (fnE 10 (consA (varE 0) (consA (bltE listG3 (consA (brwE 7) nilA)) nilA))) (consA (varE 13) nilA))))))))
  (retS (stlE (newE "Clause" 15 (consA (bltE tupleG (consA (brwE 4) nilA)) (consA (bltE tupleG (consA (brwE 11) nilA)) nilA)))))))))))))
noncomputable def B_Question__init : EvS :=
  (callS 14)
noncomputable def B_Question__init__b : EvS :=
  (seqS (ifS (orT (notT (blT (isE "tuple" (brwE 1)))) (orT (blT (bin gtG (bltE lenG (consA (brwE 1) nilA)) (conE (.int 4)))) (notT (blT (bltE allG (consA (frzE (lcF (seqI (varE 1)) (.nm 5) yesT (fnE 26 (consA (varE 5) nilA)) [5])) nilA))))))
  stuckS
  nxS)
  (seqS (ifS (orT (notT (blT (fnE 27 (consA (varE 2) nilA)))) (blT (bin (orO eqNil eqG) (brwE 2) (bltE tupG nilA))))
  stuckS
  nxS)
  (seqS (ifS (notT (blT (fnE 27 (consA (varE 3) nilA))))
  stuckS
  nxS)
  (seqS (forS (seqI (bltE tupG (starA (seqOnly (varE 2)) (starA (seqOnly (varE 3)) nilA)))) (.nm 4)
  (ifS (notT (blT (bltE allG (consA (frzE (lcF (seqI (varE 1)) (.nm 5) yesT (bin inG (brwE 5) (metE "Clause" "variables" 28 (varE 4) nilA)) [5])) nilA))))
  stuckS
  nxS))
  (seqS (fldS "Question" "head" (varE 0) (varE 1))
  (seqS (fldS "Question" "clauses" (varE 0) (varE 2))
  (fldS "Question" "unless" (varE 0) (varE 3))))))))
noncomputable def B_Clause__init : EvS :=
  (callS 16)
noncomputable def B_Clause__init__b : EvS :=
  (seqS (ifS (orT (notT (blT (isE "tuple" (brwE 1)))) (notT (blT (chainE leG leG (conE (.int 1)) (bltE lenG (consA (brwE 1) nilA)) (conE (.int 3))))))
  stuckS
  nxS)
  (seqS (forS (seqI (varE 1)) (.nm 3)
  (dropS (fnE 29 (consA (varE 3) nilA))))
  (seqS (dropS (fnE 30 (consA (varE 2) nilA)))
  (seqS (ifS (blT (bin gtG (bltE lenG (consA (brwE 2) nilA)) (conE (.int 6))))
  stuckS
  nxS)
  (seqS (fldS "Clause" "atoms" (varE 0) (varE 1))
  (seqS (fldS "Clause" "tests" (varE 0) (varE 2))
  (seqS (asgS (.nm 4) (metE "Clause" "variables" 28 (varE 0) nilA))
  (forS (seqI (varE 2)) (.tp [(.nm 5), (.nm 6), (.nm 7)])
  (ifS (blT (bltE anyG (consA (frzE (lcF (seqI (bltE tupG (consA (varE 6) (consA (varE 7) nilA)))) (.nm 8) yesT (andE (fnE 31 (consA (varE 8) nilA)) (bin notInG (brwE 8) (brwE 4))) [8])) nilA)))
  stuckS
  nxS)))))))))
noncomputable def B_law_word : EvS :=
  (seqS (ifS (blT (bin eqG (brwE 0) (bltE tupG (consA (conE (.str "now")) nilA))))
  (retS (conE (.str "now")))
  nxS)
  (retS (ifE (blT (bin inG (bin ixG (brwE 0) (conE (.int 0))) (bltE tupG (consA (conE (.str "any")) (consA (conE (.str "when")) nilA))))) (bin addA (conE (.str "?")) (bin ixG (brwE 0) (conE (.int 1)))) (bltE strG (consA (bin ixG (brwE 0) (conE (.int 1))) nilA)))))
noncomputable def B_term_of : EvS :=
  (seqS (ifS (blT (bin eqG (slA (brwE 0) noO (intO (conE (.int 1)))) (conE (.str "?"))))
  (retS (ifE (blT (fnE 19 (consA (slA (brwE 0) (intO (conE (.int 1))) noO) nilA))) (bltE tupG (consA (ifE (blT (varE 1)) (conE (.str "when")) (conE (.str "any"))) (consA (slA (brwE 0) (intO (conE (.int 1))) noO) nilA))) (conE .non)))
  nxS)
  (seqS (ifS (notT (blT (varE 1)))
  (retS (ifE (blT (fnE 19 (consA (varE 0) nilA))) (bltE tupG (consA (conE (.str "name")) (consA (varE 0) nilA))) (conE .non)))
  nxS)
  (seqS (ifS (blT (bin eqG (brwE 0) (conE (.str "now"))))
  (retS (conE (.tup (List.map D.str (["now"] : List Str)))))
  nxS)
  (seqS (asgS (.nm 2) (fnE 32 (consA (varE 0) nilA)))
  (retS (ifE (andT (blT (bin isNotG (brwE 2) (conE .non))) (blT (fnE 33 (consA (varE 2) nilA)))) (bltE tupG (consA (conE (.str "day")) (consA (varE 2) nilA))) (conE .non)))))))
noncomputable def B_is_name : EvS :=
  (seqS (ifS (orT (notT (blT (isE "str" (brwE 0)))) (orT (notT (blT (chainE leG leG (conE (.int 1)) (bltE lenG (consA (brwE 0) nilA)) (conE (.int 8))))) (blT (bin notInG (bin ixG (brwE 0) (conE (.int 0))) (conE (.str "abcdefghijklmnopqrstuvwxyz"))))))
  (retS (conE (.bl false)))
  nxS)
  (retS (bltE allG (consA (frzE (lcF (seqI (varE 0)) (.nm 1) yesT (orE (bin inG (brwE 1) (conE (.str "abcdefghijklmnopqrstuvwxyz"))) (bin inG (brwE 1) (conE (.str "0123456789")))) [1])) nilA))))
noncomputable def B_term_text : EvS :=
  (seqS (ifS (blT (bin eqG (brwE 0) (conE (.tup (List.map D.str (["now"] : List Str))))))
  (retS (conE (.str "now")))
  nxS)
  (seqS (ifS (blT (fnE 31 (consA (varE 0) nilA)))
  (retS (bin addA (conE (.str "?")) (bin ixG (brwE 0) (conE (.int 1)))))
  nxS)
  (retS (bltE strG (consA (bin ixG (brwE 0) (conE (.int 1))) nilA)))))
noncomputable def B_is_day_word : EvS :=
  (retS (orE (bin eqG (brwE 0) (conE (.str "now"))) (orE (bin inG (slA (brwE 0) noO (intO (conE (.int 1)))) (bltE tupG (consA (conE (.str "")) (starA (strOnly (conE (.str "0123456789"))) nilA)))) (andE (bin eqG (bin ixG (brwE 0) (conE (.int 0))) (conE (.str "?"))) (bin inG (slA (brwE 0) (intO (conE (.int 1))) noO) (brwE 1))))))
noncomputable def B_is_test : EvS :=
  (seqS (ifS (orT (notT (blT (isE "tuple" (brwE 0)))) (orT (blT (bin neG (bltE lenG (consA (brwE 0) nilA)) (conE (.int 3)))) (notT (blT (isE "str" (bin ixG (brwE 0) (conE (.int 0))))))))
  (retS (conE (.bl false)))
  nxS)
  (seqS (asgS (.tp [(.nm 1), (.nm 2), (.nm 3)]) (varE 0))
  (seqS (ifS (andT (blT (fnE 34 (consA (varE 2) nilA))) (blT (fnE 34 (consA (varE 3) nilA))))
  (retS (bin inG (brwE 1) (conE (.tup (List.map D.str (["less", "most", "same", "unlike"] : List Str))))))
  nxS)
  (retS (andE (fnE 35 (consA (varE 2) nilA)) (andE (fnE 35 (consA (varE 3) nilA)) (bin inG (brwE 1) (conE (.tup (List.map D.str (["same", "unlike"] : List Str)))))))))))
noncomputable def B_answer_text : EvS :=
  (retS (ifE (blT (bin neG (brwE 0) (bltE tupG nilA))) (tmE joinT (conE (.str ",")) (brwE 0)) (conE (.str "yes"))))
noncomputable def B_law_atom : EvS :=
  (seqS (ifS (blT (bin gtG (fnE 11 (consA (varE 0) (consA (conE (.int 3)) nilA))) (conE (.int 0))))
  (retS (bltE tupG (consA (conE (.str "lives")) (consA (bltE tupG (consA (fnE 25 (consA (varE 0) nilA)) (consA (fnE 25 (consA (varE 0) nilA)) nilA))) (consA (fnE 36 (consA (varE 0) (consA (varE 1) nilA))) nilA)))))
  nxS)
  (retS (bltE tupG (consA (conE (.str "pays")) (consA (bltE tupG (consA (fnE 25 (consA (varE 0) nilA)) nilA)) (consA (fnE 36 (consA (varE 0) (consA (varE 1) nilA))) nilA))))))
noncomputable def B_law_name_term : EvS :=
  (retS (fnE 10 (consA (varE 0) (consA (frzE (bltF lstG (consA (bltE tupG (consA (conE (.str "any")) (consA (conE (.str "p")) nilA))) (consA (bltE tupG (consA (conE (.str "any")) (consA (conE (.str "p")) nilA))) (consA (bltE tupG (consA (conE (.str "any")) (consA (conE (.str "q")) nilA))) (consA (bltE tupG (consA (conE (.str "any")) (consA (conE (.str "q")) nilA))) (consA (bltE tupG (consA (conE (.str "name")) (consA (conE (.str "ann")) nilA))) (consA (bltE tupG (consA (conE (.str "name")) (consA (conE (.str "rome")) nilA))) nilA)))))))) nilA))))
noncomputable def B_is_head : EvS :=
  (retS (andE (isE "tuple" (brwE 0)) (andE (bin eqG (bltE lenG (consA (brwE 0) nilA)) (conE (.int 2))) (bin eqG (bin ixG (brwE 0) (conE (.int 0))) (conE (.str "any"))))))
noncomputable def B_are_clauses : EvS :=
  (retS (andE (isE "tuple" (brwE 0)) (andE (bin leG (bltE lenG (consA (brwE 0) nilA)) (conE (.int 3))) (bltE allG (consA (frzE (lcF (seqI (varE 0)) (.nm 1) yesT (isOwnE "Clause" (varE 1)) [1])) nilA)))))
noncomputable def B_Clause_variables : EvS :=
  (seqS (ownDS 1 emptyD)
  (seqS (forS (seqI (fldE "Clause" "atoms" (varE 0))) (.tp [(.nm 2), (.nm 3), (.nm 4)])
  (forS (seqI (bltE tupG (starA (seqOnly (varE 3)) (consA (varE 4) nilA)))) (.nm 5)
  (ifS (blT (fnE 31 (consA (varE 5) nilA)))
  (dputS 1 (varE 5) (conE (.bl true)))
  nxS)))
  (retS (bltE listG3 (consA (brwE 1) nilA)))))
noncomputable def B_check_atom : EvS :=
  (seqS (ifS (orT (notT (blT (isE "tuple" (brwE 0)))) (orT (blT (bin neG (bltE lenG (consA (brwE 0) nilA)) (conE (.int 3)))) (notT (blT (isE "tuple" (bin ixG (brwE 0) (conE (.int 1))))))))
  stuckS
  nxS)
  (seqS (ifS (orT (notT (blT (fnE 19 (consA (bin ixG (brwE 0) (conE (.int 0))) nilA)))) (notT (blT (chainE leG leG (conE (.int 1)) (bltE lenG (consA (bin ixG (brwE 0) (conE (.int 1))) nilA)) (conE (.int 4))))))
  stuckS
  nxS)
  (dropS (fnE 37 (consA (bin ixG (brwE 0) (conE (.int 1))) (consA (bin ixG (brwE 0) (conE (.int 2))) nilA))))))
noncomputable def B_check_tests : EvS :=
  (ifS (orT (notT (blT (isE "tuple" (brwE 0)))) (notT (blT (bltE allG (consA (frzE (lcF (seqI (varE 0)) (.nm 1) yesT (fnE 22 (consA (varE 1) nilA)) [1])) nilA)))))
  stuckS
  nxS)
noncomputable def B_is_variable : EvS :=
  (retS (bin inG (bin ixG (brwE 0) (conE (.int 0))) (bltE tupG (consA (conE (.str "any")) (consA (conE (.str "when")) nilA)))))
noncomputable def B_number_of : EvS :=
  (seqS (ifS (orT (notT (blT (chainE leG leG (conE (.int 1)) (bltE lenG (consA (brwE 0) nilA)) (conE (.int 6))))) (notT (blT (bltE allG (consA (frzE (lcF (seqI (varE 0)) (.nm 1) yesT (bin inG (brwE 1) (conE (.str "0123456789"))) [1])) nilA)))))
  (retS (conE .non))
  nxS)
  (retS (ifE (andT (blT (bin gtG (bltE lenG (consA (brwE 0) nilA)) (conE (.int 1)))) (blT (bin eqG (bin ixG (brwE 0) (conE (.int 0))) (conE (.str "0"))))) (conE .non) (bltE intG2 (consA (brwE 0) nilA)))))
noncomputable def B_is_day : EvS :=
  (retS (fnE 38 (consA (varE 0) (consA (conE (.int 0)) (consA (conE (.int 999999)) nilA)))))
noncomputable def B_is_day_term : EvS :=
  (seqS (ifS (blT (bin eqG (brwE 0) (conE (.tup (List.map D.str (["now"] : List Str))))))
  (retS (conE (.bl true)))
  nxS)
  (seqS (ifS (orT (notT (blT (isE "tuple" (brwE 0)))) (orT (blT (bin neG (bltE lenG (consA (brwE 0) nilA)) (conE (.int 2)))) (blT (bin notInG (bin ixG (brwE 0) (conE (.int 0))) (bltE tupG (consA (conE (.str "day")) (consA (conE (.str "when")) nilA)))))))
  (retS (conE (.bl false)))
  nxS)
  (retS (ifE (blT (bin eqG (bin ixG (brwE 0) (conE (.int 0))) (conE (.str "day")))) (fnE 33 (consA (bin ixG (brwE 0) (conE (.int 1))) nilA)) (fnE 19 (consA (bin ixG (brwE 0) (conE (.int 1))) nilA))))))
noncomputable def B_is_name_term : EvS :=
  (seqS (ifS (orT (notT (blT (isE "tuple" (brwE 0)))) (orT (blT (bin neG (bltE lenG (consA (brwE 0) nilA)) (conE (.int 2)))) (blT (bin notInG (bin ixG (brwE 0) (conE (.int 0))) (bltE tupG (consA (conE (.str "name")) (consA (conE (.str "any")) nilA)))))))
  (retS (conE (.bl false)))
  nxS)
  (retS (fnE 19 (consA (bin ixG (brwE 0) (conE (.int 1))) nilA))))
noncomputable def B_law_day_term : EvS :=
  (retS (fnE 10 (consA (varE 0) (consA (frzE (bltF lstG (consA (bltE tupG (consA (conE (.str "when")) (consA (conE (.str "t")) nilA))) (consA (bltE tupG (consA (conE (.str "when")) (consA (conE (.str "t")) nilA))) (consA (bltE tupG (consA (conE (.str "when")) (consA (conE (.str "u")) nilA))) (consA (ifE (blT (varE 1)) (bltE tupG (consA (conE (.str "now")) nilA)) (bltE tupG (consA (conE (.str "when")) (consA (conE (.str "u")) nilA)))) (consA (bltE tupG (consA (conE (.str "day")) (consA (conE (.int 3)) nilA))) (consA (bltE tupG (consA (conE (.str "day")) (consA (conE (.int 5)) nilA))) nilA)))))))) nilA))))
noncomputable def B_check_terms : EvS :=
  (seqS (forS (seqI (varE 0)) (.nm 2)
  (ifS (notT (blT (fnE 35 (consA (varE 2) nilA))))
  stuckS
  nxS))
  (ifS (notT (blT (fnE 34 (consA (varE 1) nilA))))
  stuckS
  nxS))
noncomputable def B_is_whole : EvS :=
  (retS (andE (isE "int" (brwE 0)) (andE (notE (isE "bool" (brwE 0))) (chainE leG leG (brwE 1) (brwE 0) (brwE 2)))))
noncomputable def tab : Tab
  | 0 => some ⟨1, 14, B_law⟩
  | 1 => some ⟨1, 5, B_law_question⟩
  | 2 => some ⟨1, 8, B_law_rules⟩
  | 3 => some ⟨1, 3, B_clause_text⟩
  | 4 => some ⟨1, 10, B_law_words⟩
  | 5 => some ⟨1, 6, B_atom_of⟩
  | 6 => some ⟨1, 5, B_atom_text⟩
  | 7 => some ⟨2, 9, B_test_of⟩
  | 8 => some ⟨1, 4, B_test_text⟩
  | 9 => some ⟨1, 2, B_answers_text⟩
  | 10 => some ⟨2, 2, B_law_pick⟩
  | 11 => some ⟨2, 6, B_law_take⟩
  | 12 => some ⟨4, 14, B_law_clause⟩
  | 13 => some ⟨4, 4, B_Question__init⟩
  | 14 => some ⟨4, 6, B_Question__init__b⟩
  | 15 => some ⟨3, 3, B_Clause__init⟩
  | 16 => some ⟨3, 9, B_Clause__init__b⟩
  | 17 => some ⟨1, 1, B_law_word⟩
  | 18 => some ⟨2, 3, B_term_of⟩
  | 19 => some ⟨1, 2, B_is_name⟩
  | 20 => some ⟨1, 1, B_term_text⟩
  | 21 => some ⟨2, 2, B_is_day_word⟩
  | 22 => some ⟨1, 4, B_is_test⟩
  | 23 => some ⟨1, 1, B_answer_text⟩
  | 24 => some ⟨2, 2, B_law_atom⟩
  | 25 => some ⟨1, 1, B_law_name_term⟩
  | 26 => some ⟨1, 1, B_is_head⟩
  | 27 => some ⟨1, 2, B_are_clauses⟩
  | 28 => some ⟨1, 6, B_Clause_variables⟩
  | 29 => some ⟨1, 1, B_check_atom⟩
  | 30 => some ⟨1, 2, B_check_tests⟩
  | 31 => some ⟨1, 1, B_is_variable⟩
  | 32 => some ⟨1, 2, B_number_of⟩
  | 33 => some ⟨1, 1, B_is_day⟩
  | 34 => some ⟨1, 1, B_is_day_term⟩
  | 35 => some ⟨1, 1, B_is_name_term⟩
  | 36 => some ⟨2, 2, B_law_day_term⟩
  | 37 => some ⟨2, 3, B_check_terms⟩
  | 38 => some ⟨3, 3, B_is_whole⟩
  | _ => none
end Dn.K47
/-! Terms, atoms, tests as data; texts of them. -/
namespace Dn.K47
open PySem L2
inductive NT where
  | p | q | r | ann | rome | oslo
  deriving DecidableEq
inductive DT where
  | t | u | now | d3 | d5 | d6
  deriving DecidableEq
def ntD : NT → D
  | .p => .tup [.str "any", .str "p"]
  | .q => .tup [.str "any", .str "q"]
  | .r => .tup [.str "any", .str "r"]
  | .ann => .tup [.str "name", .str "ann"]
  | .rome => .tup [.str "name", .str "rome"]
  | .oslo => .tup [.str "name", .str "oslo"]
def dtD : DT → D
  | .t => .tup [.str "when", .str "t"]
  | .u => .tup [.str "when", .str "u"]
  | .now => .tup [.str "now"]
  | .d3 => .tup [.str "day", .int 3]
  | .d5 => .tup [.str "day", .int 5]
  | .d6 => .tup [.str "day", .int 6]
def ntT : NT → Str
  | .p => "?p"
  | .q => "?q"
  | .r => "?r"
  | .ann => "ann"
  | .rome => "rome"
  | .oslo => "oslo"
def dtT : DT → Str
  | .t => "?t"
  | .u => "?u"
  | .now => "now"
  | .d3 => "3"
  | .d5 => "5"
  | .d6 => "6"
inductive At where
  | lives (a b : NT) (d : DT)
  | pays (a : NT) (d : DT)
  deriving DecidableEq
def atD : At → D
  | .lives a b d => .tup [.str "lives", .tup [ntD a, ntD b], dtD d]
  | .pays a d => .tup [.str "pays", .tup [ntD a], dtD d]
def atT : At → Str
  | .lives a b d => ("lives(" : Str) ++ (ntT a ++ ("," : Str) ++ ntT b) ++ (")@" : Str) ++ dtT d
  | .pays a d => ("pays(" : Str) ++ ntT a ++ (")@" : Str) ++ dtT d
theorem term_n (n : Nat) (a : NT) (m : Store) : run tab (n+2) 20 [ntD a] m = .ok (.str (ntT a)) m := by cases a <;> kernel_rfl
theorem term_d (n : Nat) (a : DT) (m : Store) : run tab (n+2) 20 [dtD a] m = .ok (.str (dtT a)) m := by cases a <;> kernel_rfl
theorem word_n (n : Nat) (a : NT) (m : Store) : run tab (n+1) 17 [ntD a] m = .ok (.str (ntT a)) m := by cases a <;> kernel_rfl
theorem word_d (n : Nat) (a : DT) (m : Store) : run tab (n+1) 17 [dtD a] m = .ok (.str (dtT a)) m := by cases a <;> kernel_rfl
/-! ### atoms -/
theorem atext_ok (n : Nat) (a : At) (m : Store) : run tab (n+3) 6 [atD a] m = .ok (.str (atT a)) m := by
  cases a with
  | lives a b d => cases a <;> cases b <;> cases d <;> kernel_rfl
  | pays a d => cases a <;> cases d <;> kernel_rfl
theorem aof_ok (n : Nat) (a : At) (m : Store) : run tab (n+5) 5 [.str (atT a)] m = .ok (atD a) m := by
  cases a with
  | lives a b d => cases a <;> cases b <;> cases d <;> kernel_rfl
  | pays a d => cases a <;> cases d <;> kernel_rfl
theorem acheck_ok (n : Nat) (a : At) (m : Store) : run tab (n+5) 29 [atD a] m = .ok .non m := by
  cases a with
  | lives a b d => cases a <;> cases b <;> cases d <;> kernel_rfl
  | pays a d => cases a <;> cases d <;> kernel_rfl
theorem atT_len (a : At) : (atT a).length ≤ 40 := by
  cases a with
  | lives a b d => cases a <;> cases b <;> cases d <;> decide +kernel
  | pays a d => cases a <;> cases d <;> decide +kernel
end Dn.K47
/-! Tests as data. -/
namespace Dn.K47
open PySem L2
inductive DK where
  | less | most | same | unlike
  deriving DecidableEq
inductive Ts where
  | nm (same : Bool) (a b : NT)
  | dy (k : DK) (a b : DT)
  deriving DecidableEq
def dkS : DK → Str
  | .less => "less"
  | .most => "most"
  | .same => "same"
  | .unlike => "unlike"
def dkT : DK → Str
  | .less => "<"
  | .most => "<="
  | .same => "="
  | .unlike => "!="
def nkS : Bool → Str
  | true => "same"
  | false => "unlike"
def nkT : Bool → Str
  | true => "="
  | false => "!="
def tsD : Ts → D
  | .nm s a b => .tup [.str (nkS s), ntD a, ntD b]
  | .dy k a b => .tup [.str (dkS k), dtD a, dtD b]
def tsT : Ts → Str
  | .nm s a b => ntT a ++ nkT s ++ ntT b
  | .dy k a b => dtT a ++ dkT k ++ dtT b
theorem ttext_ok (n : Nat) (a : Ts) (m : Store) : run tab (n+3) 8 [tsD a] m = .ok (.str (tsT a)) m := by
  cases a with
  | nm s a b => cases s <;> cases a <;> cases b <;> kernel_rfl
  | dy k a b => cases k <;> cases a <;> cases b <;> kernel_rfl
theorem tis_ok (n : Nat) (a : Ts) (m : Store) : run tab (n+5) 22 [tsD a] m = .ok (.bl true) m := by
  cases a with
  | nm s a b => cases s <;> cases a <;> cases b <;> kernel_rfl
  | dy k a b => cases k <;> cases a <;> cases b <;> kernel_rfl
theorem tsT_len (a : Ts) : (tsT a).length ≤ 40 := by
  cases a with
  | nm s a b => cases s <;> cases a <;> cases b <;> decide +kernel
  | dy k a b => cases k <;> cases a <;> cases b <;> decide +kernel
/-! the variables of days of a clause: t, u -/
def tuS : Bool → Str
  | true => "t"
  | false => "u"
def dvD (l : List Bool) : D := .lst (l.map fun b => .str (tuS b))
/-- is a day's word by itself, or one of these -/
def dayW (l : List Bool) : DT → Bool
  | .t => decide (true ∈ l)
  | .u => decide (false ∈ l)
  | _ => true
theorem y1 (n : Nat) (m : Store) : run tab (n+6) 7 [.str (tsT (.dy .less .t .d5)), dvD [true, false]] m = .ok (tsD (.dy .less .t .d5)) m := by kernel_rfl
theorem y2 (n : Nat) (m : Store) : run tab (n+6) 7 [.str (tsT (.nm true .p .q)), dvD [true, false]] m = .ok (tsD (.nm true .p .q)) m := by kernel_rfl
theorem y3 (n : Nat) (m : Store) : run tab (n+6) 7 [.str (tsT (.nm true .p .q)), dvD []] m = .ok (tsD (.nm true .p .q)) m := by kernel_rfl
end Dn.K47
set_option maxHeartbeats 40000000
/-! Tests read back: all of them, with all days' variables of at most two atoms. -/
namespace Dn.K47
open PySem L2
theorem tofn_0 (n : Nat) (s : Bool) (a b : NT) (m : Store) : run tab (n+6) 7 [.str (tsT (.nm s a b)), dvD []] m = .ok (tsD (.nm s a b)) m := by
  cases s <;> cases a <;> cases b <;> kernel_rfl
theorem tofn_1 (n : Nat) (s : Bool) (a b : NT) (x : Bool) (m : Store) : run tab (n+6) 7 [.str (tsT (.nm s a b)), dvD [x]] m = .ok (tsD (.nm s a b)) m := by
  cases x <;> cases s <;> cases a <;> cases b <;> kernel_rfl
theorem tofn_2 (n : Nat) (s : Bool) (a b : NT) (x y : Bool) (m : Store) : run tab (n+6) 7 [.str (tsT (.nm s a b)), dvD [x, y]] m = .ok (tsD (.nm s a b)) m := by
  cases x <;> cases y <;> cases s <;> cases a <;> cases b <;> kernel_rfl
theorem tofd_0 (n : Nat) (k : DK) (a b : DT) (h : dayW [] a = true) (m : Store) : run tab (n+6) 7 [.str (tsT (.dy k a b)), dvD []] m = .ok (tsD (.dy k a b)) m := by
  cases a <;> first | exact absurd h (by decide) | (cases k <;> cases b <;> kernel_rfl)
theorem tofd_1 (n : Nat) (k : DK) (a b : DT) (x : Bool) (h : dayW [x] a = true) (m : Store) : run tab (n+6) 7 [.str (tsT (.dy k a b)), dvD [x]] m = .ok (tsD (.dy k a b)) m := by
  cases x <;> cases a <;> first | exact absurd h (by decide) | (cases k <;> cases b <;> kernel_rfl)
theorem tofd_2 (n : Nat) (k : DK) (a b : DT) (x y : Bool) (h : dayW [x, y] a = true) (m : Store) : run tab (n+6) 7 [.str (tsT (.dy k a b)), dvD [x, y]] m = .ok (tsD (.dy k a b)) m := by
  cases x <;> cases y <;> cases a <;> first | exact absurd h (by decide) | (cases k <;> cases b <;> kernel_rfl)
def tsOk (l : List Bool) : Ts → Bool
  | .nm _ _ _ => true
  | .dy _ a _ => dayW l a
theorem tof_ok (n : Nat) (t : Ts) (l : List Bool) (hl : l.length ≤ 2) (h : tsOk l t = true) (m : Store) : run tab (n+6) 7 [.str (tsT t), dvD l] m = .ok (tsD t) m := by
  match l, hl with
  | [], _ =>
    cases t with
    | nm s a b => exact tofn_0 n s a b m
    | dy k a b => exact tofd_0 n k a b h m
  | [x], _ =>
    cases t with
    | nm s a b => exact tofn_1 n s a b x m
    | dy k a b => exact tofd_1 n k a b x h m
  | [x, y], _ =>
    cases t with
    | nm s a b => exact tofn_2 n s a b x y m
    | dy k a b => exact tofd_2 n k a b x y h m
  | _ :: _ :: _ :: _, hl => simp at hl
end Dn.K47
/-! The law's draws. -/
namespace Dn.K47
open PySem L2
theorem atI_nat {α : Type} (xs : List α) (i : Nat) : atI xs (i : Int) = xs[i]? := by
  unfold atI ixN
  rw [if_pos (by omega)]
  by_cases h : i < xs.length
  · rw [if_pos (by omega)]; simp
  · rw [if_neg (by omega)]; simp; omega
theorem seq_go {f h : EvS} {C : Orc} {e e1 : Env} {m m1 : Store} (q : f C e m = .nx e1 m1) : seqS f h C e m = h C e1 m1 := by
  unfold seqS
  rw [q]
  rfl
theorem seq_ret {f h : EvS} {C : Orc} {e : Env} {m m1 : Store} {d : D} (q : f C e m = .ret d m1) : seqS f h C e m = .ret d m1 := by
  unfold seqS
  rw [q]
  rfl
abbrev is (l : List Int) : List D := l.map encI.d
abbrev sc (ns : List Int) : D := .frz (is ns)
def ST (ns : List Int) (k : Int) : Store := [.lst [sc ns, .int k]]
theorem ne_sc (m : Store) (ns : List Int) : neG m (.frz (is ns)) (.lst []) = some (.bl (!decide (ns = []))) := by
  rw [neG_ok (p := .list (ns.map encI.p)) (q := .list []) (by simp [toP, encI.tos]) (by simp [toP, toPs]) (encI.shL ns) (encI.shL [])]
  have := encI.eqs ns []
  simp only [List.map_nil] at this
  simp [PyData.eqv, this]
def tkA : EvS := asgS (.nm 2) (ifE (blT (bin neG (bin ixG (brwE 0) (conE (.int 0))) (frzE (bltF lstG nilA)))) (bin ixG (bin ixG (brwE 0) (conE (.int 0))) (bin modG (bin ixG (brwE 0) (conE (.int 1))) (bltE lenG (consA (bin ixG (brwE 0) (conE (.int 0))) nilA)))) (conE (.int 7)))
def tkB : EvS := asgS (.nm 3) (bin fdivG (bin ixG (brwE 0) (conE (.int 1))) (bltE maxLG (consA (frzE (bltF lstG (consA (conE (.int 1)) (consA (bltE lenG (consA (bin ixG (brwE 0) (conE (.int 0))) nilA)) nilA)))) nilA)))
def tkL : EvS := asgS (.nm 2) (bin fdivG (brwE 2) (conE (.int 97)))
def tkW : EvS := forS (argI rng1 (consA (bin modG (brwE 3) (conE (.int 40))) nilA)) (.nm 5) tkL
def tkR : EvS := retS (bin modG (bin modG (bltE intG2 (consA (brwE 2) nilA)) (conE (.int 97))) (brwE 1))
def tkD : EvS := asgS (.nm 4) (bin modG (bin mulG (bin addA (bin addA (bin modG (bltE intG2 (consA (bin addA (brwE 2) (bin mulG (conE (.int 31)) (brwE 3))) nilA)) (conE (.int 1000003))) (bin mulG (conE (.int 977)) (bin ixG (brwE 0) (conE (.int 1))))) (conE (.int 13))) (conE (.int 48271))) (conE (.int 2147483647)))
def tkE : EvS := retS (bin modG (bltE intG2 (consA (bin modG (bin mulG (brwE 4) (conE (.int 65537))) (conE (.int 4294967291))) nilA)) (brwE 1))
theorem take_body : B_law_take = seqS tkA (seqS tkB (seqS (stoAug addI (varE 0) (conE (.int 1)) (conE (.int 1))) (seqS (ifS (blT (bin geG (brwE 2) (bin powG (conE (.int 10)) (conE (.int 18))))) (seqS tkW tkR) nxS) (seqS tkD tkE)))) := rfl
theorem t11 (n : Nat) (a b : D) (m : Store) : run tab (n+1) 11 [a, b] m = endS (B_law_take (run tab n) [.dat a, .dat b, .em, .em, .em, .em] m) := by
  have h : tab 11 = some ⟨2, 6, B_law_take⟩ := rfl
  simp only [run, h]
  rfl
section
variable (C : Orc) (ns : List Int) (k many : Int)
theorem ix00 : ixG (ST ns k) (.ref 0) (.int 0) = some (sc ns) := rfl
theorem ix01 : ixG (ST ns k) (.ref 0) (.int 1) = some (.int k) := rfl
theorem tkA_ok : ∃ c, tkA C [.dat (.ref 0), .dat (.int many), .em, .em, .em, .em] (ST ns k) = .nx [.dat (.ref 0), .dat (.int many), .dat (.int c), .em, .em, .em] (ST ns k) := by
  have l0 : lstG (ST ns k) [] = some [] := rfl
  unfold tkA
  by_cases h : ns = []
  · refine ⟨7, ?_⟩
    have e := ne_sc (ST ns k) ns
    rw [decide_eq_true h] at e
    simp only [asgS, ifE, blT, bin, brwE, conE, frzE, bltF, nilA, l0, List.getElem?_cons_zero, R.bind_ok, ix00, R.of_some, e, isB, Bool.not_true, Bool.false_eq_true, if_false, liftS_ok]
    rfl
  · have hlen : 0 < ns.length := List.length_pos_iff.mpr h
    have hlen' : (0 : Int) < (ns.length : Int) := by omega
    obtain ⟨j, hj⟩ : ∃ j : Nat, k % (ns.length : Int) = (j : Int) := ⟨(k % (ns.length : Int)).toNat, by have := Int.emod_nonneg k (by omega : (ns.length : Int) ≠ 0); omega⟩
    have hj2 : j < ns.length := by have := Int.emod_lt_of_pos k hlen'; omega
    have hat : ixG (ST ns k) (sc ns) (.int (j : Int)) = some (.int ns[j]) := by
      show atI (is ns) (j : Int) = _
      rw [atI_nat, List.getElem?_map, List.getElem?_eq_getElem hj2]; rfl
    have e := ne_sc (ST ns k) ns
    rw [decide_eq_false h] at e
    have ln : lenG (ST ns k) [sc ns] = some (.int ns.length) := by
      show some (D.int ((is ns).length : Nat)) = _
      rw [List.length_map]
    have md : modG (ST ns k) (.int k) (.int (ns.length : Nat)) = some (.int (j : Nat)) := by
      show (if 0 < ((ns.length : Nat) : Int) then some (D.int (k % ((ns.length : Nat) : Int))) else none) = _
      rw [if_pos hlen', hj]
    refine ⟨ns[j], ?_⟩
    simp only [asgS, ifE, blT, bin, bltE, consA, brwE, conE, frzE, bltF, nilA, l0, List.getElem?_cons_zero, R.bind_ok, ix00, ix01, R.of_some, e, isB, Bool.not_false, if_true, ln, md, hat, liftS_ok]
    rfl
theorem tkB_ok (hs : ns.length ≤ 1000) (c : Int) : ∃ t, tkB C [.dat (.ref 0), .dat (.int many), .dat (.int c), .em, .em, .em] (ST ns k) = .nx [.dat (.ref 0), .dat (.int many), .dat (.int c), .dat (.int t), .em, .em] (ST ns k) := by
  have ln : lenG (ST ns k) [sc ns] = some (.int ns.length) := by
    show some (D.int ((is ns).length : Nat)) = _
    rw [List.length_map]
  have l2 : lstG (ST ns k) [.int 1, .int (ns.length : Nat)] = some [.int 1, .int (ns.length : Nat)] := rfl
  have mx : maxLG (ST ns k) [.lst [.int 1, .int (ns.length : Nat)]] = some (.int (max 1 (ns.length : Int))) := rfl
  have fd : fdivG (ST ns k) (.int k) (.int (max 1 (ns.length : Int))) = some (.int (k / max 1 (ns.length : Int))) := by
    show (if 0 < max 1 (ns.length : Int) ∧ max 1 (ns.length : Int) < 1073741824 then some (D.int (k / max 1 (ns.length : Int))) else none) = _
    rw [if_pos (by omega)]
  refine ⟨k / max 1 (ns.length : Int), ?_⟩
  unfold tkB
  simp only [asgS, bin, bltE, consA, nilA, brwE, conE, frzE, bltF, List.getElem?_cons_zero, R.bind_ok, ix00, ix01, R.of_some, ln, l2, mx, fd, liftS_ok]
  rfl
theorem tkL_loop : ∀ (l : List D) (c t : Int) (c5 : Cell), ∃ c' c5', forL C (.nm 5) tkL l [.dat (.ref 0), .dat (.int many), .dat (.int c), .dat (.int t), .em, c5] (ST ns k) = .nx [.dat (.ref 0), .dat (.int many), .dat (.int c'), .dat (.int t), .em, c5'] (ST ns k)
  | [], c, t, c5 => ⟨c, c5, rfl⟩
  | d :: l, c, t, c5 => by
    obtain ⟨c', c5', ih⟩ := tkL_loop l (c / 97) t (.dat d)
    exact ⟨c', c5', ih⟩
theorem take_ok (n : Nat) (hs : ns.length ≤ 1000) (h : 0 < many) : ∃ v, 0 ≤ v ∧ v < many ∧ run tab (n+1) 11 [.ref 0, .int many] (ST ns k) = .ok (.int v) (ST ns (k + 1)) := by
  obtain ⟨c, gA⟩ := tkA_ok (run tab n) ns k many
  obtain ⟨t, gB⟩ := tkB_ok (run tab n) ns k many hs c
  have gC : stoAug addI (varE 0) (conE (.int 1)) (conE (.int 1)) (run tab n) [.dat (.ref 0), .dat (.int many), .dat (.int c), .dat (.int t), .em, .em] (ST ns k) = .nx [.dat (.ref 0), .dat (.int many), .dat (.int c), .dat (.int t), .em, .em] (ST ns (k + 1)) := rfl
  have pw : powG (ST ns (k + 1)) (.int 10) (.int 18) = some (.int 1000000000000000000) := rfl
  have ge : geG (ST ns (k + 1)) (.int c) (.int 1000000000000000000) = some (.bl (decide (c ≥ 1000000000000000000))) := rfl
  rw [t11, take_body, seq_go gA, seq_go gB, seq_go gC]
  by_cases hc : c ≥ 1000000000000000000
  · have m40 : 0 ≤ t % 40 ∧ t % 40 < 40 := ⟨Int.emod_nonneg _ (by omega), Int.emod_lt_of_pos _ (by omega)⟩
    have md : modG (ST ns (k + 1)) (.int t) (.int 40) = some (.int (t % 40)) := rfl
    have rg : rng1 [.int (t % 40)] = some (rng 0 (t % 40).toNat) := by
      have b : bdI (t % 40) = true := by
        unfold bdI
        simp only [Bool.and_eq_true, decide_eq_true_eq]
        omega
      show (if (bdI (t % 40) && decide ((t % 40).toNat ≤ 100000)) = true then some (rng 0 (t % 40).toNat) else none) = _
      rw [b, decide_eq_true (by omega)]
      rfl
    obtain ⟨c', c5', lp⟩ := tkL_loop (run tab n) ns (k + 1) many (rng 0 (t % 40).toNat) c t .em
    have gW : tkW (run tab n) [.dat (.ref 0), .dat (.int many), .dat (.int c), .dat (.int t), .em, .em] (ST ns (k + 1)) = .nx [.dat (.ref 0), .dat (.int many), .dat (.int c'), .dat (.int t), .em, c5'] (ST ns (k + 1)) := by
      unfold tkW forS argI
      simp only [consA, nilA, bin, brwE, conE, List.getElem?_cons_succ, List.getElem?_cons_zero, R.bind_ok, R.of_some, md, rg, liftS_ok]
      exact lp
    have i2 : intG2 (ST ns (k + 1)) [.int c'] = some (.int c') := rfl
    have m97 : modG (ST ns (k + 1)) (.int c') (.int 97) = some (.int (c' % 97)) := rfl
    have mm : modG (ST ns (k + 1)) (.int (c' % 97)) (.int many) = some (.int (c' % 97 % many)) := by
      show (if 0 < many then some (D.int (c' % 97 % many)) else none) = _
      rw [if_pos h]
    refine ⟨c' % 97 % many, Int.emod_nonneg _ (by omega), Int.emod_lt_of_pos _ h, ?_⟩
    have gI : ifS (blT (bin geG (brwE 2) (bin powG (conE (.int 10)) (conE (.int 18))))) (seqS tkW tkR) nxS (run tab n) [.dat (.ref 0), .dat (.int many), .dat (.int c), .dat (.int t), .em, .em] (ST ns (k + 1)) = .ret (.int (c' % 97 % many)) (ST ns (k + 1)) := by
      simp only [ifS, blT, bin, brwE, conE, List.getElem?_cons_succ, List.getElem?_cons_zero, R.bind_ok, R.of_some, pw, ge, isB, decide_eq_true hc, if_true, liftS_ok]
      rw [seq_go gW]
      unfold tkR
      simp only [retS, bin, bltE, consA, nilA, brwE, conE, List.getElem?_cons_succ, List.getElem?_cons_zero, R.bind_ok, R.of_some, i2, m97, mm, liftS_ok]
    rw [seq_ret gI]
    rfl
  · have gI : ifS (blT (bin geG (brwE 2) (bin powG (conE (.int 10)) (conE (.int 18))))) (seqS tkW tkR) nxS (run tab n) [.dat (.ref 0), .dat (.int many), .dat (.int c), .dat (.int t), .em, .em] (ST ns (k + 1)) = .nx [.dat (.ref 0), .dat (.int many), .dat (.int c), .dat (.int t), .em, .em] (ST ns (k + 1)) := by
      simp only [ifS, blT, bin, brwE, conE, List.getElem?_cons_succ, List.getElem?_cons_zero, R.bind_ok, R.of_some, pw, ge, isB, decide_eq_false hc, Bool.false_eq_true, if_false, liftS_ok]
      rfl
    rw [seq_go gI]
    have e1 : mulG (ST ns (k + 1)) (.int 31) (.int t) = some (.int (31 * t)) := by
      show (if mulB 31 t = true then some (D.int (31 * t)) else none) = _
      rw [if_pos (by unfold mulB; simp)]
    have e2 : mulG (ST ns (k + 1)) (.int 977) (.int (k + 1)) = some (.int (977 * (k + 1))) := by
      show (if mulB 977 (k + 1) = true then some (D.int (977 * (k + 1))) else none) = _
      rw [if_pos (by unfold mulB; simp)]
    have e3 : ∀ x : Int, mulG (ST ns (k + 1)) (.int x) (.int 48271) = some (.int (x * 48271)) := fun x => by
      show (if mulB x 48271 = true then some (D.int (x * 48271)) else none) = _
      rw [if_pos (by unfold mulB; simp)]
    have e4 : ∀ x : Int, mulG (ST ns (k + 1)) (.int x) (.int 65537) = some (.int (x * 65537)) := fun x => by
      show (if mulB x 65537 = true then some (D.int (x * 65537)) else none) = _
      rw [if_pos (by unfold mulB; simp)]
    have ad : ∀ x y : Int, addA (ST ns (k + 1)) (.int x) (.int y) = some (.int (x + y)) := fun _ _ => rfl
    have i2 : ∀ x : Int, intG2 (ST ns (k + 1)) [.int x] = some (.int x) := fun _ => rfl
    have m1 : ∀ x : Int, modG (ST ns (k + 1)) (.int x) (.int 1000003) = some (.int (x % 1000003)) := fun _ => rfl
    have m2 : ∀ x : Int, modG (ST ns (k + 1)) (.int x) (.int 2147483647) = some (.int (x % 2147483647)) := fun _ => rfl
    have m3 : ∀ x : Int, modG (ST ns (k + 1)) (.int x) (.int 4294967291) = some (.int (x % 4294967291)) := fun _ => rfl
    have mm : ∀ x : Int, modG (ST ns (k + 1)) (.int x) (.int many) = some (.int (x % many)) := fun x => by
      show (if 0 < many then some (D.int (x % many)) else none) = _
      rw [if_pos h]
    have gD : ∃ w, tkD (run tab n) [.dat (.ref 0), .dat (.int many), .dat (.int c), .dat (.int t), .em, .em] (ST ns (k + 1)) = .nx [.dat (.ref 0), .dat (.int many), .dat (.int c), .dat (.int t), .dat (.int w), .em] (ST ns (k + 1)) := by
      refine ⟨((c + 31 * t) % 1000003 + 977 * (k + 1) + 13) * 48271 % 2147483647, ?_⟩
      unfold tkD
      simp only [asgS, bin, bltE, consA, nilA, brwE, conE, List.getElem?_cons_succ, List.getElem?_cons_zero, R.bind_ok, R.of_some, ix01, e1, e2, e3, ad, i2, m1, m2, liftS_ok]
      rfl
    obtain ⟨w, gD⟩ := gD
    rw [seq_go gD]
    refine ⟨w * 65537 % 4294967291 % many, Int.emod_nonneg _ (by omega), Int.emod_lt_of_pos _ h, ?_⟩
    unfold tkE
    simp only [retS, bin, bltE, consA, nilA, brwE, conE, List.getElem?_cons_succ, List.getElem?_cons_zero, R.bind_ok, R.of_some, e4, i2, m3, mm, liftS_ok, endS]
end
/-! ### picks -/
theorem t10 (n : Nat) (a b : D) (m : Store) : run tab (n+1) 10 [a, b] m = endS (B_law_pick (run tab n) [.dat a, .dat b] m) := by
  have h : tab 10 = some ⟨2, 2, B_law_pick⟩ := rfl
  simp only [run, h]
  rfl
theorem pick_ok (n : Nat) (ns : List Int) (hs : ns.length ≤ 1000) (k : Int) (xs : List D) (hx : xs ≠ []) : ∃ x, x ∈ xs ∧ run tab (n+2) 10 [.ref 0, .lst xs] (ST ns k) = .ok x (ST ns (k + 1)) := by
  have hp : 0 < xs.length := List.length_pos_iff.mpr hx
  obtain ⟨v, h0, h1, e⟩ := take_ok ns k (xs.length : Nat) n hs (by omega)
  obtain ⟨j, rfl⟩ : ∃ j : Nat, v = (j : Int) := ⟨v.toNat, by omega⟩
  have hj : j < xs.length := by omega
  refine ⟨xs[j], List.getElem_mem hj, ?_⟩
  have ix : ixG (ST ns (k + 1)) (.lst xs) (.int (j : Nat)) = some xs[j] := (atI_nat xs j).trans (List.getElem?_eq_getElem hj)
  have ln : lenG (ST ns k) [.lst xs] = some (.int xs.length) := rfl
  rw [t10]
  unfold B_law_pick
  simp only [retS, bin, fnE, bltE, consA, nilA, varE, brwE, List.getElem?_cons_succ, List.getElem?_cons_zero, R.bind_ok, R.of_some, ln, e, ix, liftS_ok, endS]
end Dn.K47
/-! Terms as keys; the variables of a clause; clauses made. -/
namespace Dn.K47
open PySem L2
inductive Tm where
  | n (a : NT)
  | d (a : DT)
  deriving DecidableEq
def tmD : Tm → D
  | .n a => ntD a
  | .d a => dtD a
def isV : Tm → Bool
  | .n .p => true
  | .n .q => true
  | .n .r => true
  | .d .t => true
  | .d .u => true
  | _ => false
theorem kEq_t (x y : Tm) : kEq (tmD x) (tmD y) = decide (x = y) := by
  cases x with
  | n a => cases y with
    | n b => cases a <;> cases b <;> kernel_rfl
    | d b => cases a <;> cases b <;> kernel_rfl
  | d a => cases y with
    | n b => cases a <;> cases b <;> kernel_rfl
    | d b => cases a <;> cases b <;> kernel_rfl
theorem toK_t (x : Tm) : (toK (tmD x)).isSome = true := by
  cases x with
  | n a => cases a <;> kernel_rfl
  | d a => cases a <;> kernel_rfl
theorem cls_t (x : Tm) : clsK (tmD x) = true := by
  cases x with
  | n a => cases a <;> kernel_rfl
  | d a => cases a <;> kernel_rfl
def tmP : Tm → PyData
  | .n .p => .tuple [.str "any", .str "p"]
  | .n .q => .tuple [.str "any", .str "q"]
  | .n .r => .tuple [.str "any", .str "r"]
  | .n .ann => .tuple [.str "name", .str "ann"]
  | .n .rome => .tuple [.str "name", .str "rome"]
  | .n .oslo => .tuple [.str "name", .str "oslo"]
  | .d .t => .tuple [.str "when", .str "t"]
  | .d .u => .tuple [.str "when", .str "u"]
  | .d .now => .tuple [.str "now"]
  | .d .d3 => .tuple [.str "day", .int 3]
  | .d .d5 => .tuple [.str "day", .int 5]
  | .d .d6 => .tuple [.str "day", .int 6]
theorem tmP_inj (x y : Tm) : PyData.eqv (tmP x) (tmP y) = true ↔ x = y := by
  cases x with
  | n a => cases y with
    | n b => cases a <;> cases b <;> decide +kernel
    | d b => cases a <;> cases b <;> decide +kernel
  | d a => cases y with
    | n b => cases a <;> cases b <;> decide +kernel
    | d b => cases a <;> cases b <;> decide +kernel
def encTm : Enc Tm := ⟨tmD, tmP, fun x => by cases x with
  | n a => cases a <;> kernel_rfl
  | d a => cases a <;> kernel_rfl, fun x => by cases x with
  | n a => cases a <;> decide +kernel
  | d a => cases a <;> decide +kernel, fun x => by cases x with
  | n a => cases a <;> decide +kernel
  | d a => cases a <;> decide +kernel, tmP_inj⟩
theorem tm_noStr (x : Tm) (z : Str) : tmD x ≠ .str z := by
  cases x with
  | n a => cases a <;> exact fun h => nomatch h
  | d a => cases a <;> exact fun h => nomatch h
theorem in_tm (m : Store) (x : Tm) (l : List Tm) : inG m (tmD x) (.lst (l.map tmD)) = some (.bl (decide (x ∈ l))) := encTm.inL m x l (tm_noStr x)
theorem isvar_ok (n : Nat) (x : Tm) (m : Store) : run tab (n+1) 31 [tmD x] m = .ok (.bl (isV x)) m := by
  cases x with
  | n a => cases a <;> kernel_rfl
  | d a => cases a <;> kernel_rfl
/-! ### dicts of terms -/
theorem keyOk_of {kvs : List (D × D)} {c : D} {b : Bool} (h1 : (toK c).isSome = true) (h2 : clsK c = b) (h : ∀ p ∈ kvs, clsK p.1 = b) : keyOk kvs c = true := by
  unfold keyOk
  rw [h1, Bool.true_and, List.all_eq_true]
  intro p hp
  rw [h p hp, h2]
  exact beq_self_eq_true b
abbrev nT (l : List Tm) : List (D × D) := l.map fun x => (tmD x, .bl true)
def addT (l : List Tm) (x : Tm) : List Tm := if x ∈ l then l else l ++ [x]
theorem dput_t (l : List Tm) (x : Tm) : dput (nT l) (tmD x) (.bl true) = nT (addT l x) := by
  have a : ((nT l).any fun p => kEq p.1 (tmD x)) = decide (x ∈ l) := by
    rw [Bool.eq_iff_iff, List.any_eq_true]
    constructor
    · rintro ⟨p, hp, h⟩
      obtain ⟨q, hq, rfl⟩ := List.mem_map.mp hp
      rw [kEq_t] at h
      have := of_decide_eq_true h
      subst this
      exact decide_eq_true hq
    · intro h
      exact ⟨(tmD x, .bl true), List.mem_map.mpr ⟨x, of_decide_eq_true h, rfl⟩, by rw [kEq_t]; simp⟩
  unfold dput addT
  rw [a]
  by_cases h : x ∈ l
  · rw [if_pos (decide_eq_true h), if_pos h]
    unfold nT
    rw [List.map_map]
    refine List.map_congr_left fun k _ => ?_
    simp only [Function.comp]
    split <;> rfl
  · rw [if_neg (by simpa using h), if_neg h]
    simp [nT]
theorem keyOk_t (l : List Tm) (x : Tm) : keyOk (nT l) (tmD x) = true := keyOk_of (b := true) (toK_t x) (cls_t x) fun p hp => by
  obtain ⟨q, _, rfl⟩ := List.mem_map.mp hp
  exact cls_t q
theorem addT_mem (l : List Tm) (n k : Tm) : k ∈ addT l n ↔ k ∈ l ∨ k = n := by
  unfold addT
  split
  · rename_i h
    exact ⟨.inl, fun z => z.elim id fun e => by rw [e]; exact h⟩
  · simp
theorem addT_len (l : List Tm) (n : Tm) : (addT l n).length ≤ l.length + 1 := by
  unfold addT
  split <;> simp
theorem addsT_mem (xs : List Tm) (k : Tm) : ∀ l : List Tm, k ∈ xs.foldl addT l ↔ k ∈ l ∨ k ∈ xs := by
  induction xs with
  | nil => intro l; simp
  | cons x xs ih =>
    intro l
    rw [List.foldl_cons, ih, addT_mem, List.mem_cons]
    constructor
    · rintro ((h | h) | h)
      · exact .inl h
      · exact .inr (.inl h)
      · exact .inr (.inr h)
    · rintro (h | h | h)
      · exact .inl (.inl h)
      · exact .inl (.inr h)
      · exact .inr h
theorem addsT_len (xs : List Tm) : ∀ l : List Tm, (xs.foldl addT l).length ≤ l.length + xs.length := by
  induction xs with
  | nil => intro l; simp
  | cons x xs ih =>
    intro l
    have h1 := ih (addT l x)
    have h2 := addT_len l x
    rw [List.foldl_cons, List.length_cons]
    omega
/-! ### atoms by their parts -/
def atS : At → Str
  | .lives _ _ _ => "lives"
  | .pays _ _ => "pays"
def atN : At → List NT
  | .lives a b _ => [a, b]
  | .pays a _ => [a]
def atY : At → DT
  | .lives _ _ d => d
  | .pays _ d => d
theorem atD_eq (a : At) : atD a = .tup [.str (atS a), .tup ((atN a).map ntD), dtD (atY a)] := by cases a <;> rfl
def tms (a : At) : List Tm := (atN a).map .n ++ [.d (atY a)]
theorem tms_D (a : At) : (tms a).map tmD = (atN a).map ntD ++ [dtD (atY a)] := by
  unfold tms
  rw [List.map_append, List.map_map]
  rfl
theorem tms_len (a : At) : (tms a).length ≤ 3 := by cases a <;> simp [tms, atN]
/-! ### variables -/
def vB : EvS := (forS (seqI (bltE tupG (starA (seqOnly (varE 3)) (consA (varE 4) nilA)))) (.nm 5) (ifS (blT (fnE 31 (consA (varE 5) nilA))) (dputS 1 (varE 5) (conE (.bl true))) nxS))
def vI : EvS := (ifS (blT (fnE 31 (consA (varE 5) nilA))) (dputS 1 (varE 5) (conE (.bl true))) nxS)
theorem var_body : B_Clause_variables = (seqS (ownDS 1 emptyD) (seqS (forS (seqI (fldE "Clause" "atoms" (varE 0))) (.tp [(.nm 2), (.nm 3), (.nm 4)]) vB) (retS (bltE listG3 (consA (brwE 1) nilA))))) := rfl
theorem vI_loop (n : Nat) (m : Store) (c0 c2 c3 c4 : Cell) : ∀ (xs l : List Tm) (c5 : Cell), l.length + xs.length ≤ 1000 → ∃ c5', forL (run tab (n+1)) (.nm 5) vI (xs.map tmD) [c0, .own (.dct (nT l)), c2, c3, c4, c5] m = .nx [c0, .own (.dct (nT ((xs.filter isV).foldl addT l))), c2, c3, c4, c5'] m
  | [], l, c5, _ => ⟨c5, rfl⟩
  | x :: xs, l, c5, h => by
    rw [List.length_cons] at h
    have s0 : forL (run tab (n+1)) (.nm 5) vI ((x :: xs).map tmD) [c0, .own (.dct (nT l)), c2, c3, c4, c5] m = match vI (run tab (n+1)) [c0, .own (.dct (nT l)), c2, c3, c4, .dat (tmD x)] m with
      | .nx e2 m2 => forL (run tab (n+1)) (.nm 5) vI (xs.map tmD) e2 m2
      | .ct e2 m2 => forL (run tab (n+1)) (.nm 5) vI (xs.map tmD) e2 m2
      | .brk e2 m2 => .nx e2 m2
      | r => r := rfl
    have iv := isvar_ok n x m
    have hL : (1001 : Nat) ≤ LIM := by decide
    have ll : (nT l).length < LIM := by rw [List.length_map]; omega
    have b : vI (run tab (n+1)) [c0, .own (.dct (nT l)), c2, c3, c4, .dat (tmD x)] m = .nx [c0, .own (.dct (nT (if isV x = true then addT l x else l))), c2, c3, c4, .dat (tmD x)] m := by
      unfold vI
      simp only [ifS, blT, fnE, consA, nilA, varE, List.getElem?_cons_succ, List.getElem?_cons_zero, R.bind_ok, iv, isB, R.of_some, liftS_ok]
      by_cases hv : isV x = true
      · rw [if_pos hv, if_pos hv]
        simp only [dputS, conE, varE, List.getElem?_cons_succ, List.getElem?_cons_zero, liftS_ok, keyOk_t, ll, and_self, if_true, dput_t]
        rfl
      · rw [if_neg hv, if_neg hv]
        rfl
    have al := addT_len l x
    obtain ⟨c5', ih⟩ := vI_loop n m c0 c2 c3 c4 xs (if isV x = true then addT l x else l) (.dat (tmD x)) (by split <;> omega)
    refine ⟨c5', ?_⟩
    rw [s0, b]
    have e : ((x :: xs).filter isV).foldl addT l = (xs.filter isV).foldl addT (if isV x = true then addT l x else l) := by
      by_cases hv : isV x = true
      · rw [List.filter_cons_of_pos hv, if_pos hv]
        rfl
      · rw [List.filter_cons_of_neg hv, if_neg hv]
    rw [e]
    exact ih
def vM (L : List At) : List Tm := L.foldl (fun l a => ((tms a).filter isV).foldl addT l) []
theorem vB_loop (n : Nat) (m : Store) (c0 : Cell) : ∀ (L : List At) (l : List Tm) (c2 c3 c4 c5 : Cell), l.length + 3 * L.length ≤ 900 → ∃ c2' c3' c4' c5', forL (run tab (n+1)) (.tp [(.nm 2), (.nm 3), (.nm 4)]) vB (L.map atD) [c0, .own (.dct (nT l)), c2, c3, c4, c5] m =
    .nx [c0, .own (.dct (nT (L.foldl (fun l a => ((tms a).filter isV).foldl addT l) l))), c2', c3', c4', c5'] m
  | [], l, c2, c3, c4, c5, _ => ⟨c2, c3, c4, c5, rfl⟩
  | a :: L, l, c2, c3, c4, c5, h => by
    rw [List.length_cons] at h
    have tl := tms_len a
    obtain ⟨d5, b⟩ := vI_loop n m c0 (.dat (.str (atS a))) (.dat (.tup ((atN a).map ntD))) (.dat (dtD (atY a))) (tms a) l c5 (by omega)
    rw [tms_D] at b
    have fl : ((tms a).filter isV).length ≤ (tms a).length := List.length_filter_le _ _
    have al := addsT_len ((tms a).filter isV) l
    obtain ⟨c2', c3', c4', c5', ih⟩ := vB_loop n m c0 L (((tms a).filter isV).foldl addT l) (.dat (.str (atS a))) (.dat (.tup ((atN a).map ntD))) (.dat (dtD (atY a))) d5 (by omega)
    refine ⟨c2', c3', c4', c5', ?_⟩
    have sh : short ((atN a).map ntD ++ [dtD (atY a)]) = true := by cases a <;> rfl
    have b2 : vB (run tab (n+1)) [c0, .own (.dct (nT l)), .dat (.str (atS a)), .dat (.tup ((atN a).map ntD)), .dat (dtD (atY a)), c5] m = .nx [c0, .own (.dct (nT (((tms a).filter isV).foldl addT l))), .dat (.str (atS a)), .dat (.tup ((atN a).map ntD)), .dat (dtD (atY a)), d5] m := by
      unfold vB forS seqI
      simp only [bltE, starA, seqOnly, noStr, consA, nilA, varE, List.getElem?_cons_succ, List.getElem?_cons_zero, R.bind_ok, itemsOf, R.of_some, if_true, tupG, sh, liftS_ok]
      exact b
    have s0 : forL (run tab (n+1)) (.tp [(.nm 2), (.nm 3), (.nm 4)]) vB ((a :: L).map atD) [c0, .own (.dct (nT l)), c2, c3, c4, c5] m = match vB (run tab (n+1)) [c0, .own (.dct (nT l)), .dat (.str (atS a)), .dat (.tup ((atN a).map ntD)), .dat (dtD (atY a)), c5] m with
      | .nx e2 m2 => forL (run tab (n+1)) (.tp [(.nm 2), (.nm 3), (.nm 4)]) vB (L.map atD) e2 m2
      | .ct e2 m2 => forL (run tab (n+1)) (.tp [(.nm 2), (.nm 3), (.nm 4)]) vB (L.map atD) e2 m2
      | .brk e2 m2 => .nx e2 m2
      | r => r := by
      rw [List.map_cons, atD_eq]
      rfl
    rw [s0, b2]
    exact ih
theorem t28 (n : Nat) (x : D) (m : Store) : run tab (n+1) 28 [x] m = endS (B_Clause_variables (run tab n) [.dat x, .em, .em, .em, .em, .em] m) := by
  have h : tab 28 = some ⟨1, 6, B_Clause_variables⟩ := rfl
  simp only [run, h]
  rfl
theorem variables_ok (n : Nat) (x : D) (L : List At) (hl : L.length ≤ 100) (m : Store) (hx : fldG "Clause" "atoms" m x = some (.tup (L.map atD))) : run tab (n+2) 28 [x] m = .ok (.lst ((vM L).map tmD)) m := by
  rw [t28, var_body]
  have g1 : ownDS 1 emptyD (run tab (n+1)) [.dat x, .em, .em, .em, .em, .em] m = .nx [.dat x, .own (.dct (nT [])), .em, .em, .em, .em] m := rfl
  rw [seq_go g1]
  obtain ⟨c2, c3, c4, c5, lp⟩ := vB_loop n m (.dat x) L [] .em .em .em .em (by simp; omega)
  have g2 : forS (seqI (fldE "Clause" "atoms" (varE 0))) (.tp [(.nm 2), (.nm 3), (.nm 4)]) vB (run tab (n+1)) [.dat x, .own (.dct (nT [])), .em, .em, .em, .em] m = .nx [.dat x, .own (.dct (nT (vM L))), c2, c3, c4, c5] m := by
    unfold forS seqI fldE una
    simp only [varE, List.getElem?_cons_zero, R.bind_ok, hx, R.of_some, itemsOf, liftS_ok]
    exact lp
  rw [seq_go g2]
  have lg : listG3 m [.dct (nT (vM L))] = some (.lst ((vM L).map tmD)) := by
    show some (D.lst ((nT (vM L)).map (·.1))) = _
    unfold nT
    rw [List.map_map]
    rfl
  simp only [retS, bltE, consA, nilA, brwE, List.getElem?_cons_succ, List.getElem?_cons_zero, R.bind_ok, lg, R.of_some, liftS_ok, endS]
theorem vM_mem (L : List At) (k : Tm) : ∀ l : List Tm, k ∈ L.foldl (fun l a => ((tms a).filter isV).foldl addT l) l ↔ k ∈ l ∨ (isV k = true ∧ ∃ a ∈ L, k ∈ tms a) := by
  induction L with
  | nil => intro l; simp
  | cons a L ih =>
    intro l
    rw [List.foldl_cons, ih, addsT_mem, List.mem_filter]
    constructor
    · rintro ((h | ⟨h1, h2⟩) | ⟨h1, b, h2, h3⟩)
      · exact .inl h
      · exact .inr ⟨h2, a, List.mem_cons_self, h1⟩
      · exact .inr ⟨h1, b, List.mem_cons_of_mem _ h2, h3⟩
    · rintro (h | ⟨h1, b, h2, h3⟩)
      · exact .inl (.inl h)
      · rcases List.mem_cons.mp h2 with rfl | h2
        · exact .inl (.inr ⟨h3, h1⟩)
        · exact .inr ⟨h1, b, h2, h3⟩
end Dn.K47
/-! Clauses made. -/
namespace Dn.K47
open PySem L2
theorem notIn_tm (m : Store) (x : Tm) (l : List Tm) : notInG m (tmD x) (.lst (l.map tmD)) = some (.bl (!decide (x ∈ l))) := by
  have h := in_tm m x l
  have ns := tm_noStr x
  have e1 : inG m (tmD x) (.lst (l.map tmD)) = (twoP (tmD x) (.lst (l.map tmD))).bind fun z => (inL z.1 z.2).map .bl := by
    cases x with
    | n a => cases a <;> rfl
    | d a => cases a <;> rfl
  have e2 : notInG m (tmD x) (.lst (l.map tmD)) = (twoP (tmD x) (.lst (l.map tmD))).bind fun z => (inL z.1 z.2).map fun b => .bl (!b) := by
    cases x with
    | n a => cases a <;> rfl
    | d a => cases a <;> rfl
  rw [e1] at h
  rw [e2]
  cases t : twoP (tmD x) (.lst (l.map tmD)) with
  | none => rw [t] at h; cases h
  | some z =>
    rw [t] at h
    simp only [Option.bind_some] at h ⊢
    cases u : inL z.1 z.2 with
    | none => rw [u] at h; cases h
    | some v =>
      rw [u] at h
      simp only [Option.map_some, Option.some.injEq, D.bl.injEq] at h ⊢
      rw [h]
def tsA : Ts → Tm
  | .nm _ a _ => .n a
  | .dy _ a _ => .d a
def tsB : Ts → Tm
  | .nm _ _ b => .n b
  | .dy _ _ b => .d b
def tsW : Ts → Str
  | .nm s _ _ => nkS s
  | .dy k _ _ => dkS k
theorem tsD_eq (t : Ts) : tsD t = .tup [.str (tsW t), tmD (tsA t), tmD (tsB t)] := by cases t <;> rfl
/-- a test's variables stand among some terms -/
def knows (l : List Tm) (t : Ts) : Prop := (isV (tsA t) = true → tsA t ∈ l) ∧ (isV (tsB t) = true → tsB t ∈ l)
def clD (L : List At) (T : List Ts) : D := .ins "Clause" [("atoms", .tup (L.map atD)), ("tests", .tup (T.map tsD))]
def cA : EvS := (ifS (orT (notT (blT (isE "tuple" (brwE 1)))) (notT (blT (chainE leG leG (conE (.int 1)) (bltE lenG (consA (brwE 1) nilA)) (conE (.int 3))))))
  stuckS
  nxS)
def cB : EvS := (forS (seqI (varE 1)) (.nm 3) (dropS (fnE 29 (consA (varE 3) nilA))))
def cC : EvS := (dropS (fnE 30 (consA (varE 2) nilA)))
def cD : EvS := (ifS (blT (bin gtG (bltE lenG (consA (brwE 2) nilA)) (conE (.int 6))))
  stuckS
  nxS)
def cF : EvS := (ifS (blT (bltE anyG (consA (frzE (lcF (seqI (bltE tupG (consA (varE 6) (consA (varE 7) nilA)))) (.nm 8) yesT (andE (fnE 31 (consA (varE 8) nilA)) (bin notInG (brwE 8) (brwE 4))) [8])) nilA)))
  stuckS
  nxS)
theorem cl_body : B_Clause__init__b = (seqS cA (seqS cB (seqS cC (seqS cD (seqS (fldS "Clause" "atoms" (varE 0) (varE 1)) (seqS (fldS "Clause" "tests" (varE 0) (varE 2)) (seqS (asgS (.nm 4) (metE "Clause" "variables" 28 (varE 0) nilA)) (forS (seqI (varE 2)) (.tp [(.nm 5), (.nm 6), (.nm 7)]) cF)))))))) := rfl
theorem isT (C : Orc) (xs : List D) (c0 : Cell) (r : Env) (m : Store) : isE "tuple" (brwE 1) C (c0 :: .dat (.tup xs) :: r) m = .ok (.bl true) m := by kernel_rfl
theorem isT0 (C : Orc) (xs : List D) (r : Env) (m : Store) : isE "tuple" (brwE 0) C (.dat (.tup xs) :: r) m = .ok (.bl true) m := by kernel_rfl
theorem cA_ok (C : Orc) (c0 : Cell) (r : Env) (xs : List D) (h1 : 1 ≤ xs.length) (h2 : xs.length ≤ 3) (m : Store) : cA C (c0 :: .dat (.tup xs) :: r) m = .nx (c0 :: .dat (.tup xs) :: r) m := by
  have ln : lenG m [.tup xs] = some (.int xs.length) := rfl
  have le : ∀ a b : Int, leG m (.int a) (.int b) = some (.bl (decide (a ≤ b))) := fun _ _ => rfl
  have d1 : decide ((1 : Int) ≤ (xs.length : Nat)) = true := by simp; omega
  have d2 : decide (((xs.length : Nat) : Int) ≤ 3) = true := by simp; omega
  unfold cA ifS orT notT blT
  rw [isT]
  simp only [R.bind_ok, isB, R.of_some, Bool.not_true, Bool.false_eq_true, if_false, chainE, conE, bltE, consA, nilA, brwE, List.getElem?_cons_succ, List.getElem?_cons_zero, ln, le, d1, d2, if_true, liftS_ok]
  rfl
theorem cB_loop (n : Nat) (m : Store) (c0 c1 c2 : Cell) : ∀ (L : List At) (c3 : Cell), ∃ c3', forL (run tab (n+5)) (.nm 3) (dropS (fnE 29 (consA (varE 3) nilA))) (L.map atD) [c0, c1, c2, c3, .em, .em, .em, .em, .em] m = .nx [c0, c1, c2, c3', .em, .em, .em, .em, .em] m
  | [], c3 => ⟨c3, rfl⟩
  | a :: L, c3 => by
    have ck := acheck_ok n a m
    obtain ⟨c3', ih⟩ := cB_loop n m c0 c1 c2 L (.dat (atD a))
    refine ⟨c3', ?_⟩
    have s0 : forL (run tab (n+5)) (.nm 3) (dropS (fnE 29 (consA (varE 3) nilA))) ((a :: L).map atD) [c0, c1, c2, c3, .em, .em, .em, .em, .em] m = match dropS (fnE 29 (consA (varE 3) nilA)) (run tab (n+5)) [c0, c1, c2, .dat (atD a), .em, .em, .em, .em, .em] m with
      | .nx e2 m2 => forL (run tab (n+5)) (.nm 3) (dropS (fnE 29 (consA (varE 3) nilA))) (L.map atD) e2 m2
      | .ct e2 m2 => forL (run tab (n+5)) (.nm 3) (dropS (fnE 29 (consA (varE 3) nilA))) (L.map atD) e2 m2
      | .brk e2 m2 => .nx e2 m2
      | r => r := rfl
    have b : dropS (fnE 29 (consA (varE 3) nilA)) (run tab (n+5)) [c0, c1, c2, .dat (atD a), .em, .em, .em, .em, .em] m = .nx [c0, c1, c2, .dat (atD a), .em, .em, .em, .em, .em] m := by
      simp only [dropS, fnE, consA, nilA, varE, List.getElem?_cons_succ, List.getElem?_cons_zero, R.bind_ok, ck, liftS_ok]
    rw [s0, b]
    exact ih
theorem t30 (n : Nat) (x : D) (m : Store) : run tab (n+1) 30 [x] m = endS (B_check_tests (run tab n) [.dat x, .em] m) := by
  have h : tab 30 = some ⟨1, 2, B_check_tests⟩ := rfl
  simp only [run, h]
  rfl
theorem toBls_rep : ∀ (T : List Ts), toBls (T.map fun _ => D.bl true) = some (T.map fun _ => true)
  | [] => rfl
  | x :: l => by simp only [List.map_cons, toBls, toBls_rep l, Option.map_some]
theorem ctests_ok (n : Nat) (T : List Ts) (m : Store) : run tab (n+6) 30 [.tup (T.map tsD)] m = .ok .non m := by
  have lc := lcL_all (C := run tab (n+5)) (g := .nm 1) (te := fnE 22 (consA (varE 1) nilA)) (e := [.dat (.tup (T.map tsD)), .em]) (m := m) (f := tsD) (h := fun _ => D.bl true) (l := T) fun x hx => ⟨[.dat (.tup (T.map tsD)), .dat (tsD x)], rfl, by
    have := tis_ok n x m
    simp only [fnE, consA, nilA, varE, List.getElem?_cons_succ, List.getElem?_cons_zero, R.bind_ok, this]⟩
  have al : allG m [.lst (T.map fun _ => D.bl true)] = some (.bl true) := by
    show (toBls (T.map fun _ => D.bl true)).map (fun is => D.bl (is.all id)) = _
    rw [toBls_rep]
    simp
  rw [t30]
  unfold B_check_tests ifS orT notT blT
  rw [isT0]
  simp only [R.bind_ok, isB, R.of_some, Bool.not_true, Bool.false_eq_true, if_false, bltE, frzE, lcF, seqI, consA, nilA, varE, List.getElem?_cons_succ, List.getElem?_cons_zero, itemsOf, wipeE, List.set_cons_succ, List.set_cons_zero, lc, al, liftS_ok]
  rfl
theorem cF_ok (n : Nat) (m : Store) (c0 c1 c2 c3 : Cell) (l : List Tm) (t : Ts) (h : knows l t) :
    cF (run tab (n+1)) [c0, c1, c2, c3, .dat (.lst (l.map tmD)), .dat (.str (tsW t)), .dat (tmD (tsA t)), .dat (tmD (tsB t)), .em] m = .nx [c0, c1, c2, c3, .dat (.lst (l.map tmD)), .dat (.str (tsW t)), .dat (tmD (tsA t)), .dat (tmD (tsB t)), .em] m := by
  have one : ∀ x : Tm, (isV x = true → x ∈ l) → andE (fnE 31 (consA (varE 8) nilA)) (bin notInG (brwE 8) (brwE 4)) (run tab (n+1)) [c0, c1, c2, c3, .dat (.lst (l.map tmD)), .dat (.str (tsW t)), .dat (tmD (tsA t)), .dat (tmD (tsB t)), .dat (tmD x)] m = .ok (.bl false) m := fun x hx => by
    have iv := isvar_ok n x m
    have ni := notIn_tm m x l
    simp only [andE, fnE, consA, nilA, varE, List.getElem?_cons_succ, List.getElem?_cons_zero, R.bind_ok, iv, isB, R.of_some]
    by_cases hv : isV x = true
    · have hm := hx hv
      rw [decide_eq_true hm] at ni
      rw [if_pos hv]
      simp only [bin, brwE, List.getElem?_cons_succ, List.getElem?_cons_zero, R.bind_ok, ni, R.of_some, Bool.not_true]
    · simp [hv]
  have lc := lcL_all (C := run tab (n+1)) (g := .nm 8) (te := andE (fnE 31 (consA (varE 8) nilA)) (bin notInG (brwE 8) (brwE 4))) (e := [c0, c1, c2, c3, .dat (.lst (l.map tmD)), .dat (.str (tsW t)), .dat (tmD (tsA t)), .dat (tmD (tsB t)), .em]) (m := m) (f := tmD) (h := fun _ => D.bl false) (l := [tsA t, tsB t]) fun x hx => ⟨[c0, c1, c2, c3, .dat (.lst (l.map tmD)), .dat (.str (tsW t)), .dat (tmD (tsA t)), .dat (tmD (tsB t)), .dat (tmD x)], rfl, one x (by
    simp only [List.mem_cons, List.not_mem_nil, or_false] at hx
    rcases hx with rfl | rfl
    · exact h.1
    · exact h.2)⟩
  have lc : lcL (run tab (n+1)) (.nm 8) yesT (andE (fnE 31 (consA (varE 8) nilA)) (bin notInG (brwE 8) (brwE 4))) [c0, c1, c2, c3, .dat (.lst (l.map tmD)), .dat (.str (tsW t)), .dat (tmD (tsA t)), .dat (tmD (tsB t)), .em] [tmD (tsA t), tmD (tsB t)] m = .ok [.bl false, .bl false] m := lc
  have sh : ∀ x y : D, short [x, y] = true := fun _ _ => rfl
  have an : anyG m [.lst [.bl false, .bl false]] = some (.bl false) := rfl
  unfold cF
  simp only [ifS, blT, bltE, frzE, lcF, seqI, consA, nilA, varE, List.getElem?_cons_succ, List.getElem?_cons_zero, R.bind_ok, R.of_some, tupG, sh, if_true, itemsOf, wipeE, List.set_cons_succ, List.set_cons_zero, lc, an, isB, Bool.false_eq_true, if_false, liftS_ok]
  rfl
theorem cF_loop (n : Nat) (m : Store) (c0 c1 c2 c3 : Cell) (l : List Tm) : ∀ (T : List Ts) (c5 c6 c7 : Cell), (∀ t ∈ T, knows l t) → ∃ c5' c6' c7', forL (run tab (n+1)) (.tp [(.nm 5), (.nm 6), (.nm 7)]) cF (T.map tsD) [c0, c1, c2, c3, .dat (.lst (l.map tmD)), c5, c6, c7, .em] m = .nx [c0, c1, c2, c3, .dat (.lst (l.map tmD)), c5', c6', c7', .em] m
  | [], c5, c6, c7, _ => ⟨c5, c6, c7, rfl⟩
  | t :: T, c5, c6, c7, h => by
    have b := cF_ok n m c0 c1 c2 c3 l t (h t List.mem_cons_self)
    obtain ⟨c5', c6', c7', ih⟩ := cF_loop n m c0 c1 c2 c3 l T (.dat (.str (tsW t))) (.dat (tmD (tsA t))) (.dat (tmD (tsB t))) fun x hx => h x (List.mem_cons_of_mem _ hx)
    refine ⟨c5', c6', c7', ?_⟩
    have s0 : forL (run tab (n+1)) (.tp [(.nm 5), (.nm 6), (.nm 7)]) cF ((t :: T).map tsD) [c0, c1, c2, c3, .dat (.lst (l.map tmD)), c5, c6, c7, .em] m = match cF (run tab (n+1)) [c0, c1, c2, c3, .dat (.lst (l.map tmD)), .dat (.str (tsW t)), .dat (tmD (tsA t)), .dat (tmD (tsB t)), .em] m with
      | .nx e2 m2 => forL (run tab (n+1)) (.tp [(.nm 5), (.nm 6), (.nm 7)]) cF (T.map tsD) e2 m2
      | .ct e2 m2 => forL (run tab (n+1)) (.tp [(.nm 5), (.nm 6), (.nm 7)]) cF (T.map tsD) e2 m2
      | .brk e2 m2 => .nx e2 m2
      | r => r := by
      rw [List.map_cons, tsD_eq]
      rfl
    rw [s0, b]
    exact ih
theorem stx {α : Type} (m : List α) (a : α) : (m ++ [a])[m.length]? = some a := by simp
theorem sts {α : Type} (m : List α) (a b : α) : (m ++ [a]).set m.length b = m ++ [b] := by simp
theorem t16 (n : Nat) (x y z : D) (m : Store) : run tab (n+1) 16 [x, y, z] m = endS (B_Clause__init__b (run tab n) [.dat x, .dat y, .dat z, .em, .em, .em, .em, .em, .em] m) := by
  have h : tab 16 = some ⟨3, 9, B_Clause__init__b⟩ := rfl
  simp only [run, h]
  rfl
theorem cl_init (n : Nat) (m : Store) (L : List At) (T : List Ts) (h1 : 1 ≤ L.length) (h2 : L.length ≤ 3) (h3 : T.length ≤ 6) (hk : ∀ t ∈ T, knows (vM L) t) :
    run tab (n+7) 16 [.ref m.length, .tup (L.map atD), .tup (T.map tsD)] (m ++ [.ins "Clause" []]) = .ok .non (m ++ [.ins "Clause" [("atoms", .tup (L.map atD)), ("tests", .tup (T.map tsD))]]) := by
  rw [t16, cl_body]
  rw [seq_go (cA_ok _ _ _ (L.map atD) (by simpa using h1) (by simpa using h2) _)]
  obtain ⟨c3, lB⟩ := cB_loop (n+1) (m ++ [.ins "Clause" []]) (.dat (.ref m.length)) (.dat (.tup (L.map atD))) (.dat (.tup (T.map tsD))) L .em
  have gB : cB (run tab (n+6)) [.dat (.ref m.length), .dat (.tup (L.map atD)), .dat (.tup (T.map tsD)), .em, .em, .em, .em, .em, .em] (m ++ [.ins "Clause" []]) = .nx [.dat (.ref m.length), .dat (.tup (L.map atD)), .dat (.tup (T.map tsD)), c3, .em, .em, .em, .em, .em] (m ++ [.ins "Clause" []]) := by
    unfold cB forS seqI
    simp only [varE, List.getElem?_cons_succ, List.getElem?_cons_zero, R.bind_ok, itemsOf, R.of_some, liftS_ok]
    exact lB
  rw [seq_go gB]
  have ct := ctests_ok n T (m ++ [.ins "Clause" []])
  have gC : cC (run tab (n+6)) [.dat (.ref m.length), .dat (.tup (L.map atD)), .dat (.tup (T.map tsD)), c3, .em, .em, .em, .em, .em] (m ++ [.ins "Clause" []]) = .nx [.dat (.ref m.length), .dat (.tup (L.map atD)), .dat (.tup (T.map tsD)), c3, .em, .em, .em, .em, .em] (m ++ [.ins "Clause" []]) := by
    unfold cC
    simp only [dropS, fnE, consA, nilA, varE, List.getElem?_cons_succ, List.getElem?_cons_zero, R.bind_ok, ct, liftS_ok]
  rw [seq_go gC]
  have gD : cD (run tab (n+6)) [.dat (.ref m.length), .dat (.tup (L.map atD)), .dat (.tup (T.map tsD)), c3, .em, .em, .em, .em, .em] (m ++ [.ins "Clause" []]) = .nx [.dat (.ref m.length), .dat (.tup (L.map atD)), .dat (.tup (T.map tsD)), c3, .em, .em, .em, .em, .em] (m ++ [.ins "Clause" []]) := by
    have ln : lenG (m ++ [.ins "Clause" []]) [.tup (T.map tsD)] = some (.int T.length) := by
      show some (D.int ((T.map tsD).length : Nat)) = _
      rw [List.length_map]
    have gt : gtG (m ++ [.ins "Clause" []]) (.int (T.length : Nat)) (.int 6) = some (.bl false) := by
      show some (D.bl (decide (((T.length : Nat) : Int) > 6))) = _
      rw [decide_eq_false (by omega)]
    unfold cD
    simp only [ifS, blT, bin, bltE, consA, nilA, brwE, conE, List.getElem?_cons_succ, List.getElem?_cons_zero, R.bind_ok, ln, gt, R.of_some, isB, Bool.false_eq_true, if_false, liftS_ok]
    rfl
  rw [seq_go gD]
  have g5 : fldS "Clause" "atoms" (varE 0) (varE 1) (run tab (n+6)) [.dat (.ref m.length), .dat (.tup (L.map atD)), .dat (.tup (T.map tsD)), c3, .em, .em, .em, .em, .em] (m ++ [.ins "Clause" []]) = .nx [.dat (.ref m.length), .dat (.tup (L.map atD)), .dat (.tup (T.map tsD)), c3, .em, .em, .em, .em, .em] (m ++ [.ins "Clause" [("atoms", .tup (L.map atD))]]) := by
    unfold fldS
    simp only [varE, List.getElem?_cons_succ, List.getElem?_cons_zero, liftS_ok, stx, sts, putD, List.length_nil]
    rfl
  rw [seq_go g5]
  have g6 : fldS "Clause" "tests" (varE 0) (varE 2) (run tab (n+6)) [.dat (.ref m.length), .dat (.tup (L.map atD)), .dat (.tup (T.map tsD)), c3, .em, .em, .em, .em, .em] (m ++ [.ins "Clause" [("atoms", .tup (L.map atD))]]) = .nx [.dat (.ref m.length), .dat (.tup (L.map atD)), .dat (.tup (T.map tsD)), c3, .em, .em, .em, .em, .em] (m ++ [.ins "Clause" [("atoms", .tup (L.map atD)), ("tests", .tup (T.map tsD))]]) := by
    unfold fldS
    simp only [varE, List.getElem?_cons_succ, List.getElem?_cons_zero, liftS_ok, stx, sts, putD, List.length_nil, List.length_cons]
    rfl
  rw [seq_go g6]
  generalize hm2 : m ++ [Ob.ins "Clause" [("atoms", D.tup (L.map atD)), ("tests", D.tup (T.map tsD))]] = m2
  have at2 : m2[m.length]? = some (.ins "Clause" [("atoms", .tup (L.map atD)), ("tests", .tup (T.map tsD))]) := by rw [← hm2]; exact stx _ _
  have fd : fldG "Clause" "atoms" m2 (.ref m.length) = some (.tup (L.map atD)) := by
    simp only [fldG, insG, at2]
    rfl
  have vr := variables_ok (n+4) (.ref m.length) L (by omega) m2 fd
  have g7 : asgS (.nm 4) (metE "Clause" "variables" 28 (varE 0) nilA) (run tab (n+6)) [.dat (.ref m.length), .dat (.tup (L.map atD)), .dat (.tup (T.map tsD)), c3, .em, .em, .em, .em, .em] m2 = .nx [.dat (.ref m.length), .dat (.tup (L.map atD)), .dat (.tup (T.map tsD)), c3, .dat (.lst ((vM L).map tmD)), .em, .em, .em, .em] m2 := by
    have q : metE "Clause" "variables" 28 (varE 0) nilA (run tab (n+6)) [.dat (.ref m.length), .dat (.tup (L.map atD)), .dat (.tup (T.map tsD)), c3, .em, .em, .em, .em, .em] m2 = .ok (.lst ((vM L).map tmD)) m2 := by
      have iG : insG m2 (.ref m.length) = some (("Clause" : Str), ([("atoms", .tup (L.map atD)), ("tests", .tup (T.map tsD))] : List (Str × D))) := by
        simp only [insG, at2]
      have lk : ([(("atoms" : Str), D.tup (L.map atD)), (("tests" : Str), D.tup (T.map tsD))] : List (Str × D)).lookup ("variables" : Str) = none := by kernel_rfl
      unfold metE
      simp only [varE, List.getElem?_cons_zero, R.bind_ok, iG, lk, and_self, if_true, nilA, vr]
    unfold asgS
    rw [q]
    rfl
  rw [seq_go g7]
  obtain ⟨c5, c6, c7, lF⟩ := cF_loop (n+5) m2 (.dat (.ref m.length)) (.dat (.tup (L.map atD))) (.dat (.tup (T.map tsD))) c3 (vM L) T .em .em .em hk
  have g8 : forS (seqI (varE 2)) (.tp [(.nm 5), (.nm 6), (.nm 7)]) cF (run tab (n+6)) [.dat (.ref m.length), .dat (.tup (L.map atD)), .dat (.tup (T.map tsD)), c3, .dat (.lst ((vM L).map tmD)), .em, .em, .em, .em] m2 = .nx [.dat (.ref m.length), .dat (.tup (L.map atD)), .dat (.tup (T.map tsD)), c3, .dat (.lst ((vM L).map tmD)), c5, c6, c7, .em] m2 := by
    unfold forS seqI
    simp only [varE, List.getElem?_cons_succ, List.getElem?_cons_zero, R.bind_ok, itemsOf, R.of_some, liftS_ok]
    exact lF
  rw [g8]
  rfl
theorem noR_tm (x : Tm) : noR (tmD x) = true := by
  cases x with
  | n a => cases a <;> rfl
  | d a => cases a <;> rfl
theorem noR_at (a : At) : noR (atD a) = true := by
  cases a with
  | lives a b d => cases a <;> cases b <;> cases d <;> rfl
  | pays a d => cases a <;> cases d <;> rfl
theorem noR_ts (t : Ts) : noR (tsD t) = true := by
  rw [tsD_eq]
  show (true && (noR (tmD (tsA t)) && (noR (tmD (tsB t)) && true))) = true
  rw [noR_tm, noR_tm]
  rfl
theorem noRs_at : ∀ L : List At, noRs (L.map atD) = true
  | [] => rfl
  | a :: L => by
    show (noR (atD a) && noRs (L.map atD)) = true
    rw [noR_at, noRs_at L]; rfl
theorem noRs_ts : ∀ L : List Ts, noRs (L.map tsD) = true
  | [] => rfl
  | a :: L => by
    show (noR (tsD a) && noRs (L.map tsD)) = true
    rw [noR_ts, noRs_ts L]; rfl
theorem noR_cl (L : List At) (T : List Ts) : noR (clD L T) = true := by
  show (noRs (L.map atD) && (noRs (T.map tsD) && true)) = true
  rw [noRs_at, noRs_ts]
  rfl
theorem cl_new (n : Nat) {L : List At} {T : List Ts} (h1 : 1 ≤ L.length) (h2 : L.length ≤ 3) (h3 : T.length ≤ 6) (hk : ∀ t ∈ T, knows (vM L) t) (m : Store) (hm : m.all noRo = true) {a : EvA} {e : Env} (ha : a (run tab (n+8)) e m = .ok [.tup (L.map atD), .tup (T.map tsD)] m) :
    stlE (newE "Clause" 15 a) (run tab (n+8)) e m = .ok (clD L T) m := by
  have hw : ∀ ds m', ds.length = 3 → run tab (n+8) 15 ds m' = run tab (n+7) 16 ds m' := fun ds m' hl => run_wrap (np := 3) (k := 15) (f := 16) rfl hl
  unfold stlE newE
  rw [ha]
  simp only [R.bind_ok]
  rw [hw _ _ rfl, cl_init n m L T h1 h2 h3 hk]
  simp only [R.bind_ok, stlR, stx]
  rw [if_pos]
  · simp [clD]
  · refine ⟨trivial, by simp, ?_⟩
    rw [List.all_append, hm, Bool.true_and]
    have := noR_cl L T
    show (noRf [("atoms", .tup (L.map atD)), ("tests", .tup (T.map tsD))] && true) = true
    rw [Bool.and_true]
    exact this
end Dn.K47
/-! Drawn atoms, drawn clauses. -/
namespace Dn
open PySem L2
theorem Enc.inT {α : Type} (e : Enc α) [DecidableEq α] (m : Store) (x : α) (b : List α) (h : ∀ z, e.d x ≠ .str z) : inG m (e.d x) (.tup (b.map e.d)) = some (.bl (decide (x ∈ b))) := by
  have hs : SeqAt.shaped (e.p x) = true := by
    have h1 := e.lay x
    have h2 := e.dep x
    simp only [SeqAt.shaped, Bool.and_eq_true, decide_eq_true_eq]
    exact ⟨h1, by omega⟩
  have : ∀ b : List α, (b.map e.p).any (fun z => PyData.eqv z (e.p x)) = decide (x ∈ b) := by
    intro b
    induction b with
    | nil => simp
    | cons y b ih =>
      rw [List.map_cons, List.any_cons, ih]
      by_cases q : y = x
      · subst q; have := (e.inj y y).mpr rfl; rw [this]; simp
      · have z : PyData.eqv (e.p y) (e.p x) = false := by
          cases r : PyData.eqv (e.p y) (e.p x) with
          | false => rfl
          | true => exact absurd ((e.inj y x).mp r) q
        rw [z]
        have : x ≠ y := fun w => q w.symm
        simp [this]
  unfold inG
  split
  · rename_i w _; exact absurd w (h _)
  · unfold twoP
    simp only [e.to, toP, e.tos, Option.map_some, hs, e.shT, Bool.and_self, if_true, Option.bind_some]
    unfold Dn.inL
    simp [this]
end Dn
namespace Dn.K47
open PySem L2
theorem in_nt (m : Store) (x : NT) (l : List NT) : inG m (ntD x) (.tup (l.map ntD)) = some (.bl (decide (x ∈ l))) := by
  have h := encTm.inT m (.n x) (l.map .n) (tm_noStr (.n x))
  have e : (l.map Tm.n).map encTm.d = l.map ntD := by
    rw [List.map_map]
    rfl
  rw [e] at h
  have e2 : decide (Tm.n x ∈ l.map Tm.n) = decide (x ∈ l) := by
    rw [decide_eq_decide, List.mem_map]
    constructor
    · rintro ⟨y, hy, h⟩
      cases h
      exact hy
    · exact fun h => ⟨x, h, rfl⟩
  rw [e2] at h
  exact h
section
variable (ns : List Int) (hs : ns.length ≤ 1000) (k : Int)
include hs
theorem t25 (n : Nat) (x : D) (m : Store) : run tab (n+1) 25 [x] m = endS (B_law_name_term (run tab n) [.dat x] m) := by
  have h : tab 25 = some ⟨1, 1, B_law_name_term⟩ := rfl
  simp only [run, h]
  rfl
theorem t36 (n : Nat) (x y : D) (m : Store) : run tab (n+1) 36 [x, y] m = endS (B_law_day_term (run tab n) [.dat x, .dat y] m) := by
  have h : tab 36 = some ⟨2, 2, B_law_day_term⟩ := rfl
  simp only [run, h]
  rfl
theorem t24 (n : Nat) (x y : D) (m : Store) : run tab (n+1) 24 [x, y] m = endS (B_law_atom (run tab n) [.dat x, .dat y] m) := by
  have h : tab 24 = some ⟨2, 2, B_law_atom⟩ := rfl
  simp only [run, h]
  rfl
theorem name_term_ok (n : Nat) : ∃ a : NT, run tab (n+3) 25 [.ref 0] (ST ns k) = .ok (ntD a) (ST ns (k + 1)) := by
  obtain ⟨x, hx, e⟩ := pick_ok n ns hs k ([NT.p, .p, .q, .q, .ann, .rome].map ntD) (by simp)
  obtain ⟨a, _, rfl⟩ := List.mem_map.mp hx
  refine ⟨a, ?_⟩
  rw [t25 ns hs]
  have l : fnE 10 (consA (varE 0) (consA (frzE (bltF lstG (consA (bltE tupG (consA (conE (.str "any")) (consA (conE (.str "p")) nilA))) (consA (bltE tupG (consA (conE (.str "any")) (consA (conE (.str "p")) nilA))) (consA (bltE tupG (consA (conE (.str "any")) (consA (conE (.str "q")) nilA))) (consA (bltE tupG (consA (conE (.str "any")) (consA (conE (.str "q")) nilA))) (consA (bltE tupG (consA (conE (.str "name")) (consA (conE (.str "ann")) nilA))) (consA (bltE tupG (consA (conE (.str "name")) (consA (conE (.str "rome")) nilA))) nilA)))))))) nilA)) (run tab (n+2)) [.dat (.ref 0)] (ST ns k) = run tab (n+2) 10 [.ref 0, .lst ([NT.p, .p, .q, .q, .ann, .rome].map ntD)] (ST ns k) := by
    generalize run tab (n+2) = C
    rfl
  unfold B_law_name_term retS
  rw [l, e]
  rfl
theorem day_term_ok (n : Nat) : ∃ a : DT, run tab (n+3) 36 [.ref 0, .bl true] (ST ns k) = .ok (dtD a) (ST ns (k + 1)) := by
  obtain ⟨x, hx, e⟩ := pick_ok n ns hs k ([DT.t, .t, .u, .now, .d3, .d5].map dtD) (by simp)
  obtain ⟨a, _, rfl⟩ := List.mem_map.mp hx
  refine ⟨a, ?_⟩
  rw [t36 ns hs]
  have l : B_law_day_term (run tab (n+2)) [.dat (.ref 0), .dat (.bl true)] (ST ns k) = liftS (run tab (n+2) 10 [.ref 0, .lst ([DT.t, .t, .u, .now, .d3, .d5].map dtD)] (ST ns k)) [.dat (.ref 0), .dat (.bl true)] fun d m1 => .ret d m1 := by
    generalize run tab (n+2) = C
    rfl
  rw [l, e]
  rfl
theorem atom_ok (n : Nat) : ∃ a : At, ∃ k', run tab (n+4) 24 [.ref 0, .bl true] (ST ns k) = .ok (atD a) (ST ns k') := by
  obtain ⟨v, h0, h1, e1⟩ := take_ok ns k 3 (n+2) hs (by omega)
  have gt : gtG (ST ns (k + 1)) (.int v) (.int 0) = some (.bl (decide (v > 0))) := rfl
  have sh1 : ∀ x : D, short [x] = true := fun _ => rfl
  have sh2 : ∀ x y : D, short [x, y] = true := fun _ _ => rfl
  have sh3 : ∀ x y z : D, short [x, y, z] = true := fun _ _ _ => rfl
  obtain ⟨a, ea⟩ := name_term_ok ns hs (k + 1) n
  by_cases hv : v > 0
  · obtain ⟨b, eb⟩ := name_term_ok ns hs (k + 1 + 1) n
    obtain ⟨d, ed⟩ := day_term_ok ns hs (k + 1 + 1 + 1) n
    refine ⟨.lives a b d, k + 1 + 1 + 1 + 1, ?_⟩
    rw [t24 ns hs]
    unfold B_law_atom
    simp only [seqS, ifS, blT, bin, retS, bltE, fnE, consA, nilA, varE, conE, List.getElem?_cons_succ, List.getElem?_cons_zero, R.bind_ok, R.of_some, e1, gt, decide_eq_true hv, isB, if_true, liftS_ok, ea, eb, ed, tupG, sh1, sh2, sh3, SR.bind_ret, endS, atD]
  · obtain ⟨d, ed⟩ := day_term_ok ns hs (k + 1 + 1) n
    refine ⟨.pays a d, k + 1 + 1 + 1, ?_⟩
    rw [t24 ns hs]
    unfold B_law_atom
    simp only [seqS, ifS, blT, bin, retS, nxS, bltE, fnE, consA, nilA, varE, conE, List.getElem?_cons_succ, List.getElem?_cons_zero, R.bind_ok, R.of_some, e1, gt, decide_eq_false hv, isB, Bool.false_eq_true, if_false, if_true, liftS_ok, ea, ed, tupG, sh1, sh2, sh3, SR.bind_nx, endS, atD]
end
end Dn.K47
/-! Drawn clauses: atoms with the head's variables, names and days. -/
namespace Dn.K47
open PySem L2
abbrev EC (hd : List NT) (c4 c5 c6 c7 c8 c9 c10 c11 c12 c13 : Cell) : Env := [.dat (.ref 0), .dat (.tup (hd.map ntD)), .dat (.int 2), .dat (.bl true), c4, c5, c6, c7, c8, c9, c10, c11, c12, c13]
def lcA : EvS := (ownS 4 (lcF (argI rng1 (consA (bin addA (conE (.int 1)) (fnE 11 (consA (varE 0) (consA (varE 2) nilA)))) nilA)) (.nm 12) yesT (fnE 24 (consA (varE 0) (consA (varE 3) nilA))) [12]))
def hX : EvE := (bltE tupG (consA (conE (.str "lives")) (consA (bltE tupG (consA (varE 5) (consA (fnE 25 (consA (varE 0) nilA)) nilA))) (consA (bin ixG (bin ixG (brwE 4) (conE (.int 0))) (conE (.int 2))) nilA))))
def hY : EvE := (bltE tupG (consA (conE (.str "lives")) (consA (bltE tupG (consA (bin ixG (brwE 1) (conE (.int 0))) (consA (bin ixG (brwE 1) (conE (.int 1))) nilA))) (consA (bin ixG (bin ixG (brwE 4) (conE (.int 0))) (conE (.int 2))) nilA))))
def hT : EvT := (notT (blT (bltE anyG (consA (frzE (lcF (ownI 4) (.tp [(.nm 8), (.nm 6), (.nm 10)]) yesT (bin inG (brwE 5) (brwE 6)) [8, 6, 10])) nilA))))
def hB : EvS := (ifS hT (setS 4 (conE (.int 0)) (ifE (blT (bin eqG (bltE lenG (consA (brwE 1) nilA)) (conE (.int 1)))) hX hY)) nxS)
def nB : EvS := (seqS (forS (seqI (varE 9)) (.nm 5) (dputS 6 (varE 5) (conE (.bl true)))) (dputS 7 (varE 10) (conE (.bl true))))
theorem rng1_up {k : Nat} (h : k ≤ 100000) : rng1 [.int (k : Int)] = some (rng 0 k) := by
  have b : bdI (k : Int) = true := by
    unfold bdI
    simp only [Bool.and_eq_true, decide_eq_true_eq]
    omega
  have e : ((k : Int)).toNat = k := by omega
  show (if (bdI (k : Int) && decide (((k : Int)).toNat ≤ 100000)) = true then some (rng 0 ((k : Int)).toNat) else none) = _
  rw [b, e, decide_eq_true h]
  rfl
theorem any_bls {α : Type} (g : α → Bool) : ∀ L : List α, toBls (L.map fun a => D.bl (g a)) = some (L.map g)
  | [] => rfl
  | x :: l => by simp only [List.map_cons, toBls, any_bls g l, Option.map_some]
section
variable (ns : List Int) (hs : ns.length ≤ 1000)
include hs
theorem atoms_loop (n : Nat) (hd : List NT) : ∀ (l : List D) (k : Int), ∃ L : List At, ∃ k', L.length = l.length ∧
    lcL (run tab (n+4)) (.nm 12) yesT (fnE 24 (consA (varE 0) (consA (varE 3) nilA))) (EC hd .em .em .em .em .em .em .em .em .em .em) l (ST ns k) = .ok (L.map atD) (ST ns k')
  | [], k => ⟨[], k, rfl, rfl⟩
  | d :: l, k => by
    obtain ⟨a, k1, e1⟩ := atom_ok ns hs k n
    obtain ⟨L, k2, hl, e2⟩ := atoms_loop n hd l k1
    refine ⟨a :: L, k2, by simp [hl], ?_⟩
    have s0 : lcL (run tab (n+4)) (.nm 12) yesT (fnE 24 (consA (varE 0) (consA (varE 3) nilA))) (EC hd .em .em .em .em .em .em .em .em .em .em) (d :: l) (ST ns k) =
      (noX (fnE 24 (consA (varE 0) (consA (varE 3) nilA)) (run tab (n+4)) (EC hd .em .em .em .em .em .em .em .em (.dat d) .em) (ST ns k))).bind fun x m2 => (lcL (run tab (n+4)) (.nm 12) yesT (fnE 24 (consA (varE 0) (consA (varE 3) nilA))) (EC hd .em .em .em .em .em .em .em .em .em .em) l m2).bind fun xs m3 => .ok (x :: xs) m3 := rfl
    have f : fnE 24 (consA (varE 0) (consA (varE 3) nilA)) (run tab (n+4)) (EC hd .em .em .em .em .em .em .em .em (.dat d) .em) (ST ns k) = .ok (atD a) (ST ns k1) := by
      simp only [fnE, consA, nilA, varE, List.getElem?_cons_succ, List.getElem?_cons_zero, R.bind_ok, e1]
    rw [s0, f]
    simp only [noX, R.bind_ok, e2]
    rfl
theorem lcA_arg (g : List D → Option (List D)) (n : Nat) (hd : List NT) (k : Int) : ∃ j : Nat, j < 2 ∧ argI g (consA (bin addA (conE (.int 1)) (fnE 11 (consA (varE 0) (consA (varE 2) nilA)))) nilA) (run tab (n+4)) (EC hd .em .em .em .em .em .em .em .em .em .em) (ST ns k) = R.of (g [.int ((j + 1 : Nat) : Int)]) (ST ns (k + 1)) := by
  obtain ⟨v, h0, h1, e1⟩ := take_ok ns k 2 (n+3) hs (by omega)
  obtain ⟨j, rfl⟩ : ∃ j : Nat, v = (j : Int) := ⟨v.toNat, by omega⟩
  refine ⟨j, by omega, ?_⟩
  have ad : addA (ST ns (k + 1)) (.int 1) (.int (j : Nat)) = some (.int ((j + 1 : Nat) : Int)) := by
    show some (D.int (1 + (j : Int))) = _
    have : (1 : Int) + (j : Int) = ((j + 1 : Nat) : Int) := by omega
    rw [this]
  simp only [argI, consA, nilA, bin, fnE, varE, conE, List.getElem?_cons_succ, List.getElem?_cons_zero, R.bind_ok, R.of_some, e1, ad]
theorem ownS_ok {i : Nat} {f : EvA} {C : Orc} {e e1 : Env} {m m1 : Store} {xs : List D} (h : f C e m = .ok xs m1) (h2 : ownO i xs e = some e1) : ownS i f C e m = .nx e1 m1 := by
  unfold ownS
  rw [h]
  simp only [liftS_ok, h2]
  rfl
theorem lcF_ok {it : EvA} {g : Tg} {tt : EvT} {te : EvE} {vs : List Nat} {C : Orc} {e : Env} {m m1 : Store} {ds : List D} {r : R (List D)} (h : it C e m = .ok ds m1) (h2 : lcL C g tt te (wipeE e vs) ds m1 = r) : lcF it g tt te vs C e m = r := by
  unfold lcF
  rw [h]
  exact h2
theorem lcA_ok (n : Nat) (hd : List NT) (k : Int) : ∃ L : List At, ∃ k', 1 ≤ L.length ∧ L.length ≤ 2 ∧ lcA (run tab (n+4)) (EC hd .em .em .em .em .em .em .em .em .em .em) (ST ns k) = .nx (EC hd (.own (.lst (L.map atD))) .em .em .em .em .em .em .em .em .em) (ST ns k') := by
  obtain ⟨j, hj, e1⟩ := lcA_arg ns hs rng1 n hd k
  obtain ⟨L, k', hl, e2⟩ := atoms_loop ns hs n hd (rng 0 (j + 1)) (k + 1)
  have rl : (rng 0 (j + 1)).length = j + 1 := by unfold rng; simp
  refine ⟨L, k', by omega, by omega, ?_⟩
  have e3 := e1.trans ((congrArg (fun x => R.of x (ST ns (k + 1))) (rng1_up (k := j + 1) (by omega))).trans (R.of_some _ _))
  exact ownS_ok ns hs (lcF_ok ns hs e3 e2) rfl
def ment (x : NT) (L : List At) : Prop := ∃ a ∈ L, x ∈ atN a
theorem hT_ok (C : Orc) (hd : List NT) (L : List At) (x : NT) (m : Store) : hT C (EC hd (.own (.lst (L.map atD))) (.dat (ntD x)) .em .em .em .em .em .em .em .em) m = .ok (!(L.any fun a => decide (x ∈ atN a))) m := by
  have lc := lcL_all (C := C) (g := .tp [(.nm 8), (.nm 6), (.nm 10)]) (te := bin inG (brwE 5) (brwE 6)) (e := EC hd (.own (.lst (L.map atD))) (.dat (ntD x)) .em .em .em .em .em .em .em .em) (m := m) (f := atD) (h := fun a => D.bl (decide (x ∈ atN a))) (l := L) fun a ha => ⟨EC hd (.own (.lst (L.map atD))) (.dat (ntD x)) (.dat (.tup ((atN a).map ntD))) .em (.dat (.str (atS a))) .em (.dat (dtD (atY a))) .em .em .em, by rw [atD_eq]; rfl, by
    have q := in_nt m x (atN a)
    simp only [bin, brwE, List.getElem?_cons_succ, List.getElem?_cons_zero, R.bind_ok, q, R.of_some]⟩
  have an : anyG m [.lst (L.map fun a => D.bl (decide (x ∈ atN a)))] = some (.bl (L.any fun a => decide (x ∈ atN a))) := by
    show (toBls (L.map fun a => D.bl (decide (x ∈ atN a)))).map (fun is => D.bl (is.any id)) = _
    rw [any_bls]
    simp
  unfold hT
  simp only [notT, blT, bltE, frzE, lcF, ownI, consA, nilA, List.getElem?_cons_succ, List.getElem?_cons_zero, R.bind_ok, wipeE, List.set_cons_succ, List.set_cons_zero, lc, an, R.of_some, isB]
theorem hB_step (n : Nat) (hd : List NT) (h12 : hd.length = 1 ∨ hd.length = 2) (a0 : At) (R0 : List At) (x : NT) (hx : x ∈ hd) (k : Int) : ∃ b0 : At, ∃ k', ment x (b0 :: R0) ∧ (∀ y ∈ hd, ment y (a0 :: R0) → ment y (b0 :: R0)) ∧
    hB (run tab (n+3)) (EC hd (.own (.lst ((a0 :: R0).map atD))) (.dat (ntD x)) .em .em .em .em .em .em .em .em) (ST ns k) = .nx (EC hd (.own (.lst ((b0 :: R0).map atD))) (.dat (ntD x)) .em .em .em .em .em .em .em .em) (ST ns k') := by
  have ht := hT_ok ns hs (run tab (n+3)) hd (a0 :: R0) x (ST ns k)
  unfold hB ifS
  rw [ht]
  cases hany : (a0 :: R0).any fun a => decide (x ∈ atN a) with
  | true =>
    obtain ⟨a, h1, h2⟩ := List.any_eq_true.mp hany
    exact ⟨a0, k, ⟨a, h1, of_decide_eq_true h2⟩, fun y _ h => h, rfl⟩
  | false =>
    have sh2 : ∀ x y : D, short [x, y] = true := fun _ _ => rfl
    have sh3 : ∀ x y z : D, short [x, y, z] = true := fun _ _ _ => rfl
    have i0 : ∀ k, ixG (ST ns k) (.lst ((a0 :: R0).map atD)) (.int 0) = some (atD a0) := fun k => (atI_nat _ 0).trans rfl
    have i2 : ∀ k, ixG (ST ns k) (atD a0) (.int 2) = some (dtD (atY a0)) := fun k => by rw [atD_eq]; exact (atI_nat _ 2).trans rfl
    have ln : lenG (ST ns k) [.tup (hd.map ntD)] = some (.int hd.length) := by
      show some (D.int ((hd.map ntD).length : Nat)) = _
      rw [List.length_map]
    have ix : ∀ m : Nat, ixN (m + 1) (0 : Int) = some 0 := fun m => by
      unfold ixN
      rw [if_pos (by omega), if_pos (by omega)]
      rfl
    rcases h12 with h1 | h2
    · obtain ⟨b, eb⟩ := name_term_ok ns hs k n
      refine ⟨.lives x b (atY a0), k + 1, ⟨_, List.mem_cons_self, by simp [atN]⟩, fun y hy _ => ?_, ?_⟩
      · match hd, h1 with
        | [z], _ =>
          have e1 := List.mem_singleton.mp hy
          have e2 := List.mem_singleton.mp hx
          subst e1 e2
          exact ⟨_, List.mem_cons_self, by simp [atN]⟩
      · have q : ifE (blT (bin eqG (bltE lenG (consA (brwE 1) nilA)) (conE (.int 1)))) hX hY (run tab (n+3)) (EC hd (.own (.lst ((a0 :: R0).map atD))) (.dat (ntD x)) .em .em .em .em .em .em .em .em) (ST ns k) = .ok (atD (.lives x b (atY a0))) (ST ns (k + 1)) := by
          have de : decide (((hd.length : Nat) : Int) = 1) = true := decide_eq_true (by omega)
          unfold hX
          simp only [ifE, blT, bin, bltE, fnE, consA, nilA, varE, brwE, conE, List.getElem?_cons_succ, List.getElem?_cons_zero, R.bind_ok, R.of_some, ln, eqG_ii, de, isB, if_true, eb, i0, i2, tupG, sh2, sh3]
          rfl
        simp only [R.bind_ok, liftS_ok, Bool.not_false, if_true, setS, List.getElem?_cons_succ, List.getElem?_cons_zero]
        rw [q]
        simp only [liftS_ok, conE, List.map_cons, List.length_cons, ix]
        rfl
    · match hd, h2, hx with
      | [u, w], _, hx =>
        have ment2 : ∀ y ∈ [u, w], ment y (At.lives u w (atY a0) :: R0) := fun y hy => by
          refine ⟨_, List.mem_cons_self, ?_⟩
          simpa [atN] using hy
        refine ⟨.lives u w (atY a0), k, ment2 x hx, fun y hy _ => ment2 y hy, ?_⟩
        have j0 : ixG (ST ns k) (.tup ([u, w].map ntD)) (.int 0) = some (ntD u) := (atI_nat _ 0).trans rfl
        have j1 : ixG (ST ns k) (.tup ([u, w].map ntD)) (.int 1) = some (ntD w) := (atI_nat _ 1).trans rfl
        have q : ifE (blT (bin eqG (bltE lenG (consA (brwE 1) nilA)) (conE (.int 1)))) hX hY (run tab (n+3)) (EC [u, w] (.own (.lst ((a0 :: R0).map atD))) (.dat (ntD x)) .em .em .em .em .em .em .em .em) (ST ns k) = .ok (atD (.lives u w (atY a0))) (ST ns k) := by
          have de : decide ((([u, w].length : Nat) : Int) = 1) = false := decide_eq_false (by simp)
          unfold hY
          simp only [ifE, blT, bin, bltE, consA, nilA, varE, brwE, conE, List.getElem?_cons_succ, List.getElem?_cons_zero, R.bind_ok, R.of_some, ln, eqG_ii, de, isB, Bool.false_eq_true, if_false, if_true, j0, j1, i0, i2, tupG, sh2, sh3]
          rfl
        simp only [R.bind_ok, liftS_ok, Bool.not_false, if_true, setS, List.getElem?_cons_succ, List.getElem?_cons_zero]
        rw [q]
        simp only [liftS_ok, conE, List.map_cons, List.length_cons, ix]
        rfl
theorem hB_loop (n : Nat) (hd : List NT) (h12 : hd.length = 1 ∨ hd.length = 2) (R0 : List At) : ∀ (xs : List NT) (a0 : At) (c5 : Cell) (k : Int), (∀ x ∈ xs, x ∈ hd) → ∃ b0 : At, ∃ c5' k', (∀ x ∈ xs, ment x (b0 :: R0)) ∧ (∀ y ∈ hd, ment y (a0 :: R0) → ment y (b0 :: R0)) ∧
    forL (run tab (n+3)) (.nm 5) hB (xs.map ntD) (EC hd (.own (.lst ((a0 :: R0).map atD))) c5 .em .em .em .em .em .em .em .em) (ST ns k) = .nx (EC hd (.own (.lst ((b0 :: R0).map atD))) c5' .em .em .em .em .em .em .em .em) (ST ns k')
  | [], a0, c5, k, _ => ⟨a0, c5, k, (fun x h => absurd h List.not_mem_nil), fun y _ h => h, rfl⟩
  | x :: xs, a0, c5, k, h => by
    obtain ⟨b0, k1, m1, m2, e1⟩ := hB_step ns hs n hd h12 a0 R0 x (h x List.mem_cons_self) k
    obtain ⟨d0, c5', k', m3, m4, e2⟩ := hB_loop n hd h12 R0 xs b0 (.dat (ntD x)) k1 fun y hy => h y (List.mem_cons_of_mem _ hy)
    refine ⟨d0, c5', k', fun y hy => ?_, fun y hy hm => m4 y hy (m2 y hy hm), ?_⟩
    · rcases List.mem_cons.mp hy with rfl | hy
      · exact m4 y (h y List.mem_cons_self) m1
      · exact m3 y hy
    · have s0 : forL (run tab (n+3)) (.nm 5) hB ((x :: xs).map ntD) (EC hd (.own (.lst ((a0 :: R0).map atD))) c5 .em .em .em .em .em .em .em .em) (ST ns k) = match hB (run tab (n+3)) (EC hd (.own (.lst ((a0 :: R0).map atD))) (.dat (ntD x)) .em .em .em .em .em .em .em .em) (ST ns k) with
        | .nx e2 m2 => forL (run tab (n+3)) (.nm 5) hB (xs.map ntD) e2 m2
        | .ct e2 m2 => forL (run tab (n+3)) (.nm 5) hB (xs.map ntD) e2 m2
        | .brk e2 m2 => .nx e2 m2
        | r => r := rfl
      rw [s0, e1]
      exact e2
end
/-! ### names and days -/
def NM (L : List At) : List Tm := L.foldl (fun l a => ((atN a).map Tm.n).foldl addT l) []
def DM (L : List At) : List Tm := L.foldl (fun l a => addT l (.d (atY a))) []
theorem n5_loop (C : Orc) (hd : List NT) (m : Store) (c4 c7 c8 c9 c10 c11 c12 c13 : Cell) : ∀ (xs l : List Tm) (c5 : Cell), l.length + xs.length ≤ 1000 → ∃ c5', forL C (.nm 5) (dputS 6 (varE 5) (conE (.bl true))) (xs.map tmD) (EC hd c4 c5 (.own (.dct (nT l))) c7 c8 c9 c10 c11 c12 c13) m = .nx (EC hd c4 c5' (.own (.dct (nT (xs.foldl addT l)))) c7 c8 c9 c10 c11 c12 c13) m
  | [], l, c5, _ => ⟨c5, rfl⟩
  | x :: xs, l, c5, h => by
    rw [List.length_cons] at h
    have hL : (1001 : Nat) ≤ LIM := by decide
    have ll : (nT l).length < LIM := by rw [List.length_map]; omega
    have al := addT_len l x
    obtain ⟨c5', ih⟩ := n5_loop C hd m c4 c7 c8 c9 c10 c11 c12 c13 xs (addT l x) (.dat (tmD x)) (by omega)
    refine ⟨c5', ?_⟩
    have s0 : forL C (.nm 5) (dputS 6 (varE 5) (conE (.bl true))) ((x :: xs).map tmD) (EC hd c4 c5 (.own (.dct (nT l))) c7 c8 c9 c10 c11 c12 c13) m = match dputS 6 (varE 5) (conE (.bl true)) C (EC hd c4 (.dat (tmD x)) (.own (.dct (nT l))) c7 c8 c9 c10 c11 c12 c13) m with
      | .nx e2 m2 => forL C (.nm 5) (dputS 6 (varE 5) (conE (.bl true))) (xs.map tmD) e2 m2
      | .ct e2 m2 => forL C (.nm 5) (dputS 6 (varE 5) (conE (.bl true))) (xs.map tmD) e2 m2
      | .brk e2 m2 => .nx e2 m2
      | r => r := rfl
    have b : dputS 6 (varE 5) (conE (.bl true)) C (EC hd c4 (.dat (tmD x)) (.own (.dct (nT l))) c7 c8 c9 c10 c11 c12 c13) m = .nx (EC hd c4 (.dat (tmD x)) (.own (.dct (nT (addT l x)))) c7 c8 c9 c10 c11 c12 c13) m := by
      simp only [dputS, conE, varE, List.getElem?_cons_succ, List.getElem?_cons_zero, liftS_ok, keyOk_t, ll, and_self, if_true, dput_t]
      rfl
    rw [s0, b]
    exact ih
theorem nB_loop (C : Orc) (hd : List NT) (m : Store) (c4 c11 c12 c13 : Cell) : ∀ (L : List At) (l1 l2 : List Tm) (c5 c8 c9 c10 : Cell), l1.length + 2 * L.length ≤ 900 → l2.length + L.length ≤ 900 → ∃ c5' c8' c9' c10',
    forL C (.tp [(.nm 8), (.nm 9), (.nm 10)]) nB (L.map atD) (EC hd c4 c5 (.own (.dct (nT l1))) (.own (.dct (nT l2))) c8 c9 c10 c11 c12 c13) m =
    .nx (EC hd c4 c5' (.own (.dct (nT (L.foldl (fun l a => ((atN a).map Tm.n).foldl addT l) l1)))) (.own (.dct (nT (L.foldl (fun l a => addT l (.d (atY a))) l2)))) c8' c9' c10' c11 c12 c13) m
  | [], l1, l2, c5, c8, c9, c10, _, _ => ⟨c5, c8, c9, c10, rfl⟩
  | a :: L, l1, l2, c5, c8, c9, c10, h1, h2 => by
    rw [List.length_cons] at h1 h2
    have nl : ((atN a).map Tm.n).length ≤ 2 := by cases a <;> simp [atN]
    obtain ⟨d5, e5⟩ := n5_loop C hd m c4 (.own (.dct (nT l2))) (.dat (.str (atS a))) (.dat (.tup ((atN a).map ntD))) (.dat (dtD (atY a))) c11 c12 c13 ((atN a).map Tm.n) l1 c5 (by omega)
    have em : ((atN a).map Tm.n).map tmD = (atN a).map ntD := by
      rw [List.map_map]
      rfl
    rw [em] at e5
    have al1 := addsT_len ((atN a).map Tm.n) l1
    have al2 := addT_len l2 (.d (atY a))
    have hL : (1001 : Nat) ≤ LIM := by decide
    have ll : (nT l2).length < LIM := by rw [List.length_map]; omega
    obtain ⟨c5', c8', c9', c10', ih⟩ := nB_loop C hd m c4 c11 c12 c13 L (((atN a).map Tm.n).foldl addT l1) (addT l2 (.d (atY a))) d5 (.dat (.str (atS a))) (.dat (.tup ((atN a).map ntD))) (.dat (dtD (atY a))) (by omega) (by omega)
    refine ⟨c5', c8', c9', c10', ?_⟩
    have s0 : forL C (.tp [(.nm 8), (.nm 9), (.nm 10)]) nB ((a :: L).map atD) (EC hd c4 c5 (.own (.dct (nT l1))) (.own (.dct (nT l2))) c8 c9 c10 c11 c12 c13) m = match nB C (EC hd c4 c5 (.own (.dct (nT l1))) (.own (.dct (nT l2))) (.dat (.str (atS a))) (.dat (.tup ((atN a).map ntD))) (.dat (dtD (atY a))) c11 c12 c13) m with
      | .nx e2 m2 => forL C (.tp [(.nm 8), (.nm 9), (.nm 10)]) nB (L.map atD) e2 m2
      | .ct e2 m2 => forL C (.tp [(.nm 8), (.nm 9), (.nm 10)]) nB (L.map atD) e2 m2
      | .brk e2 m2 => .nx e2 m2
      | r => r := by
      rw [List.map_cons, atD_eq]
      rfl
    have b : nB C (EC hd c4 c5 (.own (.dct (nT l1))) (.own (.dct (nT l2))) (.dat (.str (atS a))) (.dat (.tup ((atN a).map ntD))) (.dat (dtD (atY a))) c11 c12 c13) m = .nx (EC hd c4 d5 (.own (.dct (nT (((atN a).map Tm.n).foldl addT l1)))) (.own (.dct (nT (addT l2 (.d (atY a)))))) (.dat (.str (atS a))) (.dat (.tup ((atN a).map ntD))) (.dat (dtD (atY a))) c11 c12 c13) m := by
      unfold nB
      have g : forS (seqI (varE 9)) (.nm 5) (dputS 6 (varE 5) (conE (.bl true))) C (EC hd c4 c5 (.own (.dct (nT l1))) (.own (.dct (nT l2))) (.dat (.str (atS a))) (.dat (.tup ((atN a).map ntD))) (.dat (dtD (atY a))) c11 c12 c13) m = .nx (EC hd c4 d5 (.own (.dct (nT (((atN a).map Tm.n).foldl addT l1)))) (.own (.dct (nT l2))) (.dat (.str (atS a))) (.dat (.tup ((atN a).map ntD))) (.dat (dtD (atY a))) c11 c12 c13) m := by
        unfold forS seqI
        simp only [varE, List.getElem?_cons_succ, List.getElem?_cons_zero, R.bind_ok, itemsOf, R.of_some, liftS_ok]
        exact e5
      rw [seq_go g]
      have kk : dput (nT l2) (dtD (atY a)) (.bl true) = nT (addT l2 (.d (atY a))) := dput_t l2 (.d (atY a))
      have ko : keyOk (nT l2) (dtD (atY a)) = true := keyOk_t l2 (.d (atY a))
      simp only [dputS, conE, varE, List.getElem?_cons_succ, List.getElem?_cons_zero, liftS_ok, ko, ll, and_self, if_true, kk]
      rfl
    rw [s0, b]
    exact ih
theorem NM_mem (L : List At) (k : Tm) : ∀ l : List Tm, k ∈ L.foldl (fun l a => ((atN a).map Tm.n).foldl addT l) l ↔ k ∈ l ∨ ∃ a ∈ L, k ∈ (atN a).map Tm.n := by
  induction L with
  | nil => intro l; simp
  | cons a L ih =>
    intro l
    rw [List.foldl_cons, ih, addsT_mem]
    constructor
    · rintro ((h | h) | ⟨b, h2, h3⟩)
      · exact .inl h
      · exact .inr ⟨a, List.mem_cons_self, h⟩
      · exact .inr ⟨b, List.mem_cons_of_mem _ h2, h3⟩
    · rintro (h | ⟨b, h2, h3⟩)
      · exact .inl (.inl h)
      · rcases List.mem_cons.mp h2 with rfl | h2
        · exact .inl (.inr h3)
        · exact .inr ⟨b, h2, h3⟩
theorem DM_mem (L : List At) (k : Tm) : ∀ l : List Tm, k ∈ L.foldl (fun l a => addT l (.d (atY a))) l ↔ k ∈ l ∨ ∃ a ∈ L, k = .d (atY a) := by
  induction L with
  | nil => intro l; simp
  | cons a L ih =>
    intro l
    rw [List.foldl_cons, ih, addT_mem]
    constructor
    · rintro ((h | h) | ⟨b, h2, h3⟩)
      · exact .inl h
      · exact .inr ⟨a, List.mem_cons_self, h⟩
      · exact .inr ⟨b, List.mem_cons_of_mem _ h2, h3⟩
    · rintro (h | ⟨b, h2, h3⟩)
      · exact .inl (.inl h)
      · rcases List.mem_cons.mp h2 with rfl | h2
        · exact .inl (.inr h3)
        · exact .inr ⟨b, h2, h3⟩
end Dn.K47
/-! Drawn clauses: tests; the clause. -/
namespace Dn.K47
open PySem L2
theorem addA_lst (m : Store) (a b : List D) (h : a.length + b.length ≤ 100000) : addA m (.lst a) (.lst b) = some (.lst (a ++ b)) := by
  have hL : (100000 : Nat) ≤ LIM := by decide
  show (match addG m (.lst a) (.lst b) with
    | some z => some z
    | none => (if a.length + b.length ≤ LIM then some (a ++ b) else none).map D.lst) = _
  rw [if_pos (Nat.le_trans h hL)]
  rfl
theorem fn_two {f : Nat} {X : EvE} {C : Orc} {e : Env} {m m1 : Store} {x : D} (h0 : e[0]? = some (.dat (.ref 0))) (hX : X C e m = .ok x m1) : fnE f (consA (varE 0) (consA X nilA)) C e m = C f [.ref 0, x] m1 := by
  unfold fnE consA varE
  rw [h0]
  simp only [R.bind_ok]
  rw [hX]
  rfl
theorem tup_three {a b c : EvE} {C : Orc} {e : Env} {m m1 m2 m3 : Store} {x y z : D} (ha : a C e m = .ok x m1) (hb : b C e m1 = .ok y m2) (hc : c C e m2 = .ok z m3) : bltE tupG (consA a (consA b (consA c nilA))) C e m = .ok (.tup [x, y, z]) m3 := by
  have sh : short [x, y, z] = true := rfl
  simp only [bltE, consA, nilA, ha, hb, hc, R.bind_ok, tupG, sh, if_true, R.of_some]
theorem app_ok {i : Nat} {f : EvE} {C : Orc} {e : Env} {m m1 : Store} {xs : List D} {d : D} (he : e[i]? = some (.own (.lst xs))) (hf : f C e m = .ok d m1) (hl : xs.length < LIM) : appS i f C e m = .nx (e.set i (.own (.lst (xs ++ [d])))) m1 := by
  unfold appS
  rw [he]
  simp only [hf, liftS_ok]
  rw [if_pos hl]
theorem bin_ok {g : Store → D → D → Option D} {a b : EvE} {C : Orc} {e : Env} {m m1 m2 : Store} {x y z : D} (ha : a C e m = .ok x m1) (hb : b C e m1 = .ok y m2) (hg : g m2 x y = some z) : bin g a b C e m = .ok z m2 := by
  unfold bin
  rw [ha]
  simp only [R.bind_ok]
  rw [hb]
  simp only [R.bind_ok, hg, R.of_some]
theorem list_ok {i : Nat} {C : Orc} {e : Env} {m : Store} {l : List Tm} (he : e[i]? = some (.own (.dct (nT l)))) : bltE listG3 (consA (brwE i) nilA) C e m = .ok (.lst (l.map tmD)) m := by
  have lg : listG3 m [.dct (nT l)] = some (.lst (l.map tmD)) := by
    show some (D.lst ((nT l).map (·.1))) = _
    unfold nT
    rw [List.map_map]
    rfl
  unfold bltE consA brwE nilA
  rw [he]
  simp only [R.bind_ok, lg, R.of_some]
def kN : EvE := (frzE (bltF lstG (consA (conE (.str "same")) (consA (conE (.str "unlike")) (consA (conE (.str "unlike")) nilA)))))
def kD : EvE := (frzE (bltF lstG (consA (conE (.str "less")) (consA (conE (.str "less")) (consA (conE (.str "most")) (consA (conE (.str "same")) (consA (conE (.str "unlike")) nilA)))))))
def oN : EvE := (bin addA (bltE listG3 (consA (brwE 6) nilA)) (frzE (bltF lstG (consA (bltE tupG (consA (conE (.str "name")) (consA (conE (.str "oslo")) nilA))) nilA))))
def oD : EvE := (bin addA (bin addA (bltE listG3 (consA (brwE 7) nilA)) (frzE (bltF lstG (consA (bltE tupG (consA (conE (.str "day")) (consA (conE (.int 3)) nilA))) (consA (bltE tupG (consA (conE (.str "day")) (consA (conE (.int 6)) nilA))) nilA))))) (ifE (blT (varE 3)) (frzE (bltF lstG (consA (bltE tupG (consA (conE (.str "now")) nilA)) nilA))) (frzE (bltF lstG nilA))))
def pk (X : EvE) : EvE := fnE 10 (consA (varE 0) (consA X nilA))
def tN : EvS := appS 11 (bltE tupG (consA (pk kN) (consA (pk (bltE listG3 (consA (brwE 6) nilA))) (consA (pk oN) nilA))))
def tDy : EvS := seqS (asgS (.nm 13) (pk oD)) (appS 11 (bltE tupG (consA (pk kD) (consA (pk (bltE listG3 (consA (brwE 7) nilA))) (consA (varE 13) nilA)))))
def tT : EvT := (andT (blT (bin eqG (fnE 11 (consA (varE 0) (consA (conE (.int 3)) nilA))) (conE (.int 0)))) (blT (bin gtG (bltE lenDG (consA (brwE 6) nilA)) (conE (.int 1)))))
def tB : EvS := ifS tT tN tDy
def tL : EvS := forS (argI rng1 (consA (fnE 11 (consA (varE 0) (consA (conE (.int 3)) nilA))) nilA)) (.nm 12) tB
def rC : EvS := (retS (stlE (newE "Clause" 15 (consA (bltE tupleG (consA (brwE 4) nilA)) (consA (bltE tupleG (consA (brwE 11) nilA)) nilA)))))
theorem clause_body : B_law_clause = seqS lcA (seqS (forS (seqI (varE 1)) (.nm 5) hB) (seqS (ownDS 6 emptyD) (seqS (ownDS 7 emptyD) (seqS (frzS 4) (seqS (forS (seqI (varE 4)) (.tp [(.nm 8), (.nm 9), (.nm 10)]) nB) (seqS (ownS 11 (bltF lstG nilA)) (seqS tL rC))))))) := rfl
/-- a test out of the names and days of some atoms -/
def good (N Y : List Tm) : Ts → Prop
  | .nm _ a b => Tm.n a ∈ N ∧ (Tm.n b ∈ N ∨ b = .oslo)
  | .dy _ a b => Tm.d a ∈ Y ∧ (Tm.d b ∈ Y ∨ b = .d3 ∨ b = .d6 ∨ b = .now)
section
variable (ns : List Int) (hs : ns.length ≤ 1000) (n : Nat) (hd : List NT) {N Y : List Tm} (hN : ∀ x ∈ N, ∃ a, x = .n a) (hY : ∀ x ∈ Y, ∃ a, x = .d a) (n0 : N ≠ []) (y0 : Y ≠ []) (nl : N.length ≤ 900) (yl : Y.length ≤ 900)
include hs hN hY n0 y0 nl yl
theorem pk_ok (X : EvE) {e : Env} {k : Int} {xs : List D} (h0 : e[0]? = some (.dat (.ref 0))) (hX : X (run tab (n+2)) e (ST ns k) = .ok (.lst xs) (ST ns k)) (hx : xs ≠ []) : ∃ x, x ∈ xs ∧ pk X (run tab (n+2)) e (ST ns k) = .ok x (ST ns (k + 1)) := by
  obtain ⟨x, h1, h2⟩ := pick_ok n ns hs k xs hx
  exact ⟨x, h1, (fn_two h0 hX).trans h2⟩
theorem pkT_ok (X : EvE) {e : Env} {k : Int} {l : List Tm} (h0 : e[0]? = some (.dat (.ref 0))) (hX : X (run tab (n+2)) e (ST ns k) = .ok (.lst (l.map tmD)) (ST ns k)) (hx : l ≠ []) : ∃ x, x ∈ l ∧ pk X (run tab (n+2)) e (ST ns k) = .ok (tmD x) (ST ns (k + 1)) := by
  obtain ⟨x, h1, h2⟩ := pk_ok ns hs n hN hY n0 y0 nl yl X h0 hX (by simpa using hx)
  obtain ⟨y, hy, rfl⟩ := List.mem_map.mp h1
  exact ⟨y, hy, h2⟩
theorem tT_ok (c4 c5 c8 c9 c10 c11 c12 c13 : Cell) (k : Int) : ∃ b, tT (run tab (n+2)) (EC hd c4 c5 (.own (.dct (nT N))) (.own (.dct (nT Y))) c8 c9 c10 c11 c12 c13) (ST ns k) = .ok b (ST ns (k + 1)) := by
  obtain ⟨v, h0, h1, e1⟩ := take_ok ns k 3 (n+1) hs (by omega)
  have ln : lenDG (ST ns (k + 1)) [.dct (nT N)] = some (.int N.length) := by
    have hL : (901 : Nat) ≤ LIM := by decide
    show (if (nT N).length ≤ LIM then some (D.int ((nT N).length : Nat)) else none) = _
    rw [List.length_map, if_pos (by omega)]
  have gt : gtG (ST ns (k + 1)) (.int (N.length : Nat)) (.int 1) = some (.bl (decide (((N.length : Nat) : Int) > 1))) := rfl
  unfold tT
  by_cases hv : v = 0
  · refine ⟨decide (((N.length : Nat) : Int) > 1), ?_⟩
    simp only [andT, blT, bin, bltE, fnE, consA, nilA, varE, brwE, conE, List.getElem?_cons_succ, List.getElem?_cons_zero, R.bind_ok, R.of_some, e1, eqG_ii, decide_eq_true hv, isB, if_true, ln, gt]
  · refine ⟨false, ?_⟩
    simp only [andT, blT, bin, fnE, consA, nilA, varE, conE, List.getElem?_cons_succ, List.getElem?_cons_zero, R.bind_ok, R.of_some, e1, eqG_ii, decide_eq_false hv, isB, Bool.false_eq_true, if_false]
theorem tN_ok (T : List Ts) (ht : T.length ≤ 100) (c4 c5 c8 c9 c10 c12 c13 : Cell) (k : Int) : ∃ t k', good N Y t ∧ tN (run tab (n+2)) (EC hd c4 c5 (.own (.dct (nT N))) (.own (.dct (nT Y))) c8 c9 c10 (.own (.lst (T.map tsD))) c12 c13) (ST ns k) =
    .nx (EC hd c4 c5 (.own (.dct (nT N))) (.own (.dct (nT Y))) c8 c9 c10 (.own (.lst ((T ++ [t]).map tsD))) c12 c13) (ST ns k') := by
  have ek : kN (run tab (n+2)) (EC hd c4 c5 (.own (.dct (nT N))) (.own (.dct (nT Y))) c8 c9 c10 (.own (.lst (T.map tsD))) c12 c13) (ST ns k) = .ok (.lst [.str "same", .str "unlike", .str "unlike"]) (ST ns k) := by
    generalize run tab (n+2) = C
    rfl
  obtain ⟨x, hx, e1⟩ := pk_ok ns hs n hN hY n0 y0 nl yl kN rfl ek (by simp)
  have hx2 : ∃ s, x = .str (nkS s) := by
    simp only [List.mem_cons, List.not_mem_nil, or_false] at hx
    rcases hx with h | h | h
    · exact ⟨true, h⟩
    · exact ⟨false, h⟩
    · exact ⟨false, h⟩
  obtain ⟨s, rfl⟩ := hx2
  obtain ⟨a, ha, e2⟩ := pkT_ok ns hs n hN hY n0 y0 nl yl (bltE listG3 (consA (brwE 6) nilA)) (e := EC hd c4 c5 (.own (.dct (nT N))) (.own (.dct (nT Y))) c8 c9 c10 (.own (.lst (T.map tsD))) c12 c13) (k := k + 1) rfl (list_ok rfl) n0
  have eo : oN (run tab (n+2)) (EC hd c4 c5 (.own (.dct (nT N))) (.own (.dct (nT Y))) c8 c9 c10 (.own (.lst (T.map tsD))) c12 c13) (ST ns (k + 1 + 1)) = .ok (.lst ((N ++ [Tm.n .oslo]).map tmD)) (ST ns (k + 1 + 1)) := by
    have l1 : frzE (bltF lstG (consA (bltE tupG (consA (conE (.str "name")) (consA (conE (.str "oslo")) nilA))) nilA)) (run tab (n+2)) (EC hd c4 c5 (.own (.dct (nT N))) (.own (.dct (nT Y))) c8 c9 c10 (.own (.lst (T.map tsD))) c12 c13) (ST ns (k + 1 + 1)) = .ok (.lst [ntD .oslo]) (ST ns (k + 1 + 1)) := by
      generalize run tab (n+2) = C
      rfl
    refine bin_ok (list_ok rfl) l1 ?_
    rw [addA_lst _ _ _ (by simp; omega), List.map_append]
    rfl
  obtain ⟨b, hb, e3⟩ := pkT_ok ns hs n hN hY n0 y0 nl yl oN rfl eo (by simp)
  obtain ⟨a', rfl⟩ := hN a ha
  have hb2 : ∃ b', b = .n b' ∧ (Tm.n b' ∈ N ∨ b' = .oslo) := by
    rcases List.mem_append.mp hb with h | h
    · obtain ⟨b', rfl⟩ := hN b h
      exact ⟨b', rfl, .inl h⟩
    · exact ⟨.oslo, List.mem_singleton.mp h, .inr rfl⟩
  obtain ⟨b', rfl, hb3⟩ := hb2
  refine ⟨.nm s a' b', k + 1 + 1 + 1, ⟨ha, hb3⟩, ?_⟩
  have hL : (101 : Nat) ≤ LIM := by decide
  have ap := app_ok (i := 11) (f := bltE tupG (consA (pk kN) (consA (pk (bltE listG3 (consA (brwE 6) nilA))) (consA (pk oN) nilA)))) (xs := T.map tsD) (e := EC hd c4 c5 (.own (.dct (nT N))) (.own (.dct (nT Y))) c8 c9 c10 (.own (.lst (T.map tsD))) c12 c13) rfl (tup_three e1 e2 e3) (by rw [List.length_map]; omega)
  have em : (T.map tsD) ++ [D.tup [.str (nkS s), tmD (.n a'), tmD (.n b')]] = (T ++ [Ts.nm s a' b']).map tsD := by
    rw [List.map_append]
    rfl
  rw [em] at ap
  exact ap
theorem tD_ok (T : List Ts) (ht : T.length ≤ 100) (c4 c5 c8 c9 c10 c12 c13 : Cell) (k : Int) : ∃ t k' c13', good N Y t ∧ tDy (run tab (n+2)) (EC hd c4 c5 (.own (.dct (nT N))) (.own (.dct (nT Y))) c8 c9 c10 (.own (.lst (T.map tsD))) c12 c13) (ST ns k) =
    .nx (EC hd c4 c5 (.own (.dct (nT N))) (.own (.dct (nT Y))) c8 c9 c10 (.own (.lst ((T ++ [t]).map tsD))) c12 c13') (ST ns k') := by
  have eo : oD (run tab (n+2)) (EC hd c4 c5 (.own (.dct (nT N))) (.own (.dct (nT Y))) c8 c9 c10 (.own (.lst (T.map tsD))) c12 c13) (ST ns k) = .ok (.lst ((Y ++ [Tm.d .d3, .d .d6] ++ [Tm.d .now]).map tmD)) (ST ns k) := by
    have l1 : frzE (bltF lstG (consA (bltE tupG (consA (conE (.str "day")) (consA (conE (.int 3)) nilA))) (consA (bltE tupG (consA (conE (.str "day")) (consA (conE (.int 6)) nilA))) nilA))) (run tab (n+2)) (EC hd c4 c5 (.own (.dct (nT N))) (.own (.dct (nT Y))) c8 c9 c10 (.own (.lst (T.map tsD))) c12 c13) (ST ns k) = .ok (.lst [dtD .d3, dtD .d6]) (ST ns k) := by
      generalize run tab (n+2) = C
      rfl
    have l2 : ifE (blT (varE 3)) (frzE (bltF lstG (consA (bltE tupG (consA (conE (.str "now")) nilA)) nilA))) (frzE (bltF lstG nilA)) (run tab (n+2)) (EC hd c4 c5 (.own (.dct (nT N))) (.own (.dct (nT Y))) c8 c9 c10 (.own (.lst (T.map tsD))) c12 c13) (ST ns k) = .ok (.lst [dtD .now]) (ST ns k) := by
      generalize run tab (n+2) = C
      rfl
    refine bin_ok (bin_ok (list_ok rfl) l1 (addA_lst _ _ _ (by simp; omega))) l2 ?_
    rw [addA_lst _ _ _ (by simp; omega), List.map_append, List.map_append]
    rfl
  obtain ⟨b, hb, e3⟩ := pkT_ok ns hs n hN hY n0 y0 nl yl oD rfl eo (by simp)
  have gA : asgS (.nm 13) (pk oD) (run tab (n+2)) (EC hd c4 c5 (.own (.dct (nT N))) (.own (.dct (nT Y))) c8 c9 c10 (.own (.lst (T.map tsD))) c12 c13) (ST ns k) = .nx (EC hd c4 c5 (.own (.dct (nT N))) (.own (.dct (nT Y))) c8 c9 c10 (.own (.lst (T.map tsD))) c12 (.dat (tmD b))) (ST ns (k + 1)) := by
    unfold asgS
    rw [e3]
    rfl
  have ek : kD (run tab (n+2)) (EC hd c4 c5 (.own (.dct (nT N))) (.own (.dct (nT Y))) c8 c9 c10 (.own (.lst (T.map tsD))) c12 (.dat (tmD b))) (ST ns (k + 1)) = .ok (.lst [.str "less", .str "less", .str "most", .str "same", .str "unlike"]) (ST ns (k + 1)) := by
    generalize run tab (n+2) = C
    rfl
  obtain ⟨x, hx, e1⟩ := pk_ok ns hs n hN hY n0 y0 nl yl kD rfl ek (by simp)
  have hx2 : ∃ s, x = .str (dkS s) := by
    simp only [List.mem_cons, List.not_mem_nil, or_false] at hx
    rcases hx with h | h | h | h | h
    · exact ⟨.less, h⟩
    · exact ⟨.less, h⟩
    · exact ⟨.most, h⟩
    · exact ⟨.same, h⟩
    · exact ⟨.unlike, h⟩
  obtain ⟨s, rfl⟩ := hx2
  obtain ⟨a, ha, e2⟩ := pkT_ok ns hs n hN hY n0 y0 nl yl (bltE listG3 (consA (brwE 7) nilA)) (e := EC hd c4 c5 (.own (.dct (nT N))) (.own (.dct (nT Y))) c8 c9 c10 (.own (.lst (T.map tsD))) c12 (.dat (tmD b))) (k := k + 1 + 1) rfl (list_ok rfl) y0
  obtain ⟨a', rfl⟩ := hY a ha
  have hb2 : ∃ b', b = .d b' ∧ (Tm.d b' ∈ Y ∨ b' = .d3 ∨ b' = .d6 ∨ b' = .now) := by
    rcases List.mem_append.mp hb with h | h
    · rcases List.mem_append.mp h with h | h
      · obtain ⟨b', rfl⟩ := hY b h
        exact ⟨b', rfl, .inl h⟩
      · simp only [List.mem_cons, List.not_mem_nil, or_false] at h
        rcases h with rfl | rfl
        · exact ⟨.d3, rfl, .inr (.inl rfl)⟩
        · exact ⟨.d6, rfl, .inr (.inr (.inl rfl))⟩
    · exact ⟨.now, List.mem_singleton.mp h, .inr (.inr (.inr rfl))⟩
  obtain ⟨b', rfl, hb3⟩ := hb2
  refine ⟨.dy s a' b', k + 1 + 1 + 1, .dat (tmD (.d b')), ⟨ha, hb3⟩, ?_⟩
  have hL : (101 : Nat) ≤ LIM := by decide
  have v13 : varE 13 (run tab (n+2)) (EC hd c4 c5 (.own (.dct (nT N))) (.own (.dct (nT Y))) c8 c9 c10 (.own (.lst (T.map tsD))) c12 (.dat (tmD (.d b')))) (ST ns (k + 1 + 1 + 1)) = .ok (tmD (.d b')) (ST ns (k + 1 + 1 + 1)) := by
    generalize run tab (n+2) = C
    rfl
  have ap := app_ok (i := 11) (f := bltE tupG (consA (pk kD) (consA (pk (bltE listG3 (consA (brwE 7) nilA))) (consA (varE 13) nilA)))) (xs := T.map tsD) (e := EC hd c4 c5 (.own (.dct (nT N))) (.own (.dct (nT Y))) c8 c9 c10 (.own (.lst (T.map tsD))) c12 (.dat (tmD (.d b')))) rfl (tup_three e1 e2 v13) (by rw [List.length_map]; omega)
  have em : (T.map tsD) ++ [D.tup [.str (dkS s), tmD (.d a'), tmD (.d b')]] = (T ++ [Ts.dy s a' b']).map tsD := by
    rw [List.map_append]
    rfl
  rw [em] at ap
  unfold tDy
  rw [seq_go gA]
  exact ap
theorem tB_ok (T : List Ts) (ht : T.length ≤ 100) (c4 c5 c8 c9 c10 c12 c13 : Cell) (k : Int) : ∃ t k' c13', good N Y t ∧ tB (run tab (n+2)) (EC hd c4 c5 (.own (.dct (nT N))) (.own (.dct (nT Y))) c8 c9 c10 (.own (.lst (T.map tsD))) c12 c13) (ST ns k) =
    .nx (EC hd c4 c5 (.own (.dct (nT N))) (.own (.dct (nT Y))) c8 c9 c10 (.own (.lst ((T ++ [t]).map tsD))) c12 c13') (ST ns k') := by
  obtain ⟨b, eb⟩ := tT_ok ns hs n hd hN hY n0 y0 nl yl c4 c5 c8 c9 c10 (.own (.lst (T.map tsD))) c12 c13 k
  unfold tB ifS
  rw [eb]
  cases b with
  | true =>
    obtain ⟨t, k', g, e⟩ := tN_ok ns hs n hd hN hY n0 y0 nl yl T ht c4 c5 c8 c9 c10 c12 c13 (k + 1)
    exact ⟨t, k', c13, g, e⟩
  | false =>
    obtain ⟨t, k', c13', g, e⟩ := tD_ok ns hs n hd hN hY n0 y0 nl yl T ht c4 c5 c8 c9 c10 c12 c13 (k + 1)
    exact ⟨t, k', c13', g, e⟩
theorem tB_loop (c4 c5 c8 c9 c10 : Cell) : ∀ (l : List D) (T : List Ts) (c12 c13 : Cell) (k : Int), T.length + l.length ≤ 100 → (∀ t ∈ T, good N Y t) → ∃ T' : List Ts, ∃ k' c12' c13', T'.length = T.length + l.length ∧ (∀ t ∈ T', good N Y t) ∧
    forL (run tab (n+2)) (.nm 12) tB l (EC hd c4 c5 (.own (.dct (nT N))) (.own (.dct (nT Y))) c8 c9 c10 (.own (.lst (T.map tsD))) c12 c13) (ST ns k) =
    .nx (EC hd c4 c5 (.own (.dct (nT N))) (.own (.dct (nT Y))) c8 c9 c10 (.own (.lst (T'.map tsD))) c12' c13') (ST ns k')
  | [], T, c12, c13, k, _, h => ⟨T, k, c12, c13, rfl, h, rfl⟩
  | d :: l, T, c12, c13, k, hl, h => by
    rw [List.length_cons] at hl
    obtain ⟨t, k1, d13, g, e1⟩ := tB_ok ns hs n hd hN hY n0 y0 nl yl T (by omega) c4 c5 c8 c9 c10 (.dat d) c13 k
    obtain ⟨T', k', c12', c13', hl', h', e2⟩ := tB_loop c4 c5 c8 c9 c10 l (T ++ [t]) (.dat d) d13 k1 (by rw [List.length_append, List.length_singleton]; omega) fun x hx => by
      rcases List.mem_append.mp hx with hx | hx
      · exact h x hx
      · rw [List.mem_singleton.mp hx]; exact g
    refine ⟨T', k', c12', c13', by rw [hl', List.length_append, List.length_singleton, List.length_cons]; omega, h', ?_⟩
    have s0 : forL (run tab (n+2)) (.nm 12) tB (d :: l) (EC hd c4 c5 (.own (.dct (nT N))) (.own (.dct (nT Y))) c8 c9 c10 (.own (.lst (T.map tsD))) c12 c13) (ST ns k) = match tB (run tab (n+2)) (EC hd c4 c5 (.own (.dct (nT N))) (.own (.dct (nT Y))) c8 c9 c10 (.own (.lst (T.map tsD))) (.dat d) c13) (ST ns k) with
      | .nx e2 m2 => forL (run tab (n+2)) (.nm 12) tB l e2 m2
      | .ct e2 m2 => forL (run tab (n+2)) (.nm 12) tB l e2 m2
      | .brk e2 m2 => .nx e2 m2
      | r => r := rfl
    rw [s0, e1]
    exact e2
end
end Dn.K47
/-! The drawn clause. -/
namespace Dn.K47
open PySem L2
theorem ST_no (ns : List Int) (k : Int) : (ST ns k).all noRo = true := by
  have h : ∀ l : List Int, noRs (is l) = true := fun l => by
    induction l with
    | nil => rfl
    | cons a l ih => exact ih
  show ((noRs (is ns) && (true && true)) && true) = true
  rw [h]
  rfl
/-- t, u of a clause's atoms -/
def dvA (a : At) : Option Bool := match atY a with
  | .t => some true
  | .u => some false
  | _ => none
def dvL (L : List At) : List Bool := L.filterMap dvA
structure ClOk (L : List At) (T : List Ts) : Prop where
  l1 : 1 ≤ L.length
  l2 : L.length ≤ 2
  t2 : T.length ≤ 2
  kn : ∀ t ∈ T, knows (vM L) t
  dy : ∀ t ∈ T, tsOk (dvL L) t = true
theorem vM_in (L : List At) (k : Tm) : k ∈ vM L ↔ isV k = true ∧ ∃ a ∈ L, k ∈ tms a := by
  have := vM_mem L k []
  simpa [vM] using this
theorem NM_in (L : List At) (k : Tm) : k ∈ NM L ↔ ∃ a ∈ L, k ∈ (atN a).map Tm.n := by
  have := NM_mem L k []
  simpa [NM] using this
theorem DM_in (L : List At) (k : Tm) : k ∈ DM L ↔ ∃ a ∈ L, k = .d (atY a) := by
  have := DM_mem L k []
  simpa [DM] using this
theorem NM_tm (L : List At) (k : Tm) (h : k ∈ NM L) (hv : isV k = true) : k ∈ vM L := by
  obtain ⟨a, ha, hk⟩ := (NM_in L k).mp h
  exact (vM_in L k).mpr ⟨hv, a, ha, List.mem_append_left _ hk⟩
theorem DM_tm (L : List At) (k : Tm) (h : k ∈ DM L) (hv : isV k = true) : k ∈ vM L := by
  obtain ⟨a, ha, rfl⟩ := (DM_in L k).mp h
  exact (vM_in L _).mpr ⟨hv, a, ha, List.mem_append_right _ (by simp)⟩
theorem good_kn {L : List At} {t : Ts} (h : good (NM L) (DM L) t) : knows (vM L) t := by
  cases t with
  | nm s a b =>
    refine ⟨fun hv => NM_tm L _ h.1 hv, fun hv => ?_⟩
    rcases h.2 with h | rfl
    · exact NM_tm L _ h hv
    · cases hv
  | dy s a b =>
    refine ⟨fun hv => DM_tm L _ h.1 hv, fun hv => ?_⟩
    rcases h.2 with h | rfl | rfl | rfl
    · exact DM_tm L _ h hv
    · cases hv
    · cases hv
    · cases hv
theorem good_dy {L : List At} {t : Ts} (h : good (NM L) (DM L) t) : tsOk (dvL L) t = true := by
  cases t with
  | nm s a b => rfl
  | dy s a b =>
    obtain ⟨c, hc, e⟩ := (DM_in L _).mp h.1
    have e : a = atY c := by cases e; rfl
    show dayW (dvL L) a = true
    cases a with
    | t => exact decide_eq_true (List.mem_filterMap.mpr ⟨c, hc, by unfold dvA; rw [← e]⟩)
    | u => exact decide_eq_true (List.mem_filterMap.mpr ⟨c, hc, by unfold dvA; rw [← e]⟩)
    | now => rfl
    | d3 => rfl
    | d5 => rfl
    | d6 => rfl
theorem NM_len (L : List At) : (NM L).length ≤ 2 * L.length := by
  have h : ∀ (L : List At) (l : List Tm), (L.foldl (fun l a => ((atN a).map Tm.n).foldl addT l) l).length ≤ l.length + 2 * L.length := by
    intro L
    induction L with
    | nil => intro l; simp
    | cons a L ih =>
      intro l
      have h1 := ih (((atN a).map Tm.n).foldl addT l)
      have h2 := addsT_len ((atN a).map Tm.n) l
      have h3 : ((atN a).map Tm.n).length ≤ 2 := by cases a <;> simp [atN]
      rw [List.foldl_cons, List.length_cons]
      omega
  have := h L []
  simpa [NM] using this
theorem DM_len (L : List At) : (DM L).length ≤ L.length := by
  have h : ∀ (L : List At) (l : List Tm), (L.foldl (fun l a => addT l (.d (atY a))) l).length ≤ l.length + L.length := by
    intro L
    induction L with
    | nil => intro l; simp
    | cons a L ih =>
      intro l
      have h1 := ih (addT l (.d (atY a)))
      have h2 := addT_len l (.d (atY a))
      rw [List.foldl_cons, List.length_cons]
      omega
  have := h L []
  simpa [DM] using this
theorem t12 (n : Nat) (a b c d : D) (m : Store) : run tab (n+1) 12 [a, b, c, d] m = endS (B_law_clause (run tab n) [.dat a, .dat b, .dat c, .dat d, .em, .em, .em, .em, .em, .em, .em, .em, .em, .em] m) := by
  have h : tab 12 = some ⟨4, 14, B_law_clause⟩ := rfl
  simp only [run, h]
  rfl
section
variable (ns : List Int) (hs : ns.length ≤ 1000)
include hs
theorem tL_arg (g : List D → Option (List D)) (n : Nat) (hd : List NT) (c4 c5 c6 c7 c8 c9 c10 c11 c12 c13 : Cell) (k : Int) : ∃ j : Nat, j < 3 ∧ argI g (consA (fnE 11 (consA (varE 0) (consA (conE (.int 3)) nilA))) nilA) (run tab (n+1)) (EC hd c4 c5 c6 c7 c8 c9 c10 c11 c12 c13) (ST ns k) = R.of (g [.int (j : Nat)]) (ST ns (k + 1)) := by
  obtain ⟨v, h0, h1, e1⟩ := take_ok ns k 3 n hs (by omega)
  obtain ⟨j, rfl⟩ : ∃ j : Nat, v = (j : Int) := ⟨v.toNat, by omega⟩
  refine ⟨j, by omega, ?_⟩
  simp only [argI, consA, nilA, fnE, varE, conE, List.getElem?_cons_succ, List.getElem?_cons_zero, R.bind_ok, R.of_some, e1]
theorem forS_ok {it : EvA} {g : Tg} {b : EvS} {C : Orc} {e : Env} {m m1 : Store} {ds : List D} {r : SR} (h : it C e m = .ok ds m1) (h2 : forL C g b ds e m1 = r) : forS it g b C e m = r := by
  unfold forS
  rw [h]
  exact h2
theorem law_clause_ok (n : Nat) (hd : List NT) (h2 : hd.length ≤ 2) (k : Int) : ∃ L : List At, ∃ T : List Ts, ∃ k', ClOk L T ∧ (∀ x ∈ hd, ment x L) ∧ run tab (n+9) 12 [.ref 0, .tup (hd.map ntD), .int 2, .bl true] (ST ns k) = .ok (clD L T) (ST ns k') := by
  obtain ⟨L0, k1, a1, a2, gA⟩ := lcA_ok ns hs (n+4) hd k
  have gB : ∃ L : List At, ∃ c5 k2, L.length = L0.length ∧ (∀ x ∈ hd, ment x L) ∧ forS (seqI (varE 1)) (.nm 5) hB (run tab (n+8)) (EC hd (.own (.lst (L0.map atD))) .em .em .em .em .em .em .em .em .em) (ST ns k1) = .nx (EC hd (.own (.lst (L.map atD))) c5 .em .em .em .em .em .em .em .em) (ST ns k2) := by
    by_cases h0 : hd.length = 0
    · have : hd = [] := List.length_eq_zero_iff.mp h0
      subst this
      exact ⟨L0, .em, k1, rfl, (fun x h => absurd h List.not_mem_nil), rfl⟩
    · match L0, a1 with
      | b :: R0, _ =>
        obtain ⟨b0, c5, k2, m1, _, e⟩ := hB_loop ns hs (n+5) hd (by omega) R0 hd b .em k1 (fun x h => h)
        exact ⟨b0 :: R0, c5, k2, rfl, m1, e⟩
  obtain ⟨L, c5, k2, ll, hm, gB⟩ := gB
  rw [← ll] at a1 a2
  obtain ⟨d5, d8, d9, d10, eN⟩ := nB_loop (run tab (n+8)) hd (ST ns k2) (.dat (.lst (L.map atD))) .em .em .em L [] [] c5 .em .em .em (by simp; omega) (by simp; omega)
  have gN : forS (seqI (varE 4)) (.tp [(.nm 8), (.nm 9), (.nm 10)]) nB (run tab (n+8)) (EC hd (.dat (.lst (L.map atD))) c5 (.own (.dct (nT []))) (.own (.dct (nT []))) .em .em .em .em .em .em) (ST ns k2) = .nx (EC hd (.dat (.lst (L.map atD))) d5 (.own (.dct (nT (NM L)))) (.own (.dct (nT (DM L)))) d8 d9 d10 .em .em .em) (ST ns k2) := by
    refine forS_ok ns hs (ds := L.map atD) (m1 := ST ns k2) ?_ eN
    simp only [seqI, varE, List.getElem?_cons_succ, List.getElem?_cons_zero, R.bind_ok, itemsOf, R.of_some]
  obtain ⟨j, hj, eA⟩ := tL_arg ns hs rng1 (n+7) hd (.dat (.lst (L.map atD))) d5 (.own (.dct (nT (NM L)))) (.own (.dct (nT (DM L)))) d8 d9 d10 (.own (.lst ([].map tsD))) .em .em k2
  have hN : ∀ x ∈ NM L, ∃ a, x = .n a := fun x hx => by
    obtain ⟨a, _, h⟩ := (NM_in L x).mp hx
    obtain ⟨b, _, rfl⟩ := List.mem_map.mp h
    exact ⟨b, rfl⟩
  have hY : ∀ x ∈ DM L, ∃ a, x = .d a := fun x hx => by
    obtain ⟨a, _, h⟩ := (DM_in L x).mp hx
    exact ⟨_, h⟩
  have n0 : NM L ≠ [] := by
    match L, a1 with
    | b :: R0, _ =>
      intro h
      have hb : ∃ x, x ∈ (atN b).map Tm.n := by cases b <;> exact ⟨_, List.mem_cons_self⟩
      obtain ⟨x, hx⟩ := hb
      have := (NM_in (b :: R0) x).mpr ⟨b, List.mem_cons_self, hx⟩
      rw [h] at this
      cases this
  have y0 : DM L ≠ [] := by
    match L, a1 with
    | b :: R0, _ =>
      intro h
      have := (DM_in (b :: R0) _).mpr ⟨b, List.mem_cons_self, rfl⟩
      rw [h] at this
      cases this
  have nl := NM_len L
  have yl := DM_len L
  obtain ⟨T, k3, c12, c13, tl, tg, eT⟩ := tB_loop ns hs (n+6) hd hN hY n0 y0 (by omega) (by omega) (.dat (.lst (L.map atD))) d5 d8 d9 d10 (rng 0 j) [] .em .em (k2 + 1) (by unfold rng; simp; omega) (fun t h => absurd h List.not_mem_nil)
  have tl2 : T.length ≤ 2 := by
    unfold rng at tl
    simp at tl
    omega
  have gT : tL (run tab (n+8)) (EC hd (.dat (.lst (L.map atD))) d5 (.own (.dct (nT (NM L)))) (.own (.dct (nT (DM L)))) d8 d9 d10 (.own (.lst ([].map tsD))) .em .em) (ST ns k2) = .nx (EC hd (.dat (.lst (L.map atD))) d5 (.own (.dct (nT (NM L)))) (.own (.dct (nT (DM L)))) d8 d9 d10 (.own (.lst (T.map tsD))) c12 c13) (ST ns k3) :=
    forS_ok ns hs (eA.trans ((congrArg (fun x => R.of x (ST ns (k2 + 1))) (rng1_up (k := j) (by omega))).trans (R.of_some _ _))) eT
  have ok : ClOk L T := ⟨a1, a2, tl2, fun t ht => good_kn (tg t ht), fun t ht => good_dy (tg t ht)⟩
  have gC : rC (run tab (n+8)) (EC hd (.dat (.lst (L.map atD))) d5 (.own (.dct (nT (NM L)))) (.own (.dct (nT (DM L)))) d8 d9 d10 (.own (.lst (T.map tsD))) c12 c13) (ST ns k3) = .ret (clD L T) (ST ns k3) := by
    have c := cl_new n a1 (by omega) (by omega) ok.kn (ST ns k3) (ST_no ns k3) (a := consA (bltE tupleG (consA (brwE 4) nilA)) (consA (bltE tupleG (consA (brwE 11) nilA)) nilA)) (e := EC hd (.dat (.lst (L.map atD))) d5 (.own (.dct (nT (NM L)))) (.own (.dct (nT (DM L)))) d8 d9 d10 (.own (.lst (T.map tsD))) c12 c13) (by
      simp only [consA, nilA, bltE, brwE, List.getElem?_cons_succ, List.getElem?_cons_zero, R.bind_ok, tupleG, R.of_some])
    unfold rC retS
    rw [c]
    rfl
  refine ⟨L, T, k3, ok, hm, ?_⟩
  have g6 : ∀ m : Store, ownDS 6 emptyD (run tab (n+8)) (EC hd (.own (.lst (L.map atD))) c5 .em .em .em .em .em .em .em .em) m = .nx (EC hd (.own (.lst (L.map atD))) c5 (.own (.dct (nT []))) .em .em .em .em .em .em .em) m := fun _ => rfl
  have g7 : ∀ m : Store, ownDS 7 emptyD (run tab (n+8)) (EC hd (.own (.lst (L.map atD))) c5 (.own (.dct (nT []))) .em .em .em .em .em .em .em) m = .nx (EC hd (.own (.lst (L.map atD))) c5 (.own (.dct (nT []))) (.own (.dct (nT []))) .em .em .em .em .em .em) m := fun _ => rfl
  have g8 : ∀ m : Store, frzS 4 (run tab (n+8)) (EC hd (.own (.lst (L.map atD))) c5 (.own (.dct (nT []))) (.own (.dct (nT []))) .em .em .em .em .em .em) m = .nx (EC hd (.dat (.lst (L.map atD))) c5 (.own (.dct (nT []))) (.own (.dct (nT []))) .em .em .em .em .em .em) m := fun _ => rfl
  have g9 : ∀ m : Store, ownS 11 (bltF lstG nilA) (run tab (n+8)) (EC hd (.dat (.lst (L.map atD))) d5 (.own (.dct (nT (NM L)))) (.own (.dct (nT (DM L)))) d8 d9 d10 .em .em .em) m = .nx (EC hd (.dat (.lst (L.map atD))) d5 (.own (.dct (nT (NM L)))) (.own (.dct (nT (DM L)))) d8 d9 d10 (.own (.lst ([].map tsD))) .em .em) m := fun _ => rfl
  rw [t12, clause_body, seq_go gA, seq_go gB, seq_go (g6 _), seq_go (g7 _), seq_go (g8 _), seq_go gN, seq_go (g9 _), seq_go gT, gC]
  rfl
end
end Dn.K47
/-! Questions; rules. -/
namespace Dn.K47
open PySem L2
structure Cl where
  L : List At
  T : List Ts
def kcD (c : Cl) : D := clD c.L c.T
def kOk (c : Cl) : Prop := ClOk c.L c.T
def qD (hd : List NT) (A B : List Cl) : D := .ins "Question" [("head", .tup (hd.map ntD)), ("clauses", .tup (A.map kcD)), ("unless", .tup (B.map kcD))]
instance (l : List Tm) (t : Ts) : Decidable (knows l t) := inferInstanceAs (Decidable (_ ∧ _))
theorem noR_c (c : Cl) : noR (kcD c) = true := noR_cl c.L c.T
theorem noRs_c : ∀ A : List Cl, noRs (A.map kcD) = true
  | [] => rfl
  | a :: A => by
    show (noR (kcD a) && noRs (A.map kcD)) = true
    rw [noR_c, noRs_c A]; rfl
theorem noRs_n : ∀ A : List NT, noRs (A.map ntD) = true
  | [] => rfl
  | a :: A => by
    show (noR (ntD a) && noRs (A.map ntD)) = true
    have := noR_tm (.n a)
    have : noR (ntD a) = true := this
    rw [this, noRs_n A]; rfl
/-! ### heads, clauses -/
def isH : NT → Bool
  | .p => true
  | .q => true
  | .r => true
  | _ => false
theorem ishead_ok (n : Nat) (x : NT) (m : Store) : run tab (n+1) 26 [ntD x] m = .ok (.bl (isH x)) m := by cases x <;> kernel_rfl
theorem isOwn_c (C : Orc) (c : Cl) (c0 : Cell) (m : Store) : isOwnE "Clause" (varE 1) C [c0, .dat (kcD c)] m = .ok (.bl true) m := by kernel_rfl
theorem toBls_rep2 {α : Type} : ∀ (T : List α), toBls (T.map fun _ => D.bl true) = some (T.map fun _ => true)
  | [] => rfl
  | x :: l => by simp only [List.map_cons, toBls, toBls_rep2 l, Option.map_some]
theorem all_rep {α : Type} (T : List α) (m : Store) : allG m [.lst (T.map fun _ => D.bl true)] = some (.bl true) := by
  show (toBls (T.map fun _ => D.bl true)).map (fun is => D.bl (is.all id)) = _
  rw [toBls_rep2]
  simp
theorem t27 (n : Nat) (x : D) (m : Store) : run tab (n+1) 27 [x] m = endS (B_are_clauses (run tab n) [.dat x, .em] m) := by
  have h : tab 27 = some ⟨1, 2, B_are_clauses⟩ := rfl
  simp only [run, h]
  rfl
theorem arecl_ok (n : Nat) (A : List Cl) (h : A.length ≤ 3) (m : Store) : run tab (n+1) 27 [.tup (A.map kcD)] m = .ok (.bl true) m := by
  have lc := lcL_all (C := run tab n) (g := .nm 1) (te := isOwnE "Clause" (varE 1)) (e := [.dat (.tup (A.map kcD)), .em]) (m := m) (f := kcD) (h := fun _ => D.bl true) (l := A) fun x hx => ⟨[.dat (.tup (A.map kcD)), .dat (kcD x)], rfl, isOwn_c _ x _ m⟩
  have ln : lenG m [.tup (A.map kcD)] = some (.int A.length) := by
    show some (D.int ((A.map kcD).length : Nat)) = _
    rw [List.length_map]
  have le : leG m (.int (A.length : Nat)) (.int 3) = some (.bl true) := by
    show some (D.bl (decide (((A.length : Nat) : Int) ≤ 3))) = _
    rw [decide_eq_true (by omega)]
  rw [t27]
  unfold B_are_clauses retS andE
  rw [isT0]
  simp only [R.bind_ok, isB, R.of_some, if_true, bin, bltE, consA, nilA, brwE, varE, conE, List.getElem?_cons_zero, ln, le, frzE, lcF, seqI, itemsOf, wipeE, List.set_cons_succ, List.set_cons_zero, lc, all_rep, liftS_ok, endS]
/-! ### Question.__init__ -/
def qA : EvS := (ifS (orT (notT (blT (isE "tuple" (brwE 1)))) (orT (blT (bin gtG (bltE lenG (consA (brwE 1) nilA)) (conE (.int 4)))) (notT (blT (bltE allG (consA (frzE (lcF (seqI (varE 1)) (.nm 5) yesT (fnE 26 (consA (varE 5) nilA)) [5])) nilA))))))
  stuckS
  nxS)
def qB : EvS := (ifS (orT (notT (blT (fnE 27 (consA (varE 2) nilA)))) (blT (bin (orO eqNil eqG) (brwE 2) (bltE tupG nilA))))
  stuckS
  nxS)
def qC : EvS := (ifS (notT (blT (fnE 27 (consA (varE 3) nilA))))
  stuckS
  nxS)
def qV : EvE := (bin inG (brwE 5) (metE "Clause" "variables" 28 (varE 4) nilA))
def qI : EvS := (ifS (notT (blT (bltE allG (consA (frzE (lcF (seqI (varE 1)) (.nm 5) yesT qV [5])) nilA))))
  stuckS
  nxS)
def qF : EvS := (forS (seqI (bltE tupG (starA (seqOnly (varE 2)) (starA (seqOnly (varE 3)) nilA)))) (.nm 4) qI)
theorem q_body : B_Question__init__b = seqS qA (seqS qB (seqS qC (seqS qF (seqS (fldS "Question" "head" (varE 0) (varE 1)) (seqS (fldS "Question" "clauses" (varE 0) (varE 2)) (fldS "Question" "unless" (varE 0) (varE 3))))))) := rfl
theorem t14 (n : Nat) (x y z w : D) (m : Store) : run tab (n+1) 14 [x, y, z, w] m = endS (B_Question__init__b (run tab n) [.dat x, .dat y, .dat z, .dat w, .em, .em] m) := by
  have h : tab 14 = some ⟨4, 6, B_Question__init__b⟩ := rfl
  simp only [run, h]
  rfl
abbrev EQ (s : D) (hd : List NT) (A B : List Cl) (c4 c5 : Cell) : Env := [.dat s, .dat (.tup (hd.map ntD)), .dat (.tup (A.map kcD)), .dat (.tup (B.map kcD)), c4, c5]
section
variable (n : Nat) (s : D) (hd : List NT) (A B : List Cl) (m : Store) (hh : ∀ x ∈ hd, isH x = true) (hl : hd.length ≤ 4) (a1 : 1 ≤ A.length) (a3 : A.length ≤ 3) (b3 : B.length ≤ 3)
include hh hl a1 a3 b3
theorem qA_ok : qA (run tab (n+3)) (EQ s hd A B .em .em) m = .nx (EQ s hd A B .em .em) m := by
  have lc := lcL_all (C := run tab (n+3)) (g := .nm 5) (te := fnE 26 (consA (varE 5) nilA)) (e := EQ s hd A B .em .em) (m := m) (f := ntD) (h := fun _ => D.bl true) (l := hd) fun x hx => ⟨EQ s hd A B .em (.dat (ntD x)), rfl, by
    have := ishead_ok (n+2) x m
    rw [hh x hx] at this
    simp only [fnE, consA, nilA, varE, List.getElem?_cons_succ, List.getElem?_cons_zero, R.bind_ok, this]⟩
  have ln : lenG m [.tup (hd.map ntD)] = some (.int hd.length) := by
    show some (D.int ((hd.map ntD).length : Nat)) = _
    rw [List.length_map]
  have gt : gtG m (.int (hd.length : Nat)) (.int 4) = some (.bl false) := by
    show some (D.bl (decide (((hd.length : Nat) : Int) > 4))) = _
    rw [decide_eq_false (by omega)]
  unfold qA ifS orT notT blT
  rw [isT]
  simp only [R.bind_ok, isB, R.of_some, Bool.not_true, Bool.false_eq_true, if_false, bin, bltE, consA, nilA, brwE, varE, conE, List.getElem?_cons_succ, List.getElem?_cons_zero, ln, gt, frzE, lcF, seqI, itemsOf, wipeE, List.set_cons_succ, List.set_cons_zero, lc, all_rep, liftS_ok]
  rfl
theorem qB_ok : qB (run tab (n+3)) (EQ s hd A B .em .em) m = .nx (EQ s hd A B .em .em) m := by
  have ar := arecl_ok (n+2) A a3 m
  have eq : (orO eqNil eqG) m (.tup (A.map kcD)) (.tup []) = some (.bl false) := by
    match A, a1 with
    | c :: A, _ => rfl
  have sh : tupG m [] = some (.tup []) := rfl
  unfold qB
  simp only [ifS, orT, notT, blT, fnE, consA, nilA, varE, brwE, bin, bltE, List.getElem?_cons_succ, List.getElem?_cons_zero, R.bind_ok, ar, isB, R.of_some, Bool.not_true, Bool.false_eq_true, if_false, sh, eq, liftS_ok]
  rfl
theorem qC_ok : qC (run tab (n+3)) (EQ s hd A B .em .em) m = .nx (EQ s hd A B .em .em) m := by
  have ar := arecl_ok (n+2) B b3 m
  unfold qC
  simp only [ifS, notT, blT, fnE, consA, nilA, varE, List.getElem?_cons_succ, List.getElem?_cons_zero, R.bind_ok, ar, isB, R.of_some, Bool.not_true, Bool.false_eq_true, if_false, liftS_ok]
  rfl
theorem qI_ok (c : Cl) (hc : c.L.length ≤ 100) (hm : ∀ x ∈ hd, ment x c.L) : qI (run tab (n+3)) (EQ s hd A B (.dat (kcD c)) .em) m = .nx (EQ s hd A B (.dat (kcD c)) .em) m := by
  have fd : fldG "Clause" "atoms" m (kcD c) = some (.tup (c.L.map atD)) := by kernel_rfl
  have vr := variables_ok (n+1) (kcD c) c.L hc m fd
  have lk : ([(("atoms" : Str), D.tup (c.L.map atD)), (("tests" : Str), D.tup (c.T.map tsD))] : List (Str × D)).lookup ("variables" : Str) = none := by kernel_rfl
  have lc := lcL_all (C := run tab (n+3)) (g := .nm 5) (te := qV) (e := EQ s hd A B (.dat (kcD c)) .em) (m := m) (f := ntD) (h := fun _ => D.bl true) (l := hd) fun x hx => ⟨EQ s hd A B (.dat (kcD c)) (.dat (ntD x)), rfl, by
    have iG : insG m (kcD c) = some (("Clause" : Str), ([("atoms", .tup (c.L.map atD)), ("tests", .tup (c.T.map tsD))] : List (Str × D))) := rfl
    have q := in_tm m (.n x) (vM c.L)
    have hv : Tm.n x ∈ vM c.L := by
      obtain ⟨a, ha, hxa⟩ := hm x hx
      have := hh x hx
      exact (vM_in c.L _).mpr ⟨(by cases x <;> first | rfl | (cases this)), a, ha, List.mem_append_left _ (List.mem_map.mpr ⟨x, hxa, rfl⟩)⟩
    rw [decide_eq_true hv] at q
    have q : inG m (ntD x) (.lst ((vM c.L).map tmD)) = some (.bl true) := q
    have me : metE "Clause" "variables" 28 (varE 4) nilA (run tab (n+3)) (EQ s hd A B (.dat (kcD c)) (.dat (ntD x))) m = .ok (.lst ((vM c.L).map tmD)) m := by
      unfold metE
      simp only [varE, List.getElem?_cons_succ, List.getElem?_cons_zero, R.bind_ok, iG, lk, and_self, if_true, nilA, vr]
    unfold qV
    exact bin_ok rfl me q⟩
  unfold qI
  simp only [ifS, notT, blT, bltE, consA, nilA, varE, frzE, lcF, seqI, itemsOf, List.getElem?_cons_succ, List.getElem?_cons_zero, R.bind_ok, R.of_some, wipeE, List.set_cons_succ, List.set_cons_zero, lc, all_rep, isB, Bool.not_true, Bool.false_eq_true, if_false, liftS_ok]
  rfl
theorem qI_loop : ∀ (X : List Cl) (c4 : Cell), (∀ c ∈ X, c.L.length ≤ 100 ∧ ∀ x ∈ hd, ment x c.L) → ∃ c4', forL (run tab (n+3)) (.nm 4) qI (X.map kcD) (EQ s hd A B c4 .em) m = .nx (EQ s hd A B c4' .em) m
  | [], c4, _ => ⟨c4, rfl⟩
  | c :: X, c4, h => by
    obtain ⟨h1, h2⟩ := h c List.mem_cons_self
    have b := qI_ok n s hd A B m hh hl a1 a3 b3 c h1 h2
    obtain ⟨c4', ih⟩ := qI_loop X (.dat (kcD c)) fun x hx => h x (List.mem_cons_of_mem _ hx)
    refine ⟨c4', ?_⟩
    have s0 : forL (run tab (n+3)) (.nm 4) qI ((c :: X).map kcD) (EQ s hd A B c4 .em) m = match qI (run tab (n+3)) (EQ s hd A B (.dat (kcD c)) .em) m with
      | .nx e2 m2 => forL (run tab (n+3)) (.nm 4) qI (X.map kcD) e2 m2
      | .ct e2 m2 => forL (run tab (n+3)) (.nm 4) qI (X.map kcD) e2 m2
      | .brk e2 m2 => .nx e2 m2
      | r => r := rfl
    rw [s0, b]
    exact ih
theorem qF_ok (hA : ∀ c ∈ A ++ B, c.L.length ≤ 100 ∧ ∀ x ∈ hd, ment x c.L) : ∃ c4', qF (run tab (n+3)) (EQ s hd A B .em .em) m = .nx (EQ s hd A B c4' .em) m := by
  obtain ⟨c4', lp⟩ := qI_loop n s hd A B m hh hl a1 a3 b3 (A ++ B) .em hA
  refine ⟨c4', ?_⟩
  have sh : short ((A ++ B).map kcD) = true := by
    unfold short
    simp
    omega
  rw [List.map_append] at sh lp
  unfold qF forS seqI
  simp only [bltE, starA, seqOnly, noStr, nilA, varE, List.getElem?_cons_succ, List.getElem?_cons_zero, R.bind_ok, itemsOf, R.of_some, if_true, tupG, List.append_nil, sh, liftS_ok]
  exact lp
end
theorem q_init (n : Nat) (m : Store) (hd : List NT) (A B : List Cl) (hh : ∀ x ∈ hd, isH x = true) (hl : hd.length ≤ 4) (a1 : 1 ≤ A.length) (a3 : A.length ≤ 3) (b3 : B.length ≤ 3) (hA : ∀ c ∈ A ++ B, c.L.length ≤ 100 ∧ ∀ x ∈ hd, ment x c.L) :
    run tab (n+4) 14 [.ref m.length, .tup (hd.map ntD), .tup (A.map kcD), .tup (B.map kcD)] (m ++ [.ins "Question" []]) = .ok .non (m ++ [.ins "Question" [("head", .tup (hd.map ntD)), ("clauses", .tup (A.map kcD)), ("unless", .tup (B.map kcD))]]) := by
  obtain ⟨c4', gF⟩ := qF_ok n (.ref m.length) hd A B (m ++ [.ins "Question" []]) hh hl a1 a3 b3 hA
  rw [t14, q_body, seq_go (qA_ok n (.ref m.length) hd A B _ hh hl a1 a3 b3), seq_go (qB_ok n (.ref m.length) hd A B _ hh hl a1 a3 b3), seq_go (qC_ok n (.ref m.length) hd A B _ hh hl a1 a3 b3), seq_go gF]
  have g1 : fldS "Question" "head" (varE 0) (varE 1) (run tab (n+3)) (EQ (.ref m.length) hd A B c4' .em) (m ++ [.ins "Question" []]) = .nx (EQ (.ref m.length) hd A B c4' .em) (m ++ [.ins "Question" [("head", .tup (hd.map ntD))]]) := by
    unfold fldS
    simp only [varE, List.getElem?_cons_succ, List.getElem?_cons_zero, liftS_ok, stx, sts, putD, List.length_nil]
    rfl
  rw [seq_go g1]
  have g2 : fldS "Question" "clauses" (varE 0) (varE 2) (run tab (n+3)) (EQ (.ref m.length) hd A B c4' .em) (m ++ [.ins "Question" [("head", .tup (hd.map ntD))]]) = .nx (EQ (.ref m.length) hd A B c4' .em) (m ++ [.ins "Question" [("head", .tup (hd.map ntD)), ("clauses", .tup (A.map kcD))]]) := by
    unfold fldS
    simp only [varE, List.getElem?_cons_succ, List.getElem?_cons_zero, liftS_ok, stx, sts, putD, List.length_nil, List.length_cons]
    rfl
  rw [seq_go g2]
  have g3 : fldS "Question" "unless" (varE 0) (varE 3) (run tab (n+3)) (EQ (.ref m.length) hd A B c4' .em) (m ++ [.ins "Question" [("head", .tup (hd.map ntD)), ("clauses", .tup (A.map kcD))]]) = .nx (EQ (.ref m.length) hd A B c4' .em) (m ++ [.ins "Question" [("head", .tup (hd.map ntD)), ("clauses", .tup (A.map kcD)), ("unless", .tup (B.map kcD))]]) := by
    unfold fldS
    simp only [varE, List.getElem?_cons_succ, List.getElem?_cons_zero, liftS_ok, stx, sts, putD, List.length_nil, List.length_cons]
    rfl
  rw [g3]
  rfl
theorem q_new (n : Nat) {hd : List NT} {A B : List Cl} (hh : ∀ x ∈ hd, isH x = true) (hl : hd.length ≤ 4) (a1 : 1 ≤ A.length) (a3 : A.length ≤ 3) (b3 : B.length ≤ 3) (hA : ∀ c ∈ A ++ B, c.L.length ≤ 100 ∧ ∀ x ∈ hd, ment x c.L) (m : Store) (hm : m.all noRo = true) {a : EvA} {e : Env} (ha : a (run tab (n+5)) e m = .ok [.tup (hd.map ntD), .tup (A.map kcD), .tup (B.map kcD)] m) :
    stlE (newE "Question" 13 a) (run tab (n+5)) e m = .ok (qD hd A B) m := by
  have hw : ∀ ds m', ds.length = 4 → run tab (n+5) 13 ds m' = run tab (n+4) 14 ds m' := fun ds m' hl => run_wrap (np := 4) (k := 13) (f := 14) rfl hl
  unfold stlE newE
  rw [ha]
  simp only [R.bind_ok]
  rw [hw _ _ rfl, q_init n m hd A B hh hl a1 a3 b3 hA]
  simp only [R.bind_ok, stlR, stx]
  rw [if_pos]
  · simp [qD]
  · refine ⟨trivial, by simp, ?_⟩
    rw [List.all_append, hm, Bool.true_and]
    show ((noRs (hd.map ntD) && (noRs (A.map kcD) && (noRs (B.map kcD) && true))) && true) = true
    rw [noRs_n, noRs_c, noRs_c]
    rfl
end Dn.K47
/-! The drawn question, the drawn rules. -/
namespace Dn.K47
open PySem L2
def hdE : EvE := (frzE (bltF lstG (consA (bltE tupG (consA (bltE tupG (consA (conE (.str "any")) (consA (conE (.str "p")) nilA))) nilA)) (consA (bltE tupG (consA (bltE tupG (consA (conE (.str "any")) (consA (conE (.str "p")) nilA))) nilA)) (consA (bltE tupG nilA) (consA (bltE tupG (consA (bltE tupG (consA (conE (.str "any")) (consA (conE (.str "p")) nilA))) (consA (bltE tupG (consA (conE (.str "any")) (consA (conE (.str "q")) nilA))) nilA))) nilA))))))
def clE : EvE := (fnE 12 (consA (varE 0) (consA (varE 1) (consA (conE (.int 2)) (consA (conE (.bl true)) nilA)))))
def lqA : EvS := (asgS (.nm 1) (fnE 10 (consA (varE 0) (consA hdE nilA))))
def lqB : EvS := (asgS (.nm 2) (frzE (lcF (argI rng1 (consA (bin addA (conE (.int 1)) (bin fdivG (fnE 11 (consA (varE 0) (consA (conE (.int 4)) nilA))) (conE (.int 3)))) nilA)) (.nm 4) yesT clE [4])))
def lqC : EvS := (asgS (.nm 3) (frzE (lcF (argI rng1 (consA (fnE 11 (consA (varE 0) (consA (conE (.int 2)) nilA))) nilA)) (.nm 4) yesT clE [4])))
def lqD : EvS := (retS (stlE (newE "Question" 13 (consA (varE 1) (consA (bltE tupleG (consA (brwE 2) nilA)) (consA (bltE tupleG (consA (brwE 3) nilA)) nilA))))))
theorem lq_body : B_law_question = seqS lqA (seqS lqB (seqS lqC lqD)) := rfl
theorem t1 (n : Nat) (x : D) (m : Store) : run tab (n+1) 1 [x] m = endS (B_law_question (run tab n) [.dat x, .em, .em, .em, .em] m) := by
  have h : tab 1 = some ⟨1, 5, B_law_question⟩ := rfl
  simp only [run, h]
  rfl
theorem t2 (n : Nat) (x : D) (m : Store) : run tab (n+1) 2 [x] m = endS (B_law_rules (run tab n) [.dat x, .em, .em, .em, .em, .em, .em, .em] m) := by
  have h : tab 2 = some ⟨1, 8, B_law_rules⟩ := rfl
  simp only [run, h]
  rfl
theorem frz_of {f : EvA} {C : Orc} {e : Env} {m m1 : Store} {xs : List D} (h : f C e m = .ok xs m1) : frzE f C e m = .ok (.lst xs) m1 := by
  unfold frzE
  rw [h]
  rfl
theorem tuple_of {X : EvE} {C : Orc} {e : Env} {m m1 : Store} {xs : List D} (h : X C e m = .ok (.lst xs) m1) : bltE tupleG (consA X nilA) C e m = .ok (.tup xs) m1 := by
  simp only [bltE, consA, nilA, h, R.bind_ok, tupleG, R.of_some]
theorem ret_of {X : EvE} {C : Orc} {e : Env} {m m1 : Store} {x : D} (h : X C e m = .ok x m1) : retS X C e m = .ret x m1 := by
  unfold retS
  rw [h]
  rfl
theorem asg_frz {i : Nat} {f : EvA} {C : Orc} {e e1 : Env} {m m1 : Store} {xs : List D} (h : f C e m = .ok xs m1) (h2 : asg (.nm i) (.lst xs) e = some e1) : asgS (.nm i) (frzE f) C e m = .nx e1 m1 := by
  unfold asgS frzE
  rw [h]
  simp only [R.bind_ok, liftS_ok, h2]
  rfl
section
variable (ns : List Int) (hs : ns.length ≤ 1000)
include hs
theorem cl_loop (n : Nat) (hd : List NT) (h2 : hd.length ≤ 2) (c2 c3 : Cell) : ∀ (l : List D) (k : Int), ∃ A : List Cl, ∃ k', A.length = l.length ∧ (∀ c ∈ A, kOk c ∧ ∀ x ∈ hd, ment x c.L) ∧
    lcL (run tab (n+9)) (.nm 4) yesT clE [.dat (.ref 0), .dat (.tup (hd.map ntD)), c2, c3, .em] l (ST ns k) = .ok (A.map kcD) (ST ns k')
  | [], k => ⟨[], k, rfl, (fun c h => absurd h List.not_mem_nil), rfl⟩
  | d :: l, k => by
    obtain ⟨L, T, k1, ok, hm, e1⟩ := law_clause_ok ns hs n hd h2 k
    obtain ⟨A, k2, hl, hA, e2⟩ := cl_loop n hd h2 c2 c3 l k1
    refine ⟨⟨L, T⟩ :: A, k2, by simp [hl], fun c hc => ?_, ?_⟩
    · rcases List.mem_cons.mp hc with rfl | hc
      · exact ⟨ok, hm⟩
      · exact hA c hc
    have f : clE (run tab (n+9)) [.dat (.ref 0), .dat (.tup (hd.map ntD)), c2, c3, .dat d] (ST ns k) = .ok (clD L T) (ST ns k1) := by
      unfold clE
      simp only [fnE, consA, nilA, varE, conE, List.getElem?_cons_succ, List.getElem?_cons_zero, R.bind_ok, e1]
    have s0 : lcL (run tab (n+9)) (.nm 4) yesT clE [.dat (.ref 0), .dat (.tup (hd.map ntD)), c2, c3, .em] (d :: l) (ST ns k) =
      (noX (clE (run tab (n+9)) [.dat (.ref 0), .dat (.tup (hd.map ntD)), c2, c3, .dat d] (ST ns k))).bind fun x m2 => (lcL (run tab (n+9)) (.nm 4) yesT clE [.dat (.ref 0), .dat (.tup (hd.map ntD)), c2, c3, .em] l m2).bind fun xs m3 => .ok (x :: xs) m3 := rfl
    rw [s0, f]
    simp only [noX, R.bind_ok, e2]
    rfl
theorem lqB_arg (g : List D → Option (List D)) (n : Nat) (c1 c2 c3 c4 : Cell) (k : Int) : ∃ j : Nat, 1 ≤ j ∧ j ≤ 2 ∧ argI g (consA (bin addA (conE (.int 1)) (bin fdivG (fnE 11 (consA (varE 0) (consA (conE (.int 4)) nilA))) (conE (.int 3)))) nilA) (run tab (n+1)) [.dat (.ref 0), c1, c2, c3, c4] (ST ns k) = R.of (g [.int (j : Nat)]) (ST ns (k + 1)) := by
  obtain ⟨v, h0, h1, e1⟩ := take_ok ns k 4 n hs (by omega)
  have d3 : 0 ≤ v / 3 ∧ v / 3 ≤ 1 := by omega
  refine ⟨(1 + v / 3).toNat, by omega, by omega, ?_⟩
  have fd : fdivG (ST ns (k + 1)) (.int v) (.int 3) = some (.int (v / 3)) := rfl
  have ad : addA (ST ns (k + 1)) (.int 1) (.int (v / 3)) = some (.int (((1 + v / 3).toNat : Nat) : Int)) := by
    show some (D.int (1 + v / 3)) = _
    have : (1 + v / 3) = (((1 + v / 3).toNat : Nat) : Int) := by omega
    rw [← this]
  simp only [argI, consA, nilA, bin, fnE, varE, conE, List.getElem?_cons_succ, List.getElem?_cons_zero, R.bind_ok, R.of_some, e1, fd, ad]
theorem lqC_arg (g : List D → Option (List D)) (n : Nat) (c1 c2 c3 c4 : Cell) (k : Int) : ∃ j : Nat, j ≤ 1 ∧ argI g (consA (fnE 11 (consA (varE 0) (consA (conE (.int 2)) nilA))) nilA) (run tab (n+1)) [.dat (.ref 0), c1, c2, c3, c4] (ST ns k) = R.of (g [.int (j : Nat)]) (ST ns (k + 1)) := by
  obtain ⟨v, h0, h1, e1⟩ := take_ok ns k 2 n hs (by omega)
  obtain ⟨j, rfl⟩ : ∃ j : Nat, v = (j : Int) := ⟨v.toNat, by omega⟩
  refine ⟨j, by omega, ?_⟩
  simp only [argI, consA, nilA, fnE, varE, conE, List.getElem?_cons_succ, List.getElem?_cons_zero, R.bind_ok, R.of_some, e1]
theorem question_ok (n : Nat) (k : Int) : ∃ hd : List NT, ∃ A B : List Cl, ∃ k', A.length ≤ 2 ∧ B.length ≤ 1 ∧ (∀ c ∈ A ++ B, kOk c) ∧ run tab (n+10) 1 [.ref 0] (ST ns k) = .ok (qD hd A B) (ST ns k') := by
  have hx : hdE (run tab (n+9)) [.dat (.ref 0), .em, .em, .em, .em] (ST ns k) = .ok (.lst [.tup ([NT.p].map ntD), .tup ([NT.p].map ntD), .tup ([].map ntD), .tup ([NT.p, .q].map ntD)]) (ST ns k) := by
    generalize run tab (n+9) = C
    rfl
  obtain ⟨x, hm, e1⟩ := pick_ok (n+7) ns hs k [.tup ([NT.p].map ntD), .tup ([NT.p].map ntD), .tup ([].map ntD), .tup ([NT.p, .q].map ntD)] (by simp)
  have hx2 : ∃ hd : List NT, x = .tup (hd.map ntD) ∧ hd.length ≤ 2 ∧ ∀ y ∈ hd, isH y = true := by
    simp only [List.mem_cons, List.not_mem_nil, or_false] at hm
    rcases hm with h | h | h | h
    · exact ⟨[.p], h, by decide, by decide⟩
    · exact ⟨[.p], h, by decide, by decide⟩
    · exact ⟨[], h, by decide, by decide⟩
    · exact ⟨[.p, .q], h, by decide, by decide⟩
  obtain ⟨hd, rfl, h2, hh⟩ := hx2
  have gA : lqA (run tab (n+9)) [.dat (.ref 0), .em, .em, .em, .em] (ST ns k) = .nx [.dat (.ref 0), .dat (.tup (hd.map ntD)), .em, .em, .em] (ST ns (k + 1)) := by
    unfold lqA asgS
    rw [(fn_two (f := 10) rfl hx).trans e1]
    rfl
  obtain ⟨j, j1, j2, eB⟩ := lqB_arg ns hs rng1 (n+8) (.dat (.tup (hd.map ntD))) .em .em .em (k + 1)
  obtain ⟨A, k2, al, hA, eB2⟩ := cl_loop ns hs n hd h2 .em .em (rng 0 j) (k + 1 + 1)
  have gB : lqB (run tab (n+9)) [.dat (.ref 0), .dat (.tup (hd.map ntD)), .em, .em, .em] (ST ns (k + 1)) = .nx [.dat (.ref 0), .dat (.tup (hd.map ntD)), .dat (.lst (A.map kcD)), .em, .em] (ST ns k2) :=
    asg_frz (lcF_ok ns hs (eB.trans ((congrArg (fun x => R.of x (ST ns (k + 1 + 1))) (rng1_up (k := j) (by omega))).trans (R.of_some _ _))) eB2) rfl
  obtain ⟨i, i1, eC⟩ := lqC_arg ns hs rng1 (n+8) (.dat (.tup (hd.map ntD))) (.dat (.lst (A.map kcD))) .em .em k2
  obtain ⟨B, k3, bl, hB, eC2⟩ := cl_loop ns hs n hd h2 (.dat (.lst (A.map kcD))) .em (rng 0 i) (k2 + 1)
  have gC : lqC (run tab (n+9)) [.dat (.ref 0), .dat (.tup (hd.map ntD)), .dat (.lst (A.map kcD)), .em, .em] (ST ns k2) = .nx [.dat (.ref 0), .dat (.tup (hd.map ntD)), .dat (.lst (A.map kcD)), .dat (.lst (B.map kcD)), .em] (ST ns k3) :=
    asg_frz (lcF_ok ns hs (eC.trans ((congrArg (fun x => R.of x (ST ns (k2 + 1))) (rng1_up (k := i) (by omega))).trans (R.of_some _ _))) eC2) rfl
  have rl : ∀ j : Nat, (rng 0 j).length = j := fun j => by unfold rng; simp
  rw [rl] at al bl
  have hAB : ∀ c ∈ A ++ B, kOk c ∧ ∀ x ∈ hd, ment x c.L := fun c hc => by
    rcases List.mem_append.mp hc with h | h
    · exact hA c h
    · exact hB c h
  have q := q_new (n+4) hh (by omega) (by omega) (by omega) (by omega) (A := A) (B := B) (fun c hc => ⟨by have := (hAB c hc).1.l2; omega, (hAB c hc).2⟩) (ST ns k3) (ST_no ns k3) (a := consA (varE 1) (consA (bltE tupleG (consA (brwE 2) nilA)) (consA (bltE tupleG (consA (brwE 3) nilA)) nilA))) (e := [.dat (.ref 0), .dat (.tup (hd.map ntD)), .dat (.lst (A.map kcD)), .dat (.lst (B.map kcD)), .em]) (by
    simp only [consA, nilA, bltE, varE, brwE, List.getElem?_cons_succ, List.getElem?_cons_zero, R.bind_ok, tupleG, R.of_some])
  refine ⟨hd, A, B, k3, by omega, by omega, fun c hc => (hAB c hc).1, ?_⟩
  rw [t1, lq_body, seq_go gA, seq_go gB, seq_go gC]
  unfold lqD retS
  rw [q]
  rfl
end
/-! ### rules -/
def ru1 : Cl := ⟨[.lives .p .q .t, .lives .p .r .t], [.nm false .q .r]⟩
def ru2 : Cl := ⟨[.pays .p .t, .lives .p .rome .t], []⟩
def ru3 : Cl := ⟨[.pays .p .t], [.dy .less .t .d3]⟩
theorem ru_ok : ∀ c ∈ [ru1, ru2, ru3], kOk c := by
  intro c hc
  simp only [List.mem_cons, List.not_mem_nil, or_false] at hc
  rcases hc with rfl | rfl | rfl
  · exact ⟨by decide, by decide, by decide, by decide, by decide⟩
  · exact ⟨by decide, by decide, by decide, by decide, by decide⟩
  · exact ⟨by decide, by decide, by decide, by decide, by decide⟩
def rsA : EvS := (asgS (.tp [(.nm 1), (.nm 2), (.nm 3)]) (bltE tupG (consA (bltE tupG (consA (conE (.str "any")) (consA (conE (.str "p")) nilA))) (consA (bltE tupG (consA (conE (.str "any")) (consA (conE (.str "q")) nilA))) (consA (bltE tupG (consA (conE (.str "when")) (consA (conE (.str "t")) nilA))) nilA)))))
def a1 : EvA := (consA (bltE tupG (consA (bltE tupG (consA (conE (.str "lives")) (consA (bltE tupG (consA (varE 1) (consA (varE 2) nilA))) (consA (varE 3) nilA)))) (consA (bltE tupG (consA (conE (.str "lives")) (consA (bltE tupG (consA (varE 1) (consA (bltE tupG (consA (conE (.str "any")) (consA (conE (.str "r")) nilA))) nilA))) (consA (varE 3) nilA)))) nilA))) (consA (bltE tupG (consA (bltE tupG (consA (conE (.str "unlike")) (consA (varE 2) (consA (bltE tupG (consA (conE (.str "any")) (consA (conE (.str "r")) nilA))) nilA)))) nilA)) nilA))
def a2 : EvA := (consA (bltE tupG (consA (bltE tupG (consA (conE (.str "pays")) (consA (bltE tupG (consA (varE 1) nilA)) (consA (varE 3) nilA)))) (consA (bltE tupG (consA (conE (.str "lives")) (consA (bltE tupG (consA (varE 1) (consA (bltE tupG (consA (conE (.str "name")) (consA (conE (.str "rome")) nilA))) nilA))) (consA (varE 3) nilA)))) nilA))) (consA (bltE tupG nilA) nilA))
def a3 : EvA := (consA (bltE tupG (consA (bltE tupG (consA (conE (.str "pays")) (consA (bltE tupG (consA (varE 1) nilA)) (consA (varE 3) nilA)))) nilA)) (consA (bltE tupG (consA (bltE tupG (consA (conE (.str "less")) (consA (varE 3) (consA (bltE tupG (consA (conE (.str "day")) (consA (conE (.int 3)) nilA))) nilA)))) nilA)) nilA))
def rsT : EvT := (blT (bin eqG (fnE 11 (consA (varE 0) (consA (conE (.int 3)) nilA))) (conE (.int 0))))
def rsR : EvS := (retS (bltE tupleG (consA (frzE (lcF (seqI (bltE tupG (consA (varE 4) (consA (varE 5) (consA (varE 6) nilA))))) (.nm 7) rsT (varE 7) [7])) nilA)))
theorem rs_body : B_law_rules = seqS rsA (seqS (asgS (.nm 4) (stlE (newE "Clause" 15 a1))) (seqS (asgS (.nm 5) (stlE (newE "Clause" 15 a2))) (seqS (asgS (.nm 6) (stlE (newE "Clause" 15 a3))) rsR))) := rfl
theorem asg_st {i : Nat} {f : EvE} {C : Orc} {e e1 : Env} {m m1 : Store} {x : D} (h : f C e m = .ok x m1) (h2 : asg (.nm i) x e = some e1) : asgS (.nm i) f C e m = .nx e1 m1 := by
  unfold asgS
  rw [h]
  simp only [liftS_ok, h2]
  rfl
section
variable (ns : List Int) (hs : ns.length ≤ 1000)
include hs
theorem rs_loop (n : Nat) (c1 c2 c3 c4 c5 c6 : Cell) : ∀ (X : List Cl) (k : Int), ∃ Y : List Cl, ∃ k', (∀ c ∈ Y, c ∈ X) ∧ Y.length ≤ X.length ∧ lcL (run tab (n+1)) (.nm 7) rsT (varE 7) [.dat (.ref 0), c1, c2, c3, c4, c5, c6, .em] (X.map kcD) (ST ns k) = .ok (Y.map kcD) (ST ns k')
  | [], k => ⟨[], k, (fun c h => h), Nat.le_refl _, rfl⟩
  | c :: X, k => by
    obtain ⟨v, h0, h1, e1⟩ := take_ok ns k 3 n hs (by omega)
    obtain ⟨Y, k', hY, hl, e2⟩ := rs_loop n c1 c2 c3 c4 c5 c6 X (k + 1)
    have t : rsT (run tab (n+1)) [.dat (.ref 0), c1, c2, c3, c4, c5, c6, .dat (kcD c)] (ST ns k) = .ok (decide (v = 0)) (ST ns (k + 1)) := by
      unfold rsT
      simp only [blT, bin, fnE, consA, nilA, varE, conE, List.getElem?_cons_succ, List.getElem?_cons_zero, R.bind_ok, e1, eqG_ii, R.of_some, isB]
    have s0 : lcL (run tab (n+1)) (.nm 7) rsT (varE 7) [.dat (.ref 0), c1, c2, c3, c4, c5, c6, .em] ((c :: X).map kcD) (ST ns k) =
      (noX (rsT (run tab (n+1)) [.dat (.ref 0), c1, c2, c3, c4, c5, c6, .dat (kcD c)] (ST ns k))).bind fun b m1 => if b = true then (noX (varE 7 (run tab (n+1)) [.dat (.ref 0), c1, c2, c3, c4, c5, c6, .dat (kcD c)] m1)).bind fun x m2 => (lcL (run tab (n+1)) (.nm 7) rsT (varE 7) [.dat (.ref 0), c1, c2, c3, c4, c5, c6, .em] (X.map kcD) m2).bind fun xs m3 => .ok (x :: xs) m3 else lcL (run tab (n+1)) (.nm 7) rsT (varE 7) [.dat (.ref 0), c1, c2, c3, c4, c5, c6, .em] (X.map kcD) m1 := rfl
    by_cases hv : v = 0
    · refine ⟨c :: Y, k', fun y hy => ?_, by simp; omega, ?_⟩
      · rcases List.mem_cons.mp hy with h | h
        · rw [h]; exact List.mem_cons_self
        · exact List.mem_cons_of_mem _ (hY y h)
      · rw [s0, t, decide_eq_true hv]
        simp only [noX, R.bind_ok, if_true, varE, List.getElem?_cons_succ, List.getElem?_cons_zero, e2]
        rfl
    · refine ⟨Y, k', fun y hy => List.mem_cons_of_mem _ (hY y hy), by simp; omega, ?_⟩
      rw [s0, t, decide_eq_false hv]
      simp only [noX, R.bind_ok, Bool.false_eq_true, if_false, e2]
theorem rules_ok (n : Nat) (k : Int) : ∃ Y : List Cl, ∃ k', Y.length ≤ 3 ∧ (∀ c ∈ Y, kOk c) ∧ run tab (n+9) 2 [.ref 0] (ST ns k) = .ok (.tup (Y.map kcD)) (ST ns k') := by
  have gA : rsA (run tab (n+8)) [.dat (.ref 0), .em, .em, .em, .em, .em, .em, .em] (ST ns k) = .nx [.dat (.ref 0), .dat (ntD .p), .dat (ntD .q), .dat (dtD .t), .em, .em, .em, .em] (ST ns k) := by
    generalize run tab (n+8) = C
    rfl
  have mk : ∀ (c : Cl) (a : EvA) (e : Env), kOk c → a (run tab (n+8)) e (ST ns k) = .ok [.tup (c.L.map atD), .tup (c.T.map tsD)] (ST ns k) → stlE (newE "Clause" 15 a) (run tab (n+8)) e (ST ns k) = .ok (kcD c) (ST ns k) := fun c a e ok ha =>
    cl_new n ok.l1 (by have := ok.l2; omega) (by have := ok.t2; omega) ok.kn (ST ns k) (ST_no ns k) ha
  have e1 : a1 (run tab (n+8)) [.dat (.ref 0), .dat (ntD .p), .dat (ntD .q), .dat (dtD .t), .em, .em, .em, .em] (ST ns k) = .ok [.tup (ru1.L.map atD), .tup (ru1.T.map tsD)] (ST ns k) := by
    generalize run tab (n+8) = C
    rfl
  have g1 : asgS (.nm 4) (stlE (newE "Clause" 15 a1)) (run tab (n+8)) [.dat (.ref 0), .dat (ntD .p), .dat (ntD .q), .dat (dtD .t), .em, .em, .em, .em] (ST ns k) = .nx [.dat (.ref 0), .dat (ntD .p), .dat (ntD .q), .dat (dtD .t), .dat (kcD ru1), .em, .em, .em] (ST ns k) := asg_st (mk ru1 a1 _ (ru_ok ru1 (by simp)) e1) rfl
  have e2 : a2 (run tab (n+8)) [.dat (.ref 0), .dat (ntD .p), .dat (ntD .q), .dat (dtD .t), .dat (kcD ru1), .em, .em, .em] (ST ns k) = .ok [.tup (ru2.L.map atD), .tup (ru2.T.map tsD)] (ST ns k) := by
    generalize run tab (n+8) = C
    rfl
  have g2 : asgS (.nm 5) (stlE (newE "Clause" 15 a2)) (run tab (n+8)) [.dat (.ref 0), .dat (ntD .p), .dat (ntD .q), .dat (dtD .t), .dat (kcD ru1), .em, .em, .em] (ST ns k) = .nx [.dat (.ref 0), .dat (ntD .p), .dat (ntD .q), .dat (dtD .t), .dat (kcD ru1), .dat (kcD ru2), .em, .em] (ST ns k) := asg_st (mk ru2 a2 _ (ru_ok ru2 (by simp)) e2) rfl
  have e3 : a3 (run tab (n+8)) [.dat (.ref 0), .dat (ntD .p), .dat (ntD .q), .dat (dtD .t), .dat (kcD ru1), .dat (kcD ru2), .em, .em] (ST ns k) = .ok [.tup (ru3.L.map atD), .tup (ru3.T.map tsD)] (ST ns k) := by
    generalize run tab (n+8) = C
    rfl
  have g3 : asgS (.nm 6) (stlE (newE "Clause" 15 a3)) (run tab (n+8)) [.dat (.ref 0), .dat (ntD .p), .dat (ntD .q), .dat (dtD .t), .dat (kcD ru1), .dat (kcD ru2), .em, .em] (ST ns k) = .nx [.dat (.ref 0), .dat (ntD .p), .dat (ntD .q), .dat (dtD .t), .dat (kcD ru1), .dat (kcD ru2), .dat (kcD ru3), .em] (ST ns k) := asg_st (mk ru3 a3 _ (ru_ok ru3 (by simp)) e3) rfl
  obtain ⟨Y, k', hY, hl, eL⟩ := rs_loop ns hs (n+7) (.dat (ntD .p)) (.dat (ntD .q)) (.dat (dtD .t)) (.dat (kcD ru1)) (.dat (kcD ru2)) (.dat (kcD ru3)) [ru1, ru2, ru3] k
  refine ⟨Y, k', hl, fun c hc => ru_ok c (hY c hc), ?_⟩
  have sq : seqI (bltE tupG (consA (varE 4) (consA (varE 5) (consA (varE 6) nilA)))) (run tab (n+8)) [.dat (.ref 0), .dat (ntD .p), .dat (ntD .q), .dat (dtD .t), .dat (kcD ru1), .dat (kcD ru2), .dat (kcD ru3), .em] (ST ns k) = .ok ([ru1, ru2, ru3].map kcD) (ST ns k) := by
    generalize run tab (n+8) = C
    rfl
  have lc : lcF (seqI (bltE tupG (consA (varE 4) (consA (varE 5) (consA (varE 6) nilA))))) (.nm 7) rsT (varE 7) [7] (run tab (n+8)) [.dat (.ref 0), .dat (ntD .p), .dat (ntD .q), .dat (dtD .t), .dat (kcD ru1), .dat (kcD ru2), .dat (kcD ru3), .em] (ST ns k) = .ok (Y.map kcD) (ST ns k') := lcF_ok ns hs sq eL
  rw [t2, rs_body, seq_go gA, seq_go g1, seq_go g2, seq_go g3]
  unfold rsR
  exact congrArg endS (ret_of (tuple_of (frz_of lc)))
end
end Dn.K47
/-! Clauses as words, by the program and by the law. -/
namespace Dn.K47
open PySem L2
def wdE : EvE := (bin addA (bin addA (bin addA (bin addA (brwE 2) (conE (.str "("))) (tmE joinT (conE (.str ",")) (frzE (lcF (seqI (varE 3)) (.nm 9) yesT (fnE 17 (consA (varE 9) nilA)) [9])))) (conE (.str ")@"))) (fnE 17 (consA (varE 4) nilA)))
def twE : EvE := (bin addA (bin addA (fnE 17 (consA (varE 7) nilA)) (bin ixDG (brwE 5) (brwE 6))) (fnE 17 (consA (varE 8) nilA)))
def sgD : D := .dct [(.str "less", .str "<"), (.str "most", .str "<="), (.str "same", .str "="), (.str "unlike", .str "!=")]
theorem wdE_ok (n : Nat) (a : At) (c0 c1 : Cell) (m : Store) : wdE (run tab (n+1)) [c0, c1, .dat (.str (atS a)), .dat (.tup ((atN a).map ntD)), .dat (dtD (atY a)), .em, .em, .em, .em, .em] m = .ok (.str (atT a)) m := by
  cases a with
  | lives a b d => cases a <;> cases b <;> cases d <;> kernel_rfl
  | pays a d => cases a <;> cases d <;> kernel_rfl
theorem twE_ok (n : Nat) (t : Ts) (c0 c1 c2 c3 c4 : Cell) (m : Store) : twE (run tab (n+1)) [c0, c1, c2, c3, c4, .dat sgD, .dat (.str (tsW t)), .dat (tmD (tsA t)), .dat (tmD (tsB t)), .em] m = .ok (.str (tsT t)) m := by
  cases t with
  | nm s a b => cases s <;> cases a <;> cases b <;> kernel_rfl
  | dy k a b => cases k <;> cases a <;> cases b <;> kernel_rfl
def wA : EvS := (forS (seqI (fldE "Clause" "atoms" (varE 0))) (.tp [(.nm 2), (.nm 3), (.nm 4)]) (appS 1 wdE))
def wB : EvS := (asgS (.nm 5) (dctE (dispD [((conE (.str "less")), (conE (.str "<"))), ((conE (.str "most")), (conE (.str "<="))), ((conE (.str "same")), (conE (.str "="))), ((conE (.str "unlike")), (conE (.str "!=")))])))
def wC : EvS := (retS (bin addA (brwE 1) (frzE (lcF (seqI (fldE "Clause" "tests" (varE 0))) (.tp [(.nm 6), (.nm 7), (.nm 8)]) yesT twE [6, 7, 8]))))
theorem words_body : B_law_words = seqS (ownS 1 (bltF lstG nilA)) (seqS wA (seqS wB wC)) := rfl
theorem t4 (n : Nat) (x : D) (m : Store) : run tab (n+1) 4 [x] m = endS (B_law_words (run tab n) [.dat x, .em, .em, .em, .em, .em, .em, .em, .em, .em] m) := by
  have h : tab 4 = some ⟨1, 10, B_law_words⟩ := rfl
  simp only [run, h]
  rfl
theorem t3 (n : Nat) (x : D) (m : Store) : run tab (n+1) 3 [x] m = endS (B_clause_text (run tab n) [.dat x, .em, .em] m) := by
  have h : tab 3 = some ⟨1, 3, B_clause_text⟩ := rfl
  simp only [run, h]
  rfl
abbrev stD (l : List Str) : List D := l.map D.str
def txM (c : Cl) : List Str := c.L.map atT ++ c.T.map tsT
theorem fld_a (c : Cl) (m : Store) : fldG "Clause" "atoms" m (kcD c) = some (.tup (c.L.map atD)) := by kernel_rfl
theorem fld_t (c : Cl) (m : Store) : fldG "Clause" "tests" m (kcD c) = some (.tup (c.T.map tsD)) := by kernel_rfl
theorem wA_loop (n : Nat) (m : Store) (c0 : Cell) : ∀ (L : List At) (l : List Str) (c2 c3 c4 : Cell), l.length + L.length ≤ 100 → ∃ c2' c3' c4', forL (run tab (n+1)) (.tp [(.nm 2), (.nm 3), (.nm 4)]) (appS 1 wdE) (L.map atD) [c0, .own (.lst (stD l)), c2, c3, c4, .em, .em, .em, .em, .em] m =
    .nx [c0, .own (.lst (stD (l ++ L.map atT))), c2', c3', c4', .em, .em, .em, .em, .em] m
  | [], l, c2, c3, c4, _ => ⟨c2, c3, c4, by
    have e : l ++ ([] : List At).map atT = l := by simp
    rw [e]
    rfl⟩
  | a :: L, l, c2, c3, c4, h => by
    rw [List.length_cons] at h
    have w := wdE_ok n a c0 (.own (.lst (stD l))) m
    have hL : (101 : Nat) ≤ LIM := by decide
    have b := app_ok (i := 1) (xs := stD l) (e := [c0, .own (.lst (stD l)), .dat (.str (atS a)), .dat (.tup ((atN a).map ntD)), .dat (dtD (atY a)), .em, .em, .em, .em, .em]) rfl w (by rw [List.length_map]; omega)
    have em : stD l ++ [D.str (atT a)] = stD (l ++ [atT a]) := by
      unfold stD
      rw [List.map_append]
      rfl
    rw [em] at b
    obtain ⟨c2', c3', c4', ih⟩ := wA_loop n m c0 L (l ++ [atT a]) (.dat (.str (atS a))) (.dat (.tup ((atN a).map ntD))) (.dat (dtD (atY a))) (by rw [List.length_append, List.length_singleton]; omega)
    refine ⟨c2', c3', c4', ?_⟩
    have s0 : forL (run tab (n+1)) (.tp [(.nm 2), (.nm 3), (.nm 4)]) (appS 1 wdE) ((a :: L).map atD) [c0, .own (.lst (stD l)), c2, c3, c4, .em, .em, .em, .em, .em] m = match appS 1 wdE (run tab (n+1)) [c0, .own (.lst (stD l)), .dat (.str (atS a)), .dat (.tup ((atN a).map ntD)), .dat (dtD (atY a)), .em, .em, .em, .em, .em] m with
      | .nx e2 m2 => forL (run tab (n+1)) (.tp [(.nm 2), (.nm 3), (.nm 4)]) (appS 1 wdE) (L.map atD) e2 m2
      | .ct e2 m2 => forL (run tab (n+1)) (.tp [(.nm 2), (.nm 3), (.nm 4)]) (appS 1 wdE) (L.map atD) e2 m2
      | .brk e2 m2 => .nx e2 m2
      | r => r := by
      rw [List.map_cons, atD_eq]
      rfl
    rw [s0, b]
    have e2 : l ++ (a :: L).map atT = (l ++ [atT a]) ++ L.map atT := by simp
    rw [e2]
    exact ih
theorem words_ok (n : Nat) (c : Cl) (h1 : c.L.length ≤ 50) (h2 : c.T.length ≤ 50) (m : Store) : run tab (n+2) 4 [kcD c] m = .ok (.lst (stD (txM c))) m := by
  rw [t4, words_body]
  have g0 : ownS 1 (bltF lstG nilA) (run tab (n+1)) [.dat (kcD c), .em, .em, .em, .em, .em, .em, .em, .em, .em] m = .nx [.dat (kcD c), .own (.lst (stD [])), .em, .em, .em, .em, .em, .em, .em, .em] m := rfl
  obtain ⟨c2, c3, c4, lp⟩ := wA_loop n m (.dat (kcD c)) c.L [] .em .em .em (by simp; omega)
  rw [List.nil_append] at lp
  have gA : wA (run tab (n+1)) [.dat (kcD c), .own (.lst (stD [])), .em, .em, .em, .em, .em, .em, .em, .em] m = .nx [.dat (kcD c), .own (.lst (stD (c.L.map atT))), c2, c3, c4, .em, .em, .em, .em, .em] m := by
    unfold wA forS seqI fldE una
    simp only [varE, List.getElem?_cons_zero, R.bind_ok, fld_a, R.of_some, itemsOf, liftS_ok]
    exact lp
  have gB : wB (run tab (n+1)) [.dat (kcD c), .own (.lst (stD (c.L.map atT))), c2, c3, c4, .em, .em, .em, .em, .em] m = .nx [.dat (kcD c), .own (.lst (stD (c.L.map atT))), c2, c3, c4, .dat sgD, .em, .em, .em, .em] m := by
    generalize run tab (n+1) = C
    kernel_rfl
  rw [seq_go g0, seq_go gA, seq_go gB]
  have lc := lcL_all (C := run tab (n+1)) (g := .tp [(.nm 6), (.nm 7), (.nm 8)]) (te := twE) (e := [.dat (kcD c), .own (.lst (stD (c.L.map atT))), c2, c3, c4, .dat sgD, .em, .em, .em, .em]) (m := m) (f := tsD) (h := fun t => D.str (tsT t)) (l := c.T) fun t ht => ⟨[.dat (kcD c), .own (.lst (stD (c.L.map atT))), c2, c3, c4, .dat sgD, .dat (.str (tsW t)), .dat (tmD (tsA t)), .dat (tmD (tsB t)), .em], by rw [tsD_eq]; rfl, twE_ok n t _ _ _ _ _ m⟩
  have em : c.T.map (fun t => D.str (tsT t)) = stD (c.T.map tsT) := by
    unfold stD
    rw [List.map_map]
    rfl
  rw [em] at lc
  have ad : addA m (.lst (stD (c.L.map atT))) (.lst (stD (c.T.map tsT))) = some (.lst (stD (txM c))) := by
    rw [addA_lst _ _ _ (by simp; omega)]
    unfold txM stD
    rw [List.map_append]
  unfold wC
  simp only [retS, bin, brwE, frzE, lcF, seqI, fldE, una, varE, List.getElem?_cons_succ, List.getElem?_cons_zero, R.bind_ok, fld_t, R.of_some, itemsOf, wipeE, List.set_cons_succ, List.set_cons_zero, lc, ad, liftS_ok, endS]
theorem sum_le : ∀ l : List Str, (∀ s ∈ l, s.length ≤ 40) → (l.map (·.length)).sum ≤ 40 * l.length
  | [], _ => by simp
  | s :: l, h => by
    have h1 := h s List.mem_cons_self
    have h2 := sum_le l fun x hx => h x (List.mem_cons_of_mem _ hx)
    simp only [List.map_cons, List.sum_cons, List.length_cons]
    omega
theorem toStrs_map : ∀ l : List Str, toStrs (stD l) = some l
  | [] => rfl
  | s :: l => by
    show (toStrs (stD l)).map (fun is => s :: is) = _
    rw [toStrs_map l]
    rfl
theorem tx_len (c : Cl) : ∀ s ∈ txM c, s.length ≤ 40 := fun s hs => by
  rcases List.mem_append.mp hs with h | h
  · obtain ⟨a, _, rfl⟩ := List.mem_map.mp h
    exact atT_len a
  · obtain ⟨a, _, rfl⟩ := List.mem_map.mp h
    exact tsT_len a
theorem join_ok (c : Cl) (h1 : c.L.length ≤ 50) (h2 : c.T.length ≤ 50) (m : Store) : joinT m " " (.lst (stD (txM c))) = some (.str (Txt.join " " (txM c))) := by
  have s := sum_le (txM c) (tx_len c)
  have l : (txM c).length ≤ 100 := by
    unfold txM
    rw [List.length_append, List.length_map, List.length_map]
    omega
  have one : (" " : Str).length = 1 := by decide +kernel
  show (toStrs (stD (txM c))).bind (fun ys => if (ys.map (·.length)).sum + ys.length * (" " : Str).length ≤ 16777216 then some (D.str (Txt.join " " ys)) else none) = _
  rw [toStrs_map, Option.bind_some, if_pos (by rw [one]; omega)]
theorem ctext_ok (n : Nat) (c : Cl) (h1 : c.L.length ≤ 50) (h2 : c.T.length ≤ 50) (m : Store) : run tab (n+4) 3 [kcD c] m = .ok (.str (Txt.join " " (txM c))) m := by
  have lcA := lcL_all (C := run tab (n+3)) (g := .nm 1) (te := fnE 6 (consA (varE 1) nilA)) (e := [.dat (kcD c), .em, .em]) (m := m) (f := atD) (h := fun a => D.str (atT a)) (l := c.L) fun a ha => ⟨[.dat (kcD c), .dat (atD a), .em], rfl, by
    have := atext_ok n a m
    simp only [fnE, consA, nilA, varE, List.getElem?_cons_succ, List.getElem?_cons_zero, R.bind_ok, this]⟩
  have lcT := lcL_all (C := run tab (n+3)) (g := .nm 2) (te := fnE 8 (consA (varE 2) nilA)) (e := [.dat (kcD c), .em, .em]) (m := m) (f := tsD) (h := fun a => D.str (tsT a)) (l := c.T) fun a ha => ⟨[.dat (kcD c), .em, .dat (tsD a)], rfl, by
    have := ttext_ok n a m
    simp only [fnE, consA, nilA, varE, List.getElem?_cons_succ, List.getElem?_cons_zero, R.bind_ok, this]⟩
  have j := join_ok c h1 h2 m
  have em : c.L.map (fun a => D.str (atT a)) ++ c.T.map (fun a => D.str (tsT a)) = stD (txM c) := by
    unfold txM stD
    rw [List.map_append, List.map_map, List.map_map]
    rfl
  have sh : short (stD (txM c)) = true := by
    have : (txM c).length ≤ 100 := by
      unfold txM
      rw [List.length_append, List.length_map, List.length_map]
      omega
    unfold short
    simp
    omega
  rw [t3]
  unfold B_clause_text
  simp only [retS, tmE, conE, isStr, R.of_some, R.bind_ok, frzE, bltF, starA, seqOnly, noStr, if_true, nilA, lcF, seqI, fldE, una, varE, List.getElem?_cons_zero, fld_a, fld_t, itemsOf, wipeE, List.set_cons_succ, List.set_cons_zero, lcA, lcT, List.append_nil, em, lstG, sh, j, liftS_ok, endS]
end Dn.K47
/-! The law's walk over clauses. -/
namespace Dn.K47
open PySem L2
abbrev EL (ns : List Int) (c2 c3 c4 c5 c6 c7 c8 c9 c10 : Cell) : Env := [.dat (sc ns), .dat (.ref 0), c2, c3, c4, c5, c6, c7, c8, c9, c10, .em, .em, .em]
def falS : EvS := retS (conE (.bl false))
def lT : EvT := (blT (bin neG (fnE 3 (consA (varE 3) nilA)) (tmE joinT (conE (.str " ")) (fnE 4 (consA (varE 3) nilA)))))
def lD : EvS := (asgS (.nm 8) (frzE (lcF (seqI (fldE "Clause" "atoms" (varE 3))) (.tp [(.nm 11), (.nm 12), (.nm 13)]) (blT (bin eqG (bin ixG (brwE 13) (conE (.int 0))) (conE (.str "when")))) (bin ixG (brwE 13) (conE (.int 1))) [11, 12, 13])))
def lA1 : EvT := (blT (bin neG (fnE 5 (consA (fnE 6 (consA (varE 9) nilA)) nilA)) (brwE 9)))
def lA : EvS := (forS (seqI (fldE "Clause" "atoms" (varE 3))) (.nm 9) (ifS lA1 falS nxS))
def lT1 : EvT := (blT (bin neG (fnE 7 (consA (fnE 8 (consA (varE 10) nilA)) (consA (varE 8) nilA))) (brwE 10)))
def lTs : EvS := (forS (seqI (fldE "Clause" "tests" (varE 3))) (.nm 10) (ifS lT1 falS nxS))
def lB : EvS := seqS (ifS lT falS nxS) (seqS lD (seqS lA lTs))
theorem neAt (a : At) (m : Store) : neG m (atD a) (atD a) = some (.bl false) := by
  cases a with
  | lives a b d => cases a <;> cases b <;> cases d <;> kernel_rfl
  | pays a d => cases a <;> cases d <;> kernel_rfl
theorem neTs (t : Ts) (m : Store) : neG m (tsD t) (tsD t) = some (.bl false) := by
  cases t with
  | nm s a b => cases s <;> cases a <;> cases b <;> kernel_rfl
  | dy k a b => cases k <;> cases a <;> cases b <;> kernel_rfl
theorem neStr (s : Str) (h : PyData.strOk s = true) (m : Store) : neG m (.str s) (.str s) = some (.bl false) := by
  have sh : SeqAt.shaped (.str s) = true := by
    simp [SeqAt.shaped, PyData.canLay0, PyData.depth, h]
  rw [neG_ok (p := .str s) (q := .str s) (by simp [toP]) (by simp [toP]) sh sh]
  simp [PyData.eqv]
def dayK (a : At) : Bool := (dvA a).isSome
def dayH (a : At) : D := .str (tuS (decide (atY a = .t)))
theorem day_map : ∀ L : List At, (L.filter dayK).map dayH = (dvL L).map fun b => D.str (tuS b)
  | [] => rfl
  | a :: L => by
    have ih := day_map L
    unfold dvL at ih ⊢
    rw [List.filterMap_cons]
    cases h : atY a with
    | t =>
      have e : dvA a = some true := by unfold dvA; rw [h]
      have k : dayK a = true := by unfold dayK; rw [e]; rfl
      rw [List.filter_cons_of_pos k, e, List.map_cons, ih]
      unfold dayH
      rw [h]
      rfl
    | u =>
      have e : dvA a = some false := by unfold dvA; rw [h]
      have k : dayK a = true := by unfold dayK; rw [e]; rfl
      rw [List.filter_cons_of_pos k, e, List.map_cons, ih]
      unfold dayH
      rw [h]
      rfl
    | now =>
      have e : dvA a = none := by unfold dvA; rw [h]
      have k : ¬ dayK a = true := by unfold dayK; rw [e]; simp
      rw [List.filter_cons_of_neg k, e, ih]
    | d3 =>
      have e : dvA a = none := by unfold dvA; rw [h]
      have k : ¬ dayK a = true := by unfold dayK; rw [e]; simp
      rw [List.filter_cons_of_neg k, e, ih]
    | d5 =>
      have e : dvA a = none := by unfold dvA; rw [h]
      have k : ¬ dayK a = true := by unfold dayK; rw [e]; simp
      rw [List.filter_cons_of_neg k, e, ih]
    | d6 =>
      have e : dvA a = none := by unfold dvA; rw [h]
      have k : ¬ dayK a = true := by unfold dayK; rw [e]; simp
      rw [List.filter_cons_of_neg k, e, ih]
theorem dv_len (L : List At) : (dvL L).length ≤ L.length := List.length_filterMap_le _ _
section
variable (n : Nat) (ns : List Int) (m : Store) (c2 c4 c5 c6 c7 : Cell) (c : Cl) (ok : kOk c)
include ok
theorem lT_ok (c8 c9 c10 : Cell) (hs : PyData.strOk (Txt.join " " (txM c)) = true) : ifS lT falS nxS (run tab (n+6)) (EL ns c2 (.dat (kcD c)) c4 c5 c6 c7 c8 c9 c10) m = .nx (EL ns c2 (.dat (kcD c)) c4 c5 c6 c7 c8 c9 c10) m := by
  have h1 := ok.l2
  have h2 := ok.t2
  have t := ctext_ok (n+2) c (by omega) (by omega) m
  have w := words_ok (n+4) c (by omega) (by omega) m
  have j := join_ok c (by omega) (by omega) m
  have q := neStr _ hs m
  unfold lT
  simp only [ifS, blT, bin, fnE, tmE, consA, nilA, varE, conE, isStr, List.getElem?_cons_succ, List.getElem?_cons_zero, R.bind_ok, R.of_some, t, w, j, q, isB, Bool.false_eq_true, if_false, liftS_ok]
  rfl
theorem lD_ok (c8 c9 c10 : Cell) : lD (run tab (n+6)) (EL ns c2 (.dat (kcD c)) c4 c5 c6 c7 c8 c9 c10) m = .nx (EL ns c2 (.dat (kcD c)) c4 c5 c6 c7 (.dat (dvD (dvL c.L))) c9 c10) m := by
  have lc := lcL_map (C := run tab (n+6)) (g := .tp [(.nm 11), (.nm 12), (.nm 13)]) (tt := blT (bin eqG (bin ixG (brwE 13) (conE (.int 0))) (conE (.str "when")))) (te := bin ixG (brwE 13) (conE (.int 1))) (e := EL ns c2 (.dat (kcD c)) c4 c5 c6 c7 c8 c9 c10) (m := m) (f := atD) (h := dayH) (keep := dayK) (l := c.L) fun a ha => ⟨[.dat (sc ns), .dat (.ref 0), c2, .dat (kcD c), c4, c5, c6, c7, c8, c9, c10, .dat (.str (atS a)), .dat (.tup ((atN a).map ntD)), .dat (dtD (atY a))], by rw [atD_eq]; rfl, by
    unfold dayK dvA
    generalize run tab (n+6) = C
    cases atY a <;> kernel_rfl, fun hk => by
    unfold dayK dvA at hk
    unfold dayH
    generalize run tab (n+6) = C
    cases h : atY a with
    | t => kernel_rfl
    | u => kernel_rfl
    | now => rw [h] at hk; cases hk
    | d3 => rw [h] at hk; cases hk
    | d5 => rw [h] at hk; cases hk
    | d6 => rw [h] at hk; cases hk⟩
  rw [day_map] at lc
  have e : seqI (fldE "Clause" "atoms" (varE 3)) (run tab (n+6)) (EL ns c2 (.dat (kcD c)) c4 c5 c6 c7 c8 c9 c10) m = .ok (c.L.map atD) m := by
    simp only [seqI, fldE, una, varE, List.getElem?_cons_succ, List.getElem?_cons_zero, R.bind_ok, fld_a, R.of_some, itemsOf]
  exact asg_frz (by
    unfold lcF
    rw [e]
    exact lc) rfl
theorem lA_loop (c8 c10 : Cell) : ∀ (L : List At) (c9 : Cell), ∃ c9', forL (run tab (n+6)) (.nm 9) (ifS lA1 falS nxS) (L.map atD) (EL ns c2 (.dat (kcD c)) c4 c5 c6 c7 c8 c9 c10) m = .nx (EL ns c2 (.dat (kcD c)) c4 c5 c6 c7 c8 c9' c10) m
  | [], c9 => ⟨c9, rfl⟩
  | a :: L, c9 => by
    have t1 := atext_ok (n+3) a m
    have t2 := aof_ok (n+1) a m
    have q := neAt a m
    obtain ⟨c9', ih⟩ := lA_loop c8 c10 L (.dat (atD a))
    refine ⟨c9', ?_⟩
    have b : ifS lA1 falS nxS (run tab (n+6)) (EL ns c2 (.dat (kcD c)) c4 c5 c6 c7 c8 (.dat (atD a)) c10) m = .nx (EL ns c2 (.dat (kcD c)) c4 c5 c6 c7 c8 (.dat (atD a)) c10) m := by
      unfold lA1
      simp only [ifS, blT, bin, fnE, consA, nilA, varE, brwE, List.getElem?_cons_succ, List.getElem?_cons_zero, R.bind_ok, R.of_some, t1, t2, q, isB, Bool.false_eq_true, if_false, liftS_ok]
      rfl
    have s0 : forL (run tab (n+6)) (.nm 9) (ifS lA1 falS nxS) ((a :: L).map atD) (EL ns c2 (.dat (kcD c)) c4 c5 c6 c7 c8 c9 c10) m = match ifS lA1 falS nxS (run tab (n+6)) (EL ns c2 (.dat (kcD c)) c4 c5 c6 c7 c8 (.dat (atD a)) c10) m with
      | .nx e2 m2 => forL (run tab (n+6)) (.nm 9) (ifS lA1 falS nxS) (L.map atD) e2 m2
      | .ct e2 m2 => forL (run tab (n+6)) (.nm 9) (ifS lA1 falS nxS) (L.map atD) e2 m2
      | .brk e2 m2 => .nx e2 m2
      | r => r := rfl
    rw [s0, b]
    exact ih
theorem lT_loop (c9 : Cell) : ∀ (T : List Ts) (c10 : Cell), (∀ t ∈ T, tsOk (dvL c.L) t = true) → ∃ c10', forL (run tab (n+6)) (.nm 10) (ifS lT1 falS nxS) (T.map tsD) (EL ns c2 (.dat (kcD c)) c4 c5 c6 c7 (.dat (dvD (dvL c.L))) c9 c10) m = .nx (EL ns c2 (.dat (kcD c)) c4 c5 c6 c7 (.dat (dvD (dvL c.L))) c9 c10') m
  | [], c10, _ => ⟨c10, rfl⟩
  | a :: T, c10, h => by
    have t1 := ttext_ok (n+3) a m
    have dl := dv_len c.L
    have h1 := ok.l2
    have t2 := tof_ok n a (dvL c.L) (by omega) (h a List.mem_cons_self) m
    have q := neTs a m
    obtain ⟨c10', ih⟩ := lT_loop c9 T (.dat (tsD a)) fun x hx => h x (List.mem_cons_of_mem _ hx)
    refine ⟨c10', ?_⟩
    have b : ifS lT1 falS nxS (run tab (n+6)) (EL ns c2 (.dat (kcD c)) c4 c5 c6 c7 (.dat (dvD (dvL c.L))) c9 (.dat (tsD a))) m = .nx (EL ns c2 (.dat (kcD c)) c4 c5 c6 c7 (.dat (dvD (dvL c.L))) c9 (.dat (tsD a))) m := by
      unfold lT1
      simp only [ifS, blT, bin, fnE, consA, nilA, varE, brwE, List.getElem?_cons_succ, List.getElem?_cons_zero, R.bind_ok, R.of_some, t1, t2, q, isB, Bool.false_eq_true, if_false, liftS_ok]
      rfl
    have s0 : forL (run tab (n+6)) (.nm 10) (ifS lT1 falS nxS) ((a :: T).map tsD) (EL ns c2 (.dat (kcD c)) c4 c5 c6 c7 (.dat (dvD (dvL c.L))) c9 c10) m = match ifS lT1 falS nxS (run tab (n+6)) (EL ns c2 (.dat (kcD c)) c4 c5 c6 c7 (.dat (dvD (dvL c.L))) c9 (.dat (tsD a))) m with
      | .nx e2 m2 => forL (run tab (n+6)) (.nm 10) (ifS lT1 falS nxS) (T.map tsD) e2 m2
      | .ct e2 m2 => forL (run tab (n+6)) (.nm 10) (ifS lT1 falS nxS) (T.map tsD) e2 m2
      | .brk e2 m2 => .nx e2 m2
      | r => r := rfl
    rw [s0, b]
    exact ih
theorem lB_ok (c8 c9 c10 : Cell) (hs : PyData.strOk (Txt.join " " (txM c)) = true) : ∃ c8' c9' c10', lB (run tab (n+6)) (EL ns c2 (.dat (kcD c)) c4 c5 c6 c7 c8 c9 c10) m = .nx (EL ns c2 (.dat (kcD c)) c4 c5 c6 c7 c8' c9' c10') m := by
  obtain ⟨c9', eA⟩ := lA_loop n ns m c2 c4 c5 c6 c7 c ok (.dat (dvD (dvL c.L))) c10 c.L c9
  obtain ⟨c10', eT⟩ := lT_loop n ns m c2 c4 c5 c6 c7 c ok c9' c.T c10 ok.dy
  refine ⟨.dat (dvD (dvL c.L)), c9', c10', ?_⟩
  have gA : lA (run tab (n+6)) (EL ns c2 (.dat (kcD c)) c4 c5 c6 c7 (.dat (dvD (dvL c.L))) c9 c10) m = .nx (EL ns c2 (.dat (kcD c)) c4 c5 c6 c7 (.dat (dvD (dvL c.L))) c9' c10) m := by
    unfold lA forS seqI fldE una
    simp only [varE, List.getElem?_cons_succ, List.getElem?_cons_zero, R.bind_ok, fld_a, R.of_some, itemsOf, liftS_ok]
    exact eA
  have gT : lTs (run tab (n+6)) (EL ns c2 (.dat (kcD c)) c4 c5 c6 c7 (.dat (dvD (dvL c.L))) c9' c10) m = .nx (EL ns c2 (.dat (kcD c)) c4 c5 c6 c7 (.dat (dvD (dvL c.L))) c9' c10') m := by
    unfold lTs forS seqI fldE una
    simp only [varE, List.getElem?_cons_succ, List.getElem?_cons_zero, R.bind_ok, fld_t, R.of_some, itemsOf, liftS_ok]
    exact eT
  unfold lB
  rw [seq_go (lT_ok n ns m c2 c4 c5 c6 c7 c ok c8 c9 c10 hs), seq_go (lD_ok n ns m c2 c4 c5 c6 c7 c ok c8 c9 c10), seq_go gA, gT]
end
end Dn.K47
/-! Joined texts are texts; the law's rows. -/
namespace Dn.K47
open PySem L2
theorem ok_app (a b : Str) (ha : PyData.strOk a = true) (hb : PyData.strOk b = true) : PyData.strOk (a ++ b) = true := by
  have e : (a ++ b).cps = a.cps ++ b.cps := rfl
  unfold PyData.strOk at *
  rw [e, Array.all_append, ha, hb]
  rfl
theorem ok_join0 (y : Str) (hy : PyData.strOk y = true) : ∀ l : List Str, (∀ s ∈ l, PyData.strOk s = true) → PyData.strOk (Str.join y l) = true
  | [], _ => by
    have e : PyData.strOk Str.empty = true := by decide +kernel
    exact e
  | [x], h => h x List.mem_cons_self
  | x :: z :: r, h => by
    have ih := ok_join0 y hy (z :: r) fun s hs => h s (List.mem_cons_of_mem _ hs)
    show PyData.strOk (x ++ y ++ Str.join y (z :: r)) = true
    exact ok_app _ _ (ok_app _ _ (h x List.mem_cons_self) hy) ih
theorem ok_join (y : Str) (hy : PyData.strOk y = true) (l : List Str) (h : ∀ s ∈ l, PyData.strOk s = true) : PyData.strOk (Txt.join y l) = true := by
  rw [TL.join_eq]
  exact ok_join0 y hy l h
theorem ok_at (a : At) : PyData.strOk (atT a) = true := by
  cases a with
  | lives a b d => cases a <;> cases b <;> cases d <;> decide +kernel
  | pays a d => cases a <;> cases d <;> decide +kernel
theorem ok_ts (a : Ts) : PyData.strOk (tsT a) = true := by
  cases a with
  | nm s a b => cases s <;> cases a <;> cases b <;> decide +kernel
  | dy k a b => cases k <;> cases a <;> cases b <;> decide +kernel
theorem ok_tx (c : Cl) : PyData.strOk (Txt.join " " (txM c)) = true := ok_join _ (by decide +kernel) _ fun s hs => by
  rcases List.mem_append.mp hs with h | h
  · obtain ⟨a, _, rfl⟩ := List.mem_map.mp h
    exact ok_at a
  · obtain ⟨a, _, rfl⟩ := List.mem_map.mp h
    exact ok_ts a
theorem lB_loop (n : Nat) (ns : List Int) (m : Store) (c2 c4 c5 c6 c7 : Cell) : ∀ (X : List Cl) (c3 c8 c9 c10 : Cell), (∀ c ∈ X, kOk c) → ∃ c3' c8' c9' c10', forL (run tab (n+6)) (.nm 3) lB (X.map kcD) (EL ns c2 c3 c4 c5 c6 c7 c8 c9 c10) m = .nx (EL ns c2 c3' c4 c5 c6 c7 c8' c9' c10') m
  | [], c3, c8, c9, c10, _ => ⟨c3, c8, c9, c10, rfl⟩
  | c :: X, c3, c8, c9, c10, h => by
    obtain ⟨d8, d9, d10, b⟩ := lB_ok n ns m c2 c4 c5 c6 c7 c (h c List.mem_cons_self) c8 c9 c10 (ok_tx c)
    obtain ⟨c3', c8', c9', c10', ih⟩ := lB_loop n ns m c2 c4 c5 c6 c7 X (.dat (kcD c)) d8 d9 d10 fun x hx => h x (List.mem_cons_of_mem _ hx)
    refine ⟨c3', c8', c9', c10', ?_⟩
    have s0 : forL (run tab (n+6)) (.nm 3) lB ((c :: X).map kcD) (EL ns c2 c3 c4 c5 c6 c7 c8 c9 c10) m = match lB (run tab (n+6)) (EL ns c2 (.dat (kcD c)) c4 c5 c6 c7 c8 c9 c10) m with
      | .nx e2 m2 => forL (run tab (n+6)) (.nm 3) lB (X.map kcD) e2 m2
      | .ct e2 m2 => forL (run tab (n+6)) (.nm 3) lB (X.map kcD) e2 m2
      | .brk e2 m2 => .nx e2 m2
      | r => r := rfl
    rw [s0, b]
    exact ih
/-! ### the law's own rows -/
def r1 : List D := [.tup [.str "lives(ann,rome)@3", .tup [.str "lives", .tup [ntD .ann, ntD .rome], dtD .d3]]]
def r2 : List D := r1 ++ [.tup [.str "pays(?p)@now", .tup [.str "pays", .tup [ntD .p], dtD .now]]]
def w1 : List Str := ["lives", "lives()@3", "lives(ann,)@3", "lives(ann)@", "lives(ann)@03", "lives(ann)@?", "lives(Ann)@3", ""]
def w2 : List Str := ["lives(ann)@1000000", "(ann)@3", "Lives(ann)@3", "lives(a,b,c,d,e)@3", "(ann)@", "lives(ann)3"]
def nn (l : List Str) : List D := l.map fun s => .tup [.str s, .non]
def e1E : EvS := (ownS 4 (bltF lstG (consA (bltE tupG (consA (conE (.str "lives(ann,rome)@3")) (consA (bltE tupG (consA (conE (.str "lives")) (consA (bltE tupG (consA (bltE tupG (consA (conE (.str "name")) (consA (conE (.str "ann")) nilA))) (consA (bltE tupG (consA (conE (.str "name")) (consA (conE (.str "rome")) nilA))) nilA))) (consA (bltE tupG (consA (conE (.str "day")) (consA (conE (.int 3)) nilA))) nilA)))) nilA))) nilA)))
def e2E : EvS := (appS 4 (bltE tupG (consA (conE (.str "pays(?p)@now")) (consA (bltE tupG (consA (conE (.str "pays")) (consA (bltE tupG (consA (bltE tupG (consA (conE (.str "any")) (consA (conE (.str "p")) nilA))) nilA)) (consA (bltE tupG (consA (conE (.str "now")) nilA)) nilA)))) nilA))))
def ap4 : EvS := (appS 4 (bltE tupG (consA (varE 5) (consA (conE .non) nilA))))
def e3E : EvS := (forS (seqI (bltE tupG (consA (conE (.str "lives")) (consA (conE (.str "lives()@3")) (consA (conE (.str "lives(ann,)@3")) (consA (conE (.str "lives(ann)@")) (consA (conE (.str "lives(ann)@03")) (consA (conE (.str "lives(ann)@?")) (consA (conE (.str "lives(Ann)@3")) (consA (conE (.str "")) nilA)))))))))) (.nm 5) ap4)
def e4E : EvS := (forS (seqI (bltE tupG (consA (conE (.str "lives(ann)@1000000")) (consA (conE (.str "(ann)@3")) (consA (conE (.str "Lives(ann)@3")) (consA (conE (.str "lives(a,b,c,d,e)@3")) (consA (conE (.str "(ann)@")) (consA (conE (.str "lives(ann)3")) nilA)))))))) (.nm 5) ap4)
def e5B : EvS := (ifS (blT (bin neG (fnE 5 (consA (varE 5) nilA)) (brwE 6))) falS nxS)
def e5E : EvS := (forS (seqI (varE 4)) (.tp [(.nm 5), (.nm 6)]) e5B)
section
variable (n : Nat) (ns : List Int) (m : Store) (c2 c3 c8 c9 c10 : Cell)
theorem e1_ok (C : Orc) (c4 c5 c6 c7 : Cell) : e1E C (EL ns c2 c3 c4 c5 c6 c7 c8 c9 c10) m = .nx (EL ns c2 c3 (.own (.lst r1)) c5 c6 c7 c8 c9 c10) m := by kernel_rfl
theorem e2_ok (C : Orc) (c5 c6 c7 : Cell) : e2E C (EL ns c2 c3 (.own (.lst r1)) c5 c6 c7 c8 c9 c10) m = .nx (EL ns c2 c3 (.own (.lst r2)) c5 c6 c7 c8 c9 c10) m := by kernel_rfl
theorem e3_ok (C : Orc) (c5 c6 c7 : Cell) : e3E C (EL ns c2 c3 (.own (.lst r2)) c5 c6 c7 c8 c9 c10) m = .nx (EL ns c2 c3 (.own (.lst (r2 ++ nn w1))) (.dat (.str "")) c6 c7 c8 c9 c10) m := by kernel_rfl
theorem e4_ok (C : Orc) (c5 c6 c7 : Cell) : e4E C (EL ns c2 c3 (.own (.lst (r2 ++ nn w1))) c5 c6 c7 c8 c9 c10) m = .nx (EL ns c2 c3 (.own (.lst (r2 ++ nn w1 ++ nn w2))) (.dat (.str "lives(ann)3")) c6 c7 c8 c9 c10) m := by kernel_rfl
theorem e5_ok (c5 c6 c7 : Cell) : e5E (run tab (n+6)) (EL ns c2 c3 (.dat (.lst (r2 ++ nn w1 ++ nn w2))) c5 c6 c7 c8 c9 c10) m = .nx (EL ns c2 c3 (.dat (.lst (r2 ++ nn w1 ++ nn w2))) (.dat (.str "lives(ann)3")) (.dat .non) c7 c8 c9 c10) m := by kernel_rfl
end
end Dn.K47
/-! The law's own tests; the law's run. -/
namespace Dn.K47
open PySem L2
def s10 : EvS := (ownS 7 (bltF lstG (consA (bltE tupG (consA (conE (.str "?t<5")) (consA (bltE tupG (consA (conE (.str "less")) (consA (bltE tupG (consA (conE (.str "when")) (consA (conE (.str "t")) nilA))) (consA (bltE tupG (consA (conE (.str "day")) (consA (conE (.int 5)) nilA))) nilA)))) nilA))) (consA (bltE tupG (consA (conE (.str "5<=now")) (consA (bltE tupG (consA (conE (.str "most")) (consA (bltE tupG (consA (conE (.str "day")) (consA (conE (.int 5)) nilA))) (consA (bltE tupG (consA (conE (.str "now")) nilA)) nilA)))) nilA))) nilA))))
def s11 : EvS := (ownS 7 (binF catF (brwE 7) (frzE (bltF lstG (consA (bltE tupG (consA (conE (.str "?p!=ann")) (consA (bltE tupG (consA (conE (.str "unlike")) (consA (bltE tupG (consA (conE (.str "any")) (consA (conE (.str "p")) nilA))) (consA (bltE tupG (consA (conE (.str "name")) (consA (conE (.str "ann")) nilA))) nilA)))) nilA))) (consA (bltE tupG (consA (conE (.str "?p=?q")) (consA (bltE tupG (consA (conE (.str "same")) (consA (bltE tupG (consA (conE (.str "any")) (consA (conE (.str "p")) nilA))) (consA (bltE tupG (consA (conE (.str "any")) (consA (conE (.str "q")) nilA))) nilA)))) nilA))) nilA))))))
def s12 : EvS := (ownS 7 (binF catF (brwE 7) (frzE (bltF lstG (consA (bltE tupG (consA (conE (.str "?p=at")) (consA (bltE tupG (consA (conE (.str "same")) (consA (bltE tupG (consA (conE (.str "any")) (consA (conE (.str "p")) nilA))) (consA (bltE tupG (consA (conE (.str "name")) (consA (conE (.str "at")) nilA))) nilA)))) nilA))) (consA (bltE tupG (consA (conE (.str "au!=?q")) (consA (bltE tupG (consA (conE (.str "unlike")) (consA (bltE tupG (consA (conE (.str "name")) (consA (conE (.str "au")) nilA))) (consA (bltE tupG (consA (conE (.str "any")) (consA (conE (.str "q")) nilA))) nilA)))) nilA))) nilA))))))
def s13 : EvS := (appS 7 (bltE tupG (consA (conE (.str "?t=?u")) (consA (bltE tupG (consA (conE (.str "same")) (consA (bltE tupG (consA (conE (.str "when")) (consA (conE (.str "t")) nilA))) (consA (bltE tupG (consA (conE (.str "when")) (consA (conE (.str "u")) nilA))) nilA)))) nilA))))
def s14 : EvS := (forS (seqI (bltE tupG (consA (conE (.str "?t<")) (consA (conE (.str "<5")) (consA (conE (.str "?t")) (consA (conE (.str "?p<ann")) (consA (conE (.str "ann<=rome")) (consA (conE (.str "?t<ann")) (consA (conE (.str "?t<05")) (consA (conE (.str "?t==5")) (consA (conE (.str "")) (consA (conE (.str "?t<1000000")) nilA)))))))))))) (.nm 5)
  (appS 7 (bltE tupG (consA (varE 5) (consA (conE .non) nilA)))))
def s15 : EvS := (frzS 7)
def s16 : EvS := (forS (seqI (varE 7)) (.tp [(.nm 5), (.nm 6)])
  (ifS (blT (bin neG (fnE 7 (consA (varE 5) (consA (frzE (bltF lstG (consA (conE (.str "t")) (consA (conE (.str "u")) nilA)))) nilA))) (brwE 6)))
  (retS (conE (.bl false)))
  nxS))
def s17 : EvS := (retS (andE (bin eqG (fnE 9 (consA (frzE (bltF lstG (consA (bltE tupG (consA (conE (.str "ann")) (consA (conE (.str "rome")) nilA))) (consA (bltE tupG (consA (conE (.str "bob")) (consA (conE (.str "oslo")) nilA))) nilA)))) nilA)) (conE (.str "ann,rome;bob,oslo"))) (andE (bin eqG (fnE 9 (consA (frzE (bltF lstG (consA (bltE tupG nilA) nilA))) nilA)) (conE (.str "yes"))) (bin eqG (fnE 9 (consA (bltE tupG nilA) nilA)) (conE (.str "-"))))))
def row (s : Str) (d : D) : D := .tup [.str s, d]
def q10 : List D := [row "?t<5" (tsD (.dy .less .t .d5)), row "5<=now" (tsD (.dy .most .d5 .now))]
def q11 : List D := q10 ++ [row "?p!=ann" (tsD (.nm false .p .ann)), row "?p=?q" (tsD (.nm true .p .q))]
def q12 : List D := q11 ++ [row "?p=at" (.tup [.str "same", ntD .p, .tup [.str "name", .str "at"]]), row "au!=?q" (.tup [.str "unlike", .tup [.str "name", .str "au"], ntD .q])]
def q13 : List D := q12 ++ [row "?t=?u" (tsD (.dy .same .t .u))]
def w3 : List Str := ["?t<", "<5", "?t", "?p<ann", "ann<=rome", "?t<ann", "?t<05", "?t==5", "", "?t<1000000"]
section
variable (n : Nat) (ns : List Int) (m : Store) (c2 c3 c4 c8 c9 c10 : Cell)
theorem s10_ok (C : Orc) (c5 c6 c7 : Cell) : s10 C (EL ns c2 c3 c4 c5 c6 c7 c8 c9 c10) m = .nx (EL ns c2 c3 c4 c5 c6 (.own (.lst q10)) c8 c9 c10) m := by kernel_rfl
theorem s11_ok (C : Orc) (c5 c6 : Cell) : s11 C (EL ns c2 c3 c4 c5 c6 (.own (.lst q10)) c8 c9 c10) m = .nx (EL ns c2 c3 c4 c5 c6 (.own (.lst q11)) c8 c9 c10) m := by kernel_rfl
theorem s12_ok (C : Orc) (c5 c6 : Cell) : s12 C (EL ns c2 c3 c4 c5 c6 (.own (.lst q11)) c8 c9 c10) m = .nx (EL ns c2 c3 c4 c5 c6 (.own (.lst q12)) c8 c9 c10) m := by kernel_rfl
theorem s13_ok (C : Orc) (c5 c6 : Cell) : s13 C (EL ns c2 c3 c4 c5 c6 (.own (.lst q12)) c8 c9 c10) m = .nx (EL ns c2 c3 c4 c5 c6 (.own (.lst q13)) c8 c9 c10) m := by kernel_rfl
theorem s14_ok (C : Orc) (c5 c6 : Cell) : s14 C (EL ns c2 c3 c4 c5 c6 (.own (.lst q13)) c8 c9 c10) m = .nx (EL ns c2 c3 c4 (.dat (.str "?t<1000000")) c6 (.own (.lst (q13 ++ nn w3))) c8 c9 c10) m := by kernel_rfl
theorem s16_ok (c5 c6 : Cell) : s16 (run tab (n+6)) (EL ns c2 c3 c4 c5 c6 (.dat (.lst (q13 ++ nn w3))) c8 c9 c10) m = .nx (EL ns c2 c3 c4 (.dat (.str "?t<1000000")) (.dat .non) (.dat (.lst (q13 ++ nn w3))) c8 c9 c10) m := by kernel_rfl
theorem s17_ok (c5 c6 c7 : Cell) : s17 (run tab (n+6)) (EL ns c2 c3 c4 c5 c6 c7 c8 c9 c10) m = .ret (.bl true) m := by kernel_rfl
end
def s2 : EvS := (asgS (.nm 2) (fnE 1 (consA (varE 1) nilA)))
def s3 : EvS := (forS (seqI (bin addA (bin addA (fldE "Question" "clauses" (varE 2)) (fldE "Question" "unless" (varE 2))) (fnE 2 (consA (varE 1) nilA)))) (.nm 3) lB)
theorem law_body : B_law = seqS (ownS 1 (bltF lstG (consA (varE 0) (consA (conE (.int 0)) nilA)))) (seqS (stoS 1) (seqS s2 (seqS s3 (seqS e1E (seqS e2E (seqS e3E (seqS e4E (seqS (frzS 4) (seqS e5E (seqS s10 (seqS s11 (seqS s12 (seqS s13 (seqS s14 (seqS (frzS 7) (seqS s16 s17)))))))))))))))) := rfl
theorem t0 (x : D) (m : Store) : run tab 25 0 [x] m = endS (B_law (run tab 24) [.dat x, .em, .em, .em, .em, .em, .em, .em, .em, .em, .em, .em, .em, .em] m) := by
  have h : tab 0 = some ⟨1, 14, B_law⟩ := rfl
  simp only [run, h]
  rfl
theorem addA_tup (m : Store) (a b : List D) (h : a.length + b.length ≤ LIM) : addA m (.tup a) (.tup b) = some (.tup (a ++ b)) := by
  have e : addG m (.tup a) (.tup b) = some (.tup (a ++ b)) := by
    show (if a.length + b.length ≤ LIM then some (D.tup (a ++ b)) else none) = _
    rw [if_pos h]
  unfold addA orO
  simp only [e]
theorem fld_c (hd : List NT) (A B : List Cl) (m : Store) : fldG "Question" "clauses" m (qD hd A B) = some (.tup (A.map kcD)) := by kernel_rfl
theorem fld_u (hd : List NT) (A B : List Cl) (m : Store) : fldG "Question" "unless" m (qD hd A B) = some (.tup (B.map kcD)) := by kernel_rfl
theorem mirror (ns : List Int) (hl : ns.length ≤ 63) : ∃ m', run tab 25 0 [.frz (ns.map D.int)] [] = .ok (.bl true) m' := by
  obtain ⟨hd, A, B, k1, al, bl, hAB, eQ⟩ := question_ok ns (by omega) 14 0
  obtain ⟨Y, k2, yl, hY, eR⟩ := rules_ok ns (by omega) 15 k1
  obtain ⟨c3, c8, c9, c10, eL⟩ := lB_loop 18 ns (ST ns k2) (.dat (qD hd A B)) .em .em .em .em (A ++ B ++ Y) .em .em .em .em (fun c hc => by
    rcases List.mem_append.mp hc with h | h
    · exact hAB c h
    · exact hY c h)
  refine ⟨ST ns k2, ?_⟩
  have esc : (D.frz (ns.map D.int)) = sc ns := rfl
  have g0 : ownS 1 (bltF lstG (consA (varE 0) (consA (conE (.int 0)) nilA))) (run tab 24) [.dat (sc ns), .em, .em, .em, .em, .em, .em, .em, .em, .em, .em, .em, .em, .em] [] = .nx [.dat (sc ns), .own (.lst [sc ns, .int 0]), .em, .em, .em, .em, .em, .em, .em, .em, .em, .em, .em, .em] [] := by
    generalize run tab 24 = C
    rfl
  have g1 : stoS 1 (run tab 24) [.dat (sc ns), .own (.lst [sc ns, .int 0]), .em, .em, .em, .em, .em, .em, .em, .em, .em, .em, .em, .em] [] = .nx (EL ns .em .em .em .em .em .em .em .em .em) (ST ns 0) := rfl
  have g2 : s2 (run tab 24) (EL ns .em .em .em .em .em .em .em .em .em) (ST ns 0) = .nx (EL ns (.dat (qD hd A B)) .em .em .em .em .em .em .em .em) (ST ns k1) := by
    refine asg_st (x := qD hd A B) (m1 := ST ns k1) ?_ rfl
    simp only [fnE, consA, nilA, varE, List.getElem?_cons_succ, List.getElem?_cons_zero, R.bind_ok, eQ]
  have hL : (1000 : Nat) ≤ LIM := by decide
  have a1 : addA (ST ns k1) (.tup (A.map kcD)) (.tup (B.map kcD)) = some (.tup ((A ++ B).map kcD)) := by
    rw [addA_tup _ _ _ (by simp; omega), List.map_append]
  have a2 : addA (ST ns k2) (.tup ((A ++ B).map kcD)) (.tup (Y.map kcD)) = some (.tup ((A ++ B ++ Y).map kcD)) := by
    rw [addA_tup _ _ _ (by simp; omega), List.map_append (l₁ := A ++ B)]
  have g3 : s3 (run tab 24) (EL ns (.dat (qD hd A B)) .em .em .em .em .em .em .em .em) (ST ns k1) = .nx (EL ns (.dat (qD hd A B)) c3 .em .em .em .em c8 c9 c10) (ST ns k2) := by
    have e : seqI (bin addA (bin addA (fldE "Question" "clauses" (varE 2)) (fldE "Question" "unless" (varE 2))) (fnE 2 (consA (varE 1) nilA))) (run tab 24) (EL ns (.dat (qD hd A B)) .em .em .em .em .em .em .em .em) (ST ns k1) = .ok ((A ++ B ++ Y).map kcD) (ST ns k2) := by
      simp only [seqI, bin, fldE, una, fnE, consA, nilA, varE, List.getElem?_cons_succ, List.getElem?_cons_zero, R.bind_ok, fld_c, fld_u, R.of_some, a1, eR, a2, itemsOf]
    unfold s3 forS
    rw [e]
    exact eL
  have f4 : ∀ (c5 c6 c7 : Cell) (m : Store), frzS 4 (run tab 24) (EL ns (.dat (qD hd A B)) c3 (.own (.lst (r2 ++ nn w1 ++ nn w2))) c5 c6 c7 c8 c9 c10) m = .nx (EL ns (.dat (qD hd A B)) c3 (.dat (.lst (r2 ++ nn w1 ++ nn w2))) c5 c6 c7 c8 c9 c10) m := fun _ _ _ _ => rfl
  have f7 : ∀ (c4 c5 c6 : Cell) (m : Store), frzS 7 (run tab 24) (EL ns (.dat (qD hd A B)) c3 c4 c5 c6 (.own (.lst (q13 ++ nn w3))) c8 c9 c10) m = .nx (EL ns (.dat (qD hd A B)) c3 c4 c5 c6 (.dat (.lst (q13 ++ nn w3))) c8 c9 c10) m := fun _ _ _ _ => rfl
  rw [esc, t0, law_body, seq_go g0, seq_go g1, seq_go g2, seq_go g3, seq_go (e1_ok ns _ _ c3 c8 c9 c10 _ .em .em .em .em), seq_go (e2_ok ns _ _ c3 c8 c9 c10 _ .em .em .em), seq_go (e3_ok ns _ _ c3 c8 c9 c10 _ .em .em .em), seq_go (e4_ok ns _ _ c3 c8 c9 c10 _ _ .em .em), seq_go (f4 _ _ _ _), seq_go (e5_ok 18 ns _ _ c3 c8 c9 c10 _ .em .em),
    seq_go (s10_ok ns _ _ c3 _ c8 c9 c10 _ _ _ _), seq_go (s11_ok ns _ _ c3 _ c8 c9 c10 _ _ _), seq_go (s12_ok ns _ _ c3 _ c8 c9 c10 _ _ _), seq_go (s13_ok ns _ _ c3 _ c8 c9 c10 _ _ _), seq_go (s14_ok ns _ _ c3 _ c8 c9 c10 _ _ _), seq_go (f7 _ _ _ _), seq_go (s16_ok 18 ns _ _ c3 _ c8 c9 c10 _ _), s17_ok 18 ns _ _ c3 _ c8 c9 c10 _ _ _]
  rfl
end Dn.K47
namespace Dn.K47
open PySem L2
/-! The derivations (printed by pr.py). -/
def top (i : Nat) : Stmt := PySem.Challenge.pw_twicedated_k47_whole_words.main.body.getD i (.Pass ⟨0, 0, 0, 0⟩)
abbrev s_law : Stmt := top 70
abbrev n_law : List Str := ["_law_script", "_law_draw", "_law_question_here", "_law_clause_here", "_law_rows", "_law_word_here", "_law_due", "_law_told_here", "_law_days", "_law_atom_here", "_law_test_here", "_law_relation", "_law_names", "_law_day"]
abbrev p_law : List Str := ["_law_script"]
abbrev s_law_question : Stmt := top 58
abbrev n_law_question : List Str := ["_law_draw", "_law_head", "_law_clauses", "_law_unless", "_law_turn"]
abbrev p_law_question : List Str := ["_law_draw"]
abbrev s_law_rules : Stmt := top 59
abbrev n_law_rules : List Str := ["_law_draw", "_law_one", "_law_other", "_law_t", "_law_home", "_law_none", "_law_old", "_law_rule"]
abbrev p_law_rules : List Str := ["_law_draw"]
abbrev s_clause_text : Stmt := top 48
abbrev n_clause_text : List Str := ["clause", "atom", "test"]
abbrev p_clause_text : List Str := ["clause"]
abbrev s_law_words : Stmt := top 69
abbrev n_law_words : List Str := ["_law_clause_here", "_law_found", "_law_relation", "_law_names", "_law_day", "_law_signs", "_law_word_here", "_law_one", "_law_other", "_law_term"]
abbrev p_law_words : List Str := ["_law_clause_here"]
abbrev s_atom_of : Stmt := top 44
abbrev n_atom_of : List Str := ["word", "at", "end", "names", "day", "part"]
abbrev p_atom_of : List Str := ["word"]
abbrev s_atom_text : Stmt := top 43
abbrev n_atom_text : List Str := ["atom", "relation", "names", "day", "term"]
abbrev p_atom_text : List Str := ["atom"]
abbrev s_test_of : Stmt := top 47
abbrev n_test_of : List Str := ["word", "days", "sign", "kind", "at", "parts", "is_days", "test", "part"]
abbrev p_test_of : List Str := ["word", "days"]
abbrev s_test_text : Stmt := top 45
abbrev n_test_text : List Str := ["test", "sign", "told", "word"]
abbrev p_test_text : List Str := ["test"]
abbrev s_answers_text : Stmt := top 50
abbrev n_answers_text : List Str := ["found", "names"]
abbrev p_answers_text : List Str := ["found"]
abbrev s_law_pick : Stmt := top 53
abbrev n_law_pick : List Str := ["_law_draw", "_law_things"]
abbrev p_law_pick : List Str := ["_law_draw", "_law_things"]
abbrev s_law_take : Stmt := top 52
abbrev n_law_take : List Str := ["_law_draw", "_law_many", "_law_cell", "_law_turn", "_law_mixed", "_law_step"]
abbrev p_law_take : List Str := ["_law_draw", "_law_many"]
abbrev s_law_clause : Stmt := top 57
abbrev n_law_clause : List Str := ["_law_draw", "_law_head", "_law_most", "_law_with_now", "_law_atoms", "_law_term", "_law_names", "_law_days", "_law_relation", "_law_terms", "_law_day", "_law_tests", "_law_turn", "_law_other"]
abbrev p_law_clause : List Str := ["_law_draw", "_law_head", "_law_most", "_law_with_now"]
abbrev s_Question__init__b : Stmt := inClass (top 37) 0
abbrev n_Question__init__b : List Str := ["self", "head", "clauses", "unless", "clause", "term"]
abbrev p_Question__init__b : List Str := ["self", "head", "clauses", "unless"]
abbrev s_Clause__init__b : Stmt := inClass (top 35) 0
abbrev n_Clause__init__b : List Str := ["self", "atoms", "tests", "atom", "known", "word", "one", "other", "term"]
abbrev p_Clause__init__b : List Str := ["self", "atoms", "tests"]
abbrev s_law_word : Stmt := top 68
abbrev n_law_word : List Str := ["_law_term"]
abbrev p_law_word : List Str := ["_law_term"]
abbrev s_term_of : Stmt := top 42
abbrev n_term_of : List Str := ["word", "is_days", "number"]
abbrev p_term_of : List Str := ["word", "is_days"]
abbrev s_is_name : Stmt := top 13
abbrev n_is_name : List Str := ["thing", "sign"]
abbrev p_is_name : List Str := ["thing"]
abbrev s_term_text : Stmt := top 23
abbrev n_term_text : List Str := ["term"]
abbrev p_term_text : List Str := ["term"]
abbrev s_is_day_word : Stmt := top 46
abbrev n_is_day_word : List Str := ["part", "days"]
abbrev p_is_day_word : List Str := ["part", "days"]
abbrev s_is_test : Stmt := top 27
abbrev n_is_test : List Str := ["thing", "word", "one", "other"]
abbrev p_is_test : List Str := ["thing"]
abbrev s_answer_text : Stmt := top 49
abbrev n_answer_text : List Str := ["names"]
abbrev p_answer_text : List Str := ["names"]
abbrev s_law_atom : Stmt := top 56
abbrev n_law_atom : List Str := ["_law_draw", "_law_with_now"]
abbrev p_law_atom : List Str := ["_law_draw", "_law_with_now"]
abbrev s_law_name_term : Stmt := top 54
abbrev n_law_name_term : List Str := ["_law_draw"]
abbrev p_law_name_term : List Str := ["_law_draw"]
abbrev s_is_head : Stmt := top 38
abbrev n_is_head : List Str := ["thing"]
abbrev p_is_head : List Str := ["thing"]
abbrev s_are_clauses : Stmt := top 39
abbrev n_are_clauses : List Str := ["thing", "one"]
abbrev p_are_clauses : List Str := ["thing"]
abbrev s_Clause_variables : Stmt := inClass (top 35) 2
abbrev n_Clause_variables : List Str := ["self", "found", "relation", "names", "day", "term"]
abbrev p_Clause_variables : List Str := ["self"]
abbrev s_check_atom : Stmt := top 36
abbrev n_check_atom : List Str := ["atom"]
abbrev p_check_atom : List Str := ["atom"]
abbrev s_check_tests : Stmt := top 28
abbrev n_check_tests : List Str := ["tests", "test"]
abbrev p_check_tests : List Str := ["tests"]
abbrev s_is_variable : Stmt := top 22
abbrev n_is_variable : List Str := ["term"]
abbrev p_is_variable : List Str := ["term"]
abbrev s_number_of : Stmt := top 16
abbrev n_number_of : List Str := ["word", "sign"]
abbrev p_number_of : List Str := ["word"]
abbrev s_is_day : Stmt := top 12
abbrev n_is_day : List Str := ["thing"]
abbrev p_is_day : List Str := ["thing"]
abbrev s_is_day_term : Stmt := top 20
abbrev n_is_day_term : List Str := ["thing"]
abbrev p_is_day_term : List Str := ["thing"]
abbrev s_is_name_term : Stmt := top 19
abbrev n_is_name_term : List Str := ["thing"]
abbrev p_is_name_term : List Str := ["thing"]
abbrev s_law_day_term : Stmt := top 55
abbrev n_law_day_term : List Str := ["_law_draw", "_law_with_now"]
abbrev p_law_day_term : List Str := ["_law_draw", "_law_with_now"]
abbrev s_check_terms : Stmt := top 21
abbrev n_check_terms : List Str := ["names", "day", "term"]
abbrev p_check_terms : List Str := ["names", "day"]
abbrev s_is_whole : Stmt := top 11
abbrev n_is_whole : List Str := ["thing", "low", "high"]
abbrev p_is_whole : List Str := ["thing", "low", "high"]
def Xs (e_Question e_Clause : Addr) : Nat → Option (Addr × List Str) := fun i => ([] : List (Addr × List Str))[i]?
/-- what the top has made -/
structure Nms (K : PySem.W.Frag) (mg : Str → Option Value) : Prop where
  b_all : mg "all" = none
  b_any : mg "any" = none
  b_bool : mg "bool" = none
  b_int : mg "int" = none
  b_isinstance : mg "isinstance" = none
  b_len : mg "len" = none
  b_list : mg "list" = none
  b_max : mg "max" = none
  b_range : mg "range" = none
  b_str : mg "str" = none
  b_tuple : mg "tuple" = none
  g_DAY_WORDS : TupG K mg "DAY_WORDS" (["less", "most", "same", "unlike"] : List Str)
  g_FIGURES : ∃ u, mg "FIGURES" = some u ∧ RelV (.str "0123456789") u
  g_LETTERS : ∃ u, mg "LETTERS" = some u ∧ RelV (.str "abcdefghijklmnopqrstuvwxyz") u
  g_MOST_ATOMS : ∃ u, mg "MOST_ATOMS" = some u ∧ RelV (.int 3) u
  g_MOST_CLAUSES : ∃ u, mg "MOST_CLAUSES" = some u ∧ RelV (.int 3) u
  g_MOST_DAY : ∃ u, mg "MOST_DAY" = some u ∧ RelV (.int 999999) u
  g_MOST_FIGURES : ∃ u, mg "MOST_FIGURES" = some u ∧ RelV (.int 6) u
  g_MOST_HEAD : ∃ u, mg "MOST_HEAD" = some u ∧ RelV (.int 4) u
  g_MOST_NAMES_questions : ∃ u, mg "MOST_NAMES_questions" = some u ∧ RelV (.int 4) u
  g_MOST_NAMES_relations : ∃ u, mg "MOST_NAMES_relations" = some u ∧ RelV (.int 4) u
  g_MOST_TESTS : ∃ u, mg "MOST_TESTS" = some u ∧ RelV (.int 6) u
  g_NAME_WORDS : TupG K mg "NAME_WORDS" (["same", "unlike"] : List Str)
  g_NOW : TupG K mg "NOW" (["now"] : List Str)
  g_OPS : TupG2 K mg "OPS" ([(["<=", "most"] : List Str), (["!=", "unlike"] : List Str), (["<", "less"] : List Str), (["=", "same"] : List Str)] : List (List Str))
  yes : True
structure Txt (P : Program) (w : World) (K : PySem.W.Frag) (mg : Str → Option Value) (base : Heap) (n : Nat) (e_Question e_Clause : Addr) : Prop extends Nms K mg where
  f_law : Fnc P w K mg base ⟨⟨K, w⟩, run tab n, Xs e_Question e_Clause, none⟩ n 0 1 "law"
  f_law_question : Fnc P w K mg base ⟨⟨K, w⟩, run tab n, Xs e_Question e_Clause, none⟩ n 1 1 "_law_question"
  f_law_rules : Fnc P w K mg base ⟨⟨K, w⟩, run tab n, Xs e_Question e_Clause, none⟩ n 2 1 "_law_rules"
  f_clause_text : Fnc P w K mg base ⟨⟨K, w⟩, run tab n, Xs e_Question e_Clause, none⟩ n 3 1 "clause_text"
  f_law_words : Fnc P w K mg base ⟨⟨K, w⟩, run tab n, Xs e_Question e_Clause, none⟩ n 4 1 "_law_words"
  f_atom_of : Fnc P w K mg base ⟨⟨K, w⟩, run tab n, Xs e_Question e_Clause, none⟩ n 5 1 "atom_of"
  f_atom_text : Fnc P w K mg base ⟨⟨K, w⟩, run tab n, Xs e_Question e_Clause, none⟩ n 6 1 "atom_text"
  f_test_of : Fnc P w K mg base ⟨⟨K, w⟩, run tab n, Xs e_Question e_Clause, none⟩ n 7 2 "test_of"
  f_test_text : Fnc P w K mg base ⟨⟨K, w⟩, run tab n, Xs e_Question e_Clause, none⟩ n 8 1 "test_text"
  f_answers_text : Fnc P w K mg base ⟨⟨K, w⟩, run tab n, Xs e_Question e_Clause, none⟩ n 9 1 "answers_text"
  f_law_pick : Fnc P w K mg base ⟨⟨K, w⟩, run tab n, Xs e_Question e_Clause, none⟩ n 10 2 "_law_pick"
  f_law_take : Fnc P w K mg base ⟨⟨K, w⟩, run tab n, Xs e_Question e_Clause, none⟩ n 11 2 "_law_take"
  f_law_clause : Fnc P w K mg base ⟨⟨K, w⟩, run tab n, Xs e_Question e_Clause, none⟩ n 12 4 "_law_clause"
  f_Question__init : Ini P w K mg base ⟨⟨K, w⟩, run tab n, Xs e_Question e_Clause, none⟩ n 13 4 e_Question
  f_Question__init__b : IniB P w K mg base ⟨⟨K, w⟩, run tab n, Xs e_Question e_Clause, none⟩ n 14 4 e_Question
  f_Clause__init : Ini P w K mg base ⟨⟨K, w⟩, run tab n, Xs e_Question e_Clause, none⟩ n 15 3 e_Clause
  f_Clause__init__b : IniB P w K mg base ⟨⟨K, w⟩, run tab n, Xs e_Question e_Clause, none⟩ n 16 3 e_Clause
  f_law_word : Fnc P w K mg base ⟨⟨K, w⟩, run tab n, Xs e_Question e_Clause, none⟩ n 17 1 "_law_word"
  f_term_of : Fnc P w K mg base ⟨⟨K, w⟩, run tab n, Xs e_Question e_Clause, none⟩ n 18 2 "term_of"
  f_is_name : Fnc P w K mg base ⟨⟨K, w⟩, run tab n, Xs e_Question e_Clause, none⟩ n 19 1 "is_name"
  f_term_text : Fnc P w K mg base ⟨⟨K, w⟩, run tab n, Xs e_Question e_Clause, none⟩ n 20 1 "term_text"
  f_is_day_word : Fnc P w K mg base ⟨⟨K, w⟩, run tab n, Xs e_Question e_Clause, none⟩ n 21 2 "is_day_word"
  f_is_test : Fnc P w K mg base ⟨⟨K, w⟩, run tab n, Xs e_Question e_Clause, none⟩ n 22 1 "is_test"
  f_answer_text : Fnc P w K mg base ⟨⟨K, w⟩, run tab n, Xs e_Question e_Clause, none⟩ n 23 1 "answer_text"
  f_law_atom : Fnc P w K mg base ⟨⟨K, w⟩, run tab n, Xs e_Question e_Clause, none⟩ n 24 2 "_law_atom"
  f_law_name_term : Fnc P w K mg base ⟨⟨K, w⟩, run tab n, Xs e_Question e_Clause, none⟩ n 25 1 "_law_name_term"
  f_is_head : Fnc P w K mg base ⟨⟨K, w⟩, run tab n, Xs e_Question e_Clause, none⟩ n 26 1 "is_head"
  f_are_clauses : Fnc P w K mg base ⟨⟨K, w⟩, run tab n, Xs e_Question e_Clause, none⟩ n 27 1 "are_clauses"
  f_Clause_variables : Mth P w K mg base ⟨⟨K, w⟩, run tab n, Xs e_Question e_Clause, none⟩ n 28 1 e_Clause "variables"
  f_check_atom : Fnc P w K mg base ⟨⟨K, w⟩, run tab n, Xs e_Question e_Clause, none⟩ n 29 1 "check_atom"
  f_check_tests : Fnc P w K mg base ⟨⟨K, w⟩, run tab n, Xs e_Question e_Clause, none⟩ n 30 1 "check_tests"
  f_is_variable : Fnc P w K mg base ⟨⟨K, w⟩, run tab n, Xs e_Question e_Clause, none⟩ n 31 1 "is_variable"
  f_number_of : Fnc P w K mg base ⟨⟨K, w⟩, run tab n, Xs e_Question e_Clause, none⟩ n 32 1 "number_of"
  f_is_day : Fnc P w K mg base ⟨⟨K, w⟩, run tab n, Xs e_Question e_Clause, none⟩ n 33 1 "is_day"
  f_is_day_term : Fnc P w K mg base ⟨⟨K, w⟩, run tab n, Xs e_Question e_Clause, none⟩ n 34 1 "is_day_term"
  f_is_name_term : Fnc P w K mg base ⟨⟨K, w⟩, run tab n, Xs e_Question e_Clause, none⟩ n 35 1 "is_name_term"
  f_law_day_term : Fnc P w K mg base ⟨⟨K, w⟩, run tab n, Xs e_Question e_Clause, none⟩ n 36 2 "_law_day_term"
  f_check_terms : Fnc P w K mg base ⟨⟨K, w⟩, run tab n, Xs e_Question e_Clause, none⟩ n 37 2 "check_terms"
  f_is_whole : Fnc P w K mg base ⟨⟨K, w⟩, run tab n, Xs e_Question e_Clause, none⟩ n 38 3 "is_whole"
  c_Question : ClsT K mg "Question" e_Question
  c_Clause : ClsT K mg "Clause" e_Clause
  nf_Question_clauses : NoAttr K e_Question "clauses"
  nf_Question_unless : NoAttr K e_Question "unless"
  nf_Clause_atoms : NoAttr K e_Clause "atoms"
  nf_Clause_tests : NoAttr K e_Clause "tests"
  nf_Question_head : NoAttr K e_Question "head"
  ci_Clause : ClsI K e_Clause
theorem sc_law : FnScope n_law p_law (defScope s_law) := ⟨rfl, rfl, rfl, by decide +kernel, rfl, by decide +kernel, by decide +kernel⟩
theorem sc_law_question : FnScope n_law_question p_law_question (defScope s_law_question) := ⟨rfl, rfl, rfl, by decide +kernel, rfl, by decide +kernel, by decide +kernel⟩
theorem sc_law_rules : FnScope n_law_rules p_law_rules (defScope s_law_rules) := ⟨rfl, rfl, rfl, by decide +kernel, rfl, by decide +kernel, by decide +kernel⟩
theorem sc_clause_text : FnScope n_clause_text p_clause_text (defScope s_clause_text) := ⟨rfl, rfl, rfl, by decide +kernel, rfl, by decide +kernel, by decide +kernel⟩
theorem sc_law_words : FnScope n_law_words p_law_words (defScope s_law_words) := ⟨rfl, rfl, rfl, by decide +kernel, rfl, by decide +kernel, by decide +kernel⟩
theorem sc_atom_of : FnScope n_atom_of p_atom_of (defScope s_atom_of) := ⟨rfl, rfl, rfl, by decide +kernel, rfl, by decide +kernel, by decide +kernel⟩
theorem sc_atom_text : FnScope n_atom_text p_atom_text (defScope s_atom_text) := ⟨rfl, rfl, rfl, by decide +kernel, rfl, by decide +kernel, by decide +kernel⟩
theorem sc_test_of : FnScope n_test_of p_test_of (defScope s_test_of) := ⟨rfl, rfl, rfl, by decide +kernel, rfl, by decide +kernel, by decide +kernel⟩
theorem sc_test_text : FnScope n_test_text p_test_text (defScope s_test_text) := ⟨rfl, rfl, rfl, by decide +kernel, rfl, by decide +kernel, by decide +kernel⟩
theorem sc_answers_text : FnScope n_answers_text p_answers_text (defScope s_answers_text) := ⟨rfl, rfl, rfl, by decide +kernel, rfl, by decide +kernel, by decide +kernel⟩
theorem sc_law_pick : FnScope n_law_pick p_law_pick (defScope s_law_pick) := ⟨rfl, rfl, rfl, by decide +kernel, rfl, by decide +kernel, by decide +kernel⟩
theorem sc_law_take : FnScope n_law_take p_law_take (defScope s_law_take) := ⟨rfl, rfl, rfl, by decide +kernel, rfl, by decide +kernel, by decide +kernel⟩
theorem sc_law_clause : FnScope n_law_clause p_law_clause (defScope s_law_clause) := ⟨rfl, rfl, rfl, by decide +kernel, rfl, by decide +kernel, by decide +kernel⟩
theorem sc_Question__init__b : FnScope n_Question__init__b p_Question__init__b (defScope s_Question__init__b) := ⟨rfl, rfl, rfl, by decide +kernel, rfl, by decide +kernel, by decide +kernel⟩
theorem sc_Clause__init__b : FnScope n_Clause__init__b p_Clause__init__b (defScope s_Clause__init__b) := ⟨rfl, rfl, rfl, by decide +kernel, rfl, by decide +kernel, by decide +kernel⟩
theorem sc_law_word : FnScope n_law_word p_law_word (defScope s_law_word) := ⟨rfl, rfl, rfl, by decide +kernel, rfl, by decide +kernel, by decide +kernel⟩
theorem sc_term_of : FnScope n_term_of p_term_of (defScope s_term_of) := ⟨rfl, rfl, rfl, by decide +kernel, rfl, by decide +kernel, by decide +kernel⟩
theorem sc_is_name : FnScope n_is_name p_is_name (defScope s_is_name) := ⟨rfl, rfl, rfl, by decide +kernel, rfl, by decide +kernel, by decide +kernel⟩
theorem sc_term_text : FnScope n_term_text p_term_text (defScope s_term_text) := ⟨rfl, rfl, rfl, by decide +kernel, rfl, by decide +kernel, by decide +kernel⟩
theorem sc_is_day_word : FnScope n_is_day_word p_is_day_word (defScope s_is_day_word) := ⟨rfl, rfl, rfl, by decide +kernel, rfl, by decide +kernel, by decide +kernel⟩
theorem sc_is_test : FnScope n_is_test p_is_test (defScope s_is_test) := ⟨rfl, rfl, rfl, by decide +kernel, rfl, by decide +kernel, by decide +kernel⟩
theorem sc_answer_text : FnScope n_answer_text p_answer_text (defScope s_answer_text) := ⟨rfl, rfl, rfl, by decide +kernel, rfl, by decide +kernel, by decide +kernel⟩
theorem sc_law_atom : FnScope n_law_atom p_law_atom (defScope s_law_atom) := ⟨rfl, rfl, rfl, by decide +kernel, rfl, by decide +kernel, by decide +kernel⟩
theorem sc_law_name_term : FnScope n_law_name_term p_law_name_term (defScope s_law_name_term) := ⟨rfl, rfl, rfl, by decide +kernel, rfl, by decide +kernel, by decide +kernel⟩
theorem sc_is_head : FnScope n_is_head p_is_head (defScope s_is_head) := ⟨rfl, rfl, rfl, by decide +kernel, rfl, by decide +kernel, by decide +kernel⟩
theorem sc_are_clauses : FnScope n_are_clauses p_are_clauses (defScope s_are_clauses) := ⟨rfl, rfl, rfl, by decide +kernel, rfl, by decide +kernel, by decide +kernel⟩
theorem sc_Clause_variables : FnScope n_Clause_variables p_Clause_variables (defScope s_Clause_variables) := ⟨rfl, rfl, rfl, by decide +kernel, rfl, by decide +kernel, by decide +kernel⟩
theorem sc_check_atom : FnScope n_check_atom p_check_atom (defScope s_check_atom) := ⟨rfl, rfl, rfl, by decide +kernel, rfl, by decide +kernel, by decide +kernel⟩
theorem sc_check_tests : FnScope n_check_tests p_check_tests (defScope s_check_tests) := ⟨rfl, rfl, rfl, by decide +kernel, rfl, by decide +kernel, by decide +kernel⟩
theorem sc_is_variable : FnScope n_is_variable p_is_variable (defScope s_is_variable) := ⟨rfl, rfl, rfl, by decide +kernel, rfl, by decide +kernel, by decide +kernel⟩
theorem sc_number_of : FnScope n_number_of p_number_of (defScope s_number_of) := ⟨rfl, rfl, rfl, by decide +kernel, rfl, by decide +kernel, by decide +kernel⟩
theorem sc_is_day : FnScope n_is_day p_is_day (defScope s_is_day) := ⟨rfl, rfl, rfl, by decide +kernel, rfl, by decide +kernel, by decide +kernel⟩
theorem sc_is_day_term : FnScope n_is_day_term p_is_day_term (defScope s_is_day_term) := ⟨rfl, rfl, rfl, by decide +kernel, rfl, by decide +kernel, by decide +kernel⟩
theorem sc_is_name_term : FnScope n_is_name_term p_is_name_term (defScope s_is_name_term) := ⟨rfl, rfl, rfl, by decide +kernel, rfl, by decide +kernel, by decide +kernel⟩
theorem sc_law_day_term : FnScope n_law_day_term p_law_day_term (defScope s_law_day_term) := ⟨rfl, rfl, rfl, by decide +kernel, rfl, by decide +kernel, by decide +kernel⟩
theorem sc_check_terms : FnScope n_check_terms p_check_terms (defScope s_check_terms) := ⟨rfl, rfl, rfl, by decide +kernel, rfl, by decide +kernel, by decide +kernel⟩
theorem sc_is_whole : FnScope n_is_whole p_is_whole (defScope s_is_whole) := ⟨rfl, rfl, rfl, by decide +kernel, rfl, by decide +kernel, by decide +kernel⟩
theorem d_law {P : Program} {w : World} {K : PySem.W.Frag} {mg : Str → Option Value} {base : Heap} {n : Nat} {e_Question e_Clause : Addr} (TT : Txt P w K mg base n e_Question e_Clause) (f : Addr) (cdv : Value) (A : Around) (outer : List PySem.Env) (s : Shared) (H : Hp) (E : XK) (R : Room n (A.deeper (PyProof.Rows.envOfC "law" (defScope s_law) s.heap.objs.size f cdv))) (Sn : Snap) :
    PSs (cxG P w K mg base n_law "law" (defScope s_law) f cdv A outer s H E true []) (defBody s_law) (semS ⟨⟨K, w⟩, run tab n, Xs e_Question e_Clause, none⟩ (fun c d _ H' => E c d H') Sn B_law) :=
  (dss_cons (ds_own (i := 1) sc_law.nd rfl (by first | exact Or.inl rfl | exact Or.inr rfl) (df_lst (da_cons (de_var (i := 0) rfl (by first | exact Or.inl rfl | exact Or.inr (Or.inl rfl) | exact Or.inr (Or.inr rfl))) (da_cons de_int da_nil))) (Or.inl rfl))
  (dss_sto (i := 1) (dss_cons (ds_set (i := 2) sc_law.nd rfl (by first | exact Or.inl rfl | exact Or.inr rfl) (de_fn TT.f_law_question R takesG rfl (da_cons (de_var (i := 1) rfl (by first | exact Or.inl rfl | exact Or.inr (Or.inl rfl) | exact Or.inr (Or.inr rfl))) da_nil) (lenA_cons lenA_nil)) (Or.inl rfl))
  (dss_cons (ds_for passesG rfl (di_seq rfl (de_bin od_addA rfl (de_sub (de_bin od_addA rfl (de_sub (de_fld TT.c_Question TT.nf_Question_clauses rfl (de_var (i := 2) rfl (by first | exact Or.inl rfl | exact Or.inr (Or.inl rfl) | exact Or.inr (Or.inr rfl))))) (de_sub (de_fld TT.c_Question TT.nf_Question_unless rfl (de_var (i := 2) rfl (by first | exact Or.inl rfl | exact Or.inr (Or.inl rfl) | exact Or.inr (Or.inr rfl))))))) (de_sub (de_fn TT.f_law_rules R takesG rfl (da_cons (de_var (i := 1) rfl (by first | exact Or.inl rfl | exact Or.inr (Or.inl rfl) | exact Or.inr (Or.inr rfl))) da_nil) (lenA_cons lenA_nil))))) (dg_name (i := 3) sc_law.nd rfl (by first | exact Or.inl rfl | exact Or.inr rfl) (by first | exact Or.inl rfl | exact Or.inr rfl)) (fun _ =>
  (dss_cons (ds_if (dt_cmp (od_ne (hu65 R)) rfl (de_sub (de_fn TT.f_clause_text R takesG rfl (da_cons (de_var (i := 3) rfl (by first | exact Or.inl rfl | exact Or.inr (Or.inl rfl) | exact Or.inr (Or.inr rfl))) da_nil) (lenA_cons lenA_nil))) (de_sub (de_tm tm_join PySem.F.slot_str_join PySem.F.type_str_join rfl (de_sub de_str) (de_sub (de_fn TT.f_law_words R takesG rfl (da_cons (de_var (i := 3) rfl (by first | exact Or.inl rfl | exact Or.inr (Or.inl rfl) | exact Or.inr (Or.inr rfl))) da_nil) (lenA_cons lenA_nil))))) (nomark _))
  (dss_one (ds_ret de_bl))
  dss_nil)
  (dss_cons (ds_setLcV rfl sc_law.nd (i := 8) rfl rfl (by first | rfl | exact sw_true rfl rfl rfl (by decide +kernel)) (⟨rfl, by decide +kernel, by decide +kernel, by decide +kernel, by decide +kernel⟩ : BlkOk n_law (defScope s_law) _ [("_law_relation", 11), ("_law_names", 12), ("_law_day", 13)]) rfl (di_seq rfl (de_fld TT.c_Clause TT.nf_Clause_atoms rfl (de_var (i := 3) rfl (by first | exact Or.inl rfl | exact Or.inr (Or.inl rfl) | exact Or.inr (Or.inr rfl))))) rfl (fun _ _ _ _ _ => (dg_tup rfl rfl (dgs_cons (dg_name (i := 11) sc_law.nd rfl (by first | exact Or.inl rfl | exact Or.inr rfl) (by first | exact Or.inl rfl | exact Or.inr rfl)) (dgs_cons (dg_name (i := 12) sc_law.nd rfl (by first | exact Or.inl rfl | exact Or.inr rfl) (by first | exact Or.inl rfl | exact Or.inr rfl)) (dgs_cons (dg_name (i := 13) sc_law.nd rfl (by first | exact Or.inl rfl | exact Or.inr rfl) (by first | exact Or.inl rfl | exact Or.inr rfl)) dgs_nil))))) (fun _ _ _ _ _ => (dts_one (dt_cmp (od_eq (hu65 R)) rfl (de_sub (de_ix id_ix rfl (de_brw (i := 13) rfl (by first | exact Or.inl rfl | exact Or.inr (Or.inl rfl) | exact Or.inr (Or.inr rfl))) (de_sub de_int) (fun _ _ => rfl))) (de_sub de_str) (nomark _)))) (fun _ _ _ _ _ => (de_ix id_ix rfl (de_brw (i := 13) rfl (by first | exact Or.inl rfl | exact Or.inr (Or.inl rfl) | exact Or.inr (Or.inr rfl))) (de_sub de_int) (fun _ _ => rfl))))
  (dss_cons (ds_for passesG rfl (di_seq rfl (de_fld TT.c_Clause TT.nf_Clause_atoms rfl (de_var (i := 3) rfl (by first | exact Or.inl rfl | exact Or.inr (Or.inl rfl) | exact Or.inr (Or.inr rfl))))) (dg_name (i := 9) sc_law.nd rfl (by first | exact Or.inl rfl | exact Or.inr rfl) (by first | exact Or.inl rfl | exact Or.inr rfl)) (fun _ =>
  (dss_one (ds_if (dt_cmp (od_ne (hu65 R)) rfl (de_sub (de_fn TT.f_atom_of R takesG rfl (da_cons (de_fn TT.f_atom_text R takesG rfl (da_cons (de_var (i := 9) rfl (by first | exact Or.inl rfl | exact Or.inr (Or.inl rfl) | exact Or.inr (Or.inr rfl))) da_nil) (lenA_cons lenA_nil)) da_nil) (lenA_cons lenA_nil))) (de_brw (i := 9) rfl (by first | exact Or.inl rfl | exact Or.inr (Or.inl rfl) | exact Or.inr (Or.inr rfl))) (nomark _))
  (dss_one (ds_ret de_bl))
  dss_nil))))
  (dss_one (ds_for passesG rfl (di_seq rfl (de_fld TT.c_Clause TT.nf_Clause_tests rfl (de_var (i := 3) rfl (by first | exact Or.inl rfl | exact Or.inr (Or.inl rfl) | exact Or.inr (Or.inr rfl))))) (dg_name (i := 10) sc_law.nd rfl (by first | exact Or.inl rfl | exact Or.inr rfl) (by first | exact Or.inl rfl | exact Or.inr rfl)) (fun _ =>
  (dss_one (ds_if (dt_cmp (od_ne (hu65 R)) rfl (de_sub (de_fn TT.f_test_of R takesG rfl (da_cons (de_fn TT.f_test_text R takesG rfl (da_cons (de_var (i := 10) rfl (by first | exact Or.inl rfl | exact Or.inr (Or.inl rfl) | exact Or.inr (Or.inr rfl))) da_nil) (lenA_cons lenA_nil)) (da_cons (de_var (i := 8) rfl (by first | exact Or.inl rfl | exact Or.inr (Or.inl rfl) | exact Or.inr (Or.inr rfl))) da_nil)) (lenA_cons (lenA_cons lenA_nil)))) (de_brw (i := 10) rfl (by first | exact Or.inl rfl | exact Or.inr (Or.inl rfl) | exact Or.inr (Or.inr rfl))) (nomark _))
  (dss_one (ds_ret de_bl))
  dss_nil))))))))))
  (dss_cons (ds_own (i := 4) sc_law.nd rfl (by first | exact Or.inl rfl | exact Or.inr rfl) (df_lst (da_cons (de_tup (da_cons de_str (da_cons (de_tup (da_cons de_str (da_cons (de_tup (da_cons (de_tup (da_cons de_str (da_cons de_str da_nil))) (da_cons (de_tup (da_cons de_str (da_cons de_str da_nil))) da_nil))) (da_cons (de_tup (da_cons de_str (da_cons de_int da_nil))) da_nil)))) da_nil))) da_nil)) (Or.inl rfl))
  (dss_cons (ds_app (i := 4) rfl rfl (by first | exact Or.inl rfl | exact Or.inr (Or.inl rfl) | exact Or.inr (Or.inr rfl)) (de_tup (da_cons de_str (da_cons (de_tup (da_cons de_str (da_cons (de_tup (da_cons (de_tup (da_cons de_str (da_cons de_str da_nil))) da_nil)) (da_cons (de_tup (da_cons de_str da_nil)) da_nil)))) da_nil))))
  (dss_cons (ds_for passesG rfl (di_seq rfl (de_tup (da_cons de_str (da_cons de_str (da_cons de_str (da_cons de_str (da_cons de_str (da_cons de_str (da_cons de_str (da_cons de_str da_nil)))))))))) (dg_name (i := 5) sc_law.nd rfl (by first | exact Or.inl rfl | exact Or.inr rfl) (by first | exact Or.inl rfl | exact Or.inr rfl)) (fun _ =>
  (dss_one (ds_app (i := 4) rfl rfl (by first | exact Or.inl rfl | exact Or.inr (Or.inl rfl) | exact Or.inr (Or.inr rfl)) (de_tup (da_cons (de_var (i := 5) rfl (by first | exact Or.inl rfl | exact Or.inr (Or.inl rfl) | exact Or.inr (Or.inr rfl))) (da_cons de_non da_nil)))))))
  (dss_cons (ds_for passesG rfl (di_seq rfl (de_tup (da_cons de_str (da_cons de_str (da_cons de_str (da_cons de_str (da_cons de_str (da_cons de_str da_nil)))))))) (dg_name (i := 5) sc_law.nd rfl (by first | exact Or.inl rfl | exact Or.inr rfl) (by first | exact Or.inl rfl | exact Or.inr rfl)) (fun _ =>
  (dss_one (ds_app (i := 4) rfl rfl (by first | exact Or.inl rfl | exact Or.inr (Or.inl rfl) | exact Or.inr (Or.inr rfl)) (de_tup (da_cons (de_var (i := 5) rfl (by first | exact Or.inl rfl | exact Or.inr (Or.inl rfl) | exact Or.inr (Or.inr rfl))) (da_cons de_non da_nil)))))))
  (dss_frz (i := 4) (dss_cons (ds_for passesG rfl (di_seq rfl (de_var (i := 4) rfl (by first | exact Or.inl rfl | exact Or.inr (Or.inl rfl) | exact Or.inr (Or.inr rfl)))) (dg_tup rfl rfl (dgs_cons (dg_name (i := 5) sc_law.nd rfl (by first | exact Or.inl rfl | exact Or.inr rfl) (by first | exact Or.inl rfl | exact Or.inr rfl)) (dgs_cons (dg_name (i := 6) sc_law.nd rfl (by first | exact Or.inl rfl | exact Or.inr rfl) (by first | exact Or.inl rfl | exact Or.inr rfl)) dgs_nil))) (fun _ =>
  (dss_one (ds_if (dt_cmp (od_ne (hu65 R)) rfl (de_sub (de_fn TT.f_atom_of R takesG rfl (da_cons (de_var (i := 5) rfl (by first | exact Or.inl rfl | exact Or.inr (Or.inl rfl) | exact Or.inr (Or.inr rfl))) da_nil) (lenA_cons lenA_nil))) (de_brw (i := 6) rfl (by first | exact Or.inl rfl | exact Or.inr (Or.inl rfl) | exact Or.inr (Or.inr rfl))) (nomark _))
  (dss_one (ds_ret de_bl))
  dss_nil))))
  (dss_cons (ds_own (i := 7) sc_law.nd rfl (by first | exact Or.inl rfl | exact Or.inr rfl) (df_lst (da_cons (de_tup (da_cons de_str (da_cons (de_tup (da_cons de_str (da_cons (de_tup (da_cons de_str (da_cons de_str da_nil))) (da_cons (de_tup (da_cons de_str (da_cons de_int da_nil))) da_nil)))) da_nil))) (da_cons (de_tup (da_cons de_str (da_cons (de_tup (da_cons de_str (da_cons (de_tup (da_cons de_str (da_cons de_int da_nil))) (da_cons (de_tup (da_cons de_str da_nil)) da_nil)))) da_nil))) da_nil))) (Or.inl rfl))
  (dss_cons (ds_own (i := 7) sc_law.nd rfl (by first | exact Or.inl rfl | exact Or.inr rfl) (df_bin of_cat rfl (de_brw (i := 7) rfl (by first | exact Or.inl rfl | exact Or.inr (Or.inl rfl) | exact Or.inr (Or.inr rfl))) (de_sub (de_frz (df_lst (da_cons (de_tup (da_cons de_str (da_cons (de_tup (da_cons de_str (da_cons (de_tup (da_cons de_str (da_cons de_str da_nil))) (da_cons (de_tup (da_cons de_str (da_cons de_str da_nil))) da_nil)))) da_nil))) (da_cons (de_tup (da_cons de_str (da_cons (de_tup (da_cons de_str (da_cons (de_tup (da_cons de_str (da_cons de_str da_nil))) (da_cons (de_tup (da_cons de_str (da_cons de_str da_nil))) da_nil)))) da_nil))) da_nil)))))) (Or.inl rfl))
  (dss_cons (ds_own (i := 7) sc_law.nd rfl (by first | exact Or.inl rfl | exact Or.inr rfl) (df_bin of_cat rfl (de_brw (i := 7) rfl (by first | exact Or.inl rfl | exact Or.inr (Or.inl rfl) | exact Or.inr (Or.inr rfl))) (de_sub (de_frz (df_lst (da_cons (de_tup (da_cons de_str (da_cons (de_tup (da_cons de_str (da_cons (de_tup (da_cons de_str (da_cons de_str da_nil))) (da_cons (de_tup (da_cons de_str (da_cons de_str da_nil))) da_nil)))) da_nil))) (da_cons (de_tup (da_cons de_str (da_cons (de_tup (da_cons de_str (da_cons (de_tup (da_cons de_str (da_cons de_str da_nil))) (da_cons (de_tup (da_cons de_str (da_cons de_str da_nil))) da_nil)))) da_nil))) da_nil)))))) (Or.inl rfl))
  (dss_cons (ds_app (i := 7) rfl rfl (by first | exact Or.inl rfl | exact Or.inr (Or.inl rfl) | exact Or.inr (Or.inr rfl)) (de_tup (da_cons de_str (da_cons (de_tup (da_cons de_str (da_cons (de_tup (da_cons de_str (da_cons de_str da_nil))) (da_cons (de_tup (da_cons de_str (da_cons de_str da_nil))) da_nil)))) da_nil))))
  (dss_cons (ds_for passesG rfl (di_seq rfl (de_tup (da_cons de_str (da_cons de_str (da_cons de_str (da_cons de_str (da_cons de_str (da_cons de_str (da_cons de_str (da_cons de_str (da_cons de_str (da_cons de_str da_nil)))))))))))) (dg_name (i := 5) sc_law.nd rfl (by first | exact Or.inl rfl | exact Or.inr rfl) (by first | exact Or.inl rfl | exact Or.inr rfl)) (fun _ =>
  (dss_one (ds_app (i := 7) rfl rfl (by first | exact Or.inl rfl | exact Or.inr (Or.inl rfl) | exact Or.inr (Or.inr rfl)) (de_tup (da_cons (de_var (i := 5) rfl (by first | exact Or.inl rfl | exact Or.inr (Or.inl rfl) | exact Or.inr (Or.inr rfl))) (da_cons de_non da_nil)))))))
  (dss_frz (i := 7) (dss_cons (ds_for passesG rfl (di_seq rfl (de_var (i := 7) rfl (by first | exact Or.inl rfl | exact Or.inr (Or.inl rfl) | exact Or.inr (Or.inr rfl)))) (dg_tup rfl rfl (dgs_cons (dg_name (i := 5) sc_law.nd rfl (by first | exact Or.inl rfl | exact Or.inr rfl) (by first | exact Or.inl rfl | exact Or.inr rfl)) (dgs_cons (dg_name (i := 6) sc_law.nd rfl (by first | exact Or.inl rfl | exact Or.inr rfl) (by first | exact Or.inl rfl | exact Or.inr rfl)) dgs_nil))) (fun _ =>
  (dss_one (ds_if (dt_cmp (od_ne (hu65 R)) rfl (de_sub (de_fn TT.f_test_of R takesG rfl (da_cons (de_var (i := 5) rfl (by first | exact Or.inl rfl | exact Or.inr (Or.inl rfl) | exact Or.inr (Or.inr rfl))) (da_cons (de_frz (df_lst (da_cons de_str (da_cons de_str da_nil)))) da_nil)) (lenA_cons (lenA_cons lenA_nil)))) (de_brw (i := 6) rfl (by first | exact Or.inl rfl | exact Or.inr (Or.inl rfl) | exact Or.inr (Or.inr rfl))) (nomark _))
  (dss_one (ds_ret de_bl))
  dss_nil))))
  (dss_one (ds_ret (de_and (de_cmp (od_eq (hu65 R)) rfl (de_sub (de_fn TT.f_answers_text R takesG rfl (da_cons (de_frz (df_lst (da_cons (de_tup (da_cons de_str (da_cons de_str da_nil))) (da_cons (de_tup (da_cons de_str (da_cons de_str da_nil))) da_nil)))) da_nil) (lenA_cons lenA_nil))) (de_sub de_str) (nomark _)) (de_and (de_cmp (od_eq (hu65 R)) rfl (de_sub (de_fn TT.f_answers_text R takesG rfl (da_cons (de_frz (df_lst (da_cons (de_tup da_nil) da_nil))) da_nil) (lenA_cons lenA_nil))) (de_sub de_str) (nomark _)) (de_one (de_cmp (od_eq (hu65 R)) rfl (de_sub (de_fn TT.f_answers_text R takesG rfl (da_cons (de_tup da_nil) da_nil) (lenA_cons lenA_nil))) (de_sub de_str) (nomark _))))))))))))))))))))))))
theorem d_law_question {P : Program} {w : World} {K : PySem.W.Frag} {mg : Str → Option Value} {base : Heap} {n : Nat} {e_Question e_Clause : Addr} (TT : Txt P w K mg base n e_Question e_Clause) (f : Addr) (cdv : Value) (A : Around) (outer : List PySem.Env) (s : Shared) (H : Hp) (E : XK) (R : Room n (A.deeper (PyProof.Rows.envOfC "_law_question" (defScope s_law_question) s.heap.objs.size f cdv))) (Sn : Snap) :
    PSs (cxG P w K mg base n_law_question "_law_question" (defScope s_law_question) f cdv A outer s H E true []) (defBody s_law_question) (semS ⟨⟨K, w⟩, run tab n, Xs e_Question e_Clause, none⟩ (fun c d _ H' => E c d H') Sn B_law_question) :=
  (dss_cons (ds_set (i := 1) sc_law_question.nd rfl (by first | exact Or.inl rfl | exact Or.inr rfl) (de_fn TT.f_law_pick R takesG rfl (da_cons (de_var (i := 0) rfl (by first | exact Or.inl rfl | exact Or.inr (Or.inl rfl) | exact Or.inr (Or.inr rfl))) (da_cons (de_frz (df_lst (da_cons (de_tup (da_cons (de_tup (da_cons de_str (da_cons de_str da_nil))) da_nil)) (da_cons (de_tup (da_cons (de_tup (da_cons de_str (da_cons de_str da_nil))) da_nil)) (da_cons (de_tup da_nil) (da_cons (de_tup (da_cons (de_tup (da_cons de_str (da_cons de_str da_nil))) (da_cons (de_tup (da_cons de_str (da_cons de_str da_nil))) da_nil))) da_nil)))))) da_nil)) (lenA_cons (lenA_cons lenA_nil))) (Or.inl rfl))
  (dss_cons (ds_setLcV rfl sc_law_question.nd (i := 2) rfl rfl (by first | rfl | exact sw_true rfl rfl rfl (by decide +kernel)) (⟨rfl, by decide +kernel, by decide +kernel, by decide +kernel, by decide +kernel⟩ : BlkOk n_law_question (defScope s_law_question) _ [("_law_turn", 4)]) rfl (di_rng1 rfl TT.b_range (da_cons (de_bin od_addA rfl (de_sub de_int) (de_sub (de_bin od_fdiv rfl (de_sub (de_fn TT.f_law_take R takesG rfl (da_cons (de_var (i := 0) rfl (by first | exact Or.inl rfl | exact Or.inr (Or.inl rfl) | exact Or.inr (Or.inr rfl))) (da_cons de_int da_nil)) (lenA_cons (lenA_cons lenA_nil)))) (de_sub de_int)))) da_nil)) rfl (fun _ _ _ _ _ => (dg_name (i := 4) sc_law_question.nd rfl (by first | exact Or.inl rfl | exact Or.inr rfl) (by first | exact Or.inl rfl | exact Or.inr rfl))) (fun _ _ _ _ _ => dts_nil) (fun _ _ _ _ _ => (de_fn TT.f_law_clause R takes0 rfl (da_cons (de_var (i := 0) rfl (by first | exact Or.inl rfl | exact Or.inr (Or.inl rfl) | exact Or.inr (Or.inr rfl))) (da_cons (de_var (i := 1) rfl (by first | exact Or.inl rfl | exact Or.inr (Or.inl rfl) | exact Or.inr (Or.inr rfl))) (da_cons de_int (da_cons de_bl da_nil)))) (lenA_cons (lenA_cons (lenA_cons (lenA_cons lenA_nil)))))))
  (dss_cons (ds_setLcV rfl sc_law_question.nd (i := 3) rfl rfl (by first | rfl | exact sw_true rfl rfl rfl (by decide +kernel)) (⟨rfl, by decide +kernel, by decide +kernel, by decide +kernel, by decide +kernel⟩ : BlkOk n_law_question (defScope s_law_question) _ [("_law_turn", 4)]) rfl (di_rng1 rfl TT.b_range (da_cons (de_fn TT.f_law_take R takesG rfl (da_cons (de_var (i := 0) rfl (by first | exact Or.inl rfl | exact Or.inr (Or.inl rfl) | exact Or.inr (Or.inr rfl))) (da_cons de_int da_nil)) (lenA_cons (lenA_cons lenA_nil))) da_nil)) rfl (fun _ _ _ _ _ => (dg_name (i := 4) sc_law_question.nd rfl (by first | exact Or.inl rfl | exact Or.inr rfl) (by first | exact Or.inl rfl | exact Or.inr rfl))) (fun _ _ _ _ _ => dts_nil) (fun _ _ _ _ _ => (de_fn TT.f_law_clause R takes0 rfl (da_cons (de_var (i := 0) rfl (by first | exact Or.inl rfl | exact Or.inr (Or.inl rfl) | exact Or.inr (Or.inr rfl))) (da_cons (de_var (i := 1) rfl (by first | exact Or.inl rfl | exact Or.inr (Or.inl rfl) | exact Or.inr (Or.inr rfl))) (da_cons de_int (da_cons de_bl da_nil)))) (lenA_cons (lenA_cons (lenA_cons (lenA_cons lenA_nil)))))))
  (dss_one (ds_ret (de_stl (de_new TT.c_Question TT.f_Question__init R takesG rfl rfl (da_cons (de_var (i := 1) rfl (by first | exact Or.inl rfl | exact Or.inr (Or.inl rfl) | exact Or.inr (Or.inr rfl))) (da_cons (de_bt cb_tuple rfl rfl TT.b_tuple (by decide +kernel) (db_cons (de_brw (i := 2) rfl (by first | exact Or.inl rfl | exact Or.inr (Or.inl rfl) | exact Or.inr (Or.inr rfl))) db_nil)) (da_cons (de_bt cb_tuple rfl rfl TT.b_tuple (by decide +kernel) (db_cons (de_brw (i := 3) rfl (by first | exact Or.inl rfl | exact Or.inr (Or.inl rfl) | exact Or.inr (Or.inr rfl))) db_nil)) da_nil))) (lenA_cons (lenA_cons (lenA_cons lenA_nil))))))))))
theorem d_law_rules {P : Program} {w : World} {K : PySem.W.Frag} {mg : Str → Option Value} {base : Heap} {n : Nat} {e_Question e_Clause : Addr} (TT : Txt P w K mg base n e_Question e_Clause) (f : Addr) (cdv : Value) (A : Around) (outer : List PySem.Env) (s : Shared) (H : Hp) (E : XK) (R : Room n (A.deeper (PyProof.Rows.envOfC "_law_rules" (defScope s_law_rules) s.heap.objs.size f cdv))) (Sn : Snap) :
    PSs (cxG P w K mg base n_law_rules "_law_rules" (defScope s_law_rules) f cdv A outer s H E true []) (defBody s_law_rules) (semS ⟨⟨K, w⟩, run tab n, Xs e_Question e_Clause, none⟩ (fun c d _ H' => E c d H') Sn B_law_rules) :=
  (dss_cons (ds_asg (de_tup (da_cons (de_tup (da_cons de_str (da_cons de_str da_nil))) (da_cons (de_tup (da_cons de_str (da_cons de_str da_nil))) (da_cons (de_tup (da_cons de_str (da_cons de_str da_nil))) da_nil)))) (dg_tup rfl rfl (dgs_cons (dg_name (i := 1) sc_law_rules.nd rfl (by first | exact Or.inl rfl | exact Or.inr rfl) (by first | exact Or.inl rfl | exact Or.inr rfl)) (dgs_cons (dg_name (i := 2) sc_law_rules.nd rfl (by first | exact Or.inl rfl | exact Or.inr rfl) (by first | exact Or.inl rfl | exact Or.inr rfl)) (dgs_cons (dg_name (i := 3) sc_law_rules.nd rfl (by first | exact Or.inl rfl | exact Or.inr rfl) (by first | exact Or.inl rfl | exact Or.inr rfl)) dgs_nil)))))
  (dss_cons (ds_set (i := 4) sc_law_rules.nd rfl (by first | exact Or.inl rfl | exact Or.inr rfl) (de_stl (de_new TT.c_Clause TT.f_Clause__init R takesG rfl rfl (da_cons (de_tup (da_cons (de_tup (da_cons de_str (da_cons (de_tup (da_cons (de_var (i := 1) rfl (by first | exact Or.inl rfl | exact Or.inr (Or.inl rfl) | exact Or.inr (Or.inr rfl))) (da_cons (de_var (i := 2) rfl (by first | exact Or.inl rfl | exact Or.inr (Or.inl rfl) | exact Or.inr (Or.inr rfl))) da_nil))) (da_cons (de_var (i := 3) rfl (by first | exact Or.inl rfl | exact Or.inr (Or.inl rfl) | exact Or.inr (Or.inr rfl))) da_nil)))) (da_cons (de_tup (da_cons de_str (da_cons (de_tup (da_cons (de_var (i := 1) rfl (by first | exact Or.inl rfl | exact Or.inr (Or.inl rfl) | exact Or.inr (Or.inr rfl))) (da_cons (de_tup (da_cons de_str (da_cons de_str da_nil))) da_nil))) (da_cons (de_var (i := 3) rfl (by first | exact Or.inl rfl | exact Or.inr (Or.inl rfl) | exact Or.inr (Or.inr rfl))) da_nil)))) da_nil))) (da_cons (de_tup (da_cons (de_tup (da_cons de_str (da_cons (de_var (i := 2) rfl (by first | exact Or.inl rfl | exact Or.inr (Or.inl rfl) | exact Or.inr (Or.inr rfl))) (da_cons (de_tup (da_cons de_str (da_cons de_str da_nil))) da_nil)))) da_nil)) da_nil)) (lenA_cons (lenA_cons lenA_nil)))) (Or.inl rfl))
  (dss_cons (ds_set (i := 5) sc_law_rules.nd rfl (by first | exact Or.inl rfl | exact Or.inr rfl) (de_stl (de_new TT.c_Clause TT.f_Clause__init R takesG rfl rfl (da_cons (de_tup (da_cons (de_tup (da_cons de_str (da_cons (de_tup (da_cons (de_var (i := 1) rfl (by first | exact Or.inl rfl | exact Or.inr (Or.inl rfl) | exact Or.inr (Or.inr rfl))) da_nil)) (da_cons (de_var (i := 3) rfl (by first | exact Or.inl rfl | exact Or.inr (Or.inl rfl) | exact Or.inr (Or.inr rfl))) da_nil)))) (da_cons (de_tup (da_cons de_str (da_cons (de_tup (da_cons (de_var (i := 1) rfl (by first | exact Or.inl rfl | exact Or.inr (Or.inl rfl) | exact Or.inr (Or.inr rfl))) (da_cons (de_tup (da_cons de_str (da_cons de_str da_nil))) da_nil))) (da_cons (de_var (i := 3) rfl (by first | exact Or.inl rfl | exact Or.inr (Or.inl rfl) | exact Or.inr (Or.inr rfl))) da_nil)))) da_nil))) (da_cons (de_tup da_nil) da_nil)) (lenA_cons (lenA_cons lenA_nil)))) (Or.inl rfl))
  (dss_cons (ds_set (i := 6) sc_law_rules.nd rfl (by first | exact Or.inl rfl | exact Or.inr rfl) (de_stl (de_new TT.c_Clause TT.f_Clause__init R takesG rfl rfl (da_cons (de_tup (da_cons (de_tup (da_cons de_str (da_cons (de_tup (da_cons (de_var (i := 1) rfl (by first | exact Or.inl rfl | exact Or.inr (Or.inl rfl) | exact Or.inr (Or.inr rfl))) da_nil)) (da_cons (de_var (i := 3) rfl (by first | exact Or.inl rfl | exact Or.inr (Or.inl rfl) | exact Or.inr (Or.inr rfl))) da_nil)))) da_nil)) (da_cons (de_tup (da_cons (de_tup (da_cons de_str (da_cons (de_var (i := 3) rfl (by first | exact Or.inl rfl | exact Or.inr (Or.inl rfl) | exact Or.inr (Or.inr rfl))) (da_cons (de_tup (da_cons de_str (da_cons de_int da_nil))) da_nil)))) da_nil)) da_nil)) (lenA_cons (lenA_cons lenA_nil)))) (Or.inl rfl))
  (dss_one (ds_ret (de_bt cb_tuple rfl rfl TT.b_tuple (by decide +kernel) (db_cons (de_sub (de_frz (df_lcV rfl sc_law_rules.nd (⟨rfl, by decide +kernel, by decide +kernel, by decide +kernel, by decide +kernel⟩ : BlkOk n_law_rules (defScope s_law_rules) _ [("_law_rule", 7)]) rfl (di_seq rfl (de_tup (da_cons (de_var (i := 4) rfl (by first | exact Or.inl rfl | exact Or.inr (Or.inl rfl) | exact Or.inr (Or.inr rfl))) (da_cons (de_var (i := 5) rfl (by first | exact Or.inl rfl | exact Or.inr (Or.inl rfl) | exact Or.inr (Or.inr rfl))) (da_cons (de_var (i := 6) rfl (by first | exact Or.inl rfl | exact Or.inr (Or.inl rfl) | exact Or.inr (Or.inr rfl))) da_nil))))) rfl (fun _ _ _ _ _ => (dg_name (i := 7) sc_law_rules.nd rfl (by first | exact Or.inl rfl | exact Or.inr rfl) (by first | exact Or.inl rfl | exact Or.inr rfl))) (fun _ _ _ _ _ => (dts_one (dt_cmp (od_eq (hu65 R)) rfl (de_sub (de_fn TT.f_law_take R takes0 rfl (da_cons (de_var (i := 0) rfl (by first | exact Or.inl rfl | exact Or.inr (Or.inl rfl) | exact Or.inr (Or.inr rfl))) (da_cons de_int da_nil)) (lenA_cons (lenA_cons lenA_nil)))) (de_sub de_int) (nomark _)))) (fun _ _ _ _ _ => (de_var (i := 7) rfl (by first | exact Or.inl rfl | exact Or.inr (Or.inl rfl) | exact Or.inr (Or.inr rfl))))))) db_nil))))))))
theorem d_clause_text {P : Program} {w : World} {K : PySem.W.Frag} {mg : Str → Option Value} {base : Heap} {n : Nat} {e_Question e_Clause : Addr} (TT : Txt P w K mg base n e_Question e_Clause) (f : Addr) (cdv : Value) (A : Around) (outer : List PySem.Env) (s : Shared) (H : Hp) (E : XK) (R : Room n (A.deeper (PyProof.Rows.envOfC "clause_text" (defScope s_clause_text) s.heap.objs.size f cdv))) (Sn : Snap) :
    PSs (cxG P w K mg base n_clause_text "clause_text" (defScope s_clause_text) f cdv A outer s H E true []) (defBody s_clause_text) (semS ⟨⟨K, w⟩, run tab n, Xs e_Question e_Clause, none⟩ (fun c d _ H' => E c d H') Sn B_clause_text) :=
  (dss_one (ds_ret (de_tm tm_join PySem.F.slot_str_join PySem.F.type_str_join rfl (de_sub de_str) (de_sub (de_frz (df_lst (da_star rfl (de_frz (df_lcV rfl sc_clause_text.nd (⟨rfl, by decide +kernel, by decide +kernel, by decide +kernel, by decide +kernel⟩ : BlkOk n_clause_text (defScope s_clause_text) _ [("atom", 1)]) rfl (di_seq rfl (de_fld TT.c_Clause TT.nf_Clause_atoms rfl (de_var (i := 0) rfl (by first | exact Or.inl rfl | exact Or.inr (Or.inl rfl) | exact Or.inr (Or.inr rfl))))) rfl (fun _ _ _ _ _ => (dg_name (i := 1) sc_clause_text.nd rfl (by first | exact Or.inl rfl | exact Or.inr rfl) (by first | exact Or.inl rfl | exact Or.inr rfl))) (fun _ _ _ _ _ => dts_nil) (fun _ _ _ _ _ => (de_fn TT.f_atom_text R takes0 rfl (da_cons (de_var (i := 1) rfl (by first | exact Or.inl rfl | exact Or.inr (Or.inl rfl) | exact Or.inr (Or.inr rfl))) da_nil) (lenA_cons lenA_nil))))) (da_star rfl (de_frz (df_lcV rfl sc_clause_text.nd (⟨rfl, by decide +kernel, by decide +kernel, by decide +kernel, by decide +kernel⟩ : BlkOk n_clause_text (defScope s_clause_text) _ [("test", 2)]) rfl (di_seq rfl (de_fld TT.c_Clause TT.nf_Clause_tests rfl (de_var (i := 0) rfl (by first | exact Or.inl rfl | exact Or.inr (Or.inl rfl) | exact Or.inr (Or.inr rfl))))) rfl (fun _ _ _ _ _ => (dg_name (i := 2) sc_clause_text.nd rfl (by first | exact Or.inl rfl | exact Or.inr rfl) (by first | exact Or.inl rfl | exact Or.inr rfl))) (fun _ _ _ _ _ => dts_nil) (fun _ _ _ _ _ => (de_fn TT.f_test_text R takes0 rfl (da_cons (de_var (i := 2) rfl (by first | exact Or.inl rfl | exact Or.inr (Or.inl rfl) | exact Or.inr (Or.inr rfl))) da_nil) (lenA_cons lenA_nil))))) da_nil))))))))
theorem d_law_words {P : Program} {w : World} {K : PySem.W.Frag} {mg : Str → Option Value} {base : Heap} {n : Nat} {e_Question e_Clause : Addr} (TT : Txt P w K mg base n e_Question e_Clause) (f : Addr) (cdv : Value) (A : Around) (outer : List PySem.Env) (s : Shared) (H : Hp) (E : XK) (R : Room n (A.deeper (PyProof.Rows.envOfC "_law_words" (defScope s_law_words) s.heap.objs.size f cdv))) (Sn : Snap) :
    PSs (cxG P w K mg base n_law_words "_law_words" (defScope s_law_words) f cdv A outer s H E true []) (defBody s_law_words) (semS ⟨⟨K, w⟩, run tab n, Xs e_Question e_Clause, none⟩ (fun c d _ H' => E c d H') Sn B_law_words) :=
  (dss_cons (ds_own (i := 1) sc_law_words.nd rfl (by first | exact Or.inl rfl | exact Or.inr rfl) (df_lst da_nil) (Or.inl rfl))
  (dss_cons (ds_for passesG rfl (di_seq rfl (de_fld TT.c_Clause TT.nf_Clause_atoms rfl (de_var (i := 0) rfl (by first | exact Or.inl rfl | exact Or.inr (Or.inl rfl) | exact Or.inr (Or.inr rfl))))) (dg_tup rfl rfl (dgs_cons (dg_name (i := 2) sc_law_words.nd rfl (by first | exact Or.inl rfl | exact Or.inr rfl) (by first | exact Or.inl rfl | exact Or.inr rfl)) (dgs_cons (dg_name (i := 3) sc_law_words.nd rfl (by first | exact Or.inl rfl | exact Or.inr rfl) (by first | exact Or.inl rfl | exact Or.inr rfl)) (dgs_cons (dg_name (i := 4) sc_law_words.nd rfl (by first | exact Or.inl rfl | exact Or.inr rfl) (by first | exact Or.inl rfl | exact Or.inr rfl)) dgs_nil)))) (fun _ =>
  (dss_one (ds_app (i := 1) rfl rfl (by first | exact Or.inl rfl | exact Or.inr (Or.inl rfl) | exact Or.inr (Or.inr rfl)) (de_bin od_addA rfl (de_sub (de_bin od_addA rfl (de_sub (de_bin od_addA rfl (de_sub (de_bin od_addA rfl (de_brw (i := 2) rfl (by first | exact Or.inl rfl | exact Or.inr (Or.inl rfl) | exact Or.inr (Or.inr rfl))) (de_sub de_str))) (de_sub (de_tm tm_join PySem.F.slot_str_join PySem.F.type_str_join rfl (de_sub de_str) (de_sub (de_frz (df_lcV rfl sc_law_words.nd (⟨rfl, by decide +kernel, by decide +kernel, by decide +kernel, by decide +kernel⟩ : BlkOk n_law_words (defScope s_law_words) _ [("_law_term", 9)]) rfl (di_seq rfl (de_var (i := 3) rfl (by first | exact Or.inl rfl | exact Or.inr (Or.inl rfl) | exact Or.inr (Or.inr rfl)))) rfl (fun _ _ _ _ _ => (dg_name (i := 9) sc_law_words.nd rfl (by first | exact Or.inl rfl | exact Or.inr rfl) (by first | exact Or.inl rfl | exact Or.inr rfl))) (fun _ _ _ _ _ => dts_nil) (fun _ _ _ _ _ => (de_fn TT.f_law_word R takes0 rfl (da_cons (de_var (i := 9) rfl (by first | exact Or.inl rfl | exact Or.inr (Or.inl rfl) | exact Or.inr (Or.inr rfl))) da_nil) (lenA_cons lenA_nil)))))))))) (de_sub de_str))) (de_sub (de_fn TT.f_law_word R takesG rfl (da_cons (de_var (i := 4) rfl (by first | exact Or.inl rfl | exact Or.inr (Or.inl rfl) | exact Or.inr (Or.inr rfl))) da_nil) (lenA_cons lenA_nil))))))))
  (dss_cons (ds_set (i := 5) sc_law_words.nd rfl (by first | exact Or.inl rfl | exact Or.inr rfl) (de_dct (dd_disp rfl (pps_cons de_str de_str (pps_cons de_str de_str (pps_cons de_str de_str (pps_cons de_str de_str pps_nil)))) rfl rfl (by decide) (by decide))) (Or.inl rfl))
  (dss_one (ds_ret (de_bin od_addA rfl (de_brw (i := 1) rfl (by first | exact Or.inl rfl | exact Or.inr (Or.inl rfl) | exact Or.inr (Or.inr rfl))) (de_sub (de_frz (df_lcV rfl sc_law_words.nd (⟨rfl, by decide +kernel, by decide +kernel, by decide +kernel, by decide +kernel⟩ : BlkOk n_law_words (defScope s_law_words) _ [("_law_word_here", 6), ("_law_one", 7), ("_law_other", 8)]) rfl (di_seq rfl (de_fld TT.c_Clause TT.nf_Clause_tests rfl (de_var (i := 0) rfl (by first | exact Or.inl rfl | exact Or.inr (Or.inl rfl) | exact Or.inr (Or.inr rfl))))) rfl (fun _ _ _ _ _ => (dg_tup rfl rfl (dgs_cons (dg_name (i := 6) sc_law_words.nd rfl (by first | exact Or.inl rfl | exact Or.inr rfl) (by first | exact Or.inl rfl | exact Or.inr rfl)) (dgs_cons (dg_name (i := 7) sc_law_words.nd rfl (by first | exact Or.inl rfl | exact Or.inr rfl) (by first | exact Or.inl rfl | exact Or.inr rfl)) (dgs_cons (dg_name (i := 8) sc_law_words.nd rfl (by first | exact Or.inl rfl | exact Or.inr rfl) (by first | exact Or.inl rfl | exact Or.inr rfl)) dgs_nil))))) (fun _ _ _ _ _ => dts_nil) (fun _ _ _ _ _ => (de_bin od_addA rfl (de_sub (de_bin od_addA rfl (de_sub (de_fn TT.f_law_word R takes0 rfl (da_cons (de_var (i := 7) rfl (by first | exact Or.inl rfl | exact Or.inr (Or.inl rfl) | exact Or.inr (Or.inr rfl))) da_nil) (lenA_cons lenA_nil))) (de_sub (de_ix (id_D (hu65 R)) rfl (de_brw (i := 5) rfl (by first | exact Or.inl rfl | exact Or.inr (Or.inl rfl) | exact Or.inr (Or.inr rfl))) (de_brw (i := 6) rfl (by first | exact Or.inl rfl | exact Or.inr (Or.inl rfl) | exact Or.inr (Or.inr rfl))) (fun _ _ => rfl))))) (de_sub (de_fn TT.f_law_word R takes0 rfl (da_cons (de_var (i := 8) rfl (by first | exact Or.inl rfl | exact Or.inr (Or.inl rfl) | exact Or.inr (Or.inr rfl))) da_nil) (lenA_cons lenA_nil))))))))))))))
theorem d_atom_of {P : Program} {w : World} {K : PySem.W.Frag} {mg : Str → Option Value} {base : Heap} {n : Nat} {e_Question e_Clause : Addr} (TT : Txt P w K mg base n e_Question e_Clause) (f : Addr) (cdv : Value) (A : Around) (outer : List PySem.Env) (s : Shared) (H : Hp) (E : XK) (R : Room n (A.deeper (PyProof.Rows.envOfC "atom_of" (defScope s_atom_of) s.heap.objs.size f cdv))) (Sn : Snap) :
    PSs (cxG P w K mg base n_atom_of "atom_of" (defScope s_atom_of) f cdv A outer s H E true []) (defBody s_atom_of) (semS ⟨⟨K, w⟩, run tab n, Xs e_Question e_Clause, none⟩ (fun c d _ H' => E c d H') Sn B_atom_of) :=
  (dss_cons (ds_par2 rfl sc_atom_of.nd rfl rfl (by decide) rfl rfl (dm_cons (de_tm tm_find PySem.F.slot_str_find PySem.F.type_str_find rfl (de_brw (i := 0) rfl (by first | exact Or.inl rfl | exact Or.inr (Or.inl rfl) | exact Or.inr (Or.inr rfl))) (de_sub de_str)) (dm_cons (de_tm tm_find PySem.F.slot_str_find PySem.F.type_str_find rfl (de_brw (i := 0) rfl (by first | exact Or.inl rfl | exact Or.inr (Or.inl rfl) | exact Or.inr (Or.inr rfl))) (de_sub de_str)) dm_nil)) rfl)
  (dss_cons (ds_if (PW.pt (dw_or (dt_cmp od_lt rfl (de_brw (i := 1) rfl (by first | exact Or.inl rfl | exact Or.inr (Or.inl rfl) | exact Or.inr (Or.inr rfl))) (de_sub de_int) (nomark _)) (dt_or1 (dt_cmp od_lt rfl (de_brw (i := 2) rfl (by first | exact Or.inl rfl | exact Or.inr (Or.inl rfl) | exact Or.inr (Or.inr rfl))) (de_brw (i := 1) rfl (by first | exact Or.inl rfl | exact Or.inr (Or.inl rfl) | exact Or.inr (Or.inr rfl))) (nomark _)))))
  (dss_one (ds_ret de_non))
  dss_nil)
  (dss_cons (ds_setLcV rfl sc_atom_of.nd (i := 3) rfl rfl (by first | rfl | exact sw_true rfl rfl rfl (by decide +kernel)) (⟨rfl, by decide +kernel, by decide +kernel, by decide +kernel, by decide +kernel⟩ : BlkOk n_atom_of (defScope s_atom_of) _ [("part", 5)]) rfl (di_seq rfl (de_frz (df_tm tm_split PySem.F.slot_str_split PySem.F.type_str_split rfl (de_sub (de_slA rfl (de_brw (i := 0) rfl (by first | exact Or.inl rfl | exact Or.inr (Or.inl rfl) | exact Or.inr (Or.inr rfl))) (do_some (de_bin od_addA rfl (de_brw (i := 1) rfl (by first | exact Or.inl rfl | exact Or.inr (Or.inl rfl) | exact Or.inr (Or.inr rfl))) (de_sub de_int))) (do_some (de_var (i := 2) rfl (by first | exact Or.inl rfl | exact Or.inr (Or.inl rfl) | exact Or.inr (Or.inr rfl)))))) (de_sub de_str)))) rfl (fun _ _ _ _ _ => (dg_name (i := 5) sc_atom_of.nd rfl (by first | exact Or.inl rfl | exact Or.inr rfl) (by first | exact Or.inl rfl | exact Or.inr rfl))) (fun _ _ _ _ _ => dts_nil) (fun _ _ _ _ _ => (de_fn TT.f_term_of R takes0 rfl (da_cons (de_var (i := 5) rfl (by first | exact Or.inl rfl | exact Or.inr (Or.inl rfl) | exact Or.inr (Or.inr rfl))) (da_cons de_bl da_nil)) (lenA_cons (lenA_cons lenA_nil)))))
  (dss_cons (ds_set (i := 4) sc_atom_of.nd rfl (by first | exact Or.inl rfl | exact Or.inr rfl) (de_fn TT.f_term_of R takesG rfl (da_cons (de_slA rfl (de_brw (i := 0) rfl (by first | exact Or.inl rfl | exact Or.inr (Or.inl rfl) | exact Or.inr (Or.inr rfl))) (do_some (de_bin od_addA rfl (de_brw (i := 2) rfl (by first | exact Or.inl rfl | exact Or.inr (Or.inl rfl) | exact Or.inr (Or.inr rfl))) (de_sub de_int))) do_none) (da_cons de_bl da_nil)) (lenA_cons (lenA_cons lenA_nil))) (Or.inl rfl))
  (dss_cons (ds_if (PW.pt (dw_or (dt_cmp (od_in (hu65 R)) rfl (de_sub de_non) (de_brw (i := 3) rfl (by first | exact Or.inl rfl | exact Or.inr (Or.inl rfl) | exact Or.inr (Or.inr rfl))) (by with_unfolding_all rfl)) (dw_or (dt_cmp od_is rfl (de_brw (i := 4) rfl (by first | exact Or.inl rfl | exact Or.inr (Or.inl rfl) | exact Or.inr (Or.inr rfl))) (de_sub de_non) (nomark _)) (dw_or (dt_not (dt_val (de_fn TT.f_is_name R takesG rfl (da_cons (de_slA rfl (de_brw (i := 0) rfl (by first | exact Or.inl rfl | exact Or.inr (Or.inl rfl) | exact Or.inr (Or.inr rfl))) do_none (do_some (de_var (i := 1) rfl (by first | exact Or.inl rfl | exact Or.inr (Or.inl rfl) | exact Or.inr (Or.inr rfl))))) da_nil) (lenA_cons lenA_nil)))) (dt_or1 (dt_cmp od_gt rfl (de_sub (de_bb cb_len rfl rfl TT.b_len (by decide +kernel) (db_cons (de_brw (i := 3) rfl (by first | exact Or.inl rfl | exact Or.inr (Or.inl rfl) | exact Or.inr (Or.inr rfl))) db_nil))) (de_sub (de_globX rfl TT.g_MOST_NAMES_relations (fun _ _ => .int _))) (nomark _)))))))
  (dss_one (ds_ret de_non))
  dss_nil)
  (dss_one (ds_ret (de_tup (da_cons (de_slA rfl (de_brw (i := 0) rfl (by first | exact Or.inl rfl | exact Or.inr (Or.inl rfl) | exact Or.inr (Or.inr rfl))) do_none (do_some (de_var (i := 1) rfl (by first | exact Or.inl rfl | exact Or.inr (Or.inl rfl) | exact Or.inr (Or.inr rfl))))) (da_cons (de_bt cb_tuple rfl rfl TT.b_tuple (by decide +kernel) (db_cons (de_brw (i := 3) rfl (by first | exact Or.inl rfl | exact Or.inr (Or.inl rfl) | exact Or.inr (Or.inr rfl))) db_nil)) (da_cons (de_var (i := 4) rfl (by first | exact Or.inl rfl | exact Or.inr (Or.inl rfl) | exact Or.inr (Or.inr rfl))) da_nil)))))))))))
theorem d_atom_text {P : Program} {w : World} {K : PySem.W.Frag} {mg : Str → Option Value} {base : Heap} {n : Nat} {e_Question e_Clause : Addr} (TT : Txt P w K mg base n e_Question e_Clause) (f : Addr) (cdv : Value) (A : Around) (outer : List PySem.Env) (s : Shared) (H : Hp) (E : XK) (R : Room n (A.deeper (PyProof.Rows.envOfC "atom_text" (defScope s_atom_text) s.heap.objs.size f cdv))) (Sn : Snap) :
    PSs (cxG P w K mg base n_atom_text "atom_text" (defScope s_atom_text) f cdv A outer s H E true []) (defBody s_atom_text) (semS ⟨⟨K, w⟩, run tab n, Xs e_Question e_Clause, none⟩ (fun c d _ H' => E c d H') Sn B_atom_text) :=
  (dss_cons (ds_asg (de_var (i := 0) rfl (by first | exact Or.inl rfl | exact Or.inr (Or.inl rfl) | exact Or.inr (Or.inr rfl))) (dg_tup rfl rfl (dgs_cons (dg_name (i := 1) sc_atom_text.nd rfl (by first | exact Or.inl rfl | exact Or.inr rfl) (by first | exact Or.inl rfl | exact Or.inr rfl)) (dgs_cons (dg_name (i := 2) sc_atom_text.nd rfl (by first | exact Or.inl rfl | exact Or.inr rfl) (by first | exact Or.inl rfl | exact Or.inr rfl)) (dgs_cons (dg_name (i := 3) sc_atom_text.nd rfl (by first | exact Or.inl rfl | exact Or.inr rfl) (by first | exact Or.inl rfl | exact Or.inr rfl)) dgs_nil)))))
  (dss_one (ds_ret (de_bin od_addA rfl (de_sub (de_bin od_addA rfl (de_sub (de_bin od_addA rfl (de_sub (de_bin od_addA rfl (de_brw (i := 1) rfl (by first | exact Or.inl rfl | exact Or.inr (Or.inl rfl) | exact Or.inr (Or.inr rfl))) (de_sub de_str))) (de_sub (de_tm tm_join PySem.F.slot_str_join PySem.F.type_str_join rfl (de_sub de_str) (de_sub (de_frz (df_lcV rfl sc_atom_text.nd (⟨rfl, by decide +kernel, by decide +kernel, by decide +kernel, by decide +kernel⟩ : BlkOk n_atom_text (defScope s_atom_text) _ [("term", 4)]) rfl (di_seq rfl (de_var (i := 2) rfl (by first | exact Or.inl rfl | exact Or.inr (Or.inl rfl) | exact Or.inr (Or.inr rfl)))) rfl (fun _ _ _ _ _ => (dg_name (i := 4) sc_atom_text.nd rfl (by first | exact Or.inl rfl | exact Or.inr rfl) (by first | exact Or.inl rfl | exact Or.inr rfl))) (fun _ _ _ _ _ => dts_nil) (fun _ _ _ _ _ => (de_fn TT.f_term_text R takes0 rfl (da_cons (de_var (i := 4) rfl (by first | exact Or.inl rfl | exact Or.inr (Or.inl rfl) | exact Or.inr (Or.inr rfl))) da_nil) (lenA_cons lenA_nil)))))))))) (de_sub de_str))) (de_sub (de_fn TT.f_term_text R takesG rfl (da_cons (de_var (i := 3) rfl (by first | exact Or.inl rfl | exact Or.inr (Or.inl rfl) | exact Or.inr (Or.inr rfl))) da_nil) (lenA_cons lenA_nil)))))))
theorem d_test_of {P : Program} {w : World} {K : PySem.W.Frag} {mg : Str → Option Value} {base : Heap} {n : Nat} {e_Question e_Clause : Addr} (TT : Txt P w K mg base n e_Question e_Clause) (f : Addr) (cdv : Value) (A : Around) (outer : List PySem.Env) (s : Shared) (H : Hp) (E : XK) (R : Room n (A.deeper (PyProof.Rows.envOfC "test_of" (defScope s_test_of) s.heap.objs.size f cdv))) (Sn : Snap) :
    PSs (cxG P w K mg base n_test_of "test_of" (defScope s_test_of) f cdv A outer s H E true []) (defBody s_test_of) (semS ⟨⟨K, w⟩, run tab n, Xs e_Question e_Clause, none⟩ (fun c d _ H' => E c d H') Sn B_test_of) :=
  (dss_cons (ds_for passesG rfl (di_seq rfl (de_globT2 rfl rfl TT.g_OPS)) (dg_tup rfl rfl (dgs_cons (dg_name (i := 2) sc_test_of.nd rfl (by first | exact Or.inl rfl | exact Or.inr rfl) (by first | exact Or.inl rfl | exact Or.inr rfl)) (dgs_cons (dg_name (i := 3) sc_test_of.nd rfl (by first | exact Or.inl rfl | exact Or.inr rfl) (by first | exact Or.inl rfl | exact Or.inr rfl)) dgs_nil))) (fun _ =>
  (dss_cons (ds_set (i := 4) sc_test_of.nd rfl (by first | exact Or.inl rfl | exact Or.inr rfl) (de_tm tm_find PySem.F.slot_str_find PySem.F.type_str_find rfl (de_brw (i := 0) rfl (by first | exact Or.inl rfl | exact Or.inr (Or.inl rfl) | exact Or.inr (Or.inr rfl))) (de_brw (i := 2) rfl (by first | exact Or.inl rfl | exact Or.inr (Or.inl rfl) | exact Or.inr (Or.inr rfl)))) (Or.inl rfl))
  (dss_one (ds_if (dt_cmp od_gt rfl (de_brw (i := 4) rfl (by first | exact Or.inl rfl | exact Or.inr (Or.inl rfl) | exact Or.inr (Or.inr rfl))) (de_sub de_int) (nomark _))
  (dss_cons (ds_set (i := 5) sc_test_of.nd rfl (by first | exact Or.inl rfl | exact Or.inr rfl) (de_tup (da_cons (de_slA rfl (de_brw (i := 0) rfl (by first | exact Or.inl rfl | exact Or.inr (Or.inl rfl) | exact Or.inr (Or.inr rfl))) do_none (do_some (de_var (i := 4) rfl (by first | exact Or.inl rfl | exact Or.inr (Or.inl rfl) | exact Or.inr (Or.inr rfl))))) (da_cons (de_slA rfl (de_brw (i := 0) rfl (by first | exact Or.inl rfl | exact Or.inr (Or.inl rfl) | exact Or.inr (Or.inr rfl))) (do_some (de_bin od_addA rfl (de_brw (i := 4) rfl (by first | exact Or.inl rfl | exact Or.inr (Or.inl rfl) | exact Or.inr (Or.inr rfl))) (de_sub (de_bb cb_len rfl rfl TT.b_len (by decide +kernel) (db_cons (de_brw (i := 2) rfl (by first | exact Or.inl rfl | exact Or.inr (Or.inl rfl) | exact Or.inr (Or.inr rfl))) db_nil))))) do_none) da_nil))) (Or.inl rfl))
  (dss_cons (ds_set (i := 6) sc_test_of.nd rfl (by first | exact Or.inl rfl | exact Or.inr rfl) (de_bb (cb_any rfl) rfl rfl TT.b_any (by decide +kernel) (db_cons (de_sub (de_frz (df_lcV rfl sc_test_of.nd (⟨rfl, by decide +kernel, by decide +kernel, by decide +kernel, by decide +kernel⟩ : BlkOk n_test_of (defScope s_test_of) _ [("part", 8)]) rfl (di_seq rfl (de_var (i := 5) rfl (by first | exact Or.inl rfl | exact Or.inr (Or.inl rfl) | exact Or.inr (Or.inr rfl)))) rfl (fun _ _ _ _ _ => (dg_name (i := 8) sc_test_of.nd rfl (by first | exact Or.inl rfl | exact Or.inr rfl) (by first | exact Or.inl rfl | exact Or.inr rfl))) (fun _ _ _ _ _ => dts_nil) (fun _ _ _ _ _ => (de_fn TT.f_is_day_word R takes0 rfl (da_cons (de_var (i := 8) rfl (by first | exact Or.inl rfl | exact Or.inr (Or.inl rfl) | exact Or.inr (Or.inr rfl))) (da_cons (de_var (i := 1) rfl (by first | exact Or.inl rfl | exact Or.inr (Or.inl rfl) | exact Or.inr (Or.inr rfl))) da_nil)) (lenA_cons (lenA_cons lenA_nil))))))) db_nil)) (Or.inl rfl))
  (dss_cons (ds_set (i := 7) sc_test_of.nd rfl (by first | exact Or.inl rfl | exact Or.inr rfl) (de_tup (da_cons (de_var (i := 3) rfl (by first | exact Or.inl rfl | exact Or.inr (Or.inl rfl) | exact Or.inr (Or.inr rfl))) (da_cons (de_fn TT.f_term_of R takesG rfl (da_cons (de_ix id_ix rfl (de_brw (i := 5) rfl (by first | exact Or.inl rfl | exact Or.inr (Or.inl rfl) | exact Or.inr (Or.inr rfl))) (de_sub de_int) (fun _ _ => rfl)) (da_cons (de_var (i := 6) rfl (by first | exact Or.inl rfl | exact Or.inr (Or.inl rfl) | exact Or.inr (Or.inr rfl))) da_nil)) (lenA_cons (lenA_cons lenA_nil))) (da_cons (de_fn TT.f_term_of R takesG rfl (da_cons (de_ix id_ix rfl (de_brw (i := 5) rfl (by first | exact Or.inl rfl | exact Or.inr (Or.inl rfl) | exact Or.inr (Or.inr rfl))) (de_sub de_int) (fun _ _ => rfl)) (da_cons (de_var (i := 6) rfl (by first | exact Or.inl rfl | exact Or.inr (Or.inl rfl) | exact Or.inr (Or.inr rfl))) da_nil)) (lenA_cons (lenA_cons lenA_nil))) da_nil)))) (Or.inl rfl))
  (dss_one (ds_ret (de_if (PW.pt (dw_and (dt_cmp (od_notIn (hu65 R)) rfl (de_sub de_non) (de_brw (i := 7) rfl (by first | exact Or.inl rfl | exact Or.inr (Or.inl rfl) | exact Or.inr (Or.inr rfl))) (by with_unfolding_all rfl)) (dt_and1 (dt_val (de_fn TT.f_is_test R takesG rfl (da_cons (de_var (i := 7) rfl (by first | exact Or.inl rfl | exact Or.inr (Or.inl rfl) | exact Or.inr (Or.inr rfl))) da_nil) (lenA_cons lenA_nil)))))) (de_var (i := 7) rfl (by first | exact Or.inl rfl | exact Or.inr (Or.inl rfl) | exact Or.inr (Or.inr rfl))) de_non))))))
  dss_nil)))))
  (dss_one (ds_ret de_non)))
theorem d_test_text {P : Program} {w : World} {K : PySem.W.Frag} {mg : Str → Option Value} {base : Heap} {n : Nat} {e_Question e_Clause : Addr} (TT : Txt P w K mg base n e_Question e_Clause) (f : Addr) (cdv : Value) (A : Around) (outer : List PySem.Env) (s : Shared) (H : Hp) (E : XK) (R : Room n (A.deeper (PyProof.Rows.envOfC "test_text" (defScope s_test_text) s.heap.objs.size f cdv))) (Sn : Snap) :
    PSs (cxG P w K mg base n_test_text "test_text" (defScope s_test_text) f cdv A outer s H E true []) (defBody s_test_text) (semS ⟨⟨K, w⟩, run tab n, Xs e_Question e_Clause, none⟩ (fun c d _ H' => E c d H') Sn B_test_text) :=
  (dss_cons (ds_set (i := 1) sc_test_text.nd rfl (by first | exact Or.inl rfl | exact Or.inr rfl) (de_ix id_ix rfl (de_sub (de_frz (df_lcV rfl sc_test_text.nd (⟨rfl, by decide +kernel, by decide +kernel, by decide +kernel, by decide +kernel⟩ : BlkOk n_test_text (defScope s_test_text) _ [("told", 2), ("word", 3)]) rfl (di_seq rfl (de_globT2 rfl rfl TT.g_OPS)) rfl (fun _ _ _ _ _ => (dg_tup rfl rfl (dgs_cons (dg_name (i := 2) sc_test_text.nd rfl (by first | exact Or.inl rfl | exact Or.inr rfl) (by first | exact Or.inl rfl | exact Or.inr rfl)) (dgs_cons (dg_name (i := 3) sc_test_text.nd rfl (by first | exact Or.inl rfl | exact Or.inr rfl) (by first | exact Or.inl rfl | exact Or.inr rfl)) dgs_nil)))) (fun _ _ _ _ _ => (dts_one (dt_cmp (od_eq (hu65 R)) rfl (de_brw (i := 3) rfl (by first | exact Or.inl rfl | exact Or.inr (Or.inl rfl) | exact Or.inr (Or.inr rfl))) (de_sub (de_ix id_ix rfl (de_brw (i := 0) rfl (by first | exact Or.inl rfl | exact Or.inr (Or.inl rfl) | exact Or.inr (Or.inr rfl))) (de_sub de_int) (fun _ _ => rfl))) (nomark _)))) (fun _ _ _ _ _ => (de_var (i := 2) rfl (by first | exact Or.inl rfl | exact Or.inr (Or.inl rfl) | exact Or.inr (Or.inr rfl))))))) (de_sub de_int) (fun _ _ => rfl)) (Or.inl rfl))
  (dss_one (ds_ret (de_bin od_addA rfl (de_sub (de_bin od_addA rfl (de_sub (de_fn TT.f_term_text R takesG rfl (da_cons (de_ix id_ix rfl (de_brw (i := 0) rfl (by first | exact Or.inl rfl | exact Or.inr (Or.inl rfl) | exact Or.inr (Or.inr rfl))) (de_sub de_int) (fun _ _ => rfl)) da_nil) (lenA_cons lenA_nil))) (de_brw (i := 1) rfl (by first | exact Or.inl rfl | exact Or.inr (Or.inl rfl) | exact Or.inr (Or.inr rfl))))) (de_sub (de_fn TT.f_term_text R takesG rfl (da_cons (de_ix id_ix rfl (de_brw (i := 0) rfl (by first | exact Or.inl rfl | exact Or.inr (Or.inl rfl) | exact Or.inr (Or.inr rfl))) (de_sub de_int) (fun _ _ => rfl)) da_nil) (lenA_cons lenA_nil)))))))
theorem d_answers_text {P : Program} {w : World} {K : PySem.W.Frag} {mg : Str → Option Value} {base : Heap} {n : Nat} {e_Question e_Clause : Addr} (TT : Txt P w K mg base n e_Question e_Clause) (f : Addr) (cdv : Value) (A : Around) (outer : List PySem.Env) (s : Shared) (H : Hp) (E : XK) (R : Room n (A.deeper (PyProof.Rows.envOfC "answers_text" (defScope s_answers_text) s.heap.objs.size f cdv))) (Sn : Snap) :
    PSs (cxG P w K mg base n_answers_text "answers_text" (defScope s_answers_text) f cdv A outer s H E true []) (defBody s_answers_text) (semS ⟨⟨K, w⟩, run tab n, Xs e_Question e_Clause, none⟩ (fun c d _ H' => E c d H') Sn B_answers_text) :=
  (dss_one (ds_ret (de_if (dt_cmp (od_ne (hu65 R)) rfl (de_sub (de_bt cb_list rfl rfl TT.b_list (by decide +kernel) (db_cons (de_brw (i := 0) rfl (by first | exact Or.inl rfl | exact Or.inr (Or.inl rfl) | exact Or.inr (Or.inr rfl))) db_nil))) (de_sub (de_frz (df_lst da_nil))) (nomark _)) (de_tm tm_join PySem.F.slot_str_join PySem.F.type_str_join rfl (de_sub de_str) (de_sub (de_frz (df_lcV rfl sc_answers_text.nd (⟨rfl, by decide +kernel, by decide +kernel, by decide +kernel, by decide +kernel⟩ : BlkOk n_answers_text (defScope s_answers_text) _ [("names", 1)]) rfl (di_seq rfl (de_var (i := 0) rfl (by first | exact Or.inl rfl | exact Or.inr (Or.inl rfl) | exact Or.inr (Or.inr rfl)))) rfl (fun _ _ _ _ _ => (dg_name (i := 1) sc_answers_text.nd rfl (by first | exact Or.inl rfl | exact Or.inr rfl) (by first | exact Or.inl rfl | exact Or.inr rfl))) (fun _ _ _ _ _ => dts_nil) (fun _ _ _ _ _ => (de_fn TT.f_answer_text R takes0 rfl (da_cons (de_var (i := 1) rfl (by first | exact Or.inl rfl | exact Or.inr (Or.inl rfl) | exact Or.inr (Or.inr rfl))) da_nil) (lenA_cons lenA_nil))))))) de_str)))
theorem d_law_pick {P : Program} {w : World} {K : PySem.W.Frag} {mg : Str → Option Value} {base : Heap} {n : Nat} {e_Question e_Clause : Addr} (TT : Txt P w K mg base n e_Question e_Clause) (f : Addr) (cdv : Value) (A : Around) (outer : List PySem.Env) (s : Shared) (H : Hp) (E : XK) (R : Room n (A.deeper (PyProof.Rows.envOfC "_law_pick" (defScope s_law_pick) s.heap.objs.size f cdv))) (Sn : Snap) :
    PSs (cxG P w K mg base n_law_pick "_law_pick" (defScope s_law_pick) f cdv A outer s H E true []) (defBody s_law_pick) (semS ⟨⟨K, w⟩, run tab n, Xs e_Question e_Clause, none⟩ (fun c d _ H' => E c d H') Sn B_law_pick) :=
  (dss_one (ds_ret (de_ix id_ix rfl (de_brw (i := 1) rfl (by first | exact Or.inl rfl | exact Or.inr (Or.inl rfl) | exact Or.inr (Or.inr rfl))) (de_sub (de_fn TT.f_law_take R takesG rfl (da_cons (de_var (i := 0) rfl (by first | exact Or.inl rfl | exact Or.inr (Or.inl rfl) | exact Or.inr (Or.inr rfl))) (da_cons (de_bb cb_len rfl rfl TT.b_len (by decide +kernel) (db_cons (de_brw (i := 1) rfl (by first | exact Or.inl rfl | exact Or.inr (Or.inl rfl) | exact Or.inr (Or.inr rfl))) db_nil)) da_nil)) (lenA_cons (lenA_cons lenA_nil)))) (fun _ _ => rfl))))
theorem d_law_take {P : Program} {w : World} {K : PySem.W.Frag} {mg : Str → Option Value} {base : Heap} {n : Nat} {e_Question e_Clause : Addr} (TT : Txt P w K mg base n e_Question e_Clause) (f : Addr) (cdv : Value) (A : Around) (outer : List PySem.Env) (s : Shared) (H : Hp) (E : XK) (R : Room n (A.deeper (PyProof.Rows.envOfC "_law_take" (defScope s_law_take) s.heap.objs.size f cdv))) (Sn : Snap) :
    PSs (cxG P w K mg base n_law_take "_law_take" (defScope s_law_take) f cdv A outer s H E true []) (defBody s_law_take) (semS ⟨⟨K, w⟩, run tab n, Xs e_Question e_Clause, none⟩ (fun c d _ H' => E c d H') Sn B_law_take) :=
  (dss_cons (ds_set (i := 2) sc_law_take.nd rfl (by first | exact Or.inl rfl | exact Or.inr rfl) (de_if (dt_cmp (od_ne (hu65 R)) rfl (de_sub (de_ix id_ix rfl (de_brw (i := 0) rfl (by first | exact Or.inl rfl | exact Or.inr (Or.inl rfl) | exact Or.inr (Or.inr rfl))) (de_sub de_int) (fun _ _ => rfl))) (de_sub (de_frz (df_lst da_nil))) (nomark _)) (de_ix id_ix rfl (de_sub (de_ix id_ix rfl (de_brw (i := 0) rfl (by first | exact Or.inl rfl | exact Or.inr (Or.inl rfl) | exact Or.inr (Or.inr rfl))) (de_sub de_int) (fun _ _ => rfl))) (de_sub (de_bin od_mod rfl (de_sub (de_ix id_ix rfl (de_brw (i := 0) rfl (by first | exact Or.inl rfl | exact Or.inr (Or.inl rfl) | exact Or.inr (Or.inr rfl))) (de_sub de_int) (fun _ _ => rfl))) (de_sub (de_bb cb_len rfl rfl TT.b_len (by decide +kernel) (db_cons (de_sub (de_ix id_ix rfl (de_brw (i := 0) rfl (by first | exact Or.inl rfl | exact Or.inr (Or.inl rfl) | exact Or.inr (Or.inr rfl))) (de_sub de_int) (fun _ _ => rfl))) db_nil))))) (fun _ _ => rfl)) de_int) (Or.inl rfl))
  (dss_cons (ds_set (i := 3) sc_law_take.nd rfl (by first | exact Or.inl rfl | exact Or.inr rfl) (de_bin od_fdiv rfl (de_sub (de_ix id_ix rfl (de_brw (i := 0) rfl (by first | exact Or.inl rfl | exact Or.inr (Or.inl rfl) | exact Or.inr (Or.inr rfl))) (de_sub de_int) (fun _ _ => rfl))) (de_sub (de_bb (cb_maxL rfl) rfl rfl TT.b_max (by decide +kernel) (db_cons (de_sub (de_frz (df_lst (da_cons de_int (da_cons (de_bb cb_len rfl rfl TT.b_len (by decide +kernel) (db_cons (de_sub (de_ix id_ix rfl (de_brw (i := 0) rfl (by first | exact Or.inl rfl | exact Or.inr (Or.inl rfl) | exact Or.inr (Or.inr rfl))) (de_sub de_int) (fun _ _ => rfl))) db_nil)) da_nil))))) db_nil)))) (Or.inl rfl))
  (dss_cons (ds_stoAug oi_add rfl (de_var (i := 0) rfl (by first | exact Or.inl rfl | exact Or.inr (Or.inl rfl) | exact Or.inr (Or.inr rfl))) de_int de_int)
  (dss_cons (ds_if (dt_cmp od_ge rfl (de_brw (i := 2) rfl (by first | exact Or.inl rfl | exact Or.inr (Or.inl rfl) | exact Or.inr (Or.inr rfl))) (de_sub (de_bin od_pow rfl (de_sub de_int) (de_sub de_int))) (nomark _))
  (dss_cons (ds_for passesG rfl (di_rng1 rfl TT.b_range (da_cons (de_bin od_mod rfl (de_brw (i := 3) rfl (by first | exact Or.inl rfl | exact Or.inr (Or.inl rfl) | exact Or.inr (Or.inr rfl))) (de_sub de_int)) da_nil)) (dg_name (i := 5) sc_law_take.nd rfl (by first | exact Or.inl rfl | exact Or.inr rfl) (by first | exact Or.inl rfl | exact Or.inr rfl)) (fun _ =>
  (dss_one (ds_set (i := 2) sc_law_take.nd rfl (by first | exact Or.inl rfl | exact Or.inr rfl) (de_bin od_fdiv rfl (de_brw (i := 2) rfl (by first | exact Or.inl rfl | exact Or.inr (Or.inl rfl) | exact Or.inr (Or.inr rfl))) (de_sub de_int)) (Or.inl rfl)))))
  (dss_one (ds_ret (de_bin od_mod rfl (de_sub (de_bin od_mod rfl (de_sub (de_bt cb_int2 rfl rfl TT.b_int (by decide +kernel) (db_cons (de_brw (i := 2) rfl (by first | exact Or.inl rfl | exact Or.inr (Or.inl rfl) | exact Or.inr (Or.inr rfl))) db_nil))) (de_sub de_int))) (de_brw (i := 1) rfl (by first | exact Or.inl rfl | exact Or.inr (Or.inl rfl) | exact Or.inr (Or.inr rfl)))))))
  dss_nil)
  (dss_cons (ds_set (i := 4) sc_law_take.nd rfl (by first | exact Or.inl rfl | exact Or.inr rfl) (de_bin od_mod rfl (de_sub (de_bin od_mul rfl (de_sub (de_bin od_addA rfl (de_sub (de_bin od_addA rfl (de_sub (de_bin od_mod rfl (de_sub (de_bt cb_int2 rfl rfl TT.b_int (by decide +kernel) (db_cons (de_sub (de_bin od_addA rfl (de_brw (i := 2) rfl (by first | exact Or.inl rfl | exact Or.inr (Or.inl rfl) | exact Or.inr (Or.inr rfl))) (de_sub (de_bin od_mul rfl (de_sub de_int) (de_brw (i := 3) rfl (by first | exact Or.inl rfl | exact Or.inr (Or.inl rfl) | exact Or.inr (Or.inr rfl))))))) db_nil))) (de_sub de_int))) (de_sub (de_bin od_mul rfl (de_sub de_int) (de_sub (de_ix id_ix rfl (de_brw (i := 0) rfl (by first | exact Or.inl rfl | exact Or.inr (Or.inl rfl) | exact Or.inr (Or.inr rfl))) (de_sub de_int) (fun _ _ => rfl))))))) (de_sub de_int))) (de_sub de_int))) (de_sub de_int)) (Or.inl rfl))
  (dss_one (ds_ret (de_bin od_mod rfl (de_sub (de_bt cb_int2 rfl rfl TT.b_int (by decide +kernel) (db_cons (de_sub (de_bin od_mod rfl (de_sub (de_bin od_mul rfl (de_brw (i := 4) rfl (by first | exact Or.inl rfl | exact Or.inr (Or.inl rfl) | exact Or.inr (Or.inr rfl))) (de_sub de_int))) (de_sub de_int))) db_nil))) (de_brw (i := 1) rfl (by first | exact Or.inl rfl | exact Or.inr (Or.inl rfl) | exact Or.inr (Or.inr rfl)))))))))))
theorem d_law_clause {P : Program} {w : World} {K : PySem.W.Frag} {mg : Str → Option Value} {base : Heap} {n : Nat} {e_Question e_Clause : Addr} (TT : Txt P w K mg base n e_Question e_Clause) (f : Addr) (cdv : Value) (A : Around) (outer : List PySem.Env) (s : Shared) (H : Hp) (E : XK) (R : Room n (A.deeper (PyProof.Rows.envOfC "_law_clause" (defScope s_law_clause) s.heap.objs.size f cdv))) (Sn : Snap) :
    PSs (cxG P w K mg base n_law_clause "_law_clause" (defScope s_law_clause) f cdv A outer s H E true []) (defBody s_law_clause) (semS ⟨⟨K, w⟩, run tab n, Xs e_Question e_Clause, none⟩ (fun c d _ H' => E c d H') Sn B_law_clause) :=
  (dss_cons (ds_ownLcV rfl sc_law_clause.nd (i := 4) rfl rfl rfl (⟨rfl, by decide +kernel, by decide +kernel, by decide +kernel, by decide +kernel⟩ : BlkOk n_law_clause (defScope s_law_clause) _ [("_law_turn", 12)]) rfl (di_rng1 rfl TT.b_range (da_cons (de_bin od_addA rfl (de_sub de_int) (de_sub (de_fn TT.f_law_take R takesG rfl (da_cons (de_var (i := 0) rfl (by first | exact Or.inl rfl | exact Or.inr (Or.inl rfl) | exact Or.inr (Or.inr rfl))) (da_cons (de_var (i := 2) rfl (by first | exact Or.inl rfl | exact Or.inr (Or.inl rfl) | exact Or.inr (Or.inr rfl))) da_nil)) (lenA_cons (lenA_cons lenA_nil))))) da_nil)) rfl (fun _ _ _ _ _ => (dg_name (i := 12) sc_law_clause.nd rfl (by first | exact Or.inl rfl | exact Or.inr rfl) (by first | exact Or.inl rfl | exact Or.inr rfl))) (fun _ _ _ _ _ => dts_nil) (fun _ _ _ _ _ => (de_fn TT.f_law_atom R takes0 rfl (da_cons (de_var (i := 0) rfl (by first | exact Or.inl rfl | exact Or.inr (Or.inl rfl) | exact Or.inr (Or.inr rfl))) (da_cons (de_var (i := 3) rfl (by first | exact Or.inl rfl | exact Or.inr (Or.inl rfl) | exact Or.inr (Or.inr rfl))) da_nil)) (lenA_cons (lenA_cons lenA_nil)))))
  (dss_cons (ds_for passesG rfl (di_seq rfl (de_var (i := 1) rfl (by first | exact Or.inl rfl | exact Or.inr (Or.inl rfl) | exact Or.inr (Or.inr rfl)))) (dg_name (i := 5) sc_law_clause.nd rfl (by first | exact Or.inl rfl | exact Or.inr rfl) (by first | exact Or.inl rfl | exact Or.inr rfl)) (fun _ =>
  (dss_one (ds_if (dt_not (dt_val (de_bb (cb_any rfl) rfl rfl TT.b_any (by decide +kernel) (db_cons (de_sub (de_frz (df_lc2 rfl sc_law_clause.nd (⟨rfl, by decide +kernel, by decide +kernel, by decide +kernel, by decide +kernel⟩ : BlkOk n_law_clause (defScope s_law_clause) _ [("_law_relation", 8), ("_law_names", 6), ("_law_day", 10)]) rfl (di_own (i := 4) rfl rfl (by first | exact Or.inl rfl | exact Or.inr (Or.inl rfl) | exact Or.inr (Or.inr rfl))) rfl (fun _ _ _ _ _ => (dg_tup rfl rfl (dgs_cons (dg_name (i := 8) sc_law_clause.nd rfl (by first | exact Or.inl rfl | exact Or.inr rfl) (by first | exact Or.inl rfl | exact Or.inr rfl)) (dgs_cons (dg_name (i := 6) sc_law_clause.nd rfl (by first | exact Or.inl rfl | exact Or.inr rfl) (by first | exact Or.inl rfl | exact Or.inr rfl)) (dgs_cons (dg_name (i := 10) sc_law_clause.nd rfl (by first | exact Or.inl rfl | exact Or.inr rfl) (by first | exact Or.inl rfl | exact Or.inr rfl)) dgs_nil))))) (fun _ _ _ _ _ => dts_nil) (fun _ _ _ _ _ => (de_cmp (od_in (hu65 R)) rfl (de_brw (i := 5) rfl (by first | exact Or.inl rfl | exact Or.inr (Or.inl rfl) | exact Or.inr (Or.inr rfl))) (de_brw (i := 6) rfl (by first | exact Or.inl rfl | exact Or.inr (Or.inl rfl) | exact Or.inr (Or.inr rfl))) (by with_unfolding_all rfl)))))) db_nil))))
  (dss_one (ds_setI (i := 4) rfl (by first | exact Or.inl rfl | exact Or.inr (Or.inl rfl) | exact Or.inr (Or.inr rfl)) de_int (de_if (dt_cmp (od_eq (hu65 R)) rfl (de_sub (de_bb cb_len rfl rfl TT.b_len (by decide +kernel) (db_cons (de_brw (i := 1) rfl (by first | exact Or.inl rfl | exact Or.inr (Or.inl rfl) | exact Or.inr (Or.inr rfl))) db_nil))) (de_sub de_int) (nomark _)) (de_tup (da_cons de_str (da_cons (de_tup (da_cons (de_var (i := 5) rfl (by first | exact Or.inl rfl | exact Or.inr (Or.inl rfl) | exact Or.inr (Or.inr rfl))) (da_cons (de_fn TT.f_law_name_term R takesG rfl (da_cons (de_var (i := 0) rfl (by first | exact Or.inl rfl | exact Or.inr (Or.inl rfl) | exact Or.inr (Or.inr rfl))) da_nil) (lenA_cons lenA_nil)) da_nil))) (da_cons (de_ix id_ix rfl (de_sub (de_ix id_ix rfl (de_brw (i := 4) rfl (by first | exact Or.inl rfl | exact Or.inr (Or.inl rfl) | exact Or.inr (Or.inr rfl))) (de_sub de_int) (fun _ _ => rfl))) (de_sub de_int) (fun _ _ => rfl)) da_nil)))) (de_tup (da_cons de_str (da_cons (de_tup (da_cons (de_ix id_ix rfl (de_brw (i := 1) rfl (by first | exact Or.inl rfl | exact Or.inr (Or.inl rfl) | exact Or.inr (Or.inr rfl))) (de_sub de_int) (fun _ _ => rfl)) (da_cons (de_ix id_ix rfl (de_brw (i := 1) rfl (by first | exact Or.inl rfl | exact Or.inr (Or.inl rfl) | exact Or.inr (Or.inr rfl))) (de_sub de_int) (fun _ _ => rfl)) da_nil))) (da_cons (de_ix id_ix rfl (de_sub (de_ix id_ix rfl (de_brw (i := 4) rfl (by first | exact Or.inl rfl | exact Or.inr (Or.inl rfl) | exact Or.inr (Or.inr rfl))) (de_sub de_int) (fun _ _ => rfl))) (de_sub de_int) (fun _ _ => rfl)) da_nil)))))))
  dss_nil))))
  (dss_cons (ds_ownD (i := 6) sc_law_clause.nd rfl (by first | exact Or.inl rfl | exact Or.inr rfl) dd_empty (Or.inl rfl))
  (dss_cons (ds_ownD (i := 7) sc_law_clause.nd rfl (by first | exact Or.inl rfl | exact Or.inr rfl) dd_empty (Or.inl rfl))
  (dss_frz (i := 4) (dss_cons (ds_for passesG rfl (di_seq rfl (de_var (i := 4) rfl (by first | exact Or.inl rfl | exact Or.inr (Or.inl rfl) | exact Or.inr (Or.inr rfl)))) (dg_tup rfl rfl (dgs_cons (dg_name (i := 8) sc_law_clause.nd rfl (by first | exact Or.inl rfl | exact Or.inr rfl) (by first | exact Or.inl rfl | exact Or.inr rfl)) (dgs_cons (dg_name (i := 9) sc_law_clause.nd rfl (by first | exact Or.inl rfl | exact Or.inr rfl) (by first | exact Or.inl rfl | exact Or.inr rfl)) (dgs_cons (dg_name (i := 10) sc_law_clause.nd rfl (by first | exact Or.inl rfl | exact Or.inr rfl) (by first | exact Or.inl rfl | exact Or.inr rfl)) dgs_nil)))) (fun _ =>
  (dss_cons (ds_for passesG rfl (di_seq rfl (de_var (i := 9) rfl (by first | exact Or.inl rfl | exact Or.inr (Or.inl rfl) | exact Or.inr (Or.inr rfl)))) (dg_name (i := 5) sc_law_clause.nd rfl (by first | exact Or.inl rfl | exact Or.inr rfl) (by first | exact Or.inl rfl | exact Or.inr rfl)) (fun _ =>
  (dss_one (ds_dput (i := 6) (hu65 R) rfl rfl (by first | exact Or.inl rfl | exact Or.inr (Or.inl rfl) | exact Or.inr (Or.inr rfl)) (de_var (i := 5) rfl (by first | exact Or.inl rfl | exact Or.inr (Or.inl rfl) | exact Or.inr (Or.inr rfl))) de_bl))))
  (dss_one (ds_dput (i := 7) (hu65 R) rfl rfl (by first | exact Or.inl rfl | exact Or.inr (Or.inl rfl) | exact Or.inr (Or.inr rfl)) (de_var (i := 10) rfl (by first | exact Or.inl rfl | exact Or.inr (Or.inl rfl) | exact Or.inr (Or.inr rfl))) de_bl)))))
  (dss_cons (ds_own (i := 11) sc_law_clause.nd rfl (by first | exact Or.inl rfl | exact Or.inr rfl) (df_lst da_nil) (Or.inl rfl))
  (dss_cons (ds_for passesG rfl (di_rng1 rfl TT.b_range (da_cons (de_fn TT.f_law_take R takesG rfl (da_cons (de_var (i := 0) rfl (by first | exact Or.inl rfl | exact Or.inr (Or.inl rfl) | exact Or.inr (Or.inr rfl))) (da_cons de_int da_nil)) (lenA_cons (lenA_cons lenA_nil))) da_nil)) (dg_name (i := 12) sc_law_clause.nd rfl (by first | exact Or.inl rfl | exact Or.inr rfl) (by first | exact Or.inl rfl | exact Or.inr rfl)) (fun _ =>
  (dss_one (ds_if (PW.pt (dw_and (dt_cmp (od_eq (hu65 R)) rfl (de_sub (de_fn TT.f_law_take R takesG rfl (da_cons (de_var (i := 0) rfl (by first | exact Or.inl rfl | exact Or.inr (Or.inl rfl) | exact Or.inr (Or.inr rfl))) (da_cons de_int da_nil)) (lenA_cons (lenA_cons lenA_nil)))) (de_sub de_int) (nomark _)) (dt_and1 (dt_cmp od_gt rfl (de_sub (de_bb cb_lenD rfl rfl TT.b_len (by decide +kernel) (db_cons (de_brw (i := 6) rfl (by first | exact Or.inl rfl | exact Or.inr (Or.inl rfl) | exact Or.inr (Or.inr rfl))) db_nil))) (de_sub de_int) (nomark _)))))
  (dss_one (ds_app (i := 11) rfl rfl (by first | exact Or.inl rfl | exact Or.inr (Or.inl rfl) | exact Or.inr (Or.inr rfl)) (de_tup (da_cons (de_fn TT.f_law_pick R takesG rfl (da_cons (de_var (i := 0) rfl (by first | exact Or.inl rfl | exact Or.inr (Or.inl rfl) | exact Or.inr (Or.inr rfl))) (da_cons (de_frz (df_lst (da_cons de_str (da_cons de_str (da_cons de_str da_nil))))) da_nil)) (lenA_cons (lenA_cons lenA_nil))) (da_cons (de_fn TT.f_law_pick R takesG rfl (da_cons (de_var (i := 0) rfl (by first | exact Or.inl rfl | exact Or.inr (Or.inl rfl) | exact Or.inr (Or.inr rfl))) (da_cons (de_bt (cb_list3 rfl) rfl rfl TT.b_list (by decide +kernel) (db_cons (de_brw (i := 6) rfl (by first | exact Or.inl rfl | exact Or.inr (Or.inl rfl) | exact Or.inr (Or.inr rfl))) db_nil)) da_nil)) (lenA_cons (lenA_cons lenA_nil))) (da_cons (de_fn TT.f_law_pick R takesG rfl (da_cons (de_var (i := 0) rfl (by first | exact Or.inl rfl | exact Or.inr (Or.inl rfl) | exact Or.inr (Or.inr rfl))) (da_cons (de_bin od_addA rfl (de_sub (de_bt (cb_list3 rfl) rfl rfl TT.b_list (by decide +kernel) (db_cons (de_brw (i := 6) rfl (by first | exact Or.inl rfl | exact Or.inr (Or.inl rfl) | exact Or.inr (Or.inr rfl))) db_nil))) (de_sub (de_frz (df_lst (da_cons (de_tup (da_cons de_str (da_cons de_str da_nil))) da_nil))))) da_nil)) (lenA_cons (lenA_cons lenA_nil))) da_nil))))))
  (dss_cons (ds_set (i := 13) sc_law_clause.nd rfl (by first | exact Or.inl rfl | exact Or.inr rfl) (de_fn TT.f_law_pick R takesG rfl (da_cons (de_var (i := 0) rfl (by first | exact Or.inl rfl | exact Or.inr (Or.inl rfl) | exact Or.inr (Or.inr rfl))) (da_cons (de_bin od_addA rfl (de_sub (de_bin od_addA rfl (de_sub (de_bt (cb_list3 rfl) rfl rfl TT.b_list (by decide +kernel) (db_cons (de_brw (i := 7) rfl (by first | exact Or.inl rfl | exact Or.inr (Or.inl rfl) | exact Or.inr (Or.inr rfl))) db_nil))) (de_sub (de_frz (df_lst (da_cons (de_tup (da_cons de_str (da_cons de_int da_nil))) (da_cons (de_tup (da_cons de_str (da_cons de_int da_nil))) da_nil))))))) (de_sub (de_if (dt_val (de_var (i := 3) rfl (by first | exact Or.inl rfl | exact Or.inr (Or.inl rfl) | exact Or.inr (Or.inr rfl)))) (de_frz (df_lst (da_cons (de_tup (da_cons de_str da_nil)) da_nil))) (de_frz (df_lst da_nil))))) da_nil)) (lenA_cons (lenA_cons lenA_nil))) (Or.inl rfl))
  (dss_one (ds_app (i := 11) rfl rfl (by first | exact Or.inl rfl | exact Or.inr (Or.inl rfl) | exact Or.inr (Or.inr rfl)) (de_tup (da_cons (de_fn TT.f_law_pick R takesG rfl (da_cons (de_var (i := 0) rfl (by first | exact Or.inl rfl | exact Or.inr (Or.inl rfl) | exact Or.inr (Or.inr rfl))) (da_cons (de_frz (df_lst (da_cons de_str (da_cons de_str (da_cons de_str (da_cons de_str (da_cons de_str da_nil))))))) da_nil)) (lenA_cons (lenA_cons lenA_nil))) (da_cons (de_fn TT.f_law_pick R takesG rfl (da_cons (de_var (i := 0) rfl (by first | exact Or.inl rfl | exact Or.inr (Or.inl rfl) | exact Or.inr (Or.inr rfl))) (da_cons (de_bt (cb_list3 rfl) rfl rfl TT.b_list (by decide +kernel) (db_cons (de_brw (i := 7) rfl (by first | exact Or.inl rfl | exact Or.inr (Or.inl rfl) | exact Or.inr (Or.inr rfl))) db_nil)) da_nil)) (lenA_cons (lenA_cons lenA_nil))) (da_cons (de_var (i := 13) rfl (by first | exact Or.inl rfl | exact Or.inr (Or.inl rfl) | exact Or.inr (Or.inr rfl))) da_nil)))))))))))
  (dss_one (ds_ret (de_stl (de_new TT.c_Clause TT.f_Clause__init R takesG rfl rfl (da_cons (de_bt cb_tuple rfl rfl TT.b_tuple (by decide +kernel) (db_cons (de_brw (i := 4) rfl (by first | exact Or.inl rfl | exact Or.inr (Or.inl rfl) | exact Or.inr (Or.inr rfl))) db_nil)) (da_cons (de_bt cb_tuple rfl rfl TT.b_tuple (by decide +kernel) (db_cons (de_brw (i := 11) rfl (by first | exact Or.inl rfl | exact Or.inr (Or.inl rfl) | exact Or.inr (Or.inr rfl))) db_nil)) da_nil)) (lenA_cons (lenA_cons lenA_nil))))))))))))))
theorem d_Question__init__b {P : Program} {w : World} {K : PySem.W.Frag} {mg : Str → Option Value} {base : Heap} {n : Nat} {e_Question e_Clause : Addr} (TT : Txt P w K mg base n e_Question e_Clause) (f : Addr) (cdv : Value) (A : Around) (outer : List PySem.Env) (s : Shared) (H : Hp) (E : XK) (R : Room n (A.deeper (PyProof.Rows.envOfC "Question.__init__" (defScope s_Question__init__b) s.heap.objs.size f cdv))) (Sn : Snap) :
    PSs (cxG P w K mg base n_Question__init__b "Question.__init__" (defScope s_Question__init__b) f cdv A outer s H E true []) (defBody s_Question__init__b) (semS ⟨⟨K, w⟩, run tab n, Xs e_Question e_Clause, none⟩ (fun c d _ H' => E c d H') Sn B_Question__init__b) :=
  (dss_cons (ds_if (PW.pt (dw_or (dt_not (dt_val (de_isi rfl rfl TT.b_isinstance rfl TT.b_tuple (by decide +kernel) (de_brw (i := 1) rfl (by first | exact Or.inl rfl | exact Or.inr (Or.inl rfl) | exact Or.inr (Or.inr rfl)))))) (dw_or (dt_cmp od_gt rfl (de_sub (de_bb cb_len rfl rfl TT.b_len (by decide +kernel) (db_cons (de_brw (i := 1) rfl (by first | exact Or.inl rfl | exact Or.inr (Or.inl rfl) | exact Or.inr (Or.inr rfl))) db_nil))) (de_sub (de_globX rfl TT.g_MOST_HEAD (fun _ _ => .int _))) (nomark _)) (dt_or1 (dt_not (dt_val (de_bb (cb_all rfl) rfl rfl TT.b_all (by decide +kernel) (db_cons (de_sub (de_frz (df_lcV rfl sc_Question__init__b.nd (⟨rfl, by decide +kernel, by decide +kernel, by decide +kernel, by decide +kernel⟩ : BlkOk n_Question__init__b (defScope s_Question__init__b) _ [("term", 5)]) rfl (di_seq rfl (de_var (i := 1) rfl (by first | exact Or.inl rfl | exact Or.inr (Or.inl rfl) | exact Or.inr (Or.inr rfl)))) rfl (fun _ _ _ _ _ => (dg_name (i := 5) sc_Question__init__b.nd rfl (by first | exact Or.inl rfl | exact Or.inr rfl) (by first | exact Or.inl rfl | exact Or.inr rfl))) (fun _ _ _ _ _ => dts_nil) (fun _ _ _ _ _ => (de_fn TT.f_is_head R takes0 rfl (da_cons (de_var (i := 5) rfl (by first | exact Or.inl rfl | exact Or.inr (Or.inl rfl) | exact Or.inr (Or.inr rfl))) da_nil) (lenA_cons lenA_nil)))))) db_nil))))))))
  (dss_one ds_any)
  dss_nil)
  (dss_cons (ds_if (PW.pt (dw_or (dt_not (dt_val (de_fn TT.f_are_clauses R takesG rfl (da_cons (de_var (i := 2) rfl (by first | exact Or.inl rfl | exact Or.inr (Or.inl rfl) | exact Or.inr (Or.inr rfl))) da_nil) (lenA_cons lenA_nil)))) (dt_or1 (dt_cmp (od_eqN (hu65 R)) rfl (de_brw (i := 2) rfl (by first | exact Or.inl rfl | exact Or.inr (Or.inl rfl) | exact Or.inr (Or.inr rfl))) (de_sub (de_tup da_nil)) (nomark _)))))
  (dss_one ds_any)
  dss_nil)
  (dss_cons (ds_if (dt_not (dt_val (de_fn TT.f_are_clauses R takesG rfl (da_cons (de_var (i := 3) rfl (by first | exact Or.inl rfl | exact Or.inr (Or.inl rfl) | exact Or.inr (Or.inr rfl))) da_nil) (lenA_cons lenA_nil))))
  (dss_one ds_any)
  dss_nil)
  (dss_cons (ds_for passesG rfl (di_seq rfl (de_tup (da_star rfl (de_var (i := 2) rfl (by first | exact Or.inl rfl | exact Or.inr (Or.inl rfl) | exact Or.inr (Or.inr rfl))) (da_star rfl (de_var (i := 3) rfl (by first | exact Or.inl rfl | exact Or.inr (Or.inl rfl) | exact Or.inr (Or.inr rfl))) da_nil)))) (dg_name (i := 4) sc_Question__init__b.nd rfl (by first | exact Or.inl rfl | exact Or.inr rfl) (by first | exact Or.inl rfl | exact Or.inr rfl)) (fun _ =>
  (dss_one (ds_if (dt_not (dt_val (de_bb (cb_all rfl) rfl rfl TT.b_all (by decide +kernel) (db_cons (de_sub (de_frz (df_lcV rfl sc_Question__init__b.nd (⟨rfl, by decide +kernel, by decide +kernel, by decide +kernel, by decide +kernel⟩ : BlkOk n_Question__init__b (defScope s_Question__init__b) _ [("term", 5)]) rfl (di_seq rfl (de_var (i := 1) rfl (by first | exact Or.inl rfl | exact Or.inr (Or.inl rfl) | exact Or.inr (Or.inr rfl)))) rfl (fun _ _ _ _ _ => (dg_name (i := 5) sc_Question__init__b.nd rfl (by first | exact Or.inl rfl | exact Or.inr rfl) (by first | exact Or.inl rfl | exact Or.inr rfl))) (fun _ _ _ _ _ => dts_nil) (fun _ _ _ _ _ => (de_cmp (od_in (hu65 R)) rfl (de_brw (i := 5) rfl (by first | exact Or.inl rfl | exact Or.inr (Or.inl rfl) | exact Or.inr (Or.inr rfl))) (de_sub (de_met0 TT.c_Clause TT.f_Clause_variables R takes0 rfl (de_var (i := 4) rfl (by first | exact Or.inl rfl | exact Or.inr (Or.inl rfl) | exact Or.inr (Or.inr rfl))))) (by with_unfolding_all rfl)))))) db_nil))))
  (dss_one ds_any)
  dss_nil))))
  (dss_cons (ds_fld TT.c_Question TT.nf_Question_head rfl (de_var (i := 0) rfl (by first | exact Or.inl rfl | exact Or.inr (Or.inl rfl) | exact Or.inr (Or.inr rfl))) (de_var (i := 1) rfl (by first | exact Or.inl rfl | exact Or.inr (Or.inl rfl) | exact Or.inr (Or.inr rfl))))
  (dss_cons (ds_fld TT.c_Question TT.nf_Question_clauses rfl (de_var (i := 0) rfl (by first | exact Or.inl rfl | exact Or.inr (Or.inl rfl) | exact Or.inr (Or.inr rfl))) (de_var (i := 2) rfl (by first | exact Or.inl rfl | exact Or.inr (Or.inl rfl) | exact Or.inr (Or.inr rfl))))
  (dss_one (ds_fld TT.c_Question TT.nf_Question_unless rfl (de_var (i := 0) rfl (by first | exact Or.inl rfl | exact Or.inr (Or.inl rfl) | exact Or.inr (Or.inr rfl))) (de_var (i := 3) rfl (by first | exact Or.inl rfl | exact Or.inr (Or.inl rfl) | exact Or.inr (Or.inr rfl)))))))))))
theorem d_Clause__init__b {P : Program} {w : World} {K : PySem.W.Frag} {mg : Str → Option Value} {base : Heap} {n : Nat} {e_Question e_Clause : Addr} (TT : Txt P w K mg base n e_Question e_Clause) (f : Addr) (cdv : Value) (A : Around) (outer : List PySem.Env) (s : Shared) (H : Hp) (E : XK) (R : Room n (A.deeper (PyProof.Rows.envOfC "Clause.__init__" (defScope s_Clause__init__b) s.heap.objs.size f cdv))) (Sn : Snap) :
    PSs (cxG P w K mg base n_Clause__init__b "Clause.__init__" (defScope s_Clause__init__b) f cdv A outer s H E true []) (defBody s_Clause__init__b) (semS ⟨⟨K, w⟩, run tab n, Xs e_Question e_Clause, none⟩ (fun c d _ H' => E c d H') Sn B_Clause__init__b) :=
  (dss_cons (ds_if (PW.pt (dw_or (dt_not (dt_val (de_isi rfl rfl TT.b_isinstance rfl TT.b_tuple (by decide +kernel) (de_brw (i := 1) rfl (by first | exact Or.inl rfl | exact Or.inr (Or.inl rfl) | exact Or.inr (Or.inr rfl)))))) (dt_or1 (dt_not (dt_chain od_le od_le rfl (de_sub de_int) (de_sub (de_bb cb_len rfl rfl TT.b_len (by decide +kernel) (db_cons (de_brw (i := 1) rfl (by first | exact Or.inl rfl | exact Or.inr (Or.inl rfl) | exact Or.inr (Or.inr rfl))) db_nil))) (de_sub (de_globX rfl TT.g_MOST_ATOMS (fun _ _ => .int _))))))))
  (dss_one ds_any)
  dss_nil)
  (dss_cons (ds_for passesG rfl (di_seq rfl (de_var (i := 1) rfl (by first | exact Or.inl rfl | exact Or.inr (Or.inl rfl) | exact Or.inr (Or.inr rfl)))) (dg_name (i := 3) sc_Clause__init__b.nd rfl (by first | exact Or.inl rfl | exact Or.inr rfl) (by first | exact Or.inl rfl | exact Or.inr rfl)) (fun _ =>
  (dss_one (ds_expr (de_fn TT.f_check_atom R takesG rfl (da_cons (de_var (i := 3) rfl (by first | exact Or.inl rfl | exact Or.inr (Or.inl rfl) | exact Or.inr (Or.inr rfl))) da_nil) (lenA_cons lenA_nil))))))
  (dss_cons (ds_expr (de_fn TT.f_check_tests R takesG rfl (da_cons (de_var (i := 2) rfl (by first | exact Or.inl rfl | exact Or.inr (Or.inl rfl) | exact Or.inr (Or.inr rfl))) da_nil) (lenA_cons lenA_nil)))
  (dss_cons (ds_if (dt_cmp od_gt rfl (de_sub (de_bb cb_len rfl rfl TT.b_len (by decide +kernel) (db_cons (de_brw (i := 2) rfl (by first | exact Or.inl rfl | exact Or.inr (Or.inl rfl) | exact Or.inr (Or.inr rfl))) db_nil))) (de_sub (de_globX rfl TT.g_MOST_TESTS (fun _ _ => .int _))) (nomark _))
  (dss_one ds_any)
  dss_nil)
  (dss_cons (ds_fld TT.c_Clause TT.nf_Clause_atoms rfl (de_var (i := 0) rfl (by first | exact Or.inl rfl | exact Or.inr (Or.inl rfl) | exact Or.inr (Or.inr rfl))) (de_var (i := 1) rfl (by first | exact Or.inl rfl | exact Or.inr (Or.inl rfl) | exact Or.inr (Or.inr rfl))))
  (dss_cons (ds_fld TT.c_Clause TT.nf_Clause_tests rfl (de_var (i := 0) rfl (by first | exact Or.inl rfl | exact Or.inr (Or.inl rfl) | exact Or.inr (Or.inr rfl))) (de_var (i := 2) rfl (by first | exact Or.inl rfl | exact Or.inr (Or.inl rfl) | exact Or.inr (Or.inr rfl))))
  (dss_cons (ds_set (i := 4) sc_Clause__init__b.nd rfl (by first | exact Or.inl rfl | exact Or.inr rfl) (de_met0 TT.c_Clause TT.f_Clause_variables R takesG rfl (de_var (i := 0) rfl (by first | exact Or.inl rfl | exact Or.inr (Or.inl rfl) | exact Or.inr (Or.inr rfl)))) (Or.inl rfl))
  (dss_one (ds_for passesG rfl (di_seq rfl (de_var (i := 2) rfl (by first | exact Or.inl rfl | exact Or.inr (Or.inl rfl) | exact Or.inr (Or.inr rfl)))) (dg_tup rfl rfl (dgs_cons (dg_name (i := 5) sc_Clause__init__b.nd rfl (by first | exact Or.inl rfl | exact Or.inr rfl) (by first | exact Or.inl rfl | exact Or.inr rfl)) (dgs_cons (dg_name (i := 6) sc_Clause__init__b.nd rfl (by first | exact Or.inl rfl | exact Or.inr rfl) (by first | exact Or.inl rfl | exact Or.inr rfl)) (dgs_cons (dg_name (i := 7) sc_Clause__init__b.nd rfl (by first | exact Or.inl rfl | exact Or.inr rfl) (by first | exact Or.inl rfl | exact Or.inr rfl)) dgs_nil)))) (fun _ =>
  (dss_one (ds_if (dt_val (de_bb (cb_any rfl) rfl rfl TT.b_any (by decide +kernel) (db_cons (de_sub (de_frz (df_lcV rfl sc_Clause__init__b.nd (⟨rfl, by decide +kernel, by decide +kernel, by decide +kernel, by decide +kernel⟩ : BlkOk n_Clause__init__b (defScope s_Clause__init__b) _ [("term", 8)]) rfl (di_seq rfl (de_tup (da_cons (de_var (i := 6) rfl (by first | exact Or.inl rfl | exact Or.inr (Or.inl rfl) | exact Or.inr (Or.inr rfl))) (da_cons (de_var (i := 7) rfl (by first | exact Or.inl rfl | exact Or.inr (Or.inl rfl) | exact Or.inr (Or.inr rfl))) da_nil)))) rfl (fun _ _ _ _ _ => (dg_name (i := 8) sc_Clause__init__b.nd rfl (by first | exact Or.inl rfl | exact Or.inr rfl) (by first | exact Or.inl rfl | exact Or.inr rfl))) (fun _ _ _ _ _ => dts_nil) (fun _ _ _ _ _ => (de_and (de_fn TT.f_is_variable R takes0 rfl (da_cons (de_var (i := 8) rfl (by first | exact Or.inl rfl | exact Or.inr (Or.inl rfl) | exact Or.inr (Or.inr rfl))) da_nil) (lenA_cons lenA_nil)) (de_one (de_cmp (od_notIn (hu65 R)) rfl (de_brw (i := 8) rfl (by first | exact Or.inl rfl | exact Or.inr (Or.inl rfl) | exact Or.inr (Or.inr rfl))) (de_brw (i := 4) rfl (by first | exact Or.inl rfl | exact Or.inr (Or.inl rfl) | exact Or.inr (Or.inr rfl))) (by with_unfolding_all rfl)))))))) db_nil)))
  (dss_one ds_any)
  dss_nil))))))))))))
theorem d_law_word {P : Program} {w : World} {K : PySem.W.Frag} {mg : Str → Option Value} {base : Heap} {n : Nat} {e_Question e_Clause : Addr} (TT : Txt P w K mg base n e_Question e_Clause) (f : Addr) (cdv : Value) (A : Around) (outer : List PySem.Env) (s : Shared) (H : Hp) (E : XK) (R : Room n (A.deeper (PyProof.Rows.envOfC "_law_word" (defScope s_law_word) s.heap.objs.size f cdv))) (Sn : Snap) :
    PSs (cxG P w K mg base n_law_word "_law_word" (defScope s_law_word) f cdv A outer s H E true []) (defBody s_law_word) (semS ⟨⟨K, w⟩, run tab n, Xs e_Question e_Clause, none⟩ (fun c d _ H' => E c d H') Sn B_law_word) :=
  (dss_cons (ds_if (dt_cmp (od_eq (hu65 R)) rfl (de_brw (i := 0) rfl (by first | exact Or.inl rfl | exact Or.inr (Or.inl rfl) | exact Or.inr (Or.inr rfl))) (de_sub (de_tup (da_cons de_str da_nil))) (nomark _))
  (dss_one (ds_ret de_str))
  dss_nil)
  (dss_one (ds_ret (de_if (dt_cmp (od_in (hu65 R)) rfl (de_sub (de_ix id_ix rfl (de_brw (i := 0) rfl (by first | exact Or.inl rfl | exact Or.inr (Or.inl rfl) | exact Or.inr (Or.inr rfl))) (de_sub de_int) (fun _ _ => rfl))) (de_sub (de_tup (da_cons de_str (da_cons de_str da_nil)))) (by with_unfolding_all rfl)) (de_bin od_addA rfl (de_sub de_str) (de_sub (de_ix id_ix rfl (de_brw (i := 0) rfl (by first | exact Or.inl rfl | exact Or.inr (Or.inl rfl) | exact Or.inr (Or.inr rfl))) (de_sub de_int) (fun _ _ => rfl)))) (de_bt cb_str rfl rfl TT.b_str (by decide +kernel) (db_cons (de_sub (de_ix id_ix rfl (de_brw (i := 0) rfl (by first | exact Or.inl rfl | exact Or.inr (Or.inl rfl) | exact Or.inr (Or.inr rfl))) (de_sub de_int) (fun _ _ => rfl))) db_nil))))))
theorem d_term_of {P : Program} {w : World} {K : PySem.W.Frag} {mg : Str → Option Value} {base : Heap} {n : Nat} {e_Question e_Clause : Addr} (TT : Txt P w K mg base n e_Question e_Clause) (f : Addr) (cdv : Value) (A : Around) (outer : List PySem.Env) (s : Shared) (H : Hp) (E : XK) (R : Room n (A.deeper (PyProof.Rows.envOfC "term_of" (defScope s_term_of) s.heap.objs.size f cdv))) (Sn : Snap) :
    PSs (cxG P w K mg base n_term_of "term_of" (defScope s_term_of) f cdv A outer s H E true []) (defBody s_term_of) (semS ⟨⟨K, w⟩, run tab n, Xs e_Question e_Clause, none⟩ (fun c d _ H' => E c d H') Sn B_term_of) :=
  (dss_cons (ds_if (dt_cmp (od_eq (hu65 R)) rfl (de_sub (de_slA rfl (de_brw (i := 0) rfl (by first | exact Or.inl rfl | exact Or.inr (Or.inl rfl) | exact Or.inr (Or.inr rfl))) do_none (do_some de_int))) (de_sub de_str) (nomark _))
  (dss_one (ds_ret (de_if (dt_val (de_fn TT.f_is_name R takesG rfl (da_cons (de_slA rfl (de_brw (i := 0) rfl (by first | exact Or.inl rfl | exact Or.inr (Or.inl rfl) | exact Or.inr (Or.inr rfl))) (do_some de_int) do_none) da_nil) (lenA_cons lenA_nil))) (de_tup (da_cons (de_if (dt_val (de_var (i := 1) rfl (by first | exact Or.inl rfl | exact Or.inr (Or.inl rfl) | exact Or.inr (Or.inr rfl)))) de_str de_str) (da_cons (de_slA rfl (de_brw (i := 0) rfl (by first | exact Or.inl rfl | exact Or.inr (Or.inl rfl) | exact Or.inr (Or.inr rfl))) (do_some de_int) do_none) da_nil))) de_non)))
  dss_nil)
  (dss_cons (ds_if (dt_not (dt_val (de_var (i := 1) rfl (by first | exact Or.inl rfl | exact Or.inr (Or.inl rfl) | exact Or.inr (Or.inr rfl)))))
  (dss_one (ds_ret (de_if (dt_val (de_fn TT.f_is_name R takesG rfl (da_cons (de_var (i := 0) rfl (by first | exact Or.inl rfl | exact Or.inr (Or.inl rfl) | exact Or.inr (Or.inr rfl))) da_nil) (lenA_cons lenA_nil))) (de_tup (da_cons de_str (da_cons (de_var (i := 0) rfl (by first | exact Or.inl rfl | exact Or.inr (Or.inl rfl) | exact Or.inr (Or.inr rfl))) da_nil))) de_non)))
  dss_nil)
  (dss_cons (ds_if (dt_cmp (od_eq (hu65 R)) rfl (de_brw (i := 0) rfl (by first | exact Or.inl rfl | exact Or.inr (Or.inl rfl) | exact Or.inr (Or.inr rfl))) (de_sub de_str) (nomark _))
  (dss_one (ds_ret (de_globT rfl rfl TT.g_NOW)))
  dss_nil)
  (dss_cons (ds_set (i := 2) sc_term_of.nd rfl (by first | exact Or.inl rfl | exact Or.inr rfl) (de_fn TT.f_number_of R takesG rfl (da_cons (de_var (i := 0) rfl (by first | exact Or.inl rfl | exact Or.inr (Or.inl rfl) | exact Or.inr (Or.inr rfl))) da_nil) (lenA_cons lenA_nil)) (Or.inl rfl))
  (dss_one (ds_ret (de_if (PW.pt (dw_and (dt_cmp od_isNot rfl (de_brw (i := 2) rfl (by first | exact Or.inl rfl | exact Or.inr (Or.inl rfl) | exact Or.inr (Or.inr rfl))) (de_sub de_non) (nomark _)) (dt_and1 (dt_val (de_fn TT.f_is_day R takesG rfl (da_cons (de_var (i := 2) rfl (by first | exact Or.inl rfl | exact Or.inr (Or.inl rfl) | exact Or.inr (Or.inr rfl))) da_nil) (lenA_cons lenA_nil)))))) (de_tup (da_cons de_str (da_cons (de_var (i := 2) rfl (by first | exact Or.inl rfl | exact Or.inr (Or.inl rfl) | exact Or.inr (Or.inr rfl))) da_nil))) de_non)))))))
theorem d_is_name {P : Program} {w : World} {K : PySem.W.Frag} {mg : Str → Option Value} {base : Heap} {n : Nat} {e_Question e_Clause : Addr} (TT : Txt P w K mg base n e_Question e_Clause) (f : Addr) (cdv : Value) (A : Around) (outer : List PySem.Env) (s : Shared) (H : Hp) (E : XK) (R : Room n (A.deeper (PyProof.Rows.envOfC "is_name" (defScope s_is_name) s.heap.objs.size f cdv))) (Sn : Snap) :
    PSs (cxG P w K mg base n_is_name "is_name" (defScope s_is_name) f cdv A outer s H E true []) (defBody s_is_name) (semS ⟨⟨K, w⟩, run tab n, Xs e_Question e_Clause, none⟩ (fun c d _ H' => E c d H') Sn B_is_name) :=
  (dss_cons (ds_if (PW.pt (dw_or (dt_not (dt_val (de_isi rfl rfl TT.b_isinstance rfl TT.b_str (by decide +kernel) (de_brw (i := 0) rfl (by first | exact Or.inl rfl | exact Or.inr (Or.inl rfl) | exact Or.inr (Or.inr rfl)))))) (dw_or (dt_not (dt_chain od_le od_le rfl (de_sub de_int) (de_sub (de_bb cb_len rfl rfl TT.b_len (by decide +kernel) (db_cons (de_brw (i := 0) rfl (by first | exact Or.inl rfl | exact Or.inr (Or.inl rfl) | exact Or.inr (Or.inr rfl))) db_nil))) (de_sub de_int))) (dt_or1 (dt_cmp (od_notIn (hu65 R)) rfl (de_sub (de_ix id_ix rfl (de_brw (i := 0) rfl (by first | exact Or.inl rfl | exact Or.inr (Or.inl rfl) | exact Or.inr (Or.inr rfl))) (de_sub de_int) (fun _ _ => rfl))) (de_sub (de_globX rfl TT.g_LETTERS (fun _ _ => .str _))) (by with_unfolding_all rfl))))))
  (dss_one (ds_ret de_bl))
  dss_nil)
  (dss_one (ds_ret (de_bb (cb_all rfl) rfl rfl TT.b_all (by decide +kernel) (db_cons (de_sub (de_frz (df_lcV rfl sc_is_name.nd (⟨rfl, by decide +kernel, by decide +kernel, by decide +kernel, by decide +kernel⟩ : BlkOk n_is_name (defScope s_is_name) _ [("sign", 1)]) rfl (di_seq rfl (de_var (i := 0) rfl (by first | exact Or.inl rfl | exact Or.inr (Or.inl rfl) | exact Or.inr (Or.inr rfl)))) rfl (fun _ _ _ _ _ => (dg_name (i := 1) sc_is_name.nd rfl (by first | exact Or.inl rfl | exact Or.inr rfl) (by first | exact Or.inl rfl | exact Or.inr rfl))) (fun _ _ _ _ _ => dts_nil) (fun _ _ _ _ _ => (de_or (de_cmp (od_in (hu65 R)) rfl (de_brw (i := 1) rfl (by first | exact Or.inl rfl | exact Or.inr (Or.inl rfl) | exact Or.inr (Or.inr rfl))) (de_sub (de_globX rfl TT.g_LETTERS (fun _ _ => .str _))) (by with_unfolding_all rfl)) (de_one (de_cmp (od_in (hu65 R)) rfl (de_brw (i := 1) rfl (by first | exact Or.inl rfl | exact Or.inr (Or.inl rfl) | exact Or.inr (Or.inr rfl))) (de_sub (de_globX rfl TT.g_FIGURES (fun _ _ => .str _))) (by with_unfolding_all rfl)))))))) db_nil)))))
theorem d_term_text {P : Program} {w : World} {K : PySem.W.Frag} {mg : Str → Option Value} {base : Heap} {n : Nat} {e_Question e_Clause : Addr} (TT : Txt P w K mg base n e_Question e_Clause) (f : Addr) (cdv : Value) (A : Around) (outer : List PySem.Env) (s : Shared) (H : Hp) (E : XK) (R : Room n (A.deeper (PyProof.Rows.envOfC "term_text" (defScope s_term_text) s.heap.objs.size f cdv))) (Sn : Snap) :
    PSs (cxG P w K mg base n_term_text "term_text" (defScope s_term_text) f cdv A outer s H E true []) (defBody s_term_text) (semS ⟨⟨K, w⟩, run tab n, Xs e_Question e_Clause, none⟩ (fun c d _ H' => E c d H') Sn B_term_text) :=
  (dss_cons (ds_if (dt_cmp (od_eq (hu65 R)) rfl (de_brw (i := 0) rfl (by first | exact Or.inl rfl | exact Or.inr (Or.inl rfl) | exact Or.inr (Or.inr rfl))) (de_sub (de_globT rfl rfl TT.g_NOW)) (nomark _))
  (dss_one (ds_ret de_str))
  dss_nil)
  (dss_cons (ds_if (dt_val (de_fn TT.f_is_variable R takesG rfl (da_cons (de_var (i := 0) rfl (by first | exact Or.inl rfl | exact Or.inr (Or.inl rfl) | exact Or.inr (Or.inr rfl))) da_nil) (lenA_cons lenA_nil)))
  (dss_one (ds_ret (de_bin od_addA rfl (de_sub de_str) (de_sub (de_ix id_ix rfl (de_brw (i := 0) rfl (by first | exact Or.inl rfl | exact Or.inr (Or.inl rfl) | exact Or.inr (Or.inr rfl))) (de_sub de_int) (fun _ _ => rfl))))))
  dss_nil)
  (dss_one (ds_ret (de_bt cb_str rfl rfl TT.b_str (by decide +kernel) (db_cons (de_sub (de_ix id_ix rfl (de_brw (i := 0) rfl (by first | exact Or.inl rfl | exact Or.inr (Or.inl rfl) | exact Or.inr (Or.inr rfl))) (de_sub de_int) (fun _ _ => rfl))) db_nil))))))
theorem d_is_day_word {P : Program} {w : World} {K : PySem.W.Frag} {mg : Str → Option Value} {base : Heap} {n : Nat} {e_Question e_Clause : Addr} (TT : Txt P w K mg base n e_Question e_Clause) (f : Addr) (cdv : Value) (A : Around) (outer : List PySem.Env) (s : Shared) (H : Hp) (E : XK) (R : Room n (A.deeper (PyProof.Rows.envOfC "is_day_word" (defScope s_is_day_word) s.heap.objs.size f cdv))) (Sn : Snap) :
    PSs (cxG P w K mg base n_is_day_word "is_day_word" (defScope s_is_day_word) f cdv A outer s H E true []) (defBody s_is_day_word) (semS ⟨⟨K, w⟩, run tab n, Xs e_Question e_Clause, none⟩ (fun c d _ H' => E c d H') Sn B_is_day_word) :=
  (dss_one (ds_ret (de_or (de_cmp (od_eq (hu65 R)) rfl (de_brw (i := 0) rfl (by first | exact Or.inl rfl | exact Or.inr (Or.inl rfl) | exact Or.inr (Or.inr rfl))) (de_sub de_str) (nomark _)) (de_or (de_cmp (od_in (hu65 R)) rfl (de_sub (de_slA rfl (de_brw (i := 0) rfl (by first | exact Or.inl rfl | exact Or.inr (Or.inl rfl) | exact Or.inr (Or.inr rfl))) do_none (do_some de_int))) (de_sub (de_tup (da_cons de_str (da_starS rfl rfl (de_globX rfl TT.g_FIGURES (fun _ _ => .str _)) da_nil)))) (by with_unfolding_all rfl)) (de_one (de_and (de_cmp (od_eq (hu65 R)) rfl (de_sub (de_ix id_ix rfl (de_brw (i := 0) rfl (by first | exact Or.inl rfl | exact Or.inr (Or.inl rfl) | exact Or.inr (Or.inr rfl))) (de_sub de_int) (fun _ _ => rfl))) (de_sub de_str) (nomark _)) (de_one (de_cmp (od_in (hu65 R)) rfl (de_sub (de_slA rfl (de_brw (i := 0) rfl (by first | exact Or.inl rfl | exact Or.inr (Or.inl rfl) | exact Or.inr (Or.inr rfl))) (do_some de_int) do_none)) (de_brw (i := 1) rfl (by first | exact Or.inl rfl | exact Or.inr (Or.inl rfl) | exact Or.inr (Or.inr rfl))) (by with_unfolding_all rfl)))))))))
theorem d_is_test {P : Program} {w : World} {K : PySem.W.Frag} {mg : Str → Option Value} {base : Heap} {n : Nat} {e_Question e_Clause : Addr} (TT : Txt P w K mg base n e_Question e_Clause) (f : Addr) (cdv : Value) (A : Around) (outer : List PySem.Env) (s : Shared) (H : Hp) (E : XK) (R : Room n (A.deeper (PyProof.Rows.envOfC "is_test" (defScope s_is_test) s.heap.objs.size f cdv))) (Sn : Snap) :
    PSs (cxG P w K mg base n_is_test "is_test" (defScope s_is_test) f cdv A outer s H E true []) (defBody s_is_test) (semS ⟨⟨K, w⟩, run tab n, Xs e_Question e_Clause, none⟩ (fun c d _ H' => E c d H') Sn B_is_test) :=
  (dss_cons (ds_if (PW.pt (dw_or (dt_not (dt_val (de_isi rfl rfl TT.b_isinstance rfl TT.b_tuple (by decide +kernel) (de_brw (i := 0) rfl (by first | exact Or.inl rfl | exact Or.inr (Or.inl rfl) | exact Or.inr (Or.inr rfl)))))) (dw_or (dt_cmp (od_ne (hu65 R)) rfl (de_sub (de_bb cb_len rfl rfl TT.b_len (by decide +kernel) (db_cons (de_brw (i := 0) rfl (by first | exact Or.inl rfl | exact Or.inr (Or.inl rfl) | exact Or.inr (Or.inr rfl))) db_nil))) (de_sub de_int) (nomark _)) (dt_or1 (dt_not (dt_val (de_isi rfl rfl TT.b_isinstance rfl TT.b_str (by decide +kernel) (de_sub (de_ix id_ix rfl (de_brw (i := 0) rfl (by first | exact Or.inl rfl | exact Or.inr (Or.inl rfl) | exact Or.inr (Or.inr rfl))) (de_sub de_int) (fun _ _ => rfl))))))))))
  (dss_one (ds_ret de_bl))
  dss_nil)
  (dss_cons (ds_asg (de_var (i := 0) rfl (by first | exact Or.inl rfl | exact Or.inr (Or.inl rfl) | exact Or.inr (Or.inr rfl))) (dg_tup rfl rfl (dgs_cons (dg_name (i := 1) sc_is_test.nd rfl (by first | exact Or.inl rfl | exact Or.inr rfl) (by first | exact Or.inl rfl | exact Or.inr rfl)) (dgs_cons (dg_name (i := 2) sc_is_test.nd rfl (by first | exact Or.inl rfl | exact Or.inr rfl) (by first | exact Or.inl rfl | exact Or.inr rfl)) (dgs_cons (dg_name (i := 3) sc_is_test.nd rfl (by first | exact Or.inl rfl | exact Or.inr rfl) (by first | exact Or.inl rfl | exact Or.inr rfl)) dgs_nil)))))
  (dss_cons (ds_if (PW.pt (dw_and (dt_val (de_fn TT.f_is_day_term R takesG rfl (da_cons (de_var (i := 2) rfl (by first | exact Or.inl rfl | exact Or.inr (Or.inl rfl) | exact Or.inr (Or.inr rfl))) da_nil) (lenA_cons lenA_nil))) (dt_and1 (dt_val (de_fn TT.f_is_day_term R takesG rfl (da_cons (de_var (i := 3) rfl (by first | exact Or.inl rfl | exact Or.inr (Or.inl rfl) | exact Or.inr (Or.inr rfl))) da_nil) (lenA_cons lenA_nil))))))
  (dss_one (ds_ret (de_cmp (od_in (hu65 R)) rfl (de_brw (i := 1) rfl (by first | exact Or.inl rfl | exact Or.inr (Or.inl rfl) | exact Or.inr (Or.inr rfl))) (de_sub (de_globT rfl rfl TT.g_DAY_WORDS)) (by with_unfolding_all rfl))))
  dss_nil)
  (dss_one (ds_ret (de_and (de_fn TT.f_is_name_term R takesG rfl (da_cons (de_var (i := 2) rfl (by first | exact Or.inl rfl | exact Or.inr (Or.inl rfl) | exact Or.inr (Or.inr rfl))) da_nil) (lenA_cons lenA_nil)) (de_and (de_fn TT.f_is_name_term R takesG rfl (da_cons (de_var (i := 3) rfl (by first | exact Or.inl rfl | exact Or.inr (Or.inl rfl) | exact Or.inr (Or.inr rfl))) da_nil) (lenA_cons lenA_nil)) (de_one (de_cmp (od_in (hu65 R)) rfl (de_brw (i := 1) rfl (by first | exact Or.inl rfl | exact Or.inr (Or.inl rfl) | exact Or.inr (Or.inr rfl))) (de_sub (de_globT rfl rfl TT.g_NAME_WORDS)) (by with_unfolding_all rfl))))))))))
theorem d_answer_text {P : Program} {w : World} {K : PySem.W.Frag} {mg : Str → Option Value} {base : Heap} {n : Nat} {e_Question e_Clause : Addr} (TT : Txt P w K mg base n e_Question e_Clause) (f : Addr) (cdv : Value) (A : Around) (outer : List PySem.Env) (s : Shared) (H : Hp) (E : XK) (R : Room n (A.deeper (PyProof.Rows.envOfC "answer_text" (defScope s_answer_text) s.heap.objs.size f cdv))) (Sn : Snap) :
    PSs (cxG P w K mg base n_answer_text "answer_text" (defScope s_answer_text) f cdv A outer s H E true []) (defBody s_answer_text) (semS ⟨⟨K, w⟩, run tab n, Xs e_Question e_Clause, none⟩ (fun c d _ H' => E c d H') Sn B_answer_text) :=
  (dss_one (ds_ret (de_if (dt_cmp (od_ne (hu65 R)) rfl (de_brw (i := 0) rfl (by first | exact Or.inl rfl | exact Or.inr (Or.inl rfl) | exact Or.inr (Or.inr rfl))) (de_sub (de_tup da_nil)) (nomark _)) (de_tm tm_join PySem.F.slot_str_join PySem.F.type_str_join rfl (de_sub de_str) (de_brw (i := 0) rfl (by first | exact Or.inl rfl | exact Or.inr (Or.inl rfl) | exact Or.inr (Or.inr rfl)))) de_str)))
theorem d_law_atom {P : Program} {w : World} {K : PySem.W.Frag} {mg : Str → Option Value} {base : Heap} {n : Nat} {e_Question e_Clause : Addr} (TT : Txt P w K mg base n e_Question e_Clause) (f : Addr) (cdv : Value) (A : Around) (outer : List PySem.Env) (s : Shared) (H : Hp) (E : XK) (R : Room n (A.deeper (PyProof.Rows.envOfC "_law_atom" (defScope s_law_atom) s.heap.objs.size f cdv))) (Sn : Snap) :
    PSs (cxG P w K mg base n_law_atom "_law_atom" (defScope s_law_atom) f cdv A outer s H E true []) (defBody s_law_atom) (semS ⟨⟨K, w⟩, run tab n, Xs e_Question e_Clause, none⟩ (fun c d _ H' => E c d H') Sn B_law_atom) :=
  (dss_cons (ds_if (dt_cmp od_gt rfl (de_sub (de_fn TT.f_law_take R takesG rfl (da_cons (de_var (i := 0) rfl (by first | exact Or.inl rfl | exact Or.inr (Or.inl rfl) | exact Or.inr (Or.inr rfl))) (da_cons de_int da_nil)) (lenA_cons (lenA_cons lenA_nil)))) (de_sub de_int) (nomark _))
  (dss_one (ds_ret (de_tup (da_cons de_str (da_cons (de_tup (da_cons (de_fn TT.f_law_name_term R takesG rfl (da_cons (de_var (i := 0) rfl (by first | exact Or.inl rfl | exact Or.inr (Or.inl rfl) | exact Or.inr (Or.inr rfl))) da_nil) (lenA_cons lenA_nil)) (da_cons (de_fn TT.f_law_name_term R takesG rfl (da_cons (de_var (i := 0) rfl (by first | exact Or.inl rfl | exact Or.inr (Or.inl rfl) | exact Or.inr (Or.inr rfl))) da_nil) (lenA_cons lenA_nil)) da_nil))) (da_cons (de_fn TT.f_law_day_term R takesG rfl (da_cons (de_var (i := 0) rfl (by first | exact Or.inl rfl | exact Or.inr (Or.inl rfl) | exact Or.inr (Or.inr rfl))) (da_cons (de_var (i := 1) rfl (by first | exact Or.inl rfl | exact Or.inr (Or.inl rfl) | exact Or.inr (Or.inr rfl))) da_nil)) (lenA_cons (lenA_cons lenA_nil))) da_nil))))))
  dss_nil)
  (dss_one (ds_ret (de_tup (da_cons de_str (da_cons (de_tup (da_cons (de_fn TT.f_law_name_term R takesG rfl (da_cons (de_var (i := 0) rfl (by first | exact Or.inl rfl | exact Or.inr (Or.inl rfl) | exact Or.inr (Or.inr rfl))) da_nil) (lenA_cons lenA_nil)) da_nil)) (da_cons (de_fn TT.f_law_day_term R takesG rfl (da_cons (de_var (i := 0) rfl (by first | exact Or.inl rfl | exact Or.inr (Or.inl rfl) | exact Or.inr (Or.inr rfl))) (da_cons (de_var (i := 1) rfl (by first | exact Or.inl rfl | exact Or.inr (Or.inl rfl) | exact Or.inr (Or.inr rfl))) da_nil)) (lenA_cons (lenA_cons lenA_nil))) da_nil)))))))
theorem d_law_name_term {P : Program} {w : World} {K : PySem.W.Frag} {mg : Str → Option Value} {base : Heap} {n : Nat} {e_Question e_Clause : Addr} (TT : Txt P w K mg base n e_Question e_Clause) (f : Addr) (cdv : Value) (A : Around) (outer : List PySem.Env) (s : Shared) (H : Hp) (E : XK) (R : Room n (A.deeper (PyProof.Rows.envOfC "_law_name_term" (defScope s_law_name_term) s.heap.objs.size f cdv))) (Sn : Snap) :
    PSs (cxG P w K mg base n_law_name_term "_law_name_term" (defScope s_law_name_term) f cdv A outer s H E true []) (defBody s_law_name_term) (semS ⟨⟨K, w⟩, run tab n, Xs e_Question e_Clause, none⟩ (fun c d _ H' => E c d H') Sn B_law_name_term) :=
  (dss_one (ds_ret (de_fn TT.f_law_pick R takesG rfl (da_cons (de_var (i := 0) rfl (by first | exact Or.inl rfl | exact Or.inr (Or.inl rfl) | exact Or.inr (Or.inr rfl))) (da_cons (de_frz (df_lst (da_cons (de_tup (da_cons de_str (da_cons de_str da_nil))) (da_cons (de_tup (da_cons de_str (da_cons de_str da_nil))) (da_cons (de_tup (da_cons de_str (da_cons de_str da_nil))) (da_cons (de_tup (da_cons de_str (da_cons de_str da_nil))) (da_cons (de_tup (da_cons de_str (da_cons de_str da_nil))) (da_cons (de_tup (da_cons de_str (da_cons de_str da_nil))) da_nil)))))))) da_nil)) (lenA_cons (lenA_cons lenA_nil)))))
theorem d_is_head {P : Program} {w : World} {K : PySem.W.Frag} {mg : Str → Option Value} {base : Heap} {n : Nat} {e_Question e_Clause : Addr} (TT : Txt P w K mg base n e_Question e_Clause) (f : Addr) (cdv : Value) (A : Around) (outer : List PySem.Env) (s : Shared) (H : Hp) (E : XK) (R : Room n (A.deeper (PyProof.Rows.envOfC "is_head" (defScope s_is_head) s.heap.objs.size f cdv))) (Sn : Snap) :
    PSs (cxG P w K mg base n_is_head "is_head" (defScope s_is_head) f cdv A outer s H E true []) (defBody s_is_head) (semS ⟨⟨K, w⟩, run tab n, Xs e_Question e_Clause, none⟩ (fun c d _ H' => E c d H') Sn B_is_head) :=
  (dss_one (ds_ret (de_and (de_isi rfl rfl TT.b_isinstance rfl TT.b_tuple (by decide +kernel) (de_brw (i := 0) rfl (by first | exact Or.inl rfl | exact Or.inr (Or.inl rfl) | exact Or.inr (Or.inr rfl)))) (de_and (de_cmp (od_eq (hu65 R)) rfl (de_sub (de_bb cb_len rfl rfl TT.b_len (by decide +kernel) (db_cons (de_brw (i := 0) rfl (by first | exact Or.inl rfl | exact Or.inr (Or.inl rfl) | exact Or.inr (Or.inr rfl))) db_nil))) (de_sub de_int) (nomark _)) (de_one (de_cmp (od_eq (hu65 R)) rfl (de_sub (de_ix id_ix rfl (de_brw (i := 0) rfl (by first | exact Or.inl rfl | exact Or.inr (Or.inl rfl) | exact Or.inr (Or.inr rfl))) (de_sub de_int) (fun _ _ => rfl))) (de_sub de_str) (nomark _)))))))
theorem d_are_clauses {P : Program} {w : World} {K : PySem.W.Frag} {mg : Str → Option Value} {base : Heap} {n : Nat} {e_Question e_Clause : Addr} (TT : Txt P w K mg base n e_Question e_Clause) (f : Addr) (cdv : Value) (A : Around) (outer : List PySem.Env) (s : Shared) (H : Hp) (E : XK) (R : Room n (A.deeper (PyProof.Rows.envOfC "are_clauses" (defScope s_are_clauses) s.heap.objs.size f cdv))) (Sn : Snap) :
    PSs (cxG P w K mg base n_are_clauses "are_clauses" (defScope s_are_clauses) f cdv A outer s H E true []) (defBody s_are_clauses) (semS ⟨⟨K, w⟩, run tab n, Xs e_Question e_Clause, none⟩ (fun c d _ H' => E c d H') Sn B_are_clauses) :=
  (dss_one (ds_ret (de_and (de_isi rfl rfl TT.b_isinstance rfl TT.b_tuple (by decide +kernel) (de_brw (i := 0) rfl (by first | exact Or.inl rfl | exact Or.inr (Or.inl rfl) | exact Or.inr (Or.inr rfl)))) (de_and (de_cmp od_le rfl (de_sub (de_bb cb_len rfl rfl TT.b_len (by decide +kernel) (db_cons (de_brw (i := 0) rfl (by first | exact Or.inl rfl | exact Or.inr (Or.inl rfl) | exact Or.inr (Or.inr rfl))) db_nil))) (de_sub (de_globX rfl TT.g_MOST_CLAUSES (fun _ _ => .int _))) (nomark _)) (de_one (de_bb (cb_all rfl) rfl rfl TT.b_all (by decide +kernel) (db_cons (de_sub (de_frz (df_lcV rfl sc_are_clauses.nd (⟨rfl, by decide +kernel, by decide +kernel, by decide +kernel, by decide +kernel⟩ : BlkOk n_are_clauses (defScope s_are_clauses) _ [("one", 1)]) rfl (di_seq rfl (de_var (i := 0) rfl (by first | exact Or.inl rfl | exact Or.inr (Or.inl rfl) | exact Or.inr (Or.inr rfl)))) rfl (fun _ _ _ _ _ => (dg_name (i := 1) sc_are_clauses.nd rfl (by first | exact Or.inl rfl | exact Or.inr rfl) (by first | exact Or.inl rfl | exact Or.inr rfl))) (fun _ _ _ _ _ => dts_nil) (fun _ _ _ _ _ => (de_isOwn TT.c_Clause TT.ci_Clause rfl rfl TT.b_isinstance rfl (de_var (i := 1) rfl (by first | exact Or.inl rfl | exact Or.inr (Or.inl rfl) | exact Or.inr (Or.inr rfl)))))))) db_nil)))))))
theorem d_Clause_variables {P : Program} {w : World} {K : PySem.W.Frag} {mg : Str → Option Value} {base : Heap} {n : Nat} {e_Question e_Clause : Addr} (TT : Txt P w K mg base n e_Question e_Clause) (f : Addr) (cdv : Value) (A : Around) (outer : List PySem.Env) (s : Shared) (H : Hp) (E : XK) (R : Room n (A.deeper (PyProof.Rows.envOfC "Clause.variables" (defScope s_Clause_variables) s.heap.objs.size f cdv))) (Sn : Snap) :
    PSs (cxG P w K mg base n_Clause_variables "Clause.variables" (defScope s_Clause_variables) f cdv A outer s H E true []) (defBody s_Clause_variables) (semS ⟨⟨K, w⟩, run tab n, Xs e_Question e_Clause, none⟩ (fun c d _ H' => E c d H') Sn B_Clause_variables) :=
  (dss_cons (ds_ownD (i := 1) sc_Clause_variables.nd rfl (by first | exact Or.inl rfl | exact Or.inr rfl) dd_empty (Or.inl rfl))
  (dss_cons (ds_for passesG rfl (di_seq rfl (de_fld TT.c_Clause TT.nf_Clause_atoms rfl (de_var (i := 0) rfl (by first | exact Or.inl rfl | exact Or.inr (Or.inl rfl) | exact Or.inr (Or.inr rfl))))) (dg_tup rfl rfl (dgs_cons (dg_name (i := 2) sc_Clause_variables.nd rfl (by first | exact Or.inl rfl | exact Or.inr rfl) (by first | exact Or.inl rfl | exact Or.inr rfl)) (dgs_cons (dg_name (i := 3) sc_Clause_variables.nd rfl (by first | exact Or.inl rfl | exact Or.inr rfl) (by first | exact Or.inl rfl | exact Or.inr rfl)) (dgs_cons (dg_name (i := 4) sc_Clause_variables.nd rfl (by first | exact Or.inl rfl | exact Or.inr rfl) (by first | exact Or.inl rfl | exact Or.inr rfl)) dgs_nil)))) (fun _ =>
  (dss_one (ds_for passesG rfl (di_seq rfl (de_tup (da_star rfl (de_var (i := 3) rfl (by first | exact Or.inl rfl | exact Or.inr (Or.inl rfl) | exact Or.inr (Or.inr rfl))) (da_cons (de_var (i := 4) rfl (by first | exact Or.inl rfl | exact Or.inr (Or.inl rfl) | exact Or.inr (Or.inr rfl))) da_nil)))) (dg_name (i := 5) sc_Clause_variables.nd rfl (by first | exact Or.inl rfl | exact Or.inr rfl) (by first | exact Or.inl rfl | exact Or.inr rfl)) (fun _ =>
  (dss_one (ds_if (dt_val (de_fn TT.f_is_variable R takesG rfl (da_cons (de_var (i := 5) rfl (by first | exact Or.inl rfl | exact Or.inr (Or.inl rfl) | exact Or.inr (Or.inr rfl))) da_nil) (lenA_cons lenA_nil)))
  (dss_one (ds_dput (i := 1) (hu65 R) rfl rfl (by first | exact Or.inl rfl | exact Or.inr (Or.inl rfl) | exact Or.inr (Or.inr rfl)) (de_var (i := 5) rfl (by first | exact Or.inl rfl | exact Or.inr (Or.inl rfl) | exact Or.inr (Or.inr rfl))) de_bl))
  dss_nil)))))))
  (dss_one (ds_ret (de_bt (cb_list3 rfl) rfl rfl TT.b_list (by decide +kernel) (db_cons (de_brw (i := 1) rfl (by first | exact Or.inl rfl | exact Or.inr (Or.inl rfl) | exact Or.inr (Or.inr rfl))) db_nil))))))
theorem d_check_atom {P : Program} {w : World} {K : PySem.W.Frag} {mg : Str → Option Value} {base : Heap} {n : Nat} {e_Question e_Clause : Addr} (TT : Txt P w K mg base n e_Question e_Clause) (f : Addr) (cdv : Value) (A : Around) (outer : List PySem.Env) (s : Shared) (H : Hp) (E : XK) (R : Room n (A.deeper (PyProof.Rows.envOfC "check_atom" (defScope s_check_atom) s.heap.objs.size f cdv))) (Sn : Snap) :
    PSs (cxG P w K mg base n_check_atom "check_atom" (defScope s_check_atom) f cdv A outer s H E true []) (defBody s_check_atom) (semS ⟨⟨K, w⟩, run tab n, Xs e_Question e_Clause, none⟩ (fun c d _ H' => E c d H') Sn B_check_atom) :=
  (dss_cons (ds_if (PW.pt (dw_or (dt_not (dt_val (de_isi rfl rfl TT.b_isinstance rfl TT.b_tuple (by decide +kernel) (de_brw (i := 0) rfl (by first | exact Or.inl rfl | exact Or.inr (Or.inl rfl) | exact Or.inr (Or.inr rfl)))))) (dw_or (dt_cmp (od_ne (hu65 R)) rfl (de_sub (de_bb cb_len rfl rfl TT.b_len (by decide +kernel) (db_cons (de_brw (i := 0) rfl (by first | exact Or.inl rfl | exact Or.inr (Or.inl rfl) | exact Or.inr (Or.inr rfl))) db_nil))) (de_sub de_int) (nomark _)) (dt_or1 (dt_not (dt_val (de_isi rfl rfl TT.b_isinstance rfl TT.b_tuple (by decide +kernel) (de_sub (de_ix id_ix rfl (de_brw (i := 0) rfl (by first | exact Or.inl rfl | exact Or.inr (Or.inl rfl) | exact Or.inr (Or.inr rfl))) (de_sub de_int) (fun _ _ => rfl))))))))))
  (dss_one ds_any)
  dss_nil)
  (dss_cons (ds_if (PW.pt (dw_or (dt_not (dt_val (de_fn TT.f_is_name R takesG rfl (da_cons (de_ix id_ix rfl (de_brw (i := 0) rfl (by first | exact Or.inl rfl | exact Or.inr (Or.inl rfl) | exact Or.inr (Or.inr rfl))) (de_sub de_int) (fun _ _ => rfl)) da_nil) (lenA_cons lenA_nil)))) (dt_or1 (dt_not (dt_chain od_le od_le rfl (de_sub de_int) (de_sub (de_bb cb_len rfl rfl TT.b_len (by decide +kernel) (db_cons (de_sub (de_ix id_ix rfl (de_brw (i := 0) rfl (by first | exact Or.inl rfl | exact Or.inr (Or.inl rfl) | exact Or.inr (Or.inr rfl))) (de_sub de_int) (fun _ _ => rfl))) db_nil))) (de_sub (de_globX rfl TT.g_MOST_NAMES_questions (fun _ _ => .int _))))))))
  (dss_one ds_any)
  dss_nil)
  (dss_one (ds_expr (de_fn TT.f_check_terms R takesG rfl (da_cons (de_ix id_ix rfl (de_brw (i := 0) rfl (by first | exact Or.inl rfl | exact Or.inr (Or.inl rfl) | exact Or.inr (Or.inr rfl))) (de_sub de_int) (fun _ _ => rfl)) (da_cons (de_ix id_ix rfl (de_brw (i := 0) rfl (by first | exact Or.inl rfl | exact Or.inr (Or.inl rfl) | exact Or.inr (Or.inr rfl))) (de_sub de_int) (fun _ _ => rfl)) da_nil)) (lenA_cons (lenA_cons lenA_nil)))))))
theorem d_check_tests {P : Program} {w : World} {K : PySem.W.Frag} {mg : Str → Option Value} {base : Heap} {n : Nat} {e_Question e_Clause : Addr} (TT : Txt P w K mg base n e_Question e_Clause) (f : Addr) (cdv : Value) (A : Around) (outer : List PySem.Env) (s : Shared) (H : Hp) (E : XK) (R : Room n (A.deeper (PyProof.Rows.envOfC "check_tests" (defScope s_check_tests) s.heap.objs.size f cdv))) (Sn : Snap) :
    PSs (cxG P w K mg base n_check_tests "check_tests" (defScope s_check_tests) f cdv A outer s H E true []) (defBody s_check_tests) (semS ⟨⟨K, w⟩, run tab n, Xs e_Question e_Clause, none⟩ (fun c d _ H' => E c d H') Sn B_check_tests) :=
  (dss_one (ds_if (PW.pt (dw_or (dt_not (dt_val (de_isi rfl rfl TT.b_isinstance rfl TT.b_tuple (by decide +kernel) (de_brw (i := 0) rfl (by first | exact Or.inl rfl | exact Or.inr (Or.inl rfl) | exact Or.inr (Or.inr rfl)))))) (dt_or1 (dt_not (dt_val (de_bb (cb_all rfl) rfl rfl TT.b_all (by decide +kernel) (db_cons (de_sub (de_frz (df_lcV rfl sc_check_tests.nd (⟨rfl, by decide +kernel, by decide +kernel, by decide +kernel, by decide +kernel⟩ : BlkOk n_check_tests (defScope s_check_tests) _ [("test", 1)]) rfl (di_seq rfl (de_var (i := 0) rfl (by first | exact Or.inl rfl | exact Or.inr (Or.inl rfl) | exact Or.inr (Or.inr rfl)))) rfl (fun _ _ _ _ _ => (dg_name (i := 1) sc_check_tests.nd rfl (by first | exact Or.inl rfl | exact Or.inr rfl) (by first | exact Or.inl rfl | exact Or.inr rfl))) (fun _ _ _ _ _ => dts_nil) (fun _ _ _ _ _ => (de_fn TT.f_is_test R takes0 rfl (da_cons (de_var (i := 1) rfl (by first | exact Or.inl rfl | exact Or.inr (Or.inl rfl) | exact Or.inr (Or.inr rfl))) da_nil) (lenA_cons lenA_nil)))))) db_nil)))))))
  (dss_one ds_any)
  dss_nil))
theorem d_is_variable {P : Program} {w : World} {K : PySem.W.Frag} {mg : Str → Option Value} {base : Heap} {n : Nat} {e_Question e_Clause : Addr} (TT : Txt P w K mg base n e_Question e_Clause) (f : Addr) (cdv : Value) (A : Around) (outer : List PySem.Env) (s : Shared) (H : Hp) (E : XK) (R : Room n (A.deeper (PyProof.Rows.envOfC "is_variable" (defScope s_is_variable) s.heap.objs.size f cdv))) (Sn : Snap) :
    PSs (cxG P w K mg base n_is_variable "is_variable" (defScope s_is_variable) f cdv A outer s H E true []) (defBody s_is_variable) (semS ⟨⟨K, w⟩, run tab n, Xs e_Question e_Clause, none⟩ (fun c d _ H' => E c d H') Sn B_is_variable) :=
  (dss_one (ds_ret (de_cmp (od_in (hu65 R)) rfl (de_sub (de_ix id_ix rfl (de_brw (i := 0) rfl (by first | exact Or.inl rfl | exact Or.inr (Or.inl rfl) | exact Or.inr (Or.inr rfl))) (de_sub de_int) (fun _ _ => rfl))) (de_sub (de_tup (da_cons de_str (da_cons de_str da_nil)))) (by with_unfolding_all rfl))))
theorem d_number_of {P : Program} {w : World} {K : PySem.W.Frag} {mg : Str → Option Value} {base : Heap} {n : Nat} {e_Question e_Clause : Addr} (TT : Txt P w K mg base n e_Question e_Clause) (f : Addr) (cdv : Value) (A : Around) (outer : List PySem.Env) (s : Shared) (H : Hp) (E : XK) (R : Room n (A.deeper (PyProof.Rows.envOfC "number_of" (defScope s_number_of) s.heap.objs.size f cdv))) (Sn : Snap) :
    PSs (cxG P w K mg base n_number_of "number_of" (defScope s_number_of) f cdv A outer s H E true []) (defBody s_number_of) (semS ⟨⟨K, w⟩, run tab n, Xs e_Question e_Clause, none⟩ (fun c d _ H' => E c d H') Sn B_number_of) :=
  (dss_cons (ds_if (PW.pt (dw_or (dt_not (dt_chain od_le od_le rfl (de_sub de_int) (de_sub (de_bb cb_len rfl rfl TT.b_len (by decide +kernel) (db_cons (de_brw (i := 0) rfl (by first | exact Or.inl rfl | exact Or.inr (Or.inl rfl) | exact Or.inr (Or.inr rfl))) db_nil))) (de_sub (de_globX rfl TT.g_MOST_FIGURES (fun _ _ => .int _))))) (dt_or1 (dt_not (dt_val (de_bb (cb_all rfl) rfl rfl TT.b_all (by decide +kernel) (db_cons (de_sub (de_frz (df_lcV rfl sc_number_of.nd (⟨rfl, by decide +kernel, by decide +kernel, by decide +kernel, by decide +kernel⟩ : BlkOk n_number_of (defScope s_number_of) _ [("sign", 1)]) rfl (di_seq rfl (de_var (i := 0) rfl (by first | exact Or.inl rfl | exact Or.inr (Or.inl rfl) | exact Or.inr (Or.inr rfl)))) rfl (fun _ _ _ _ _ => (dg_name (i := 1) sc_number_of.nd rfl (by first | exact Or.inl rfl | exact Or.inr rfl) (by first | exact Or.inl rfl | exact Or.inr rfl))) (fun _ _ _ _ _ => dts_nil) (fun _ _ _ _ _ => (de_cmp (od_in (hu65 R)) rfl (de_brw (i := 1) rfl (by first | exact Or.inl rfl | exact Or.inr (Or.inl rfl) | exact Or.inr (Or.inr rfl))) (de_sub de_str) (by with_unfolding_all rfl)))))) db_nil)))))))
  (dss_one (ds_ret de_non))
  dss_nil)
  (dss_one (ds_ret (de_if (PW.pt (dw_and (dt_cmp od_gt rfl (de_sub (de_bb cb_len rfl rfl TT.b_len (by decide +kernel) (db_cons (de_brw (i := 0) rfl (by first | exact Or.inl rfl | exact Or.inr (Or.inl rfl) | exact Or.inr (Or.inr rfl))) db_nil))) (de_sub de_int) (nomark _)) (dt_and1 (dt_cmp (od_eq (hu65 R)) rfl (de_sub (de_ix id_ix rfl (de_brw (i := 0) rfl (by first | exact Or.inl rfl | exact Or.inr (Or.inl rfl) | exact Or.inr (Or.inr rfl))) (de_sub de_int) (fun _ _ => rfl))) (de_sub de_str) (nomark _))))) de_non (de_bt cb_int2 rfl rfl TT.b_int (by decide +kernel) (db_cons (de_brw (i := 0) rfl (by first | exact Or.inl rfl | exact Or.inr (Or.inl rfl) | exact Or.inr (Or.inr rfl))) db_nil))))))
theorem d_is_day {P : Program} {w : World} {K : PySem.W.Frag} {mg : Str → Option Value} {base : Heap} {n : Nat} {e_Question e_Clause : Addr} (TT : Txt P w K mg base n e_Question e_Clause) (f : Addr) (cdv : Value) (A : Around) (outer : List PySem.Env) (s : Shared) (H : Hp) (E : XK) (R : Room n (A.deeper (PyProof.Rows.envOfC "is_day" (defScope s_is_day) s.heap.objs.size f cdv))) (Sn : Snap) :
    PSs (cxG P w K mg base n_is_day "is_day" (defScope s_is_day) f cdv A outer s H E true []) (defBody s_is_day) (semS ⟨⟨K, w⟩, run tab n, Xs e_Question e_Clause, none⟩ (fun c d _ H' => E c d H') Sn B_is_day) :=
  (dss_one (ds_ret (de_fn TT.f_is_whole R takesG rfl (da_cons (de_var (i := 0) rfl (by first | exact Or.inl rfl | exact Or.inr (Or.inl rfl) | exact Or.inr (Or.inr rfl))) (da_cons de_int (da_cons (de_globX rfl TT.g_MOST_DAY (fun _ _ => .int _)) da_nil))) (lenA_cons (lenA_cons (lenA_cons lenA_nil))))))
theorem d_is_day_term {P : Program} {w : World} {K : PySem.W.Frag} {mg : Str → Option Value} {base : Heap} {n : Nat} {e_Question e_Clause : Addr} (TT : Txt P w K mg base n e_Question e_Clause) (f : Addr) (cdv : Value) (A : Around) (outer : List PySem.Env) (s : Shared) (H : Hp) (E : XK) (R : Room n (A.deeper (PyProof.Rows.envOfC "is_day_term" (defScope s_is_day_term) s.heap.objs.size f cdv))) (Sn : Snap) :
    PSs (cxG P w K mg base n_is_day_term "is_day_term" (defScope s_is_day_term) f cdv A outer s H E true []) (defBody s_is_day_term) (semS ⟨⟨K, w⟩, run tab n, Xs e_Question e_Clause, none⟩ (fun c d _ H' => E c d H') Sn B_is_day_term) :=
  (dss_cons (ds_if (dt_cmp (od_eq (hu65 R)) rfl (de_brw (i := 0) rfl (by first | exact Or.inl rfl | exact Or.inr (Or.inl rfl) | exact Or.inr (Or.inr rfl))) (de_sub (de_globT rfl rfl TT.g_NOW)) (nomark _))
  (dss_one (ds_ret de_bl))
  dss_nil)
  (dss_cons (ds_if (PW.pt (dw_or (dt_not (dt_val (de_isi rfl rfl TT.b_isinstance rfl TT.b_tuple (by decide +kernel) (de_brw (i := 0) rfl (by first | exact Or.inl rfl | exact Or.inr (Or.inl rfl) | exact Or.inr (Or.inr rfl)))))) (dw_or (dt_cmp (od_ne (hu65 R)) rfl (de_sub (de_bb cb_len rfl rfl TT.b_len (by decide +kernel) (db_cons (de_brw (i := 0) rfl (by first | exact Or.inl rfl | exact Or.inr (Or.inl rfl) | exact Or.inr (Or.inr rfl))) db_nil))) (de_sub de_int) (nomark _)) (dt_or1 (dt_cmp (od_notIn (hu65 R)) rfl (de_sub (de_ix id_ix rfl (de_brw (i := 0) rfl (by first | exact Or.inl rfl | exact Or.inr (Or.inl rfl) | exact Or.inr (Or.inr rfl))) (de_sub de_int) (fun _ _ => rfl))) (de_sub (de_tup (da_cons de_str (da_cons de_str da_nil)))) (by with_unfolding_all rfl))))))
  (dss_one (ds_ret de_bl))
  dss_nil)
  (dss_one (ds_ret (de_if (dt_cmp (od_eq (hu65 R)) rfl (de_sub (de_ix id_ix rfl (de_brw (i := 0) rfl (by first | exact Or.inl rfl | exact Or.inr (Or.inl rfl) | exact Or.inr (Or.inr rfl))) (de_sub de_int) (fun _ _ => rfl))) (de_sub de_str) (nomark _)) (de_fn TT.f_is_day R takesG rfl (da_cons (de_ix id_ix rfl (de_brw (i := 0) rfl (by first | exact Or.inl rfl | exact Or.inr (Or.inl rfl) | exact Or.inr (Or.inr rfl))) (de_sub de_int) (fun _ _ => rfl)) da_nil) (lenA_cons lenA_nil)) (de_fn TT.f_is_name R takesG rfl (da_cons (de_ix id_ix rfl (de_brw (i := 0) rfl (by first | exact Or.inl rfl | exact Or.inr (Or.inl rfl) | exact Or.inr (Or.inr rfl))) (de_sub de_int) (fun _ _ => rfl)) da_nil) (lenA_cons lenA_nil)))))))
theorem d_is_name_term {P : Program} {w : World} {K : PySem.W.Frag} {mg : Str → Option Value} {base : Heap} {n : Nat} {e_Question e_Clause : Addr} (TT : Txt P w K mg base n e_Question e_Clause) (f : Addr) (cdv : Value) (A : Around) (outer : List PySem.Env) (s : Shared) (H : Hp) (E : XK) (R : Room n (A.deeper (PyProof.Rows.envOfC "is_name_term" (defScope s_is_name_term) s.heap.objs.size f cdv))) (Sn : Snap) :
    PSs (cxG P w K mg base n_is_name_term "is_name_term" (defScope s_is_name_term) f cdv A outer s H E true []) (defBody s_is_name_term) (semS ⟨⟨K, w⟩, run tab n, Xs e_Question e_Clause, none⟩ (fun c d _ H' => E c d H') Sn B_is_name_term) :=
  (dss_cons (ds_if (PW.pt (dw_or (dt_not (dt_val (de_isi rfl rfl TT.b_isinstance rfl TT.b_tuple (by decide +kernel) (de_brw (i := 0) rfl (by first | exact Or.inl rfl | exact Or.inr (Or.inl rfl) | exact Or.inr (Or.inr rfl)))))) (dw_or (dt_cmp (od_ne (hu65 R)) rfl (de_sub (de_bb cb_len rfl rfl TT.b_len (by decide +kernel) (db_cons (de_brw (i := 0) rfl (by first | exact Or.inl rfl | exact Or.inr (Or.inl rfl) | exact Or.inr (Or.inr rfl))) db_nil))) (de_sub de_int) (nomark _)) (dt_or1 (dt_cmp (od_notIn (hu65 R)) rfl (de_sub (de_ix id_ix rfl (de_brw (i := 0) rfl (by first | exact Or.inl rfl | exact Or.inr (Or.inl rfl) | exact Or.inr (Or.inr rfl))) (de_sub de_int) (fun _ _ => rfl))) (de_sub (de_tup (da_cons de_str (da_cons de_str da_nil)))) (by with_unfolding_all rfl))))))
  (dss_one (ds_ret de_bl))
  dss_nil)
  (dss_one (ds_ret (de_fn TT.f_is_name R takesG rfl (da_cons (de_ix id_ix rfl (de_brw (i := 0) rfl (by first | exact Or.inl rfl | exact Or.inr (Or.inl rfl) | exact Or.inr (Or.inr rfl))) (de_sub de_int) (fun _ _ => rfl)) da_nil) (lenA_cons lenA_nil)))))
theorem d_law_day_term {P : Program} {w : World} {K : PySem.W.Frag} {mg : Str → Option Value} {base : Heap} {n : Nat} {e_Question e_Clause : Addr} (TT : Txt P w K mg base n e_Question e_Clause) (f : Addr) (cdv : Value) (A : Around) (outer : List PySem.Env) (s : Shared) (H : Hp) (E : XK) (R : Room n (A.deeper (PyProof.Rows.envOfC "_law_day_term" (defScope s_law_day_term) s.heap.objs.size f cdv))) (Sn : Snap) :
    PSs (cxG P w K mg base n_law_day_term "_law_day_term" (defScope s_law_day_term) f cdv A outer s H E true []) (defBody s_law_day_term) (semS ⟨⟨K, w⟩, run tab n, Xs e_Question e_Clause, none⟩ (fun c d _ H' => E c d H') Sn B_law_day_term) :=
  (dss_one (ds_ret (de_fn TT.f_law_pick R takesG rfl (da_cons (de_var (i := 0) rfl (by first | exact Or.inl rfl | exact Or.inr (Or.inl rfl) | exact Or.inr (Or.inr rfl))) (da_cons (de_frz (df_lst (da_cons (de_tup (da_cons de_str (da_cons de_str da_nil))) (da_cons (de_tup (da_cons de_str (da_cons de_str da_nil))) (da_cons (de_tup (da_cons de_str (da_cons de_str da_nil))) (da_cons (de_if (dt_val (de_var (i := 1) rfl (by first | exact Or.inl rfl | exact Or.inr (Or.inl rfl) | exact Or.inr (Or.inr rfl)))) (de_tup (da_cons de_str da_nil)) (de_tup (da_cons de_str (da_cons de_str da_nil)))) (da_cons (de_tup (da_cons de_str (da_cons de_int da_nil))) (da_cons (de_tup (da_cons de_str (da_cons de_int da_nil))) da_nil)))))))) da_nil)) (lenA_cons (lenA_cons lenA_nil)))))
theorem d_check_terms {P : Program} {w : World} {K : PySem.W.Frag} {mg : Str → Option Value} {base : Heap} {n : Nat} {e_Question e_Clause : Addr} (TT : Txt P w K mg base n e_Question e_Clause) (f : Addr) (cdv : Value) (A : Around) (outer : List PySem.Env) (s : Shared) (H : Hp) (E : XK) (R : Room n (A.deeper (PyProof.Rows.envOfC "check_terms" (defScope s_check_terms) s.heap.objs.size f cdv))) (Sn : Snap) :
    PSs (cxG P w K mg base n_check_terms "check_terms" (defScope s_check_terms) f cdv A outer s H E true []) (defBody s_check_terms) (semS ⟨⟨K, w⟩, run tab n, Xs e_Question e_Clause, none⟩ (fun c d _ H' => E c d H') Sn B_check_terms) :=
  (dss_cons (ds_for passesG rfl (di_seq rfl (de_var (i := 0) rfl (by first | exact Or.inl rfl | exact Or.inr (Or.inl rfl) | exact Or.inr (Or.inr rfl)))) (dg_name (i := 2) sc_check_terms.nd rfl (by first | exact Or.inl rfl | exact Or.inr rfl) (by first | exact Or.inl rfl | exact Or.inr rfl)) (fun _ =>
  (dss_one (ds_if (dt_not (dt_val (de_fn TT.f_is_name_term R takesG rfl (da_cons (de_var (i := 2) rfl (by first | exact Or.inl rfl | exact Or.inr (Or.inl rfl) | exact Or.inr (Or.inr rfl))) da_nil) (lenA_cons lenA_nil))))
  (dss_one ds_any)
  dss_nil))))
  (dss_one (ds_if (dt_not (dt_val (de_fn TT.f_is_day_term R takesG rfl (da_cons (de_var (i := 1) rfl (by first | exact Or.inl rfl | exact Or.inr (Or.inl rfl) | exact Or.inr (Or.inr rfl))) da_nil) (lenA_cons lenA_nil))))
  (dss_one ds_any)
  dss_nil)))
theorem d_is_whole {P : Program} {w : World} {K : PySem.W.Frag} {mg : Str → Option Value} {base : Heap} {n : Nat} {e_Question e_Clause : Addr} (TT : Txt P w K mg base n e_Question e_Clause) (f : Addr) (cdv : Value) (A : Around) (outer : List PySem.Env) (s : Shared) (H : Hp) (E : XK) (R : Room n (A.deeper (PyProof.Rows.envOfC "is_whole" (defScope s_is_whole) s.heap.objs.size f cdv))) (Sn : Snap) :
    PSs (cxG P w K mg base n_is_whole "is_whole" (defScope s_is_whole) f cdv A outer s H E true []) (defBody s_is_whole) (semS ⟨⟨K, w⟩, run tab n, Xs e_Question e_Clause, none⟩ (fun c d _ H' => E c d H') Sn B_is_whole) :=
  (dss_one (ds_ret (de_and (de_isi rfl rfl TT.b_isinstance rfl TT.b_int (by decide +kernel) (de_brw (i := 0) rfl (by first | exact Or.inl rfl | exact Or.inr (Or.inl rfl) | exact Or.inr (Or.inr rfl)))) (de_and (de_not (de_isi rfl rfl TT.b_isinstance rfl TT.b_bool (by decide +kernel) (de_brw (i := 0) rfl (by first | exact Or.inl rfl | exact Or.inr (Or.inl rfl) | exact Or.inr (Or.inr rfl))))) (de_one (de_chain od_le od_le rfl (de_brw (i := 1) rfl (by first | exact Or.inl rfl | exact Or.inr (Or.inl rfl) | exact Or.inr (Or.inr rfl))) (de_brw (i := 0) rfl (by first | exact Or.inl rfl | exact Or.inr (Or.inl rfl) | exact Or.inr (Or.inr rfl))) (de_brw (i := 2) rfl (by first | exact Or.inl rfl | exact Or.inr (Or.inl rfl) | exact Or.inr (Or.inr rfl)))))))))
end Dn.K47
namespace Dn.K47
open PySem L2
/-! From what the top has written to the law (printed by pr.py). -/
structure Sta (P : Program) (K : PySem.W.Frag) (mg : Str → Option Value) (e_Question e_Clause : Addr) : Prop extends Nms K mg where
  F_law : ∃ a fd, Fun K "law" "law" s_law a fd ∧ mg "law" = some (.ref a) ∧ PySem.W.keepIn K (.ref a) = true ∧ Binds K fd p_law []
  F_law_question : ∃ a fd, Fun K "_law_question" "_law_question" s_law_question a fd ∧ mg "_law_question" = some (.ref a) ∧ PySem.W.keepIn K (.ref a) = true ∧ Binds K fd p_law_question []
  F_law_rules : ∃ a fd, Fun K "_law_rules" "_law_rules" s_law_rules a fd ∧ mg "_law_rules" = some (.ref a) ∧ PySem.W.keepIn K (.ref a) = true ∧ Binds K fd p_law_rules []
  F_clause_text : ∃ a fd, Fun K "clause_text" "clause_text" s_clause_text a fd ∧ mg "clause_text" = some (.ref a) ∧ PySem.W.keepIn K (.ref a) = true ∧ Binds K fd p_clause_text []
  F_law_words : ∃ a fd, Fun K "_law_words" "_law_words" s_law_words a fd ∧ mg "_law_words" = some (.ref a) ∧ PySem.W.keepIn K (.ref a) = true ∧ Binds K fd p_law_words []
  F_atom_of : ∃ a fd, Fun K "atom_of" "atom_of" s_atom_of a fd ∧ mg "atom_of" = some (.ref a) ∧ PySem.W.keepIn K (.ref a) = true ∧ Binds K fd p_atom_of []
  F_atom_text : ∃ a fd, Fun K "atom_text" "atom_text" s_atom_text a fd ∧ mg "atom_text" = some (.ref a) ∧ PySem.W.keepIn K (.ref a) = true ∧ Binds K fd p_atom_text []
  F_test_of : ∃ a fd, Fun K "test_of" "test_of" s_test_of a fd ∧ mg "test_of" = some (.ref a) ∧ PySem.W.keepIn K (.ref a) = true ∧ Binds K fd p_test_of []
  F_test_text : ∃ a fd, Fun K "test_text" "test_text" s_test_text a fd ∧ mg "test_text" = some (.ref a) ∧ PySem.W.keepIn K (.ref a) = true ∧ Binds K fd p_test_text []
  F_answers_text : ∃ a fd, Fun K "answers_text" "answers_text" s_answers_text a fd ∧ mg "answers_text" = some (.ref a) ∧ PySem.W.keepIn K (.ref a) = true ∧ Binds K fd p_answers_text []
  F_law_pick : ∃ a fd, Fun K "_law_pick" "_law_pick" s_law_pick a fd ∧ mg "_law_pick" = some (.ref a) ∧ PySem.W.keepIn K (.ref a) = true ∧ Binds K fd p_law_pick []
  F_law_take : ∃ a fd, Fun K "_law_take" "_law_take" s_law_take a fd ∧ mg "_law_take" = some (.ref a) ∧ PySem.W.keepIn K (.ref a) = true ∧ Binds K fd p_law_take []
  F_law_clause : ∃ a fd, Fun K "_law_clause" "_law_clause" s_law_clause a fd ∧ mg "_law_clause" = some (.ref a) ∧ PySem.W.keepIn K (.ref a) = true ∧ Binds K fd p_law_clause []
  F_Question__init__b : ∃ a fd, Fun K "__init__" "Question.__init__" s_Question__init__b a fd ∧ Mk K e_Question a ∧ Binds K fd p_Question__init__b []
  F_Clause__init__b : ∃ a fd, Fun K "__init__" "Clause.__init__" s_Clause__init__b a fd ∧ Mk K e_Clause a ∧ Binds K fd p_Clause__init__b []
  F_law_word : ∃ a fd, Fun K "_law_word" "_law_word" s_law_word a fd ∧ mg "_law_word" = some (.ref a) ∧ PySem.W.keepIn K (.ref a) = true ∧ Binds K fd p_law_word []
  F_term_of : ∃ a fd, Fun K "term_of" "term_of" s_term_of a fd ∧ mg "term_of" = some (.ref a) ∧ PySem.W.keepIn K (.ref a) = true ∧ Binds K fd p_term_of []
  F_is_name : ∃ a fd, Fun K "is_name" "is_name" s_is_name a fd ∧ mg "is_name" = some (.ref a) ∧ PySem.W.keepIn K (.ref a) = true ∧ Binds K fd p_is_name []
  F_term_text : ∃ a fd, Fun K "term_text" "term_text" s_term_text a fd ∧ mg "term_text" = some (.ref a) ∧ PySem.W.keepIn K (.ref a) = true ∧ Binds K fd p_term_text []
  F_is_day_word : ∃ a fd, Fun K "is_day_word" "is_day_word" s_is_day_word a fd ∧ mg "is_day_word" = some (.ref a) ∧ PySem.W.keepIn K (.ref a) = true ∧ Binds K fd p_is_day_word []
  F_is_test : ∃ a fd, Fun K "is_test" "is_test" s_is_test a fd ∧ mg "is_test" = some (.ref a) ∧ PySem.W.keepIn K (.ref a) = true ∧ Binds K fd p_is_test []
  F_answer_text : ∃ a fd, Fun K "answer_text" "answer_text" s_answer_text a fd ∧ mg "answer_text" = some (.ref a) ∧ PySem.W.keepIn K (.ref a) = true ∧ Binds K fd p_answer_text []
  F_law_atom : ∃ a fd, Fun K "_law_atom" "_law_atom" s_law_atom a fd ∧ mg "_law_atom" = some (.ref a) ∧ PySem.W.keepIn K (.ref a) = true ∧ Binds K fd p_law_atom []
  F_law_name_term : ∃ a fd, Fun K "_law_name_term" "_law_name_term" s_law_name_term a fd ∧ mg "_law_name_term" = some (.ref a) ∧ PySem.W.keepIn K (.ref a) = true ∧ Binds K fd p_law_name_term []
  F_is_head : ∃ a fd, Fun K "is_head" "is_head" s_is_head a fd ∧ mg "is_head" = some (.ref a) ∧ PySem.W.keepIn K (.ref a) = true ∧ Binds K fd p_is_head []
  F_are_clauses : ∃ a fd, Fun K "are_clauses" "are_clauses" s_are_clauses a fd ∧ mg "are_clauses" = some (.ref a) ∧ PySem.W.keepIn K (.ref a) = true ∧ Binds K fd p_are_clauses []
  F_Clause_variables : ∃ a fd, Fun K "variables" "Clause.variables" s_Clause_variables a fd ∧ Meth K e_Clause "variables" a ∧ Binds K fd p_Clause_variables []
  F_check_atom : ∃ a fd, Fun K "check_atom" "check_atom" s_check_atom a fd ∧ mg "check_atom" = some (.ref a) ∧ PySem.W.keepIn K (.ref a) = true ∧ Binds K fd p_check_atom []
  F_check_tests : ∃ a fd, Fun K "check_tests" "check_tests" s_check_tests a fd ∧ mg "check_tests" = some (.ref a) ∧ PySem.W.keepIn K (.ref a) = true ∧ Binds K fd p_check_tests []
  F_is_variable : ∃ a fd, Fun K "is_variable" "is_variable" s_is_variable a fd ∧ mg "is_variable" = some (.ref a) ∧ PySem.W.keepIn K (.ref a) = true ∧ Binds K fd p_is_variable []
  F_number_of : ∃ a fd, Fun K "number_of" "number_of" s_number_of a fd ∧ mg "number_of" = some (.ref a) ∧ PySem.W.keepIn K (.ref a) = true ∧ Binds K fd p_number_of []
  F_is_day : ∃ a fd, Fun K "is_day" "is_day" s_is_day a fd ∧ mg "is_day" = some (.ref a) ∧ PySem.W.keepIn K (.ref a) = true ∧ Binds K fd p_is_day []
  F_is_day_term : ∃ a fd, Fun K "is_day_term" "is_day_term" s_is_day_term a fd ∧ mg "is_day_term" = some (.ref a) ∧ PySem.W.keepIn K (.ref a) = true ∧ Binds K fd p_is_day_term []
  F_is_name_term : ∃ a fd, Fun K "is_name_term" "is_name_term" s_is_name_term a fd ∧ mg "is_name_term" = some (.ref a) ∧ PySem.W.keepIn K (.ref a) = true ∧ Binds K fd p_is_name_term []
  F_law_day_term : ∃ a fd, Fun K "_law_day_term" "_law_day_term" s_law_day_term a fd ∧ mg "_law_day_term" = some (.ref a) ∧ PySem.W.keepIn K (.ref a) = true ∧ Binds K fd p_law_day_term []
  F_check_terms : ∃ a fd, Fun K "check_terms" "check_terms" s_check_terms a fd ∧ mg "check_terms" = some (.ref a) ∧ PySem.W.keepIn K (.ref a) = true ∧ Binds K fd p_check_terms []
  F_is_whole : ∃ a fd, Fun K "is_whole" "is_whole" s_is_whole a fd ∧ mg "is_whole" = some (.ref a) ∧ PySem.W.keepIn K (.ref a) = true ∧ Binds K fd p_is_whole []
  c_Question : ClsT K mg "Question" e_Question
  c_Clause : ClsT K mg "Clause" e_Clause
  nf_Question_clauses : NoAttr K e_Question "clauses"
  nf_Question_unless : NoAttr K e_Question "unless"
  nf_Clause_atoms : NoAttr K e_Clause "atoms"
  nf_Clause_tests : NoAttr K e_Clause "tests"
  nf_Question_head : NoAttr K e_Question "head"
  ci_Clause : ClsI K e_Clause
theorem txt {P : Program} {w : World} {K : PySem.W.Frag} {mg : Str → Option Value} {base : Heap} {e_Question e_Clause : Addr} (S : Sta P K mg e_Question e_Clause) : ∀ n, Txt P w K mg base n e_Question e_Clause
  | 0 => { S.toNms with
    f_law := ⟨by obtain ⟨a, fd, F, hm, hk, hb⟩ := S.F_law; exact ⟨a, fd, p_law, fn_zero rfl, hm, hk, hb⟩⟩
    f_law_question := ⟨by obtain ⟨a, fd, F, hm, hk, hb⟩ := S.F_law_question; exact ⟨a, fd, p_law_question, fn_zero rfl, hm, hk, hb⟩⟩
    f_law_rules := ⟨by obtain ⟨a, fd, F, hm, hk, hb⟩ := S.F_law_rules; exact ⟨a, fd, p_law_rules, fn_zero rfl, hm, hk, hb⟩⟩
    f_clause_text := ⟨by obtain ⟨a, fd, F, hm, hk, hb⟩ := S.F_clause_text; exact ⟨a, fd, p_clause_text, fn_zero rfl, hm, hk, hb⟩⟩
    f_law_words := ⟨by obtain ⟨a, fd, F, hm, hk, hb⟩ := S.F_law_words; exact ⟨a, fd, p_law_words, fn_zero rfl, hm, hk, hb⟩⟩
    f_atom_of := ⟨by obtain ⟨a, fd, F, hm, hk, hb⟩ := S.F_atom_of; exact ⟨a, fd, p_atom_of, fn_zero rfl, hm, hk, hb⟩⟩
    f_atom_text := ⟨by obtain ⟨a, fd, F, hm, hk, hb⟩ := S.F_atom_text; exact ⟨a, fd, p_atom_text, fn_zero rfl, hm, hk, hb⟩⟩
    f_test_of := ⟨by obtain ⟨a, fd, F, hm, hk, hb⟩ := S.F_test_of; exact ⟨a, fd, p_test_of, fn_zero rfl, hm, hk, hb⟩⟩
    f_test_text := ⟨by obtain ⟨a, fd, F, hm, hk, hb⟩ := S.F_test_text; exact ⟨a, fd, p_test_text, fn_zero rfl, hm, hk, hb⟩⟩
    f_answers_text := ⟨by obtain ⟨a, fd, F, hm, hk, hb⟩ := S.F_answers_text; exact ⟨a, fd, p_answers_text, fn_zero rfl, hm, hk, hb⟩⟩
    f_law_pick := ⟨by obtain ⟨a, fd, F, hm, hk, hb⟩ := S.F_law_pick; exact ⟨a, fd, p_law_pick, fn_zero rfl, hm, hk, hb⟩⟩
    f_law_take := ⟨by obtain ⟨a, fd, F, hm, hk, hb⟩ := S.F_law_take; exact ⟨a, fd, p_law_take, fn_zero rfl, hm, hk, hb⟩⟩
    f_law_clause := ⟨by obtain ⟨a, fd, F, hm, hk, hb⟩ := S.F_law_clause; exact ⟨a, fd, p_law_clause, fn_zero rfl, hm, hk, hb⟩⟩
    f_Question__init := ini_zero (f := 14) ⟨by obtain ⟨a, fd, F, hm, hb⟩ := S.F_Question__init__b; exact ⟨a, fd, p_Question__init__b, fn_zero rfl, hm, hb⟩⟩
    f_Question__init__b := ⟨by obtain ⟨a, fd, F, hm, hb⟩ := S.F_Question__init__b; exact ⟨a, fd, p_Question__init__b, fn_zero rfl, hm, hb⟩⟩
    f_Clause__init := ini_zero (f := 16) ⟨by obtain ⟨a, fd, F, hm, hb⟩ := S.F_Clause__init__b; exact ⟨a, fd, p_Clause__init__b, fn_zero rfl, hm, hb⟩⟩
    f_Clause__init__b := ⟨by obtain ⟨a, fd, F, hm, hb⟩ := S.F_Clause__init__b; exact ⟨a, fd, p_Clause__init__b, fn_zero rfl, hm, hb⟩⟩
    f_law_word := ⟨by obtain ⟨a, fd, F, hm, hk, hb⟩ := S.F_law_word; exact ⟨a, fd, p_law_word, fn_zero rfl, hm, hk, hb⟩⟩
    f_term_of := ⟨by obtain ⟨a, fd, F, hm, hk, hb⟩ := S.F_term_of; exact ⟨a, fd, p_term_of, fn_zero rfl, hm, hk, hb⟩⟩
    f_is_name := ⟨by obtain ⟨a, fd, F, hm, hk, hb⟩ := S.F_is_name; exact ⟨a, fd, p_is_name, fn_zero rfl, hm, hk, hb⟩⟩
    f_term_text := ⟨by obtain ⟨a, fd, F, hm, hk, hb⟩ := S.F_term_text; exact ⟨a, fd, p_term_text, fn_zero rfl, hm, hk, hb⟩⟩
    f_is_day_word := ⟨by obtain ⟨a, fd, F, hm, hk, hb⟩ := S.F_is_day_word; exact ⟨a, fd, p_is_day_word, fn_zero rfl, hm, hk, hb⟩⟩
    f_is_test := ⟨by obtain ⟨a, fd, F, hm, hk, hb⟩ := S.F_is_test; exact ⟨a, fd, p_is_test, fn_zero rfl, hm, hk, hb⟩⟩
    f_answer_text := ⟨by obtain ⟨a, fd, F, hm, hk, hb⟩ := S.F_answer_text; exact ⟨a, fd, p_answer_text, fn_zero rfl, hm, hk, hb⟩⟩
    f_law_atom := ⟨by obtain ⟨a, fd, F, hm, hk, hb⟩ := S.F_law_atom; exact ⟨a, fd, p_law_atom, fn_zero rfl, hm, hk, hb⟩⟩
    f_law_name_term := ⟨by obtain ⟨a, fd, F, hm, hk, hb⟩ := S.F_law_name_term; exact ⟨a, fd, p_law_name_term, fn_zero rfl, hm, hk, hb⟩⟩
    f_is_head := ⟨by obtain ⟨a, fd, F, hm, hk, hb⟩ := S.F_is_head; exact ⟨a, fd, p_is_head, fn_zero rfl, hm, hk, hb⟩⟩
    f_are_clauses := ⟨by obtain ⟨a, fd, F, hm, hk, hb⟩ := S.F_are_clauses; exact ⟨a, fd, p_are_clauses, fn_zero rfl, hm, hk, hb⟩⟩
    f_Clause_variables := ⟨by obtain ⟨a, fd, F, hm, hb⟩ := S.F_Clause_variables; exact ⟨a, fd, p_Clause_variables, fn_zero rfl, hm, hb⟩⟩
    f_check_atom := ⟨by obtain ⟨a, fd, F, hm, hk, hb⟩ := S.F_check_atom; exact ⟨a, fd, p_check_atom, fn_zero rfl, hm, hk, hb⟩⟩
    f_check_tests := ⟨by obtain ⟨a, fd, F, hm, hk, hb⟩ := S.F_check_tests; exact ⟨a, fd, p_check_tests, fn_zero rfl, hm, hk, hb⟩⟩
    f_is_variable := ⟨by obtain ⟨a, fd, F, hm, hk, hb⟩ := S.F_is_variable; exact ⟨a, fd, p_is_variable, fn_zero rfl, hm, hk, hb⟩⟩
    f_number_of := ⟨by obtain ⟨a, fd, F, hm, hk, hb⟩ := S.F_number_of; exact ⟨a, fd, p_number_of, fn_zero rfl, hm, hk, hb⟩⟩
    f_is_day := ⟨by obtain ⟨a, fd, F, hm, hk, hb⟩ := S.F_is_day; exact ⟨a, fd, p_is_day, fn_zero rfl, hm, hk, hb⟩⟩
    f_is_day_term := ⟨by obtain ⟨a, fd, F, hm, hk, hb⟩ := S.F_is_day_term; exact ⟨a, fd, p_is_day_term, fn_zero rfl, hm, hk, hb⟩⟩
    f_is_name_term := ⟨by obtain ⟨a, fd, F, hm, hk, hb⟩ := S.F_is_name_term; exact ⟨a, fd, p_is_name_term, fn_zero rfl, hm, hk, hb⟩⟩
    f_law_day_term := ⟨by obtain ⟨a, fd, F, hm, hk, hb⟩ := S.F_law_day_term; exact ⟨a, fd, p_law_day_term, fn_zero rfl, hm, hk, hb⟩⟩
    f_check_terms := ⟨by obtain ⟨a, fd, F, hm, hk, hb⟩ := S.F_check_terms; exact ⟨a, fd, p_check_terms, fn_zero rfl, hm, hk, hb⟩⟩
    f_is_whole := ⟨by obtain ⟨a, fd, F, hm, hk, hb⟩ := S.F_is_whole; exact ⟨a, fd, p_is_whole, fn_zero rfl, hm, hk, hb⟩⟩
    c_Question := S.c_Question
    c_Clause := S.c_Clause
    nf_Question_clauses := S.nf_Question_clauses
    nf_Question_unless := S.nf_Question_unless
    nf_Clause_atoms := S.nf_Clause_atoms
    nf_Clause_tests := S.nf_Clause_tests
    nf_Question_head := S.nf_Question_head
    ci_Clause := S.ci_Clause }
  | n + 1 => let TT : Txt P w K mg base n e_Question e_Clause := txt S n
    { S.toNms with
    f_law := ⟨by obtain ⟨a, fd, F, hm, hk, hb⟩ := S.F_law; exact ⟨a, fd, p_law, fn_step (T := tab) (f := 0) (d := ⟨1, 14, B_law⟩) F sc_law rfl rfl rfl (fun cdv A outer s H E R Sn => d_law TT a cdv A outer s H E R Sn), hm, hk, hb⟩⟩
    f_law_question := ⟨by obtain ⟨a, fd, F, hm, hk, hb⟩ := S.F_law_question; exact ⟨a, fd, p_law_question, fn_step (T := tab) (f := 1) (d := ⟨1, 5, B_law_question⟩) F sc_law_question rfl rfl rfl (fun cdv A outer s H E R Sn => d_law_question TT a cdv A outer s H E R Sn), hm, hk, hb⟩⟩
    f_law_rules := ⟨by obtain ⟨a, fd, F, hm, hk, hb⟩ := S.F_law_rules; exact ⟨a, fd, p_law_rules, fn_step (T := tab) (f := 2) (d := ⟨1, 8, B_law_rules⟩) F sc_law_rules rfl rfl rfl (fun cdv A outer s H E R Sn => d_law_rules TT a cdv A outer s H E R Sn), hm, hk, hb⟩⟩
    f_clause_text := ⟨by obtain ⟨a, fd, F, hm, hk, hb⟩ := S.F_clause_text; exact ⟨a, fd, p_clause_text, fn_step (T := tab) (f := 3) (d := ⟨1, 3, B_clause_text⟩) F sc_clause_text rfl rfl rfl (fun cdv A outer s H E R Sn => d_clause_text TT a cdv A outer s H E R Sn), hm, hk, hb⟩⟩
    f_law_words := ⟨by obtain ⟨a, fd, F, hm, hk, hb⟩ := S.F_law_words; exact ⟨a, fd, p_law_words, fn_step (T := tab) (f := 4) (d := ⟨1, 10, B_law_words⟩) F sc_law_words rfl rfl rfl (fun cdv A outer s H E R Sn => d_law_words TT a cdv A outer s H E R Sn), hm, hk, hb⟩⟩
    f_atom_of := ⟨by obtain ⟨a, fd, F, hm, hk, hb⟩ := S.F_atom_of; exact ⟨a, fd, p_atom_of, fn_step (T := tab) (f := 5) (d := ⟨1, 6, B_atom_of⟩) F sc_atom_of rfl rfl rfl (fun cdv A outer s H E R Sn => d_atom_of TT a cdv A outer s H E R Sn), hm, hk, hb⟩⟩
    f_atom_text := ⟨by obtain ⟨a, fd, F, hm, hk, hb⟩ := S.F_atom_text; exact ⟨a, fd, p_atom_text, fn_step (T := tab) (f := 6) (d := ⟨1, 5, B_atom_text⟩) F sc_atom_text rfl rfl rfl (fun cdv A outer s H E R Sn => d_atom_text TT a cdv A outer s H E R Sn), hm, hk, hb⟩⟩
    f_test_of := ⟨by obtain ⟨a, fd, F, hm, hk, hb⟩ := S.F_test_of; exact ⟨a, fd, p_test_of, fn_step (T := tab) (f := 7) (d := ⟨2, 9, B_test_of⟩) F sc_test_of rfl rfl rfl (fun cdv A outer s H E R Sn => d_test_of TT a cdv A outer s H E R Sn), hm, hk, hb⟩⟩
    f_test_text := ⟨by obtain ⟨a, fd, F, hm, hk, hb⟩ := S.F_test_text; exact ⟨a, fd, p_test_text, fn_step (T := tab) (f := 8) (d := ⟨1, 4, B_test_text⟩) F sc_test_text rfl rfl rfl (fun cdv A outer s H E R Sn => d_test_text TT a cdv A outer s H E R Sn), hm, hk, hb⟩⟩
    f_answers_text := ⟨by obtain ⟨a, fd, F, hm, hk, hb⟩ := S.F_answers_text; exact ⟨a, fd, p_answers_text, fn_step (T := tab) (f := 9) (d := ⟨1, 2, B_answers_text⟩) F sc_answers_text rfl rfl rfl (fun cdv A outer s H E R Sn => d_answers_text TT a cdv A outer s H E R Sn), hm, hk, hb⟩⟩
    f_law_pick := ⟨by obtain ⟨a, fd, F, hm, hk, hb⟩ := S.F_law_pick; exact ⟨a, fd, p_law_pick, fn_step (T := tab) (f := 10) (d := ⟨2, 2, B_law_pick⟩) F sc_law_pick rfl rfl rfl (fun cdv A outer s H E R Sn => d_law_pick TT a cdv A outer s H E R Sn), hm, hk, hb⟩⟩
    f_law_take := ⟨by obtain ⟨a, fd, F, hm, hk, hb⟩ := S.F_law_take; exact ⟨a, fd, p_law_take, fn_step (T := tab) (f := 11) (d := ⟨2, 6, B_law_take⟩) F sc_law_take rfl rfl rfl (fun cdv A outer s H E R Sn => d_law_take TT a cdv A outer s H E R Sn), hm, hk, hb⟩⟩
    f_law_clause := ⟨by obtain ⟨a, fd, F, hm, hk, hb⟩ := S.F_law_clause; exact ⟨a, fd, p_law_clause, fn_step (T := tab) (f := 12) (d := ⟨4, 14, B_law_clause⟩) F sc_law_clause rfl rfl rfl (fun cdv A outer s H E R Sn => d_law_clause TT a cdv A outer s H E R Sn), hm, hk, hb⟩⟩
    f_Question__init := ini_step TT.f_Question__init__b rfl
    f_Question__init__b := ⟨by obtain ⟨a, fd, F, hm, hb⟩ := S.F_Question__init__b; exact ⟨a, fd, p_Question__init__b, fn_step (T := tab) (f := 14) (d := ⟨4, 6, B_Question__init__b⟩) F sc_Question__init__b rfl rfl rfl (fun cdv A outer s H E R Sn => d_Question__init__b TT a cdv A outer s H E R Sn), hm, hb⟩⟩
    f_Clause__init := ini_step TT.f_Clause__init__b rfl
    f_Clause__init__b := ⟨by obtain ⟨a, fd, F, hm, hb⟩ := S.F_Clause__init__b; exact ⟨a, fd, p_Clause__init__b, fn_step (T := tab) (f := 16) (d := ⟨3, 9, B_Clause__init__b⟩) F sc_Clause__init__b rfl rfl rfl (fun cdv A outer s H E R Sn => d_Clause__init__b TT a cdv A outer s H E R Sn), hm, hb⟩⟩
    f_law_word := ⟨by obtain ⟨a, fd, F, hm, hk, hb⟩ := S.F_law_word; exact ⟨a, fd, p_law_word, fn_step (T := tab) (f := 17) (d := ⟨1, 1, B_law_word⟩) F sc_law_word rfl rfl rfl (fun cdv A outer s H E R Sn => d_law_word TT a cdv A outer s H E R Sn), hm, hk, hb⟩⟩
    f_term_of := ⟨by obtain ⟨a, fd, F, hm, hk, hb⟩ := S.F_term_of; exact ⟨a, fd, p_term_of, fn_step (T := tab) (f := 18) (d := ⟨2, 3, B_term_of⟩) F sc_term_of rfl rfl rfl (fun cdv A outer s H E R Sn => d_term_of TT a cdv A outer s H E R Sn), hm, hk, hb⟩⟩
    f_is_name := ⟨by obtain ⟨a, fd, F, hm, hk, hb⟩ := S.F_is_name; exact ⟨a, fd, p_is_name, fn_step (T := tab) (f := 19) (d := ⟨1, 2, B_is_name⟩) F sc_is_name rfl rfl rfl (fun cdv A outer s H E R Sn => d_is_name TT a cdv A outer s H E R Sn), hm, hk, hb⟩⟩
    f_term_text := ⟨by obtain ⟨a, fd, F, hm, hk, hb⟩ := S.F_term_text; exact ⟨a, fd, p_term_text, fn_step (T := tab) (f := 20) (d := ⟨1, 1, B_term_text⟩) F sc_term_text rfl rfl rfl (fun cdv A outer s H E R Sn => d_term_text TT a cdv A outer s H E R Sn), hm, hk, hb⟩⟩
    f_is_day_word := ⟨by obtain ⟨a, fd, F, hm, hk, hb⟩ := S.F_is_day_word; exact ⟨a, fd, p_is_day_word, fn_step (T := tab) (f := 21) (d := ⟨2, 2, B_is_day_word⟩) F sc_is_day_word rfl rfl rfl (fun cdv A outer s H E R Sn => d_is_day_word TT a cdv A outer s H E R Sn), hm, hk, hb⟩⟩
    f_is_test := ⟨by obtain ⟨a, fd, F, hm, hk, hb⟩ := S.F_is_test; exact ⟨a, fd, p_is_test, fn_step (T := tab) (f := 22) (d := ⟨1, 4, B_is_test⟩) F sc_is_test rfl rfl rfl (fun cdv A outer s H E R Sn => d_is_test TT a cdv A outer s H E R Sn), hm, hk, hb⟩⟩
    f_answer_text := ⟨by obtain ⟨a, fd, F, hm, hk, hb⟩ := S.F_answer_text; exact ⟨a, fd, p_answer_text, fn_step (T := tab) (f := 23) (d := ⟨1, 1, B_answer_text⟩) F sc_answer_text rfl rfl rfl (fun cdv A outer s H E R Sn => d_answer_text TT a cdv A outer s H E R Sn), hm, hk, hb⟩⟩
    f_law_atom := ⟨by obtain ⟨a, fd, F, hm, hk, hb⟩ := S.F_law_atom; exact ⟨a, fd, p_law_atom, fn_step (T := tab) (f := 24) (d := ⟨2, 2, B_law_atom⟩) F sc_law_atom rfl rfl rfl (fun cdv A outer s H E R Sn => d_law_atom TT a cdv A outer s H E R Sn), hm, hk, hb⟩⟩
    f_law_name_term := ⟨by obtain ⟨a, fd, F, hm, hk, hb⟩ := S.F_law_name_term; exact ⟨a, fd, p_law_name_term, fn_step (T := tab) (f := 25) (d := ⟨1, 1, B_law_name_term⟩) F sc_law_name_term rfl rfl rfl (fun cdv A outer s H E R Sn => d_law_name_term TT a cdv A outer s H E R Sn), hm, hk, hb⟩⟩
    f_is_head := ⟨by obtain ⟨a, fd, F, hm, hk, hb⟩ := S.F_is_head; exact ⟨a, fd, p_is_head, fn_step (T := tab) (f := 26) (d := ⟨1, 1, B_is_head⟩) F sc_is_head rfl rfl rfl (fun cdv A outer s H E R Sn => d_is_head TT a cdv A outer s H E R Sn), hm, hk, hb⟩⟩
    f_are_clauses := ⟨by obtain ⟨a, fd, F, hm, hk, hb⟩ := S.F_are_clauses; exact ⟨a, fd, p_are_clauses, fn_step (T := tab) (f := 27) (d := ⟨1, 2, B_are_clauses⟩) F sc_are_clauses rfl rfl rfl (fun cdv A outer s H E R Sn => d_are_clauses TT a cdv A outer s H E R Sn), hm, hk, hb⟩⟩
    f_Clause_variables := ⟨by obtain ⟨a, fd, F, hm, hb⟩ := S.F_Clause_variables; exact ⟨a, fd, p_Clause_variables, fn_step (T := tab) (f := 28) (d := ⟨1, 6, B_Clause_variables⟩) F sc_Clause_variables rfl rfl rfl (fun cdv A outer s H E R Sn => d_Clause_variables TT a cdv A outer s H E R Sn), hm, hb⟩⟩
    f_check_atom := ⟨by obtain ⟨a, fd, F, hm, hk, hb⟩ := S.F_check_atom; exact ⟨a, fd, p_check_atom, fn_step (T := tab) (f := 29) (d := ⟨1, 1, B_check_atom⟩) F sc_check_atom rfl rfl rfl (fun cdv A outer s H E R Sn => d_check_atom TT a cdv A outer s H E R Sn), hm, hk, hb⟩⟩
    f_check_tests := ⟨by obtain ⟨a, fd, F, hm, hk, hb⟩ := S.F_check_tests; exact ⟨a, fd, p_check_tests, fn_step (T := tab) (f := 30) (d := ⟨1, 2, B_check_tests⟩) F sc_check_tests rfl rfl rfl (fun cdv A outer s H E R Sn => d_check_tests TT a cdv A outer s H E R Sn), hm, hk, hb⟩⟩
    f_is_variable := ⟨by obtain ⟨a, fd, F, hm, hk, hb⟩ := S.F_is_variable; exact ⟨a, fd, p_is_variable, fn_step (T := tab) (f := 31) (d := ⟨1, 1, B_is_variable⟩) F sc_is_variable rfl rfl rfl (fun cdv A outer s H E R Sn => d_is_variable TT a cdv A outer s H E R Sn), hm, hk, hb⟩⟩
    f_number_of := ⟨by obtain ⟨a, fd, F, hm, hk, hb⟩ := S.F_number_of; exact ⟨a, fd, p_number_of, fn_step (T := tab) (f := 32) (d := ⟨1, 2, B_number_of⟩) F sc_number_of rfl rfl rfl (fun cdv A outer s H E R Sn => d_number_of TT a cdv A outer s H E R Sn), hm, hk, hb⟩⟩
    f_is_day := ⟨by obtain ⟨a, fd, F, hm, hk, hb⟩ := S.F_is_day; exact ⟨a, fd, p_is_day, fn_step (T := tab) (f := 33) (d := ⟨1, 1, B_is_day⟩) F sc_is_day rfl rfl rfl (fun cdv A outer s H E R Sn => d_is_day TT a cdv A outer s H E R Sn), hm, hk, hb⟩⟩
    f_is_day_term := ⟨by obtain ⟨a, fd, F, hm, hk, hb⟩ := S.F_is_day_term; exact ⟨a, fd, p_is_day_term, fn_step (T := tab) (f := 34) (d := ⟨1, 1, B_is_day_term⟩) F sc_is_day_term rfl rfl rfl (fun cdv A outer s H E R Sn => d_is_day_term TT a cdv A outer s H E R Sn), hm, hk, hb⟩⟩
    f_is_name_term := ⟨by obtain ⟨a, fd, F, hm, hk, hb⟩ := S.F_is_name_term; exact ⟨a, fd, p_is_name_term, fn_step (T := tab) (f := 35) (d := ⟨1, 1, B_is_name_term⟩) F sc_is_name_term rfl rfl rfl (fun cdv A outer s H E R Sn => d_is_name_term TT a cdv A outer s H E R Sn), hm, hk, hb⟩⟩
    f_law_day_term := ⟨by obtain ⟨a, fd, F, hm, hk, hb⟩ := S.F_law_day_term; exact ⟨a, fd, p_law_day_term, fn_step (T := tab) (f := 36) (d := ⟨2, 2, B_law_day_term⟩) F sc_law_day_term rfl rfl rfl (fun cdv A outer s H E R Sn => d_law_day_term TT a cdv A outer s H E R Sn), hm, hk, hb⟩⟩
    f_check_terms := ⟨by obtain ⟨a, fd, F, hm, hk, hb⟩ := S.F_check_terms; exact ⟨a, fd, p_check_terms, fn_step (T := tab) (f := 37) (d := ⟨2, 3, B_check_terms⟩) F sc_check_terms rfl rfl rfl (fun cdv A outer s H E R Sn => d_check_terms TT a cdv A outer s H E R Sn), hm, hk, hb⟩⟩
    f_is_whole := ⟨by obtain ⟨a, fd, F, hm, hk, hb⟩ := S.F_is_whole; exact ⟨a, fd, p_is_whole, fn_step (T := tab) (f := 38) (d := ⟨3, 3, B_is_whole⟩) F sc_is_whole rfl rfl rfl (fun cdv A outer s H E R Sn => d_is_whole TT a cdv A outer s H E R Sn), hm, hk, hb⟩⟩
    c_Question := S.c_Question
    c_Clause := S.c_Clause
    nf_Question_clauses := S.nf_Question_clauses
    nf_Question_unless := S.nf_Question_unless
    nf_Clause_atoms := S.nf_Clause_atoms
    nf_Clause_tests := S.nf_Clause_tests
    nf_Question_head := S.nf_Question_head
    ci_Clause := S.ci_Clause }
set_option maxHeartbeats 0 in
theorem all_mk {w : World} {K : PySem.W.Frag} {h : Heap} {mg : Str → Option Value} {fa : Addr} (X : K.In h) (G : h.Ns mainGlobals mg) (hfa : mg "law" = some (.ref fa))
    {ta_DAY_WORDS : Addr} {td_DAY_WORDS : Option Addr} {ts_DAY_WORDS : Array (Option Value)} {tn_DAY_WORDS : Nat} {tt_DAY_WORDS_0 : Tok} {tt_DAY_WORDS_1 : Tok} {tt_DAY_WORDS_2 : Tok} {tt_DAY_WORDS_3 : Tok}
    {zt_FIGURES : Tok}
    {zt_LETTERS : Tok}
    {zt_MOST_ATOMS : Tok}
    {zt_MOST_CLAUSES : Tok}
    {zt_MOST_DAY : Tok}
    {zt_MOST_FIGURES : Tok}
    {zt_MOST_HEAD : Tok}
    {zt_MOST_NAMES_questions : Tok}
    {zt_MOST_NAMES_relations : Tok}
    {zt_MOST_TESTS : Tok}
    {ta_NAME_WORDS : Addr} {td_NAME_WORDS : Option Addr} {ts_NAME_WORDS : Array (Option Value)} {tn_NAME_WORDS : Nat} {tt_NAME_WORDS_0 : Tok} {tt_NAME_WORDS_1 : Tok}
    {ta_NOW : Addr} {td_NOW : Option Addr} {ts_NOW : Array (Option Value)} {tn_NOW : Nat} {tt_NOW_0 : Tok}
    {ta_OPS : Addr} {td_OPS : Option Addr} {ts_OPS : Array (Option Value)} {tn_OPS : Nat}
    {ta_OPS_0 : Addr} {td_OPS_0 : Option Addr} {ts_OPS_0 : Array (Option Value)} {tn_OPS_0 : Nat} {tt_OPS_0_0 : Tok} {tt_OPS_0_1 : Tok}
    {ta_OPS_1 : Addr} {td_OPS_1 : Option Addr} {ts_OPS_1 : Array (Option Value)} {tn_OPS_1 : Nat} {tt_OPS_1_0 : Tok} {tt_OPS_1_1 : Tok}
    {ta_OPS_2 : Addr} {td_OPS_2 : Option Addr} {ts_OPS_2 : Array (Option Value)} {tn_OPS_2 : Nat} {tt_OPS_2_0 : Tok} {tt_OPS_2_1 : Tok}
    {ta_OPS_3 : Addr} {td_OPS_3 : Option Addr} {ts_OPS_3 : Array (Option Value)} {tn_OPS_3 : Nat} {tt_OPS_3_0 : Tok} {tt_OPS_3_1 : Tok}
    {e_Question : Addr}
    {e_Clause : Addr}
    {fa_law : Addr} {od_law an_law : Option Addr} {sl_law : Array (Option Value)} {oc_law kV_law dc_law pm_law cd_law ct_law : Value}
    {fa_law_question : Addr} {od_law_question an_law_question : Option Addr} {sl_law_question : Array (Option Value)} {oc_law_question kV_law_question dc_law_question pm_law_question cd_law_question ct_law_question : Value}
    {fa_law_rules : Addr} {od_law_rules an_law_rules : Option Addr} {sl_law_rules : Array (Option Value)} {oc_law_rules kV_law_rules dc_law_rules pm_law_rules cd_law_rules ct_law_rules : Value}
    {fa_clause_text : Addr} {od_clause_text an_clause_text : Option Addr} {sl_clause_text : Array (Option Value)} {oc_clause_text kV_clause_text dc_clause_text pm_clause_text cd_clause_text ct_clause_text : Value}
    {fa_law_words : Addr} {od_law_words an_law_words : Option Addr} {sl_law_words : Array (Option Value)} {oc_law_words kV_law_words dc_law_words pm_law_words cd_law_words ct_law_words : Value}
    {fa_atom_of : Addr} {od_atom_of an_atom_of : Option Addr} {sl_atom_of : Array (Option Value)} {oc_atom_of kV_atom_of dc_atom_of pm_atom_of cd_atom_of ct_atom_of : Value}
    {fa_atom_text : Addr} {od_atom_text an_atom_text : Option Addr} {sl_atom_text : Array (Option Value)} {oc_atom_text kV_atom_text dc_atom_text pm_atom_text cd_atom_text ct_atom_text : Value}
    {fa_test_of : Addr} {od_test_of an_test_of : Option Addr} {sl_test_of : Array (Option Value)} {oc_test_of kV_test_of dc_test_of pm_test_of cd_test_of ct_test_of : Value}
    {fa_test_text : Addr} {od_test_text an_test_text : Option Addr} {sl_test_text : Array (Option Value)} {oc_test_text kV_test_text dc_test_text pm_test_text cd_test_text ct_test_text : Value}
    {fa_answers_text : Addr} {od_answers_text an_answers_text : Option Addr} {sl_answers_text : Array (Option Value)} {oc_answers_text kV_answers_text dc_answers_text pm_answers_text cd_answers_text ct_answers_text : Value}
    {fa_law_pick : Addr} {od_law_pick an_law_pick : Option Addr} {sl_law_pick : Array (Option Value)} {oc_law_pick kV_law_pick dc_law_pick pm_law_pick cd_law_pick ct_law_pick : Value}
    {fa_law_take : Addr} {od_law_take an_law_take : Option Addr} {sl_law_take : Array (Option Value)} {oc_law_take kV_law_take dc_law_take pm_law_take cd_law_take ct_law_take : Value}
    {fa_law_clause : Addr} {od_law_clause an_law_clause : Option Addr} {sl_law_clause : Array (Option Value)} {oc_law_clause kV_law_clause dc_law_clause pm_law_clause cd_law_clause ct_law_clause : Value}
    {fa_Question__init__b : Addr} {od_Question__init__b an_Question__init__b : Option Addr} {sl_Question__init__b : Array (Option Value)} {oc_Question__init__b kV_Question__init__b dc_Question__init__b pm_Question__init__b cd_Question__init__b ct_Question__init__b : Value}
    {fa_Clause__init__b : Addr} {od_Clause__init__b an_Clause__init__b : Option Addr} {sl_Clause__init__b : Array (Option Value)} {oc_Clause__init__b kV_Clause__init__b dc_Clause__init__b pm_Clause__init__b cd_Clause__init__b ct_Clause__init__b : Value}
    {fa_law_word : Addr} {od_law_word an_law_word : Option Addr} {sl_law_word : Array (Option Value)} {oc_law_word kV_law_word dc_law_word pm_law_word cd_law_word ct_law_word : Value}
    {fa_term_of : Addr} {od_term_of an_term_of : Option Addr} {sl_term_of : Array (Option Value)} {oc_term_of kV_term_of dc_term_of pm_term_of cd_term_of ct_term_of : Value}
    {fa_is_name : Addr} {od_is_name an_is_name : Option Addr} {sl_is_name : Array (Option Value)} {oc_is_name kV_is_name dc_is_name pm_is_name cd_is_name ct_is_name : Value}
    {fa_term_text : Addr} {od_term_text an_term_text : Option Addr} {sl_term_text : Array (Option Value)} {oc_term_text kV_term_text dc_term_text pm_term_text cd_term_text ct_term_text : Value}
    {fa_is_day_word : Addr} {od_is_day_word an_is_day_word : Option Addr} {sl_is_day_word : Array (Option Value)} {oc_is_day_word kV_is_day_word dc_is_day_word pm_is_day_word cd_is_day_word ct_is_day_word : Value}
    {fa_is_test : Addr} {od_is_test an_is_test : Option Addr} {sl_is_test : Array (Option Value)} {oc_is_test kV_is_test dc_is_test pm_is_test cd_is_test ct_is_test : Value}
    {fa_answer_text : Addr} {od_answer_text an_answer_text : Option Addr} {sl_answer_text : Array (Option Value)} {oc_answer_text kV_answer_text dc_answer_text pm_answer_text cd_answer_text ct_answer_text : Value}
    {fa_law_atom : Addr} {od_law_atom an_law_atom : Option Addr} {sl_law_atom : Array (Option Value)} {oc_law_atom kV_law_atom dc_law_atom pm_law_atom cd_law_atom ct_law_atom : Value}
    {fa_law_name_term : Addr} {od_law_name_term an_law_name_term : Option Addr} {sl_law_name_term : Array (Option Value)} {oc_law_name_term kV_law_name_term dc_law_name_term pm_law_name_term cd_law_name_term ct_law_name_term : Value}
    {fa_is_head : Addr} {od_is_head an_is_head : Option Addr} {sl_is_head : Array (Option Value)} {oc_is_head kV_is_head dc_is_head pm_is_head cd_is_head ct_is_head : Value}
    {fa_are_clauses : Addr} {od_are_clauses an_are_clauses : Option Addr} {sl_are_clauses : Array (Option Value)} {oc_are_clauses kV_are_clauses dc_are_clauses pm_are_clauses cd_are_clauses ct_are_clauses : Value}
    {fa_Clause_variables : Addr} {od_Clause_variables an_Clause_variables : Option Addr} {sl_Clause_variables : Array (Option Value)} {oc_Clause_variables kV_Clause_variables dc_Clause_variables pm_Clause_variables cd_Clause_variables ct_Clause_variables : Value}
    {fa_check_atom : Addr} {od_check_atom an_check_atom : Option Addr} {sl_check_atom : Array (Option Value)} {oc_check_atom kV_check_atom dc_check_atom pm_check_atom cd_check_atom ct_check_atom : Value}
    {fa_check_tests : Addr} {od_check_tests an_check_tests : Option Addr} {sl_check_tests : Array (Option Value)} {oc_check_tests kV_check_tests dc_check_tests pm_check_tests cd_check_tests ct_check_tests : Value}
    {fa_is_variable : Addr} {od_is_variable an_is_variable : Option Addr} {sl_is_variable : Array (Option Value)} {oc_is_variable kV_is_variable dc_is_variable pm_is_variable cd_is_variable ct_is_variable : Value}
    {fa_number_of : Addr} {od_number_of an_number_of : Option Addr} {sl_number_of : Array (Option Value)} {oc_number_of kV_number_of dc_number_of pm_number_of cd_number_of ct_number_of : Value}
    {fa_is_day : Addr} {od_is_day an_is_day : Option Addr} {sl_is_day : Array (Option Value)} {oc_is_day kV_is_day dc_is_day pm_is_day cd_is_day ct_is_day : Value}
    {fa_is_day_term : Addr} {od_is_day_term an_is_day_term : Option Addr} {sl_is_day_term : Array (Option Value)} {oc_is_day_term kV_is_day_term dc_is_day_term pm_is_day_term cd_is_day_term ct_is_day_term : Value}
    {fa_is_name_term : Addr} {od_is_name_term an_is_name_term : Option Addr} {sl_is_name_term : Array (Option Value)} {oc_is_name_term kV_is_name_term dc_is_name_term pm_is_name_term cd_is_name_term ct_is_name_term : Value}
    {fa_law_day_term : Addr} {od_law_day_term an_law_day_term : Option Addr} {sl_law_day_term : Array (Option Value)} {oc_law_day_term kV_law_day_term dc_law_day_term pm_law_day_term cd_law_day_term ct_law_day_term : Value}
    {fa_check_terms : Addr} {od_check_terms an_check_terms : Option Addr} {sl_check_terms : Array (Option Value)} {oc_check_terms kV_check_terms dc_check_terms pm_check_terms cd_check_terms ct_check_terms : Value}
    {fa_is_whole : Addr} {od_is_whole an_is_whole : Option Addr} {sl_is_whole : Array (Option Value)} {oc_is_whole kV_is_whole dc_is_whole pm_is_whole cd_is_whole ct_is_whole : Value}
    (zb_all : PySem.W.nsIn K mainGlobals "all" = some none)
    (zb_any : PySem.W.nsIn K mainGlobals "any" = some none)
    (zb_bool : PySem.W.nsIn K mainGlobals "bool" = some none)
    (zb_int : PySem.W.nsIn K mainGlobals "int" = some none)
    (zb_isinstance : PySem.W.nsIn K mainGlobals "isinstance" = some none)
    (zb_len : PySem.W.nsIn K mainGlobals "len" = some none)
    (zb_list : PySem.W.nsIn K mainGlobals "list" = some none)
    (zb_max : PySem.W.nsIn K mainGlobals "max" = some none)
    (zb_range : PySem.W.nsIn K mainGlobals "range" = some none)
    (zb_str : PySem.W.nsIn K mainGlobals "str" = some none)
    (zb_tuple : PySem.W.nsIn K mainGlobals "tuple" = some none)
    (zg_DAY_WORDS : PySem.W.nsIn K mainGlobals "DAY_WORDS" = some (some (.ref ta_DAY_WORDS)))
    (zt_DAY_WORDS : K.lookup ta_DAY_WORDS = some ⟨.type "tuple", td_DAY_WORDS, .seq #[.str "less" tt_DAY_WORDS_0, .str "most" tt_DAY_WORDS_1, .str "same" tt_DAY_WORDS_2, .str "unlike" tt_DAY_WORDS_3] tn_DAY_WORDS, ts_DAY_WORDS⟩)
    (zg_FIGURES : PySem.W.nsIn K mainGlobals "FIGURES" = some (some (.str "0123456789" zt_FIGURES)))
    (zg_LETTERS : PySem.W.nsIn K mainGlobals "LETTERS" = some (some (.str "abcdefghijklmnopqrstuvwxyz" zt_LETTERS)))
    (zg_MOST_ATOMS : PySem.W.nsIn K mainGlobals "MOST_ATOMS" = some (some (.int 3 zt_MOST_ATOMS)))
    (zg_MOST_CLAUSES : PySem.W.nsIn K mainGlobals "MOST_CLAUSES" = some (some (.int 3 zt_MOST_CLAUSES)))
    (zg_MOST_DAY : PySem.W.nsIn K mainGlobals "MOST_DAY" = some (some (.int 999999 zt_MOST_DAY)))
    (zg_MOST_FIGURES : PySem.W.nsIn K mainGlobals "MOST_FIGURES" = some (some (.int 6 zt_MOST_FIGURES)))
    (zg_MOST_HEAD : PySem.W.nsIn K mainGlobals "MOST_HEAD" = some (some (.int 4 zt_MOST_HEAD)))
    (zg_MOST_NAMES_questions : PySem.W.nsIn K mainGlobals "MOST_NAMES_questions" = some (some (.int 4 zt_MOST_NAMES_questions)))
    (zg_MOST_NAMES_relations : PySem.W.nsIn K mainGlobals "MOST_NAMES_relations" = some (some (.int 4 zt_MOST_NAMES_relations)))
    (zg_MOST_TESTS : PySem.W.nsIn K mainGlobals "MOST_TESTS" = some (some (.int 6 zt_MOST_TESTS)))
    (zg_NAME_WORDS : PySem.W.nsIn K mainGlobals "NAME_WORDS" = some (some (.ref ta_NAME_WORDS)))
    (zt_NAME_WORDS : K.lookup ta_NAME_WORDS = some ⟨.type "tuple", td_NAME_WORDS, .seq #[.str "same" tt_NAME_WORDS_0, .str "unlike" tt_NAME_WORDS_1] tn_NAME_WORDS, ts_NAME_WORDS⟩)
    (zg_NOW : PySem.W.nsIn K mainGlobals "NOW" = some (some (.ref ta_NOW)))
    (zt_NOW : K.lookup ta_NOW = some ⟨.type "tuple", td_NOW, .seq #[.str "now" tt_NOW_0] tn_NOW, ts_NOW⟩)
    (zg_OPS : PySem.W.nsIn K mainGlobals "OPS" = some (some (.ref ta_OPS)))
    (zt_OPS : K.lookup ta_OPS = some ⟨.type "tuple", td_OPS, .seq #[.ref ta_OPS_0, .ref ta_OPS_1, .ref ta_OPS_2, .ref ta_OPS_3] tn_OPS, ts_OPS⟩)
    (zt_OPS_0 : K.lookup ta_OPS_0 = some ⟨.type "tuple", td_OPS_0, .seq #[.str "<=" tt_OPS_0_0, .str "most" tt_OPS_0_1] tn_OPS_0, ts_OPS_0⟩)
    (zt_OPS_1 : K.lookup ta_OPS_1 = some ⟨.type "tuple", td_OPS_1, .seq #[.str "!=" tt_OPS_1_0, .str "unlike" tt_OPS_1_1] tn_OPS_1, ts_OPS_1⟩)
    (zt_OPS_2 : K.lookup ta_OPS_2 = some ⟨.type "tuple", td_OPS_2, .seq #[.str "<" tt_OPS_2_0, .str "less" tt_OPS_2_1] tn_OPS_2, ts_OPS_2⟩)
    (zt_OPS_3 : K.lookup ta_OPS_3 = some ⟨.type "tuple", td_OPS_3, .seq #[.str "=" tt_OPS_3_0, .str "same" tt_OPS_3_1] tn_OPS_3, ts_OPS_3⟩)
    (zx_Question : PySem.W.nsIn K mainGlobals "Question" = some (some (.ref e_Question)))
    (zpg_Question : PySem.W.plainGet K e_Question Str.empty = true)
    (zhd_Question : PySem.W.hasDictIn K e_Question = true)
    (zpo_Question : PySem.W.plainOver K e_Question = true)
    (zsa_Question : PySem.W.findIn K (.ref e_Question) "__setattr__" = some (some (.builtin "object.__setattr__")))
    (zmk_Question : PySem.W.makesIn K e_Question = true)
    (zkC_Question : PySem.W.keepIn K (.ref e_Question) = true)
    (zx_Clause : PySem.W.nsIn K mainGlobals "Clause" = some (some (.ref e_Clause)))
    (zpg_Clause : PySem.W.plainGet K e_Clause Str.empty = true)
    (zhd_Clause : PySem.W.hasDictIn K e_Clause = true)
    (zpo_Clause : PySem.W.plainOver K e_Clause = true)
    (zsa_Clause : PySem.W.findIn K (.ref e_Clause) "__setattr__" = some (some (.builtin "object.__setattr__")))
    (zmk_Clause : PySem.W.makesIn K e_Clause = true)
    (zkC_Clause : PySem.W.keepIn K (.ref e_Clause) = true)
    (zia_Clause : PySem.W.findIn K (.ref e_Clause) "__class__" = some (some (.builtin "object.__class__")))
    (zib_Clause : PySem.W.specialIn K (.builtin "object.__class__") "__get__" = some (some (.builtin "getset_descriptor.__get__")))
    (zic_Clause : PySem.W.takesIn K (.builtin "object.__class__") = some true)
    (zid_Clause : PySem.W.mroIn K e_Clause (.type "object") = some true)
    (znf_Question_clauses : PySem.W.findIn K (.ref e_Question) "clauses" = some none)
    (znf_Question_unless : PySem.W.findIn K (.ref e_Question) "unless" = some none)
    (znf_Clause_atoms : PySem.W.findIn K (.ref e_Clause) "atoms" = some none)
    (znf_Clause_tests : PySem.W.findIn K (.ref e_Clause) "tests" = some none)
    (znf_Question_head : PySem.W.findIn K (.ref e_Question) "head" = some none)
    (za_law : PySem.W.nsIn K mainGlobals "law" = some (some (.ref fa_law)))
    (zl_law : K.lookup fa_law = some ⟨oc_law, od_law, .func (PySem.W.fnOf "law" "law" (defArgs s_law) (defBody s_law) (defScope s_law) .none kV_law dc_law pm_law an_law cd_law ct_law), sl_law⟩)
    (zc_law : PySem.W.codeIn K cd_law "law" = true)
    (zk_law : PySem.W.keepIn K (.ref fa_law) = true)
    (za_law_question : PySem.W.nsIn K mainGlobals "_law_question" = some (some (.ref fa_law_question)))
    (zl_law_question : K.lookup fa_law_question = some ⟨oc_law_question, od_law_question, .func (PySem.W.fnOf "_law_question" "_law_question" (defArgs s_law_question) (defBody s_law_question) (defScope s_law_question) .none kV_law_question dc_law_question pm_law_question an_law_question cd_law_question ct_law_question), sl_law_question⟩)
    (zc_law_question : PySem.W.codeIn K cd_law_question "_law_question" = true)
    (zk_law_question : PySem.W.keepIn K (.ref fa_law_question) = true)
    (za_law_rules : PySem.W.nsIn K mainGlobals "_law_rules" = some (some (.ref fa_law_rules)))
    (zl_law_rules : K.lookup fa_law_rules = some ⟨oc_law_rules, od_law_rules, .func (PySem.W.fnOf "_law_rules" "_law_rules" (defArgs s_law_rules) (defBody s_law_rules) (defScope s_law_rules) .none kV_law_rules dc_law_rules pm_law_rules an_law_rules cd_law_rules ct_law_rules), sl_law_rules⟩)
    (zc_law_rules : PySem.W.codeIn K cd_law_rules "_law_rules" = true)
    (zk_law_rules : PySem.W.keepIn K (.ref fa_law_rules) = true)
    (za_clause_text : PySem.W.nsIn K mainGlobals "clause_text" = some (some (.ref fa_clause_text)))
    (zl_clause_text : K.lookup fa_clause_text = some ⟨oc_clause_text, od_clause_text, .func (PySem.W.fnOf "clause_text" "clause_text" (defArgs s_clause_text) (defBody s_clause_text) (defScope s_clause_text) .none kV_clause_text dc_clause_text pm_clause_text an_clause_text cd_clause_text ct_clause_text), sl_clause_text⟩)
    (zc_clause_text : PySem.W.codeIn K cd_clause_text "clause_text" = true)
    (zk_clause_text : PySem.W.keepIn K (.ref fa_clause_text) = true)
    (za_law_words : PySem.W.nsIn K mainGlobals "_law_words" = some (some (.ref fa_law_words)))
    (zl_law_words : K.lookup fa_law_words = some ⟨oc_law_words, od_law_words, .func (PySem.W.fnOf "_law_words" "_law_words" (defArgs s_law_words) (defBody s_law_words) (defScope s_law_words) .none kV_law_words dc_law_words pm_law_words an_law_words cd_law_words ct_law_words), sl_law_words⟩)
    (zc_law_words : PySem.W.codeIn K cd_law_words "_law_words" = true)
    (zk_law_words : PySem.W.keepIn K (.ref fa_law_words) = true)
    (za_atom_of : PySem.W.nsIn K mainGlobals "atom_of" = some (some (.ref fa_atom_of)))
    (zl_atom_of : K.lookup fa_atom_of = some ⟨oc_atom_of, od_atom_of, .func (PySem.W.fnOf "atom_of" "atom_of" (defArgs s_atom_of) (defBody s_atom_of) (defScope s_atom_of) .none kV_atom_of dc_atom_of pm_atom_of an_atom_of cd_atom_of ct_atom_of), sl_atom_of⟩)
    (zc_atom_of : PySem.W.codeIn K cd_atom_of "atom_of" = true)
    (zk_atom_of : PySem.W.keepIn K (.ref fa_atom_of) = true)
    (za_atom_text : PySem.W.nsIn K mainGlobals "atom_text" = some (some (.ref fa_atom_text)))
    (zl_atom_text : K.lookup fa_atom_text = some ⟨oc_atom_text, od_atom_text, .func (PySem.W.fnOf "atom_text" "atom_text" (defArgs s_atom_text) (defBody s_atom_text) (defScope s_atom_text) .none kV_atom_text dc_atom_text pm_atom_text an_atom_text cd_atom_text ct_atom_text), sl_atom_text⟩)
    (zc_atom_text : PySem.W.codeIn K cd_atom_text "atom_text" = true)
    (zk_atom_text : PySem.W.keepIn K (.ref fa_atom_text) = true)
    (za_test_of : PySem.W.nsIn K mainGlobals "test_of" = some (some (.ref fa_test_of)))
    (zl_test_of : K.lookup fa_test_of = some ⟨oc_test_of, od_test_of, .func (PySem.W.fnOf "test_of" "test_of" (defArgs s_test_of) (defBody s_test_of) (defScope s_test_of) .none kV_test_of dc_test_of pm_test_of an_test_of cd_test_of ct_test_of), sl_test_of⟩)
    (zc_test_of : PySem.W.codeIn K cd_test_of "test_of" = true)
    (zk_test_of : PySem.W.keepIn K (.ref fa_test_of) = true)
    (za_test_text : PySem.W.nsIn K mainGlobals "test_text" = some (some (.ref fa_test_text)))
    (zl_test_text : K.lookup fa_test_text = some ⟨oc_test_text, od_test_text, .func (PySem.W.fnOf "test_text" "test_text" (defArgs s_test_text) (defBody s_test_text) (defScope s_test_text) .none kV_test_text dc_test_text pm_test_text an_test_text cd_test_text ct_test_text), sl_test_text⟩)
    (zc_test_text : PySem.W.codeIn K cd_test_text "test_text" = true)
    (zk_test_text : PySem.W.keepIn K (.ref fa_test_text) = true)
    (za_answers_text : PySem.W.nsIn K mainGlobals "answers_text" = some (some (.ref fa_answers_text)))
    (zl_answers_text : K.lookup fa_answers_text = some ⟨oc_answers_text, od_answers_text, .func (PySem.W.fnOf "answers_text" "answers_text" (defArgs s_answers_text) (defBody s_answers_text) (defScope s_answers_text) .none kV_answers_text dc_answers_text pm_answers_text an_answers_text cd_answers_text ct_answers_text), sl_answers_text⟩)
    (zc_answers_text : PySem.W.codeIn K cd_answers_text "answers_text" = true)
    (zk_answers_text : PySem.W.keepIn K (.ref fa_answers_text) = true)
    (za_law_pick : PySem.W.nsIn K mainGlobals "_law_pick" = some (some (.ref fa_law_pick)))
    (zl_law_pick : K.lookup fa_law_pick = some ⟨oc_law_pick, od_law_pick, .func (PySem.W.fnOf "_law_pick" "_law_pick" (defArgs s_law_pick) (defBody s_law_pick) (defScope s_law_pick) .none kV_law_pick dc_law_pick pm_law_pick an_law_pick cd_law_pick ct_law_pick), sl_law_pick⟩)
    (zc_law_pick : PySem.W.codeIn K cd_law_pick "_law_pick" = true)
    (zk_law_pick : PySem.W.keepIn K (.ref fa_law_pick) = true)
    (za_law_take : PySem.W.nsIn K mainGlobals "_law_take" = some (some (.ref fa_law_take)))
    (zl_law_take : K.lookup fa_law_take = some ⟨oc_law_take, od_law_take, .func (PySem.W.fnOf "_law_take" "_law_take" (defArgs s_law_take) (defBody s_law_take) (defScope s_law_take) .none kV_law_take dc_law_take pm_law_take an_law_take cd_law_take ct_law_take), sl_law_take⟩)
    (zc_law_take : PySem.W.codeIn K cd_law_take "_law_take" = true)
    (zk_law_take : PySem.W.keepIn K (.ref fa_law_take) = true)
    (za_law_clause : PySem.W.nsIn K mainGlobals "_law_clause" = some (some (.ref fa_law_clause)))
    (zl_law_clause : K.lookup fa_law_clause = some ⟨oc_law_clause, od_law_clause, .func (PySem.W.fnOf "_law_clause" "_law_clause" (defArgs s_law_clause) (defBody s_law_clause) (defScope s_law_clause) .none kV_law_clause dc_law_clause pm_law_clause an_law_clause cd_law_clause ct_law_clause), sl_law_clause⟩)
    (zc_law_clause : PySem.W.codeIn K cd_law_clause "_law_clause" = true)
    (zk_law_clause : PySem.W.keepIn K (.ref fa_law_clause) = true)
    (za_Question__init__b : PySem.W.findIn K (.ref e_Question) "__init__" = some (some (.ref fa_Question__init__b)))
    (zf_Question__init__b : PySem.W.isFn K (.ref fa_Question__init__b) = true)
    (zl_Question__init__b : K.lookup fa_Question__init__b = some ⟨oc_Question__init__b, od_Question__init__b, .func (PySem.W.fnOf "__init__" "Question.__init__" (defArgs s_Question__init__b) (defBody s_Question__init__b) (defScope s_Question__init__b) .none kV_Question__init__b dc_Question__init__b pm_Question__init__b an_Question__init__b cd_Question__init__b ct_Question__init__b), sl_Question__init__b⟩)
    (zc_Question__init__b : PySem.W.codeIn K cd_Question__init__b "Question.__init__" = true)
    (zk_Question__init__b : PySem.W.keepIn K (.ref fa_Question__init__b) = true)
    (za_Clause__init__b : PySem.W.findIn K (.ref e_Clause) "__init__" = some (some (.ref fa_Clause__init__b)))
    (zf_Clause__init__b : PySem.W.isFn K (.ref fa_Clause__init__b) = true)
    (zl_Clause__init__b : K.lookup fa_Clause__init__b = some ⟨oc_Clause__init__b, od_Clause__init__b, .func (PySem.W.fnOf "__init__" "Clause.__init__" (defArgs s_Clause__init__b) (defBody s_Clause__init__b) (defScope s_Clause__init__b) .none kV_Clause__init__b dc_Clause__init__b pm_Clause__init__b an_Clause__init__b cd_Clause__init__b ct_Clause__init__b), sl_Clause__init__b⟩)
    (zc_Clause__init__b : PySem.W.codeIn K cd_Clause__init__b "Clause.__init__" = true)
    (zk_Clause__init__b : PySem.W.keepIn K (.ref fa_Clause__init__b) = true)
    (za_law_word : PySem.W.nsIn K mainGlobals "_law_word" = some (some (.ref fa_law_word)))
    (zl_law_word : K.lookup fa_law_word = some ⟨oc_law_word, od_law_word, .func (PySem.W.fnOf "_law_word" "_law_word" (defArgs s_law_word) (defBody s_law_word) (defScope s_law_word) .none kV_law_word dc_law_word pm_law_word an_law_word cd_law_word ct_law_word), sl_law_word⟩)
    (zc_law_word : PySem.W.codeIn K cd_law_word "_law_word" = true)
    (zk_law_word : PySem.W.keepIn K (.ref fa_law_word) = true)
    (za_term_of : PySem.W.nsIn K mainGlobals "term_of" = some (some (.ref fa_term_of)))
    (zl_term_of : K.lookup fa_term_of = some ⟨oc_term_of, od_term_of, .func (PySem.W.fnOf "term_of" "term_of" (defArgs s_term_of) (defBody s_term_of) (defScope s_term_of) .none kV_term_of dc_term_of pm_term_of an_term_of cd_term_of ct_term_of), sl_term_of⟩)
    (zc_term_of : PySem.W.codeIn K cd_term_of "term_of" = true)
    (zk_term_of : PySem.W.keepIn K (.ref fa_term_of) = true)
    (za_is_name : PySem.W.nsIn K mainGlobals "is_name" = some (some (.ref fa_is_name)))
    (zl_is_name : K.lookup fa_is_name = some ⟨oc_is_name, od_is_name, .func (PySem.W.fnOf "is_name" "is_name" (defArgs s_is_name) (defBody s_is_name) (defScope s_is_name) .none kV_is_name dc_is_name pm_is_name an_is_name cd_is_name ct_is_name), sl_is_name⟩)
    (zc_is_name : PySem.W.codeIn K cd_is_name "is_name" = true)
    (zk_is_name : PySem.W.keepIn K (.ref fa_is_name) = true)
    (za_term_text : PySem.W.nsIn K mainGlobals "term_text" = some (some (.ref fa_term_text)))
    (zl_term_text : K.lookup fa_term_text = some ⟨oc_term_text, od_term_text, .func (PySem.W.fnOf "term_text" "term_text" (defArgs s_term_text) (defBody s_term_text) (defScope s_term_text) .none kV_term_text dc_term_text pm_term_text an_term_text cd_term_text ct_term_text), sl_term_text⟩)
    (zc_term_text : PySem.W.codeIn K cd_term_text "term_text" = true)
    (zk_term_text : PySem.W.keepIn K (.ref fa_term_text) = true)
    (za_is_day_word : PySem.W.nsIn K mainGlobals "is_day_word" = some (some (.ref fa_is_day_word)))
    (zl_is_day_word : K.lookup fa_is_day_word = some ⟨oc_is_day_word, od_is_day_word, .func (PySem.W.fnOf "is_day_word" "is_day_word" (defArgs s_is_day_word) (defBody s_is_day_word) (defScope s_is_day_word) .none kV_is_day_word dc_is_day_word pm_is_day_word an_is_day_word cd_is_day_word ct_is_day_word), sl_is_day_word⟩)
    (zc_is_day_word : PySem.W.codeIn K cd_is_day_word "is_day_word" = true)
    (zk_is_day_word : PySem.W.keepIn K (.ref fa_is_day_word) = true)
    (za_is_test : PySem.W.nsIn K mainGlobals "is_test" = some (some (.ref fa_is_test)))
    (zl_is_test : K.lookup fa_is_test = some ⟨oc_is_test, od_is_test, .func (PySem.W.fnOf "is_test" "is_test" (defArgs s_is_test) (defBody s_is_test) (defScope s_is_test) .none kV_is_test dc_is_test pm_is_test an_is_test cd_is_test ct_is_test), sl_is_test⟩)
    (zc_is_test : PySem.W.codeIn K cd_is_test "is_test" = true)
    (zk_is_test : PySem.W.keepIn K (.ref fa_is_test) = true)
    (za_answer_text : PySem.W.nsIn K mainGlobals "answer_text" = some (some (.ref fa_answer_text)))
    (zl_answer_text : K.lookup fa_answer_text = some ⟨oc_answer_text, od_answer_text, .func (PySem.W.fnOf "answer_text" "answer_text" (defArgs s_answer_text) (defBody s_answer_text) (defScope s_answer_text) .none kV_answer_text dc_answer_text pm_answer_text an_answer_text cd_answer_text ct_answer_text), sl_answer_text⟩)
    (zc_answer_text : PySem.W.codeIn K cd_answer_text "answer_text" = true)
    (zk_answer_text : PySem.W.keepIn K (.ref fa_answer_text) = true)
    (za_law_atom : PySem.W.nsIn K mainGlobals "_law_atom" = some (some (.ref fa_law_atom)))
    (zl_law_atom : K.lookup fa_law_atom = some ⟨oc_law_atom, od_law_atom, .func (PySem.W.fnOf "_law_atom" "_law_atom" (defArgs s_law_atom) (defBody s_law_atom) (defScope s_law_atom) .none kV_law_atom dc_law_atom pm_law_atom an_law_atom cd_law_atom ct_law_atom), sl_law_atom⟩)
    (zc_law_atom : PySem.W.codeIn K cd_law_atom "_law_atom" = true)
    (zk_law_atom : PySem.W.keepIn K (.ref fa_law_atom) = true)
    (za_law_name_term : PySem.W.nsIn K mainGlobals "_law_name_term" = some (some (.ref fa_law_name_term)))
    (zl_law_name_term : K.lookup fa_law_name_term = some ⟨oc_law_name_term, od_law_name_term, .func (PySem.W.fnOf "_law_name_term" "_law_name_term" (defArgs s_law_name_term) (defBody s_law_name_term) (defScope s_law_name_term) .none kV_law_name_term dc_law_name_term pm_law_name_term an_law_name_term cd_law_name_term ct_law_name_term), sl_law_name_term⟩)
    (zc_law_name_term : PySem.W.codeIn K cd_law_name_term "_law_name_term" = true)
    (zk_law_name_term : PySem.W.keepIn K (.ref fa_law_name_term) = true)
    (za_is_head : PySem.W.nsIn K mainGlobals "is_head" = some (some (.ref fa_is_head)))
    (zl_is_head : K.lookup fa_is_head = some ⟨oc_is_head, od_is_head, .func (PySem.W.fnOf "is_head" "is_head" (defArgs s_is_head) (defBody s_is_head) (defScope s_is_head) .none kV_is_head dc_is_head pm_is_head an_is_head cd_is_head ct_is_head), sl_is_head⟩)
    (zc_is_head : PySem.W.codeIn K cd_is_head "is_head" = true)
    (zk_is_head : PySem.W.keepIn K (.ref fa_is_head) = true)
    (za_are_clauses : PySem.W.nsIn K mainGlobals "are_clauses" = some (some (.ref fa_are_clauses)))
    (zl_are_clauses : K.lookup fa_are_clauses = some ⟨oc_are_clauses, od_are_clauses, .func (PySem.W.fnOf "are_clauses" "are_clauses" (defArgs s_are_clauses) (defBody s_are_clauses) (defScope s_are_clauses) .none kV_are_clauses dc_are_clauses pm_are_clauses an_are_clauses cd_are_clauses ct_are_clauses), sl_are_clauses⟩)
    (zc_are_clauses : PySem.W.codeIn K cd_are_clauses "are_clauses" = true)
    (zk_are_clauses : PySem.W.keepIn K (.ref fa_are_clauses) = true)
    (za_Clause_variables : PySem.W.findIn K (.ref e_Clause) "variables" = some (some (.ref fa_Clause_variables)))
    (zf_Clause_variables : PySem.W.isFn K (.ref fa_Clause_variables) = true)
    (zl_Clause_variables : K.lookup fa_Clause_variables = some ⟨oc_Clause_variables, od_Clause_variables, .func (PySem.W.fnOf "variables" "Clause.variables" (defArgs s_Clause_variables) (defBody s_Clause_variables) (defScope s_Clause_variables) .none kV_Clause_variables dc_Clause_variables pm_Clause_variables an_Clause_variables cd_Clause_variables ct_Clause_variables), sl_Clause_variables⟩)
    (zc_Clause_variables : PySem.W.codeIn K cd_Clause_variables "Clause.variables" = true)
    (zk_Clause_variables : PySem.W.keepIn K (.ref fa_Clause_variables) = true)
    (za_check_atom : PySem.W.nsIn K mainGlobals "check_atom" = some (some (.ref fa_check_atom)))
    (zl_check_atom : K.lookup fa_check_atom = some ⟨oc_check_atom, od_check_atom, .func (PySem.W.fnOf "check_atom" "check_atom" (defArgs s_check_atom) (defBody s_check_atom) (defScope s_check_atom) .none kV_check_atom dc_check_atom pm_check_atom an_check_atom cd_check_atom ct_check_atom), sl_check_atom⟩)
    (zc_check_atom : PySem.W.codeIn K cd_check_atom "check_atom" = true)
    (zk_check_atom : PySem.W.keepIn K (.ref fa_check_atom) = true)
    (za_check_tests : PySem.W.nsIn K mainGlobals "check_tests" = some (some (.ref fa_check_tests)))
    (zl_check_tests : K.lookup fa_check_tests = some ⟨oc_check_tests, od_check_tests, .func (PySem.W.fnOf "check_tests" "check_tests" (defArgs s_check_tests) (defBody s_check_tests) (defScope s_check_tests) .none kV_check_tests dc_check_tests pm_check_tests an_check_tests cd_check_tests ct_check_tests), sl_check_tests⟩)
    (zc_check_tests : PySem.W.codeIn K cd_check_tests "check_tests" = true)
    (zk_check_tests : PySem.W.keepIn K (.ref fa_check_tests) = true)
    (za_is_variable : PySem.W.nsIn K mainGlobals "is_variable" = some (some (.ref fa_is_variable)))
    (zl_is_variable : K.lookup fa_is_variable = some ⟨oc_is_variable, od_is_variable, .func (PySem.W.fnOf "is_variable" "is_variable" (defArgs s_is_variable) (defBody s_is_variable) (defScope s_is_variable) .none kV_is_variable dc_is_variable pm_is_variable an_is_variable cd_is_variable ct_is_variable), sl_is_variable⟩)
    (zc_is_variable : PySem.W.codeIn K cd_is_variable "is_variable" = true)
    (zk_is_variable : PySem.W.keepIn K (.ref fa_is_variable) = true)
    (za_number_of : PySem.W.nsIn K mainGlobals "number_of" = some (some (.ref fa_number_of)))
    (zl_number_of : K.lookup fa_number_of = some ⟨oc_number_of, od_number_of, .func (PySem.W.fnOf "number_of" "number_of" (defArgs s_number_of) (defBody s_number_of) (defScope s_number_of) .none kV_number_of dc_number_of pm_number_of an_number_of cd_number_of ct_number_of), sl_number_of⟩)
    (zc_number_of : PySem.W.codeIn K cd_number_of "number_of" = true)
    (zk_number_of : PySem.W.keepIn K (.ref fa_number_of) = true)
    (za_is_day : PySem.W.nsIn K mainGlobals "is_day" = some (some (.ref fa_is_day)))
    (zl_is_day : K.lookup fa_is_day = some ⟨oc_is_day, od_is_day, .func (PySem.W.fnOf "is_day" "is_day" (defArgs s_is_day) (defBody s_is_day) (defScope s_is_day) .none kV_is_day dc_is_day pm_is_day an_is_day cd_is_day ct_is_day), sl_is_day⟩)
    (zc_is_day : PySem.W.codeIn K cd_is_day "is_day" = true)
    (zk_is_day : PySem.W.keepIn K (.ref fa_is_day) = true)
    (za_is_day_term : PySem.W.nsIn K mainGlobals "is_day_term" = some (some (.ref fa_is_day_term)))
    (zl_is_day_term : K.lookup fa_is_day_term = some ⟨oc_is_day_term, od_is_day_term, .func (PySem.W.fnOf "is_day_term" "is_day_term" (defArgs s_is_day_term) (defBody s_is_day_term) (defScope s_is_day_term) .none kV_is_day_term dc_is_day_term pm_is_day_term an_is_day_term cd_is_day_term ct_is_day_term), sl_is_day_term⟩)
    (zc_is_day_term : PySem.W.codeIn K cd_is_day_term "is_day_term" = true)
    (zk_is_day_term : PySem.W.keepIn K (.ref fa_is_day_term) = true)
    (za_is_name_term : PySem.W.nsIn K mainGlobals "is_name_term" = some (some (.ref fa_is_name_term)))
    (zl_is_name_term : K.lookup fa_is_name_term = some ⟨oc_is_name_term, od_is_name_term, .func (PySem.W.fnOf "is_name_term" "is_name_term" (defArgs s_is_name_term) (defBody s_is_name_term) (defScope s_is_name_term) .none kV_is_name_term dc_is_name_term pm_is_name_term an_is_name_term cd_is_name_term ct_is_name_term), sl_is_name_term⟩)
    (zc_is_name_term : PySem.W.codeIn K cd_is_name_term "is_name_term" = true)
    (zk_is_name_term : PySem.W.keepIn K (.ref fa_is_name_term) = true)
    (za_law_day_term : PySem.W.nsIn K mainGlobals "_law_day_term" = some (some (.ref fa_law_day_term)))
    (zl_law_day_term : K.lookup fa_law_day_term = some ⟨oc_law_day_term, od_law_day_term, .func (PySem.W.fnOf "_law_day_term" "_law_day_term" (defArgs s_law_day_term) (defBody s_law_day_term) (defScope s_law_day_term) .none kV_law_day_term dc_law_day_term pm_law_day_term an_law_day_term cd_law_day_term ct_law_day_term), sl_law_day_term⟩)
    (zc_law_day_term : PySem.W.codeIn K cd_law_day_term "_law_day_term" = true)
    (zk_law_day_term : PySem.W.keepIn K (.ref fa_law_day_term) = true)
    (za_check_terms : PySem.W.nsIn K mainGlobals "check_terms" = some (some (.ref fa_check_terms)))
    (zl_check_terms : K.lookup fa_check_terms = some ⟨oc_check_terms, od_check_terms, .func (PySem.W.fnOf "check_terms" "check_terms" (defArgs s_check_terms) (defBody s_check_terms) (defScope s_check_terms) .none kV_check_terms dc_check_terms pm_check_terms an_check_terms cd_check_terms ct_check_terms), sl_check_terms⟩)
    (zc_check_terms : PySem.W.codeIn K cd_check_terms "check_terms" = true)
    (zk_check_terms : PySem.W.keepIn K (.ref fa_check_terms) = true)
    (za_is_whole : PySem.W.nsIn K mainGlobals "is_whole" = some (some (.ref fa_is_whole)))
    (zl_is_whole : K.lookup fa_is_whole = some ⟨oc_is_whole, od_is_whole, .func (PySem.W.fnOf "is_whole" "is_whole" (defArgs s_is_whole) (defBody s_is_whole) (defScope s_is_whole) .none kV_is_whole dc_is_whole pm_is_whole an_is_whole cd_is_whole ct_is_whole), sl_is_whole⟩)
    (zc_is_whole : PySem.W.codeIn K cd_is_whole "is_whole" = true)
    (zk_is_whole : PySem.W.keepIn K (.ref fa_is_whole) = true) :
    ∃ fd : FuncData, (∀ (s : Shared) (v : Value), BindsTo s fd ⟨[v], []⟩ [("_law_script", v)]) ∧ ∀ base : Heap, K.In base → base.Ns mainGlobals mg → FnOk PySem.Challenge.pw_twicedated_k47_whole_words w K mg base (L2N.CX PySem.Challenge.pw_twicedated_k47_whole_words w) 25 fa fd p_law (spLaw K) := by
  have e := hfa.symm.trans (PySem.W.mg_of X G za_law)
  cases e
  have S : Sta PySem.Challenge.pw_twicedated_k47_whole_words K mg e_Question e_Clause := {
    b_all := PySem.W.mg_none_of X G zb_all
    b_any := PySem.W.mg_none_of X G zb_any
    b_bool := PySem.W.mg_none_of X G zb_bool
    b_int := PySem.W.mg_none_of X G zb_int
    b_isinstance := PySem.W.mg_none_of X G zb_isinstance
    b_len := PySem.W.mg_none_of X G zb_len
    b_list := PySem.W.mg_none_of X G zb_list
    b_max := PySem.W.mg_none_of X G zb_max
    b_range := PySem.W.mg_none_of X G zb_range
    b_str := PySem.W.mg_none_of X G zb_str
    b_tuple := PySem.W.mg_none_of X G zb_tuple
    g_DAY_WORDS := ⟨_, _, _, _, PySem.W.mg_of X G zg_DAY_WORDS, zt_DAY_WORDS, rfl, rfl, by simp only [List.size_toArray, List.length_cons, List.length_nil]; decide, (.cons ⟨_, rfl⟩ (.cons ⟨_, rfl⟩ (.cons ⟨_, rfl⟩ (.cons ⟨_, rfl⟩ .nil))))⟩
    g_FIGURES := ⟨_, PySem.W.mg_of X G zg_FIGURES, ⟨_, rfl⟩⟩
    g_LETTERS := ⟨_, PySem.W.mg_of X G zg_LETTERS, ⟨_, rfl⟩⟩
    g_MOST_ATOMS := ⟨_, PySem.W.mg_of X G zg_MOST_ATOMS, ⟨_, rfl⟩⟩
    g_MOST_CLAUSES := ⟨_, PySem.W.mg_of X G zg_MOST_CLAUSES, ⟨_, rfl⟩⟩
    g_MOST_DAY := ⟨_, PySem.W.mg_of X G zg_MOST_DAY, ⟨_, rfl⟩⟩
    g_MOST_FIGURES := ⟨_, PySem.W.mg_of X G zg_MOST_FIGURES, ⟨_, rfl⟩⟩
    g_MOST_HEAD := ⟨_, PySem.W.mg_of X G zg_MOST_HEAD, ⟨_, rfl⟩⟩
    g_MOST_NAMES_questions := ⟨_, PySem.W.mg_of X G zg_MOST_NAMES_questions, ⟨_, rfl⟩⟩
    g_MOST_NAMES_relations := ⟨_, PySem.W.mg_of X G zg_MOST_NAMES_relations, ⟨_, rfl⟩⟩
    g_MOST_TESTS := ⟨_, PySem.W.mg_of X G zg_MOST_TESTS, ⟨_, rfl⟩⟩
    g_NAME_WORDS := ⟨_, _, _, _, PySem.W.mg_of X G zg_NAME_WORDS, zt_NAME_WORDS, rfl, rfl, by simp only [List.size_toArray, List.length_cons, List.length_nil]; decide, (.cons ⟨_, rfl⟩ (.cons ⟨_, rfl⟩ .nil))⟩
    g_NOW := ⟨_, _, _, _, PySem.W.mg_of X G zg_NOW, zt_NOW, rfl, rfl, by simp only [List.size_toArray, List.length_cons, List.length_nil]; decide, (.cons ⟨_, rfl⟩ .nil)⟩
    g_OPS := ⟨_, [ta_OPS_0, ta_OPS_1, ta_OPS_2, ta_OPS_3], PySem.W.mg_of X G zg_OPS, ⟨_, _, _, zt_OPS, rfl, rfl, by simp only [List.size_toArray, List.length_cons, List.length_nil]; decide, (.cons rfl (.cons rfl (.cons rfl (.cons rfl .nil))))⟩, (.cons ⟨_, _, _, zt_OPS_0, rfl, rfl, by simp only [List.size_toArray, List.length_cons, List.length_nil]; decide, (.cons ⟨_, rfl⟩ (.cons ⟨_, rfl⟩ .nil))⟩ (.cons ⟨_, _, _, zt_OPS_1, rfl, rfl, by simp only [List.size_toArray, List.length_cons, List.length_nil]; decide, (.cons ⟨_, rfl⟩ (.cons ⟨_, rfl⟩ .nil))⟩ (.cons ⟨_, _, _, zt_OPS_2, rfl, rfl, by simp only [List.size_toArray, List.length_cons, List.length_nil]; decide, (.cons ⟨_, rfl⟩ (.cons ⟨_, rfl⟩ .nil))⟩ (.cons ⟨_, _, _, zt_OPS_3, rfl, rfl, by simp only [List.size_toArray, List.length_cons, List.length_nil]; decide, (.cons ⟨_, rfl⟩ (.cons ⟨_, rfl⟩ .nil))⟩ .nil))))⟩
    yes := trivial
    c_Question := ⟨cAt_of zx_Question, PySem.W.mg_of X G zx_Question, ⟨zpg_Question, zhd_Question, zpo_Question, zsa_Question⟩⟩
    c_Clause := ⟨cAt_of zx_Clause, PySem.W.mg_of X G zx_Clause, ⟨zpg_Clause, zhd_Clause, zpo_Clause, zsa_Clause⟩⟩
    ci_Clause := ⟨zia_Clause, zib_Clause, zic_Clause, zid_Clause⟩
    nf_Question_clauses := znf_Question_clauses
    nf_Question_unless := znf_Question_unless
    nf_Clause_atoms := znf_Clause_atoms
    nf_Clause_tests := znf_Clause_tests
    nf_Question_head := znf_Question_head
    F_law := fun_sta X G za_law zl_law zc_law zk_law fun _ _ _ _ _ _ us hl => match us, hl with | [_], _ => rfl
    F_law_question := fun_sta X G za_law_question zl_law_question zc_law_question zk_law_question fun _ _ _ _ _ _ us hl => match us, hl with | [_], _ => rfl
    F_law_rules := fun_sta X G za_law_rules zl_law_rules zc_law_rules zk_law_rules fun _ _ _ _ _ _ us hl => match us, hl with | [_], _ => rfl
    F_clause_text := fun_sta X G za_clause_text zl_clause_text zc_clause_text zk_clause_text fun _ _ _ _ _ _ us hl => match us, hl with | [_], _ => rfl
    F_law_words := fun_sta X G za_law_words zl_law_words zc_law_words zk_law_words fun _ _ _ _ _ _ us hl => match us, hl with | [_], _ => rfl
    F_atom_of := fun_sta X G za_atom_of zl_atom_of zc_atom_of zk_atom_of fun _ _ _ _ _ _ us hl => match us, hl with | [_], _ => rfl
    F_atom_text := fun_sta X G za_atom_text zl_atom_text zc_atom_text zk_atom_text fun _ _ _ _ _ _ us hl => match us, hl with | [_], _ => rfl
    F_test_of := fun_sta X G za_test_of zl_test_of zc_test_of zk_test_of fun _ _ _ _ _ _ us hl => match us, hl with | [_, _], _ => rfl
    F_test_text := fun_sta X G za_test_text zl_test_text zc_test_text zk_test_text fun _ _ _ _ _ _ us hl => match us, hl with | [_], _ => rfl
    F_answers_text := fun_sta X G za_answers_text zl_answers_text zc_answers_text zk_answers_text fun _ _ _ _ _ _ us hl => match us, hl with | [_], _ => rfl
    F_law_pick := fun_sta X G za_law_pick zl_law_pick zc_law_pick zk_law_pick fun _ _ _ _ _ _ us hl => match us, hl with | [_, _], _ => rfl
    F_law_take := fun_sta X G za_law_take zl_law_take zc_law_take zk_law_take fun _ _ _ _ _ _ us hl => match us, hl with | [_, _], _ => rfl
    F_law_clause := fun_sta X G za_law_clause zl_law_clause zc_law_clause zk_law_clause fun _ _ _ _ _ _ us hl => match us, hl with | [_, _, _, _], _ => rfl
    F_Question__init__b := ini_sta za_Question__init__b zf_Question__init__b zl_Question__init__b zc_Question__init__b zk_Question__init__b zmk_Question zkC_Question fun _ _ _ _ _ _ us hl => match us, hl with | [_, _, _, _], _ => rfl
    F_Clause__init__b := ini_sta za_Clause__init__b zf_Clause__init__b zl_Clause__init__b zc_Clause__init__b zk_Clause__init__b zmk_Clause zkC_Clause fun _ _ _ _ _ _ us hl => match us, hl with | [_, _, _], _ => rfl
    F_law_word := fun_sta X G za_law_word zl_law_word zc_law_word zk_law_word fun _ _ _ _ _ _ us hl => match us, hl with | [_], _ => rfl
    F_term_of := fun_sta X G za_term_of zl_term_of zc_term_of zk_term_of fun _ _ _ _ _ _ us hl => match us, hl with | [_, _], _ => rfl
    F_is_name := fun_sta X G za_is_name zl_is_name zc_is_name zk_is_name fun _ _ _ _ _ _ us hl => match us, hl with | [_], _ => rfl
    F_term_text := fun_sta X G za_term_text zl_term_text zc_term_text zk_term_text fun _ _ _ _ _ _ us hl => match us, hl with | [_], _ => rfl
    F_is_day_word := fun_sta X G za_is_day_word zl_is_day_word zc_is_day_word zk_is_day_word fun _ _ _ _ _ _ us hl => match us, hl with | [_, _], _ => rfl
    F_is_test := fun_sta X G za_is_test zl_is_test zc_is_test zk_is_test fun _ _ _ _ _ _ us hl => match us, hl with | [_], _ => rfl
    F_answer_text := fun_sta X G za_answer_text zl_answer_text zc_answer_text zk_answer_text fun _ _ _ _ _ _ us hl => match us, hl with | [_], _ => rfl
    F_law_atom := fun_sta X G za_law_atom zl_law_atom zc_law_atom zk_law_atom fun _ _ _ _ _ _ us hl => match us, hl with | [_, _], _ => rfl
    F_law_name_term := fun_sta X G za_law_name_term zl_law_name_term zc_law_name_term zk_law_name_term fun _ _ _ _ _ _ us hl => match us, hl with | [_], _ => rfl
    F_is_head := fun_sta X G za_is_head zl_is_head zc_is_head zk_is_head fun _ _ _ _ _ _ us hl => match us, hl with | [_], _ => rfl
    F_are_clauses := fun_sta X G za_are_clauses zl_are_clauses zc_are_clauses zk_are_clauses fun _ _ _ _ _ _ us hl => match us, hl with | [_], _ => rfl
    F_Clause_variables := mth_sta za_Clause_variables zf_Clause_variables zl_Clause_variables zc_Clause_variables zk_Clause_variables fun _ _ _ _ _ _ us hl => match us, hl with | [_], _ => rfl
    F_check_atom := fun_sta X G za_check_atom zl_check_atom zc_check_atom zk_check_atom fun _ _ _ _ _ _ us hl => match us, hl with | [_], _ => rfl
    F_check_tests := fun_sta X G za_check_tests zl_check_tests zc_check_tests zk_check_tests fun _ _ _ _ _ _ us hl => match us, hl with | [_], _ => rfl
    F_is_variable := fun_sta X G za_is_variable zl_is_variable zc_is_variable zk_is_variable fun _ _ _ _ _ _ us hl => match us, hl with | [_], _ => rfl
    F_number_of := fun_sta X G za_number_of zl_number_of zc_number_of zk_number_of fun _ _ _ _ _ _ us hl => match us, hl with | [_], _ => rfl
    F_is_day := fun_sta X G za_is_day zl_is_day zc_is_day zk_is_day fun _ _ _ _ _ _ us hl => match us, hl with | [_], _ => rfl
    F_is_day_term := fun_sta X G za_is_day_term zl_is_day_term zc_is_day_term zk_is_day_term fun _ _ _ _ _ _ us hl => match us, hl with | [_], _ => rfl
    F_is_name_term := fun_sta X G za_is_name_term zl_is_name_term zc_is_name_term zk_is_name_term fun _ _ _ _ _ _ us hl => match us, hl with | [_], _ => rfl
    F_law_day_term := fun_sta X G za_law_day_term zl_law_day_term zc_law_day_term zk_law_day_term fun _ _ _ _ _ _ us hl => match us, hl with | [_, _], _ => rfl
    F_check_terms := fun_sta X G za_check_terms zl_check_terms zc_check_terms zk_check_terms fun _ _ _ _ _ _ us hl => match us, hl with | [_, _], _ => rfl
    F_is_whole := fun_sta X G za_is_whole zl_is_whole zc_is_whole zk_is_whole fun _ _ _ _ _ _ us hl => match us, hl with | [_, _, _], _ => rfl }
  exact ⟨_, fun s v => .of_eq rfl, fun base _ _ => law_ok (T := tab) (Xs := Xs e_Question e_Clause) (f := 0) (fn_step (T := tab) (f := 0) (d := ⟨1, 14, B_law⟩) (fun_mk zl_law zc_law zk_law) sc_law rfl rfl rfl (fun cdv A outer s H E R Sn => d_law (txt S 24) _ cdv A outer s H E R Sn)) rfl (fun ns hl => mirror ns hl)⟩
theorem walk {l : PySem.W.OpenLaw} {q : Program} {loose : List Str} {XP : (Str → Option Value) → Heap → Prop} {YP : World → Heap → Prop} {d : DefRec} {K : Params → PySem.W.Frag} (hn : l.most = some 63) (hdf : d.params.defaults = [])
    (hY : ∀ (w : World) (h : Heap), YP w h → (K w.params).In h)
    (F : ∀ (w : World) (mg : Str → Option Value) (fa : Addr) (h : Heap), (K w.params).In h → h.Ns mainGlobals mg → mg d.name = some (.ref fa) →
      ∃ fd : FuncData, (∀ (s : Shared) (u : Value), BindsTo s fd ⟨[u], []⟩ [("_law_script", u)]) ∧ ∀ base : Heap, (K w.params).In base → base.Ns mainGlobals mg → FnOk l.prog w (K w.params) mg base (L2N.CX l.prog w) 25 fa fd p_law (spLaw (K w.params))) :
    PySem.W.WalkO q loose XP YP l.row.toRowW d [] (fun f vs => PySem.call f vs) :=
  L2.walk_of (n := 63) (k := 25) (x := "_law_script") (CX := fun w => L2N.CX l.prog w) (sp := fun w => spLaw (K w.params)) hn (by decide) hdf ⟨rfl, by decide, by decide⟩ hY F (fun _ _ a ns hl _ hS => ⟨a, ns, rfl, hS, hl, fun _ => rfl⟩) fun _ _ _ _ _ z => cx_no z
end Dn.K47
open PySem PySem.W PyProof.Rows
set_option maxRecDepth 100000 in
set_option maxHeartbeats 0 in
theorem PySem.Challenge.cw_twicedated_k47_whole_words_holds : PySem.Challenge.rw_twicedated_k47_whole_words.Holds := by
  w_on; o_law; k_head; (case hw => w_witness2)
  k_fill
  refine Dn.K47.walk (l := PySem.Challenge.rw_twicedated_k47_whole_words) rfl rfl (fun w h Y => PySem.W.kIn_of Y) ?F
  case F =>
    intro w mg fa h KX G hmg
    refine' Dn.K47.all_mk KX G hmg ?zb_all ?zb_any ?zb_bool ?zb_int ?zb_isinstance ?zb_len ?zb_list ?zb_max ?zb_range ?zb_str ?zb_tuple ?zg_DAY_WORDS ?zt_DAY_WORDS ?zg_FIGURES ?zg_LETTERS ?zg_MOST_ATOMS ?zg_MOST_CLAUSES ?zg_MOST_DAY ?zg_MOST_FIGURES ?zg_MOST_HEAD ?zg_MOST_NAMES_questions ?zg_MOST_NAMES_relations ?zg_MOST_TESTS ?zg_NAME_WORDS ?zt_NAME_WORDS ?zg_NOW ?zt_NOW ?zg_OPS ?zt_OPS ?zt_OPS_0 ?zt_OPS_1 ?zt_OPS_2 ?zt_OPS_3 ?zx_Question ?zpg_Question ?zhd_Question ?zpo_Question ?zsa_Question ?zmk_Question ?zkC_Question ?zx_Clause ?zpg_Clause ?zhd_Clause ?zpo_Clause ?zsa_Clause ?zmk_Clause ?zkC_Clause ?zia_Clause ?zib_Clause ?zic_Clause ?zid_Clause ?znf_Question_clauses ?znf_Question_unless ?znf_Clause_atoms ?znf_Clause_tests ?znf_Question_head ?za_law ?zl_law ?zc_law ?zk_law ?za_law_question ?zl_law_question ?zc_law_question ?zk_law_question ?za_law_rules ?zl_law_rules ?zc_law_rules ?zk_law_rules ?za_clause_text ?zl_clause_text ?zc_clause_text ?zk_clause_text ?za_law_words ?zl_law_words ?zc_law_words ?zk_law_words ?za_atom_of ?zl_atom_of ?zc_atom_of ?zk_atom_of ?za_atom_text ?zl_atom_text ?zc_atom_text ?zk_atom_text ?za_test_of ?zl_test_of ?zc_test_of ?zk_test_of ?za_test_text ?zl_test_text ?zc_test_text ?zk_test_text ?za_answers_text ?zl_answers_text ?zc_answers_text ?zk_answers_text ?za_law_pick ?zl_law_pick ?zc_law_pick ?zk_law_pick ?za_law_take ?zl_law_take ?zc_law_take ?zk_law_take ?za_law_clause ?zl_law_clause ?zc_law_clause ?zk_law_clause ?za_Question__init__b ?zf_Question__init__b ?zl_Question__init__b ?zc_Question__init__b ?zk_Question__init__b ?za_Clause__init__b ?zf_Clause__init__b ?zl_Clause__init__b ?zc_Clause__init__b ?zk_Clause__init__b ?za_law_word ?zl_law_word ?zc_law_word ?zk_law_word ?za_term_of ?zl_term_of ?zc_term_of ?zk_term_of ?za_is_name ?zl_is_name ?zc_is_name ?zk_is_name ?za_term_text ?zl_term_text ?zc_term_text ?zk_term_text ?za_is_day_word ?zl_is_day_word ?zc_is_day_word ?zk_is_day_word ?za_is_test ?zl_is_test ?zc_is_test ?zk_is_test ?za_answer_text ?zl_answer_text ?zc_answer_text ?zk_answer_text ?za_law_atom ?zl_law_atom ?zc_law_atom ?zk_law_atom ?za_law_name_term ?zl_law_name_term ?zc_law_name_term ?zk_law_name_term ?za_is_head ?zl_is_head ?zc_is_head ?zk_is_head ?za_are_clauses ?zl_are_clauses ?zc_are_clauses ?zk_are_clauses ?za_Clause_variables ?zf_Clause_variables ?zl_Clause_variables ?zc_Clause_variables ?zk_Clause_variables ?za_check_atom ?zl_check_atom ?zc_check_atom ?zk_check_atom ?za_check_tests ?zl_check_tests ?zc_check_tests ?zk_check_tests ?za_is_variable ?zl_is_variable ?zc_is_variable ?zk_is_variable ?za_number_of ?zl_number_of ?zc_number_of ?zk_number_of ?za_is_day ?zl_is_day ?zc_is_day ?zk_is_day ?za_is_day_term ?zl_is_day_term ?zc_is_day_term ?zk_is_day_term ?za_is_name_term ?zl_is_name_term ?zc_is_name_term ?zk_is_name_term ?za_law_day_term ?zl_law_day_term ?zc_law_day_term ?zk_law_day_term ?za_check_terms ?zl_check_terms ?zc_check_terms ?zk_check_terms ?za_is_whole ?zl_is_whole ?zc_is_whole ?zk_is_whole
    (case zb_all => k_is)
    (case zb_any => k_is)
    (case zb_bool => k_is)
    (case zb_int => k_is)
    (case zb_isinstance => k_is)
    (case zb_len => k_is)
    (case zb_list => k_is)
    (case zb_max => k_is)
    (case zb_range => k_is)
    (case zb_str => k_is)
    (case zb_tuple => k_is)
    (case zg_DAY_WORDS => k_is)
    (case zt_DAY_WORDS => k_is)
    (case zg_FIGURES => k_is)
    (case zg_LETTERS => k_is)
    (case zg_MOST_ATOMS => k_is)
    (case zg_MOST_CLAUSES => k_is)
    (case zg_MOST_DAY => k_is)
    (case zg_MOST_FIGURES => k_is)
    (case zg_MOST_HEAD => k_is)
    (case zg_MOST_NAMES_questions => k_is)
    (case zg_MOST_NAMES_relations => k_is)
    (case zg_MOST_TESTS => k_is)
    (case zg_NAME_WORDS => k_is)
    (case zt_NAME_WORDS => k_is)
    (case zg_NOW => k_is)
    (case zt_NOW => k_is)
    (case zg_OPS => k_is)
    (case zt_OPS => k_is)
    (case zt_OPS_0 => k_is)
    (case zt_OPS_1 => k_is)
    (case zt_OPS_2 => k_is)
    (case zt_OPS_3 => k_is)
    (case zx_Question => k_is)
    (case zpg_Question => k_is)
    (case zhd_Question => k_is)
    (case zpo_Question => k_is)
    (case zsa_Question => k_is)
    (case zmk_Question => k_is)
    (case zkC_Question => k_is)
    (case zx_Clause => k_is)
    (case zpg_Clause => k_is)
    (case zhd_Clause => k_is)
    (case zpo_Clause => k_is)
    (case zsa_Clause => k_is)
    (case zmk_Clause => k_is)
    (case zkC_Clause => k_is)
    (case zia_Clause => k_is)
    (case zib_Clause => k_is)
    (case zic_Clause => k_is)
    (case zid_Clause => k_is)
    (case znf_Question_clauses => k_is)
    (case znf_Question_unless => k_is)
    (case znf_Clause_atoms => k_is)
    (case znf_Clause_tests => k_is)
    (case znf_Question_head => k_is)
    (case za_law => k_is)
    (case zl_law => k_is)
    (case zc_law => k_is)
    (case zk_law => k_is)
    (case za_law_question => k_is)
    (case zl_law_question => k_is)
    (case zc_law_question => k_is)
    (case zk_law_question => k_is)
    (case za_law_rules => k_is)
    (case zl_law_rules => k_is)
    (case zc_law_rules => k_is)
    (case zk_law_rules => k_is)
    (case za_clause_text => k_is)
    (case zl_clause_text => k_is)
    (case zc_clause_text => k_is)
    (case zk_clause_text => k_is)
    (case za_law_words => k_is)
    (case zl_law_words => k_is)
    (case zc_law_words => k_is)
    (case zk_law_words => k_is)
    (case za_atom_of => k_is)
    (case zl_atom_of => k_is)
    (case zc_atom_of => k_is)
    (case zk_atom_of => k_is)
    (case za_atom_text => k_is)
    (case zl_atom_text => k_is)
    (case zc_atom_text => k_is)
    (case zk_atom_text => k_is)
    (case za_test_of => k_is)
    (case zl_test_of => k_is)
    (case zc_test_of => k_is)
    (case zk_test_of => k_is)
    (case za_test_text => k_is)
    (case zl_test_text => k_is)
    (case zc_test_text => k_is)
    (case zk_test_text => k_is)
    (case za_answers_text => k_is)
    (case zl_answers_text => k_is)
    (case zc_answers_text => k_is)
    (case zk_answers_text => k_is)
    (case za_law_pick => k_is)
    (case zl_law_pick => k_is)
    (case zc_law_pick => k_is)
    (case zk_law_pick => k_is)
    (case za_law_take => k_is)
    (case zl_law_take => k_is)
    (case zc_law_take => k_is)
    (case zk_law_take => k_is)
    (case za_law_clause => k_is)
    (case zl_law_clause => k_is)
    (case zc_law_clause => k_is)
    (case zk_law_clause => k_is)
    (case za_Question__init__b => k_is)
    (case zf_Question__init__b => k_is)
    (case zl_Question__init__b => k_is)
    (case zc_Question__init__b => k_is)
    (case zk_Question__init__b => k_is)
    (case za_Clause__init__b => k_is)
    (case zf_Clause__init__b => k_is)
    (case zl_Clause__init__b => k_is)
    (case zc_Clause__init__b => k_is)
    (case zk_Clause__init__b => k_is)
    (case za_law_word => k_is)
    (case zl_law_word => k_is)
    (case zc_law_word => k_is)
    (case zk_law_word => k_is)
    (case za_term_of => k_is)
    (case zl_term_of => k_is)
    (case zc_term_of => k_is)
    (case zk_term_of => k_is)
    (case za_is_name => k_is)
    (case zl_is_name => k_is)
    (case zc_is_name => k_is)
    (case zk_is_name => k_is)
    (case za_term_text => k_is)
    (case zl_term_text => k_is)
    (case zc_term_text => k_is)
    (case zk_term_text => k_is)
    (case za_is_day_word => k_is)
    (case zl_is_day_word => k_is)
    (case zc_is_day_word => k_is)
    (case zk_is_day_word => k_is)
    (case za_is_test => k_is)
    (case zl_is_test => k_is)
    (case zc_is_test => k_is)
    (case zk_is_test => k_is)
    (case za_answer_text => k_is)
    (case zl_answer_text => k_is)
    (case zc_answer_text => k_is)
    (case zk_answer_text => k_is)
    (case za_law_atom => k_is)
    (case zl_law_atom => k_is)
    (case zc_law_atom => k_is)
    (case zk_law_atom => k_is)
    (case za_law_name_term => k_is)
    (case zl_law_name_term => k_is)
    (case zc_law_name_term => k_is)
    (case zk_law_name_term => k_is)
    (case za_is_head => k_is)
    (case zl_is_head => k_is)
    (case zc_is_head => k_is)
    (case zk_is_head => k_is)
    (case za_are_clauses => k_is)
    (case zl_are_clauses => k_is)
    (case zc_are_clauses => k_is)
    (case zk_are_clauses => k_is)
    (case za_Clause_variables => k_is)
    (case zf_Clause_variables => k_is)
    (case zl_Clause_variables => k_is)
    (case zc_Clause_variables => k_is)
    (case zk_Clause_variables => k_is)
    (case za_check_atom => k_is)
    (case zl_check_atom => k_is)
    (case zc_check_atom => k_is)
    (case zk_check_atom => k_is)
    (case za_check_tests => k_is)
    (case zl_check_tests => k_is)
    (case zc_check_tests => k_is)
    (case zk_check_tests => k_is)
    (case za_is_variable => k_is)
    (case zl_is_variable => k_is)
    (case zc_is_variable => k_is)
    (case zk_is_variable => k_is)
    (case za_number_of => k_is)
    (case zl_number_of => k_is)
    (case zc_number_of => k_is)
    (case zk_number_of => k_is)
    (case za_is_day => k_is)
    (case zl_is_day => k_is)
    (case zc_is_day => k_is)
    (case zk_is_day => k_is)
    (case za_is_day_term => k_is)
    (case zl_is_day_term => k_is)
    (case zc_is_day_term => k_is)
    (case zk_is_day_term => k_is)
    (case za_is_name_term => k_is)
    (case zl_is_name_term => k_is)
    (case zc_is_name_term => k_is)
    (case zk_is_name_term => k_is)
    (case za_law_day_term => k_is)
    (case zl_law_day_term => k_is)
    (case zc_law_day_term => k_is)
    (case zk_law_day_term => k_is)
    (case za_check_terms => k_is)
    (case zl_check_terms => k_is)
    (case zc_check_terms => k_is)
    (case zk_check_terms => k_is)
    (case za_is_whole => k_is)
    (case zl_is_whole => k_is)
    (case zc_is_whole => k_is)
    (case zk_is_whole => k_is)
