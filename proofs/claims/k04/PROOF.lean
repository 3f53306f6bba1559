import PyProof.Rows.All
import Wide.All
import OpenK.AllK
import Wide.FinOn
import HandS.ForMost
import HandS.ForExc
import HandS.Lambda
import HandS.IsInst
import HandS.SortRule
import HandS.SortInts
import HandS.TupAny
import HandS.Wide
import HandS.TupMul
import HandS.Style
import PyProof.Rows.TupMore
import HandS.Deep
import HandS.Flow
import HandS.Conv
import HandS.SortKw
import HandS.More
import HandS.Zip
import HandS.ExcInit
import HandS.ExcOwn
import HandS.WordsExc
import KE.KExcInit
import HandS.Exc
import HandS.Comp
import KE.GoesMore
import HandS.Iter
import PyProof.ListRange
import HandS.TryMany
import HandS.Words
import HandS.Defaults
import PyProof.ReprBulk
import PyProof.Rows.RegStrFacts
import PySem.Challenge.RW_latestof_k04_delays_added
set_option Elab.async false
set_option linter.all false
set_option maxRecDepth 100000
/-! LAM: the defs of this law that hold lambdas. -/
namespace L2.G4
def lamNs : List PySem.Str := [("law" : PySem.Str), ("_law_steps_right" : PySem.Str)]
end L2.G4

set_option maxHeartbeats 4000000
/-! GA: plain values, a store of changing objects, and how they lie in the abstract heap. -/
namespace L2.G4
open PySem PySem.Spec PyProof.Rows

/-- a plain value: tuples and lists by their contents; loc n is the n-th object of the store -/
inductive D where
  | non | bl (b : Bool) | int (i : Int) | str (x : Str) | byt (b : Array UInt8)
  | tup (ds : List D) | lst (ds : List D) | fls (ds : List D) | loc (n : Nat)
  | dct (ks : List Key) (ds : List D)
  | exn (a dx : Addr) (f : Str) (d : D)
  | fnv (f c : Addr) (q : Str) (sg : List (Option V)) (js : List Nat) (ds : List D)

/-- an object that may change -/
inductive O where
  | lst (ds : List D)
  | dic (kvs : List (Key × D))

abbrev Store := List O
abbrev Env := List (Option D)

/-- an exception: its class by name, its own attribute -/
structure Ex where
  cls : Str
  at_ : Option (Str × D) := none

inductive Rz (A : Type) where
  | ok (a : A) (st : Store)
  | exc (e : Ex) (st : Store)
  | bad

namespace Rz
variable {A B C : Type}
def bind (r : Rz A) (f : A → Store → Rz B) : Rz B :=
  match r with
  | .ok a st => f a st
  | .exc e st => .exc e st
  | .bad => .bad
@[simp] theorem bind_ok (a : A) (st : Store) (f : A → Store → Rz B) : (Rz.ok a st).bind f = f a st := rfl
@[simp] theorem bind_exc (e : Ex) (st : Store) (f : A → Store → Rz B) : (Rz.exc e st : Rz A).bind f = .exc e st := rfl
@[simp] theorem bind_bad (f : A → Store → Rz B) : (Rz.bad : Rz A).bind f = .bad := rfl
theorem bind_bind (r : Rz A) (f : A → Store → Rz B) (g : B → Store → Rz C) : (r.bind f).bind g = r.bind fun a st => (f a st).bind g := by
  cases r <;> rfl
end Rz

/-- a list that the module holds -/
abbrev WL (K : PySem.W.Frag) (a : Addr) (xs : List V) : Prop := SqL K (fun _ => none) a xs
/-- a list that never changes: frozen, or the module's -/
def FzL (K : PySem.W.Frag) (H : Hp) (a : Addr) (xs : List V) : Prop := (∃ o, H a = some (.frz o (.lst xs))) ∨ WL K a xs
theorem WL.sq {K : PySem.W.Frag} {a : Addr} {xs : List V} (H : Hp) (h : WL K a xs) : SqL K H a xs := by
  rcases h with (h | ⟨o, h⟩) | h
  · cases h
  · cases h
  · exact .inr h
theorem FzL.sq {K : PySem.W.Frag} {H : Hp} {a : Addr} {xs : List V} (h : FzL K H a xs) : SqL K H a xs := by
  rcases h with ⟨o, h⟩ | h
  · exact .inl (.inr ⟨o, h⟩)
  · exact h.sq H

/-- the tables of the code objects of the defs that hold lambdas -/
def lamQ (x : Str) : Str := x ++ ".<locals>." ++ "<lambda>"
def tbK (K : PySem.W.Frag) : List (Addr × Str) := lamNs.filterMap fun x => (PySem.W.tabIn K x).map fun p => (p.2, lamQ x)
/-- where the store's objects lie; which addresses nothing may take for its own -/
structure Rm where
  at_ : Nat → Addr
  pv : Addr → Prop
instance : CoeFun Rm fun _ => Nat → Addr := ⟨Rm.at_⟩

mutual
inductive DV (K : PySem.W.Frag) (H : Hp) (r : Rm) (n : Nat) : D → V → Prop
  | non : DV K H r n .non .non
  | bl (b : Bool) : DV K H r n (.bl b) (.bl b)
  | int (i : Int) : DV K H r n (.int i) (.int i)
  | str (x : Str) : DV K H r n (.str x) (.str x)
  | byt (b : Array UInt8) : DV K H r n (.byt b) (.byt b)
  | tup {a : Addr} {xs : List V} {ds : List D} : SqT K H a xs → ds.length ≤ sizeLine → DVs K H r n ds xs → DV K H r n (.tup ds) (.ref a)
  | lst {a : Addr} {xs : List V} {ds : List D} : H a = some (.lst xs) → ((∀ i, i < n → r i ≠ a) ∧ ¬ r.pv a) → ds.length ≤ sizeLine → DVs K H r n ds xs → DV K H r n (.lst ds) (.ref a)
  | fls {a : Addr} {xs : List V} {ds : List D} : FzL K H a xs → ds.length ≤ sizeLine → DVs K H r n ds xs → DV K H r n (.fls ds) (.ref a)
  | loc {i : Nat} : i < n → DV K H r n (.loc i) (.ref (r i))
  | dct {a : Addr} {xs : List V} {ks : List Key} {ds : List D} : H a = some (.dK (ks.zip xs)) → ((∀ i, i < n → r i ≠ a) ∧ ¬ r.pv a) → ks.length = ds.length → ks.Nodup → ds.length ≤ sizeLine → DVs K H r n ds xs → DV K H r n (.dct ks ds) (.ref a)
  | exn {a dx : Addr} {f : Str} {d : D} {v : V} : H dx = some (.xd [(f, v)]) → ((∀ i, i < n → r i ≠ dx) ∧ ¬ r.pv dx) → DV K H r n d v → DV K H r n (.exn a dx f d) (.ref a)
  | fnv {f c : Addr} {q : Str} {sg : List (Option V)} {js : List Nat} {ds : List D} {vs : List V} : H c = some (LamX.CodeO c q) → ((∀ i, i < n → r i ≠ c) ∧ ¬ r.pv c) → DVs K H r n ds vs → js.length = ds.length → (∀ p ∈ js.zip vs, sg[p.1]? = some (some p.2)) → DV K H r n (.fnv f c q sg js ds) (.ref f)
inductive DVs (K : PySem.W.Frag) (H : Hp) (r : Rm) (n : Nat) : List D → List V → Prop
  | nil : DVs K H r n [] []
  | cons {d : D} {v : V} {ds : List D} {vs : List V} : DV K H r n d v → DVs K H r n ds vs → DVs K H r n (d :: ds) (v :: vs)
end

inductive KDV (K : PySem.W.Frag) (H : Hp) (r : Rm) (n : Nat) : List (Key × D) → List (Key × V) → Prop
  | nil : KDV K H r n [] []
  | cons {k : Key} {d : D} {v : V} {ds : List (Key × D)} {vs : List (Key × V)} : DV K H r n d v → KDV K H r n ds vs → KDV K H r n ((k, d) :: ds) ((k, v) :: vs)

/-- an object of the store, as it lies -/
inductive OV (K : PySem.W.Frag) (H : Hp) (r : Rm) (n : Nat) : O → HO → Prop
  | lst {ds : List D} {xs : List V} : ds.length ≤ sizeLine → DVs K H r n ds xs → OV K H r n (.lst ds) (.lst xs)
  | dic {kvs : List (Key × D)} {ys : List (Key × V)} : kvs.length ≤ sizeLine → (kvs.map (·.1)).Nodup → KDV K H r n kvs ys → OV K H r n (.dic kvs) (.dK ys)

/-- the store lies in the heap -/
structure Sr (K : PySem.W.Frag) (r : Rm) (st : Store) (H : Hp) : Prop where
  inj : ∀ i j, i < st.length → j < st.length → r i = r j → i = j
  obj : ∀ i o, st[i]? = some o → ∃ ho, H (r i) = some ho ∧ OV K H r st.length o ho
  pvA : ∀ a, r.pv a → ∃ xs, H a = some (.lst xs)
  pvN : ∀ i, i < st.length → ¬ r.pv (r i)
  tab : LamX.Tabs (tbK K) H

/-- no table; nothing, or a table -/
def NTb (o : HO) : Prop := ∀ ps, o ≠ .tbl ps
def NT (x : Option HO) : Prop := ∀ o, x = some o → ¬ NTb o
theorem NT.none : NT (Option.none : Option HO) := fun _ e => by cases e
theorem NT.not {x : Option HO} {o : HO} (h : NT x) (e : x = some o) (n : NTb o) : False := h o e n
theorem ntL {xs : List V} : NTb (.lst xs) := fun _ z => nomatch z
theorem ntT {xs : List V} : NTb (.tup xs) := fun _ z => nomatch z
theorem ntK {xs : List (Key × V)} : NTb (.dK xs) := fun _ z => nomatch z
theorem ntX {fs : List (Str × V)} : NTb (.xd fs) := fun _ z => nomatch z
theorem ntZ {o : Obj} {u : HO} : NTb (.frz o u) := fun _ z => nomatch z
theorem ntC {c : Addr} {q : Str} : NTb (LamX.CodeO c q) := fun ps z => LamX.codeO_ne ps z
/-- tables and their code objects stay where a list, a dict or nothing is written over -/
theorem tabs_upd {T : List (Addr × Str)} {H : Hp} {a : Addr} {ho : HO} (t : LamX.Tabs T H) (h : ∀ o, H a = some o → NTb o ∧ ∀ c q, o ≠ LamX.CodeO c q) : LamX.Tabs T (upd H a ho) := fun p hp => by
  obtain ⟨ps, h1, h2, h3⟩ := t p hp
  have n1 : p.1 ≠ a := fun z => (h _ (by rw [← z]; exact h1)).1 ps rfl
  refine ⟨ps, by rw [upd_ne n1]; exact h1, h2, fun pos cv hc => ?_⟩
  obtain ⟨c, e1, e2⟩ := h3 pos cv hc
  exact ⟨c, e1, by rw [upd_ne (fun z => (h _ (by rw [← z]; exact e2)).2 c p.2 rfl)]; exact e2⟩
theorem tabs_new {T : List (Addr × Str)} {H : Hp} {a : Addr} {ho : HO} (t : LamX.Tabs T H) (h : H a = none) : LamX.Tabs T (upd H a ho) := tabs_upd t fun o e => by rw [h] at e; cases e
theorem ncL {xs : List V} {c : Addr} {q : Str} : HO.lst xs ≠ LamX.CodeO c q := fun z => by unfold LamX.CodeO at z; cases z
theorem ncK {xs : List (Key × V)} {c : Addr} {q : Str} : HO.dK xs ≠ LamX.CodeO c q := fun z => by unfold LamX.CodeO at z; cases z
/-- a later heap: what stands outside the store stands as it was -/
structure Fw (r r' : Rm) (n n' : Nat) (H H' : Hp) : Prop where
  le : n ≤ n'
  ag : ∀ i, i < n → r' i = r i
  nw : ∀ i, n ≤ i → i < n' → NT (H (r' i))
  kp : ∀ a o, H a = some o → (∀ i, i < n → r i ≠ a) → NTb o → H' a = some o
  pv : r'.pv = r.pv

theorem Fw.refl (r : Rm) (n : Nat) (H : Hp) : Fw r r n n H H :=
  ⟨Nat.le_refl _, fun _ _ => rfl, fun i h1 h2 => absurd h2 (Nat.not_lt.mpr h1), fun _ _ h _ _ => h, rfl⟩

theorem DVs.length {K : PySem.W.Frag} {H : Hp} {r : Rm} {n : Nat} : ∀ {ds : List D} {vs : List V}, DVs K H r n ds vs → ds.length = vs.length
  | _, _, .nil => rfl
  | _, _, .cons _ t => by rw [List.length_cons, List.length_cons, DVs.length t]
theorem DVs.get {K : PySem.W.Frag} {H : Hp} {r : Rm} {n : Nat} : ∀ {ds : List D} {vs : List V} {i : Nat} {d : D}, DVs K H r n ds vs → ds[i]? = some d → ∃ v, vs[i]? = some v ∧ DV K H r n d v
  | _, _, _, _, .nil, h => by simp at h
  | _, _, 0, _, .cons h _, e => by simp at e; subst e; exact ⟨_, rfl, h⟩
  | _, _, i + 1, _, .cons _ t, e => by
    obtain ⟨v, h1, h2⟩ := DVs.get (i := i) t (by simpa using e)
    exact ⟨v, by simpa using h1, h2⟩
theorem DVs.get' {K : PySem.W.Frag} {H : Hp} {r : Rm} {n : Nat} : ∀ {ds : List D} {vs : List V} {i : Nat} {v : V}, DVs K H r n ds vs → vs[i]? = some v → ∃ d, ds[i]? = some d ∧ DV K H r n d v
  | _, _, _, _, .nil, h => by simp at h
  | _, _, 0, _, .cons h _, e => by simp at e; subst e; exact ⟨_, rfl, h⟩
  | _, _, i + 1, _, .cons _ t, e => by
    obtain ⟨v, h1, h2⟩ := DVs.get' (i := i) t (by simpa using e)
    exact ⟨v, by simpa using h1, h2⟩
theorem DVs.append {K : PySem.W.Frag} {H : Hp} {r : Rm} {n : Nat} : ∀ {ds es : List D} {vs us : List V}, DVs K H r n ds vs → DVs K H r n es us → DVs K H r n (ds ++ es) (vs ++ us)
  | _, _, _, _, .nil, h => h
  | _, _, _, _, .cons a t, h => .cons a (DVs.append t h)
theorem DVs.take {K : PySem.W.Frag} {H : Hp} {r : Rm} {n : Nat} : ∀ {ds : List D} {vs : List V} (i : Nat), DVs K H r n ds vs → DVs K H r n (ds.take i) (vs.take i)
  | _, _, 0, _ => by simp; exact .nil
  | _, _, _ + 1, .nil => .nil
  | _, _, i + 1, .cons a t => .cons a (DVs.take i t)
theorem DVs.drop {K : PySem.W.Frag} {H : Hp} {r : Rm} {n : Nat} : ∀ {ds : List D} {vs : List V} (i : Nat), DVs K H r n ds vs → DVs K H r n (ds.drop i) (vs.drop i)
  | _, _, 0, h => h
  | _, _, _ + 1, .nil => .nil
  | _, _, i + 1, .cons a t => DVs.drop i t
theorem DVs.set {K : PySem.W.Frag} {H : Hp} {r : Rm} {n : Nat} {d : D} {v : V} (h : DV K H r n d v) : ∀ {ds : List D} {vs : List V} (i : Nat), DVs K H r n ds vs → DVs K H r n (ds.set i d) (vs.set i v)
  | _, _, _, .nil => .nil
  | _, _, 0, .cons _ t => .cons h t
  | _, _, i + 1, .cons a t => .cons a (DVs.set h i t)
theorem DVs.eraseIdx {K : PySem.W.Frag} {H : Hp} {r : Rm} {n : Nat} : ∀ {ds : List D} {vs : List V} (i : Nat), DVs K H r n ds vs → DVs K H r n (ds.eraseIdx i) (vs.eraseIdx i)
  | _, _, _, .nil => .nil
  | _, _, 0, .cons _ t => t
  | _, _, i + 1, .cons a t => .cons a (DVs.eraseIdx i t)
theorem DVs.reverse {K : PySem.W.Frag} {H : Hp} {r : Rm} {n : Nat} : ∀ {ds : List D} {vs : List V}, DVs K H r n ds vs → DVs K H r n ds.reverse vs.reverse
  | _, _, .nil => .nil
  | _, _, .cons a t => by rw [List.reverse_cons, List.reverse_cons]; exact (DVs.reverse t).append (.cons a .nil)

section
variable {K : PySem.W.Frag} {r r' : Rm} {st st' : Store} {H H' : Hp} {n n' : Nat}

/-- the store's objects are lists and dicts -/
theorem Sr.at_ (S : Sr K r st H) {i : Nat} (h : i < st.length) : ∃ ho, H (r i) = some ho ∧ ∃ o, st[i]? = some o ∧ OV K H r st.length o ho := by
  have e : st[i]? = some st[i] := List.getElem?_eq_getElem h
  obtain ⟨ho, h1, h2⟩ := S.obj i _ e
  exact ⟨ho, h1, _, e, h2⟩
theorem OV.not_tup {o : O} {ho : HO} (h : OV K H r n o ho) : (∀ xs, ho ≠ .tup xs) ∧ (∀ q u, ho ≠ .frz q u) := by
  cases h with
  | lst => exact ⟨(fun _ z => nomatch z), (fun _ _ z => nomatch z)⟩
  | dic => exact ⟨(fun _ z => nomatch z), (fun _ _ z => nomatch z)⟩
theorem OV.nt {o : O} {ho : HO} (h : OV K H r n o ho) : NTb ho := by
  cases h with
  | lst => exact ntL
  | dic => exact ntK
theorem OV.nc {o : O} {ho : HO} (h : OV K H r n o ho) : NTb ho ∧ ∀ c q, ho ≠ LamX.CodeO c q := by
  cases h with
  | lst => exact ⟨ntL, fun _ _ => ncL⟩
  | dic => exact ⟨ntK, fun _ _ => ncK⟩
theorem Sr.tup_ne (S : Sr K r st H) {a : Addr} {o : HO} (h : H a = some o) (ho : (∃ xs, o = .tup xs) ∨ ∃ q u, o = .frz q u) : ∀ i, i < st.length → r i ≠ a := fun i hi e => by
  obtain ⟨ho', h1, o', _, h2⟩ := S.at_ hi
  rw [e, h] at h1
  cases h1
  rcases ho with ⟨xs, z⟩ | ⟨q, u, z⟩
  · exact h2.not_tup.1 xs z
  · exact h2.not_tup.2 q u z
theorem Fw.sqT (S : Sr K r st H) (F : Fw r r' st.length n' H H') {a : Addr} {xs : List V} (h : SqT K H a xs) : SqT K H' a xs := by
  rcases h with (h | ⟨o, h⟩) | h
  · exact .inl (.inl (F.kp _ _ h (S.tup_ne h (.inl ⟨_, rfl⟩)) ntT))
  · exact .inl (.inr ⟨o, F.kp _ _ h (S.tup_ne h (.inr ⟨_, _, rfl⟩)) ntZ⟩)
  · exact .inr h
theorem Fw.fzL (S : Sr K r st H) (F : Fw r r' st.length n' H H') {a : Addr} {xs : List V} (h : FzL K H a xs) : FzL K H' a xs := by
  rcases h with ⟨o, h⟩ | h
  · exact .inl ⟨o, F.kp _ _ h (S.tup_ne h (.inr ⟨_, _, rfl⟩)) ntZ⟩
  · exact .inr h

mutual
theorem DV.fw (S : Sr K r st H) (F : Fw r r' st.length n' H H') : ∀ {d : D} {v : V}, DV K H r st.length d v → DV K H' r' n' d v
  | _, _, .non => .non
  | _, _, .bl b => .bl b
  | _, _, .int i => .int i
  | _, _, .str x => .str x
  | _, _, .byt b => .byt b
  | _, _, .tup h z t => .tup (F.sqT S h) z (DVs.fw S F t)
  | _, _, .lst (a := a) h na z t => .lst (F.kp _ _ h na.1 ntL) ⟨(fun i hi e => by
      by_cases hl : i < st.length
      · rw [F.ag i hl] at e; exact na.1 i hl e
      · exact (F.nw i (Nat.le_of_not_lt hl) hi).not (by rw [e]; exact h) ntL), (by rw [F.pv]; exact na.2)⟩ z (DVs.fw S F t)
  | _, _, .fls h z t => .fls (F.fzL S h) z (DVs.fw S F t)
  | _, _, .loc (i := i) h => by
    rw [← F.ag i h]
    exact .loc (Nat.lt_of_lt_of_le h F.le)
  | _, _, .dct (a := a) h na l nd z t => .dct (F.kp _ _ h na.1 ntK) ⟨(fun i hi e => by
      by_cases hl : i < st.length
      · rw [F.ag i hl] at e; exact na.1 i hl e
      · exact (F.nw i (Nat.le_of_not_lt hl) hi).not (by rw [e]; exact h) ntK), (by rw [F.pv]; exact na.2)⟩ l nd z (DVs.fw S F t)
  | _, _, .exn (dx := a) h na t => .exn (F.kp _ _ h na.1 ntX) ⟨(fun i hi e => by
      by_cases hl : i < st.length
      · rw [F.ag i hl] at e; exact na.1 i hl e
      · exact (F.nw i (Nat.le_of_not_lt hl) hi).not (by rw [e]; exact h) ntX), (by rw [F.pv]; exact na.2)⟩ (DV.fw S F t)
  | _, _, .fnv (c := a) h na t l z => .fnv (F.kp _ _ h na.1 ntC) ⟨(fun i hi e => by
      by_cases hl : i < st.length
      · rw [F.ag i hl] at e; exact na.1 i hl e
      · exact (F.nw i (Nat.le_of_not_lt hl) hi).not (by rw [e]; exact h) ntC), (by rw [F.pv]; exact na.2)⟩ (DVs.fw S F t) l z
theorem DVs.fw (S : Sr K r st H) (F : Fw r r' st.length n' H H') : ∀ {ds : List D} {vs : List V}, DVs K H r st.length ds vs → DVs K H' r' n' ds vs
  | _, _, .nil => .nil
  | _, _, .cons a t => .cons (DV.fw S F a) (DVs.fw S F t)
end
theorem KDV.fw (S : Sr K r st H) (F : Fw r r' st.length n' H H') : ∀ {ds : List (Key × D)} {vs : List (Key × V)}, KDV K H r st.length ds vs → KDV K H' r' n' ds vs
  | _, _, .nil => .nil
  | _, _, .cons a t => .cons (DV.fw S F a) (KDV.fw S F t)
theorem OV.fw (S : Sr K r st H) (F : Fw r r' st.length n' H H') {o : O} {ho : HO} (h : OV K H r st.length o ho) : OV K H' r' n' o ho := by
  cases h with
  | lst z t => exact .lst z (t.fw S F)
  | dic z nd t => exact .dic z nd (t.fw S F)

theorem Fw.trans {r1 r2 r3 : Rm} {s1 s2 s3 : Store} {H1 H2 H3 : Hp} (S2 : Sr K r2 s2 H2) (a : Fw r1 r2 s1.length s2.length H1 H2) (b : Fw r2 r3 s2.length s3.length H2 H3) : Fw r1 r3 s1.length s3.length H1 H3 where
  le := Nat.le_trans a.le b.le
  ag := fun i h => (b.ag i (Nat.lt_of_lt_of_le h a.le)).trans (a.ag i h)
  nw := fun i h1 h2 => by
    by_cases h : i < s2.length
    · rw [b.ag i h]; exact a.nw i h1 h
    · have q := b.nw i (Nat.le_of_not_lt h) h2
      intro o e ho
      by_cases hh : ∃ j, j < s1.length ∧ r1 j = r3 i
      · obtain ⟨j, hj, ej⟩ := hh
        have hj2 := Nat.lt_of_lt_of_le hj a.le
        obtain ⟨ho2, h3, _, _, h4⟩ := S2.at_ hj2
        rw [a.ag j hj, ej] at h3
        exact q.not h3 h4.nt
      · exact q.not (a.kp _ _ e (fun j hj z => hh ⟨j, hj, z⟩) ho) ho
  kp := fun x o h hn ho => b.kp x o (a.kp x o h hn ho) (fun i hi e => by
    by_cases hl : i < s1.length
    · rw [a.ag i hl] at e; exact hn i hl e
    · exact (a.nw i (Nat.le_of_not_lt hl) hi).not (by rw [e]; exact h) ho) ho
  pv := b.pv.trans a.pv
end

/-- the names' values -/
structure Ev_ (K : PySem.W.Frag) (H : Hp) (r : Rm) (n : Nat) (env : Env) (σ : St) : Prop where
  len : env.length = σ.length
  at_ : ∀ (i : Nat) (d : D), env[i]? = some (some d) → ∃ v : V, σ[i]? = some (some v) ∧ DV K H r n d v
theorem Ev_.fw {K : PySem.W.Frag} {r r' : Rm} {st : Store} {n' : Nat} {H H' : Hp} {env : Env} {σ : St} (S : Sr K r st H) (F : Fw r r' st.length n' H H') (e : Ev_ K H r st.length env σ) : Ev_ K H' r' n' env σ :=
  ⟨e.len, fun i d h => let ⟨v, h1, h2⟩ := e.at_ i d h; ⟨v, h1, h2.fw S F⟩⟩
theorem Ev_.set {K : PySem.W.Frag} {H : Hp} {r : Rm} {n : Nat} {env : Env} {σ : St} {d : D} {v : V} (e : Ev_ K H r n env σ) (i : Nat) (h : DV K H r n d v) : Ev_ K H r n (env.set i (some d)) (σ.set i (some v)) := by
  refine ⟨by rw [List.length_set, List.length_set, e.len], fun j d' hj => ?_⟩
  by_cases hij : i = j
  · subst hij
    have hl : i < env.length := by
      have := List.getElem?_eq_some_iff.mp hj
      obtain ⟨h1, _⟩ := this
      simpa using h1
    rw [List.getElem?_set_self hl] at hj
    cases hj
    exact ⟨v, List.getElem?_set_self (by rw [← e.len]; exact hl), h⟩
  · rw [List.getElem?_set_ne hij] at hj ⊢
    exact e.at_ j d' hj

/-- the whole -/
structure Wd (K : PySem.W.Frag) (r : Rm) (env : Env) (st : Store) (σ : St) (H : Hp) : Prop where
  sr : Sr K r st H
  ev : Ev_ K H r st.length env σ

/-- an exception of Ex, as it lies -/
def ExR (K : PySem.W.Frag) (mg : Str → Option Value) (H : Hp) (r : Rm) (n : Nat) (e : Ex) (c : Value) (dx : Option Addr) : Prop :=
  mg e.cls = some c ∧ match e.at_ with
    | none => dx = none
    | some (f, d) => ∃ a v, dx = some a ∧ H a = some (.xd [(f, v)]) ∧ DV K H r n d v

abbrev Wx := Value → Option Addr → St → Hp → Prop

section
variable (K : PySem.W.Frag) (mg : Str → Option Value) (W : Wx) (r : Rm) (st : Store) (H : Hp) (σ : St)
/-- what must follow upon the outcome of an expression -/
def Po {A : Type} (Q : A → (Rm) → Store → Hp → Prop) : Rz A → Prop
  | .ok a st' => ∀ r' H', Fw r r' st.length st'.length H H' → Sr K r' st' H' → Q a r' st' H'
  | .exc e st' => ∀ r' H' c dx, Fw r r' st.length st'.length H H' → Sr K r' st' H' → ExR K mg H' r' st'.length e c dx → W c dx σ H'
  | .bad => False
/-- a value -/
def Pv (Q : VK) : D → (Rm) → Store → Hp → Prop := fun d r' st' H' => ∀ v, DV K H' r' st'.length d v → Q v H'
def Pvs (Q : List V → Hp → Prop) : List D → (Rm) → Store → Hp → Prop := fun ds r' st' H' => ∀ vs, DVs K H' r' st'.length ds vs → Q vs H'
end

section
variable {K : PySem.W.Frag} {mg : Str → Option Value} {W : Wx} {r r' : Rm} {st st' : Store} {H H' : Hp} {σ : St}
theorem Po.mono {A : Type} {Q Q' : A → (Rm) → Store → Hp → Prop} {x : Rz A} (h : Po K mg W r st H σ Q x)
    (hq : ∀ a r' st' H', x = .ok a st' → Fw r r' st.length st'.length H H' → Sr K r' st' H' → Q a r' st' H' → Q' a r' st' H') : Po K mg W r st H σ Q' x := by
  cases x with
  | ok a s => exact fun r' H' F S => hq a r' s H' rfl F S (h r' H' F S)
  | exc e s => exact h
  | bad => exact h
/-- from an earlier state to a later -/
theorem Po.fw {A : Type} {Q : A → (Rm) → Store → Hp → Prop} {x : Rz A} (S' : Sr K r' st' H') (F : Fw r r' st.length st'.length H H') (h : Po K mg W r st H σ Q x) : Po K mg W r' st' H' σ Q x := by
  cases x with
  | ok a s => exact fun r2 H2 F2 S2 => h r2 H2 (F.trans S' F2) S2
  | exc e s => exact fun r2 H2 c dx F2 S2 x => h r2 H2 c dx (F.trans S' F2) S2 x
  | bad => exact h
/-- the first of two steps -/
theorem Po.first {A B : Type} {Q : B → (Rm) → Store → Hp → Prop} {x : Rz A} {g : A → Store → Rz B} (h : Po K mg W r st H σ Q (x.bind g)) :
    Po K mg W r st H σ (fun a r' st' H' => Po K mg W r' st' H' σ Q (g a st')) x := by
  cases x with
  | ok a s => exact fun r' H' F S => Po.fw S F h
  | exc e s => exact h
  | bad => exact h
theorem Po.here {A : Type} {Q : A → (Rm) → Store → Hp → Prop} {a : A} (S : Sr K r st H) (h : Po K mg W r st H σ Q (.ok a st)) : Q a r st H := h r H (Fw.refl _ _ _) S
end
end L2.G4

set_option maxHeartbeats 4000000
/-! GB: operations on plain values, and that the model does the same. -/
namespace L2.G4
open PySem PySem.Spec PyProof.Rows

/-- the items of a list -/
def lstOf (st : Store) : D → Option (List D)
  | .lst ds => some ds
  | .fls ds => some ds
  | .loc n => match st[n]? with
    | some (.lst ds) => some ds
    | _ => none
  | _ => none
def tupOf : D → Option (List D)
  | .tup ds => some ds
  | _ => none
def seqOf (st : Store) (d : D) : Option (List D) := (tupOf d).or (lstOf st d)
def dicOf (st : Store) : D → Option (List (Key × D))
  | .loc n => match st[n]? with
    | some (.dic kvs) => some kvs
    | _ => none
  | .dct ks ds => some (ks.zip ds)
  | _ => none

section
variable {K : PySem.W.Frag} {r : Rm} {st : Store} {H : Hp} {d : D} {v : V} {ds : List D}
theorem DV.lstOf (S : Sr K r st H) (h : DV K H r st.length d v) (e : lstOf st d = some ds) : ∃ a xs, v = .ref a ∧ SqL K H a xs ∧ DVs K H r st.length ds xs ∧ ds.length ≤ sizeLine := by
  cases h with
  | lst h1 h2 z t => cases e; exact ⟨_, _, rfl, .of h1, t, z⟩
  | fls h1 z t => cases e; exact ⟨_, _, rfl, h1.sq, t, z⟩
  | loc hi =>
    rename_i i
    obtain ⟨ho, h1, o, h2, h3⟩ := S.at_ hi
    cases h3 with
    | lst z t => simp only [G4.lstOf, h2, Option.some.injEq] at e; subst e; exact ⟨_, _, rfl, .of h1, t, z⟩
    | dic => simp [G4.lstOf, h2] at e
  | _ => cases e
theorem DV.tupOf (h : DV K H r st.length d v) (e : tupOf d = some ds) : ∃ a xs, v = .ref a ∧ SqT K H a xs ∧ DVs K H r st.length ds xs ∧ ds.length ≤ sizeLine := by
  cases h with
  | tup h1 z t => cases e; exact ⟨_, _, rfl, h1, t, z⟩
  | _ => cases e
theorem DV.seqOf (S : Sr K r st H) (h : DV K H r st.length d v) (e : seqOf st d = some ds) : ∃ a xs, v = .ref a ∧ ((SqL K H a xs ∧ G4.lstOf st d = some ds) ∨ (SqT K H a xs ∧ G4.tupOf d = some ds)) ∧ DVs K H r st.length ds xs ∧ ds.length ≤ sizeLine := by
  unfold G4.seqOf at e
  cases q : G4.tupOf d with
  | some es =>
    rw [q] at e
    cases e
    obtain ⟨a, xs, h1, h2, h3⟩ := h.tupOf q
    exact ⟨a, xs, h1, .inr ⟨h2, rfl⟩, h3⟩
  | none =>
    rw [q] at e
    have e : G4.lstOf st d = some ds := e
    obtain ⟨a, xs, h1, h2, h3⟩ := h.lstOf S e
    exact ⟨a, xs, h1, .inl ⟨h2, e⟩, h3⟩
/-- a list that a rule may take as it lies: not frozen -/
theorem DV.lstH (S : Sr K r st H) (h : DV K H r st.length d v) (e : G4.lstOf st d = some ds) (hf : ∀ es, d ≠ .fls es) : ∃ a xs, v = .ref a ∧ H a = some (.lst xs) ∧ DVs K H r st.length ds xs ∧ ds.length ≤ sizeLine := by
  cases h with
  | lst h1 h2 z t => cases e; exact ⟨_, _, rfl, h1, t, z⟩
  | fls h1 z t => exact absurd rfl (hf _)
  | loc hi =>
    obtain ⟨ho, h1, o, h2, h3⟩ := S.at_ hi
    cases h3 with
    | lst z t => simp only [G4.lstOf, h2, Option.some.injEq] at e; subst e; exact ⟨_, _, rfl, h1, t, z⟩
    | dic => simp [G4.lstOf, h2] at e
  | _ => cases e
theorem KDV.zip {n : Nat} : ∀ {ks : List Key} {ds : List D} {xs : List V}, DVs K H r n ds xs → KDV K H r n (ks.zip ds) (ks.zip xs)
  | [], _, _, _ => by rw [List.zip_nil_left, List.zip_nil_left]; exact .nil
  | _ :: _, _, _, .nil => .nil
  | _ :: _, _, _, .cons a t => .cons a (KDV.zip t)
theorem zip_fst {A B : Type} : ∀ {ks : List A} {ds : List B}, ks.length = ds.length → (ks.zip ds).map (·.1) = ks
  | [], _, _ => by simp
  | _ :: _, [], h => by cases h
  | k :: ks, d :: ds, h => by
    rw [List.zip_cons_cons, List.map_cons, zip_fst (by simpa using h)]
theorem DV.dicOf {kvs : List (Key × D)} (S : Sr K r st H) (h : DV K H r st.length d v) (e : dicOf st d = some kvs) : ∃ a ys, v = .ref a ∧ H a = some (.dK ys) ∧ KDV K H r st.length kvs ys ∧ kvs.length ≤ sizeLine ∧ (kvs.map (·.1)).Nodup := by
  cases h with
  | loc hi =>
    rename_i i
    obtain ⟨ho, h1, o, h2, h3⟩ := S.at_ hi
    cases h3 with
    | lst z t => simp [G4.dicOf, h2] at e
    | dic z nd t => simp only [G4.dicOf, h2, Option.some.injEq] at e; subst e; exact ⟨_, _, rfl, h1, t, z, nd⟩
  | dct h1 na l nd z t =>
    cases e
    exact ⟨_, _, rfl, h1, .zip t, by rw [List.length_zip]; omega, by rw [zip_fst l]; exact nd⟩
  | _ => cases e
end

/-! ### new objects, changed objects -/
section
variable {K : PySem.W.Frag} {r : Rm} {st : Store} {H : Hp} {p : Addr}
theorem Sr.fresh (S : Sr K r st H) (hp : H p = none) : ∀ i, i < st.length → r i ≠ p := fun i hi e => by
  obtain ⟨ho, h1, _⟩ := S.at_ hi
  rw [e, hp] at h1; cases h1
theorem Sr.fpv (S : Sr K r st H) (hp : H p = none) : ¬ r.pv p := fun h => by
  obtain ⟨o, e⟩ := S.pvA p h
  rw [hp] at e; cases e
theorem fw_new {n : Nat} {o : HO} (hp : H p = none) : Fw r r n n H (upd H p o) :=
  ⟨Nat.le_refl _, fun _ _ => rfl, fun i h1 h2 => absurd h2 (Nat.not_lt.mpr h1), fun a u e _ _ => by rw [upd_ne (ne_of_none e hp)]; exact e, rfl⟩
theorem Sr.new {o : HO} (S : Sr K r st H) (hp : H p = none) : Sr K r st (upd H p o) :=
  ⟨S.inj, fun i u e => by
    obtain ⟨ho, h1, h2⟩ := S.obj i u e
    exact ⟨ho, by rw [upd_ne (ne_of_none h1 hp)]; exact h1, h2.fw S (fw_new hp)⟩, fun a ha => by
    obtain ⟨xs, e⟩ := S.pvA a ha
    exact ⟨xs, by rw [upd_ne (ne_of_none e hp)]; exact e⟩, S.pvN, tabs_new S.tab hp⟩
/-- a new object that goes into the store -/
def ext (r : Rm) (n : Nat) (p : Addr) : Rm := ⟨fun i => if i = n then p else r i, r.pv⟩
theorem ext_at (r : Rm) (n : Nat) (p : Addr) (i : Nat) : (ext r n p) i = if i = n then p else r i := rfl
theorem fw_ext {o : HO} (hp : H p = none) : Fw r (ext r st.length p) st.length (st.length + 1) H (upd H p o) where
  le := Nat.le_succ _
  ag := fun i hi => by rw [ext_at, if_neg (Nat.ne_of_lt hi)]
  nw := fun i h1 h2 => by
    have e : i = st.length := by omega
    subst e
    rw [ext_at, if_pos rfl, hp]; exact .none
  kp := fun a u e _ _ => by rw [upd_ne (ne_of_none e hp)]; exact e
  pv := rfl
theorem Sr.ext {o : O} {ho : HO} (S : Sr K r st H) (hp : H p = none) (h : OV K H r st.length o ho) : Sr K (G4.ext r st.length p) (st ++ [o]) (upd H p ho) where
  inj := fun i j hi hj e => by
    rw [List.length_append] at hi hj
    simp only [List.length_cons, List.length_nil] at hi hj
    rw [ext_at, ext_at] at e
    by_cases h1 : i = st.length <;> by_cases h2 : j = st.length
    · omega
    · rw [if_pos h1, if_neg h2] at e; exact absurd e.symm (S.fresh hp j (by omega))
    · rw [if_neg h1, if_pos h2] at e; exact absurd e (S.fresh hp i (by omega))
    · rw [if_neg h1, if_neg h2] at e; exact S.inj i j (by omega) (by omega) e
  obj := fun i u e => by
    have F : Fw r (G4.ext r st.length p) st.length (st.length + 1) H (upd H p ho) := fw_ext hp
    have el : (st ++ [o]).length = st.length + 1 := by simp
    rw [el]
    by_cases hi : i < st.length
    · rw [List.getElem?_append_left hi] at e
      obtain ⟨hu, h1, h2⟩ := S.obj i u e
      refine ⟨hu, ?_, h2.fw S F⟩
      rw [F.ag i hi, upd_ne (ne_of_none h1 hp)]
      exact h1
    · rw [List.getElem?_append_right (Nat.le_of_not_lt hi)] at e
      have hi0 : i - st.length = 0 := by
        cases q : i - st.length with
        | zero => rfl
        | succ m => rw [q] at e; simp at e
      rw [hi0] at e
      have e' : o = u := by simpa using e
      subst e'
      have ei : i = st.length := by omega
      subst ei
      refine ⟨ho, ?_, h.fw S F⟩
      rw [ext_at, if_pos rfl]
      exact upd_same
  pvA := fun a ha => by
    obtain ⟨xs, e⟩ := S.pvA a ha
    exact ⟨xs, by rw [upd_ne (ne_of_none e hp)]; exact e⟩
  pvN := fun i hi => by
    rw [List.length_append] at hi
    simp only [List.length_cons, List.length_nil] at hi
    rw [ext_at]
    by_cases h1 : i = st.length
    · rw [if_pos h1]; exact S.fpv hp
    · rw [if_neg h1]; exact S.pvN i (by omega)
  tab := tabs_new S.tab hp
/-- an object of the store is changed -/
theorem fw_set {i : Nat} {ho : HO} (hi : i < st.length) : Fw r r st.length st.length H (upd H (r i) ho) :=
  ⟨Nat.le_refl _, fun _ _ => rfl, fun i h1 h2 => absurd h2 (Nat.not_lt.mpr h1), fun a u e hn _ => by rw [upd_ne (fun z => hn i hi z.symm)]; exact e, rfl⟩
theorem Sr.set {i : Nat} {o : O} {ho : HO} (S : Sr K r st H) (hi : i < st.length) (h : OV K H r st.length o ho) : Sr K r (st.set i o) (upd H (r i) ho) where
  inj := fun j k hj hk => by rw [List.length_set] at hj hk; exact S.inj j k hj hk
  obj := fun j u e => by
    have F : Fw r r st.length st.length H (upd H (r i) ho) := fw_set hi
    rw [List.length_set]
    by_cases hij : i = j
    · subst hij
      rw [List.getElem?_set_self hi] at e
      cases e
      exact ⟨ho, upd_same, h.fw S F⟩
    · rw [List.getElem?_set_ne hij] at e
      obtain ⟨hu, h1, h2⟩ := S.obj j u e
      have hj : j < st.length := by
        obtain ⟨z, _⟩ := List.getElem?_eq_some_iff.mp e
        exact z
      refine ⟨hu, ?_, h2.fw S F⟩
      rw [upd_ne (fun z => hij (S.inj i j hi hj z.symm))]
      exact h1
  pvA := fun a ha => by
    obtain ⟨xs, e⟩ := S.pvA a ha
    exact ⟨xs, by rw [upd_ne (fun z => S.pvN i hi (by rw [← z]; exact ha))]; exact e⟩
  pvN := fun j hj => by rw [List.length_set] at hj; exact S.pvN j hj
  tab := tabs_upd S.tab fun u e => by
    obtain ⟨ho2, h1, _, _, h4⟩ := S.at_ hi
    rw [h1] at e
    cases e
    exact h4.nc
end

/-! ### outcomes: what is left to show -/
section
variable {K : PySem.W.Frag} {mg : Str → Option Value} {W : Wx} {r : Rm} {st : Store} {H : Hp} {σ : St} {Q : VK}
theorem po_val {d : D} {v : V} (S : Sr K r st H) (h : Po K mg W r st H σ (Pv K Q) (.ok d st)) (hd : DV K H r st.length d v) : Q v H := h r H (Fw.refl _ _ _) S v hd
theorem po_tup {ds : List D} {xs : List V} (S : Sr K r st H) (h : Po K mg W r st H σ (Pv K Q) (.ok (.tup ds) st)) (z : ds.length ≤ sizeLine) (t : DVs K H r st.length ds xs) : ∀ p, H p = none → Q (.ref p) (upd H p (.tup xs)) := fun p hp =>
  h r _ (fw_new hp) (S.new hp) _ (.tup (.of upd_same) z (t.fw S (fw_new hp)))
theorem po_lst {ds : List D} {xs : List V} (S : Sr K r st H) (h : Po K mg W r st H σ (Pv K Q) (.ok (.lst ds) st)) (z : ds.length ≤ sizeLine) (t : DVs K H r st.length ds xs) : ∀ p, H p = none → Q (.ref p) (upd H p (.lst xs)) := fun p hp =>
  h r _ (fw_new hp) (S.new hp) _ (.lst upd_same ⟨S.fresh hp, S.fpv hp⟩ z (t.fw S (fw_new hp)))
theorem po_new {o : O} {ho : HO} (S : Sr K r st H) (h : Po K mg W r st H σ (Pv K Q) (.ok (.loc st.length) (st ++ [o]))) (t : OV K H r st.length o ho) : ∀ p, H p = none → Q (.ref p) (upd H p ho) := fun p hp => by
  have e : (st ++ [o]).length = st.length + 1 := by simp
  refine h (ext r st.length p) _ (by rw [e]; exact fw_ext hp) (S.ext hp t) _ ?_
  have q : DV K (upd H p ho) (ext r st.length p) (st ++ [o]).length (.loc st.length) (.ref (ext r st.length p st.length)) := .loc (by rw [e]; exact Nat.lt_succ_self _)
  rw [ext_at, if_pos rfl] at q
  exact q
theorem po_set {i : Nat} {o : O} {ho : HO} {d : D} {v : V} (S : Sr K r st H) (h : Po K mg W r st H σ (Pv K Q) (.ok d (st.set i o))) (hi : i < st.length) (t : OV K H r st.length o ho) (hd : DV K H r st.length d v) : Q v (upd H (r i) ho) := by
  have e : (st.set i o).length = st.length := List.length_set
  refine h r _ (by rw [e]; exact fw_set hi) (S.set hi t) v ?_
  rw [e]
  exact hd.fw S (fw_set hi)
end
end L2.G4

set_option maxHeartbeats 4000000
/-! GBa: a tuple times any int; x[::-1] of a tuple or a list. -/
namespace L2.G4
open PySem PySem.Spec PyProof.Rows HT

theorem tuple_mulS (l : Addr) (items : Array Value) (n : Nat) (dd : Option Addr) (sl : Array (Option Value)) (x : Int) (u : Tok) (c0 : (decide (x < -(2 ^ 63)) || decide (x ≥ 2 ^ 63)) = false) (c1 : (items.isEmpty || x == 1) = true) :
    Meets (Builtin.«tuple.__mul__» ⟨[.ref l, .int x u], []⟩) (fun _ R s => s.heap.get? l = some { cls := .type "tuple", dict := dd, data := .seq items n, slots := sl } ∧ R (.ok (.ret (Value.ref l))) s) :=
  .of_wp fun prog w A R s h => by
    obtain ⟨hp, g, d, tk, os⟩ := s
    obtain ⟨hl, h⟩ := h
    have f1 := AutoSeq1.idx_int
    wp_walk using wpAny_loadPart' hl
    repeat (first
      | (refine wpAny_ite_false (decide_eq_false (by rw [c0]; exact Bool.false_ne_true)) ?_; wp_walk using wpAny_loadPart' hl)
      | (refine wpAny_ite_true (decide_eq_true (by rw [c1])) ?_; wp_walk using wpAny_loadPart' hl))
    exact ⟨_, rfl, h⟩
theorem tuple_mul0 (l : Addr) (items : Array Value) (n : Nat) (dd : Option Addr) (sl : Array (Option Value)) (x : Int) (u : Tok) (c0 : (decide (x < -(2 ^ 63)) || decide (x ≥ 2 ^ 63)) = false) (c1 : (items.isEmpty || x == 1) = false) (c2 : (decide (x ≤ 0) || items.isEmpty) = true) :
    Meets (Builtin.«tuple.__mul__» ⟨[.ref l, .int x u], []⟩) (fun _ R s => s.heap.get? l = some { cls := .type "tuple", dict := dd, data := .seq items n, slots := sl } ∧
      R (.ok (.ret (Value.ref s.heap.objs.size))) { s with heap := s.heap.push { cls := Value.type "tuple", data := Data.seq #[] }, toks := s.toks }) :=
  .of_wp fun prog w A R s h => by
    obtain ⟨hp, g, d, tk, os⟩ := s
    obtain ⟨hl, h⟩ := h
    have f1 := AutoSeq1.idx_int
    wp_walk using wpAny_loadPart' hl
    repeat (first
      | (refine wpAny_ite_false (decide_eq_false (by rw [c0]; exact Bool.false_ne_true)) ?_; wp_walk using wpAny_loadPart' hl)
      | (refine wpAny_ite_false (decide_eq_false (by rw [c1]; exact Bool.false_ne_true)) ?_; wp_walk using wpAny_loadPart' hl)
      | (refine wpAny_ite_true (decide_eq_true (by rw [c2])) ?_; wp_walk using wpAny_loadPart' hl)
      | (refine wpAny_ite_false (decide_eq_false (Nat.not_lt.mpr (Nat.zero_le _))) ?_; wp_walk using wpAny_loadPart' hl))
    exact ⟨_, rfl, h⟩
/-- t * k where t is handed back, or nothing is left -/
def rRep0 (K : PySem.W.Frag) : R2 := fun x y H Q => ∃ l k xs, x = .ref l ∧ y = .int k ∧ SqT K H l xs ∧ -1000 ≤ k ∧ k ≤ 1000 ∧ ((xs = [] ∨ k = 1) ∧ Q (.ref l) H ∨ (xs ≠ [] ∧ k ≤ 0) ∧ ∀ p, H p = none → Q (.ref p) (upd H p (.tup [])))
section
variable {X : Cx}
theorem op_rep0 : OpR X (binaryOp .Mult) (rRep0 X.K) := by
  intro pins s σ H x y v u Q I rx ry h
  obtain ⟨l, k, xs, rfl, rfl, hT, h1, h2, q⟩ := h
  cases rx
  obtain ⟨t, rfl⟩ := ry
  obtain ⟨its, r, ⟨⟨cls, dd, data, sl⟩, ho, hc, n, hd⟩, hs⟩ := I.tuple hT
  simp only at hc hd
  subst hc hd
  have hle : its.length = xs.length := r.length.symm
  have c0 : (decide (k < -(2 ^ 63)) || decide (k ≥ 2 ^ 63)) = false := by
    rw [decide_eq_false (by omega), decide_eq_false (by omega)] <;> rfl
  have hi : its.toArray.isEmpty = xs.isEmpty := by
    cases its with
    | nil => cases xs with | nil => rfl | cons => cases hle
    | cons a b => cases xs with | nil => cases hle | cons => rfl
  rcases q with ⟨hc, q⟩ | ⟨⟨hx, hk⟩, q⟩
  · have c1 : (its.toArray.isEmpty || k == 1) = true := by
      rw [hi]
      rcases hc with rfl | rfl
      · rfl
      · cases xs <;> rfl
    exact wpAny_binaryOp_repeat_ref (T := "tuple") (U := "int") (by decide) ⟨_, ho, rfl⟩ (fun s' => typeIs_int s' k t) noFill_tuple_mul F.fills_int_mul F.slot_int_rmul repeat_tuple F.slot_int_index.lookup
      (call_meets F.slot_int_rmul (typeIs_int s k t) F.entry_int_rmul (F.args_int_rmul_2 _ _) (int_rmul_tuple k t l its.toArray n dd sl)
        ⟨ho, rfl, ⟨_, ho, rfl⟩, call_meets F.slot_tuple_mul ⟨_, ho, rfl⟩ F.entry_tuple_mul (F.args_tuple_mul_2 _ _) (tuple_mulS l its.toArray n dd sl k t c0 c1) ⟨ho, .ref l, H, I, rfl, q⟩⟩)
  · have c1 : (its.toArray.isEmpty || k == 1) = false := by
      rw [hi]
      cases xs with
      | nil => exact absurd rfl hx
      | cons a b =>
        have : (k == 1) = false := beq_eq_false_iff_ne.mpr (by omega)
        rw [this]; rfl
    have c2 : (decide (k ≤ 0) || its.toArray.isEmpty) = true := by rw [decide_eq_true hk]; rfl
    refine wpAny_binaryOp_repeat_ref (T := "tuple") (U := "int") (by decide) ⟨_, ho, rfl⟩ (fun s' => typeIs_int s' k t) noFill_tuple_mul F.fills_int_mul F.slot_int_rmul repeat_tuple F.slot_int_index.lookup
      (call_meets F.slot_int_rmul (typeIs_int s k t) F.entry_int_rmul (F.args_int_rmul_2 _ _) (int_rmul_tuple k t l its.toArray n dd sl)
        ⟨ho, rfl, ⟨_, ho, rfl⟩, call_meets F.slot_tuple_mul ⟨_, ho, rfl⟩ F.entry_tuple_mul (F.args_tuple_mul_2 _ _) (tuple_mul0 l its.toArray n dd sl k t c0 c1 c2) ⟨ho, ?_⟩⟩)
    refine ⟨.ref s.heap.objs.size, _, I.laid (t' := s.toks) (o := .tup []) (fun b ob q => Heap.get?_push_of_some _ q) (Nat.le_refl _) ?_, rfl, q _ (I.hok.fresh (Nat.le_refl _))⟩
    exact ⟨Nat.zero_le _, [], .nil, IsTup.new _ _⟩
end

/-! ### x[::-1] -/
theorem fm_congr {A B : Type} {f g : A → Option B} : ∀ {l : List A}, (∀ a ∈ l, f a = g a) → l.filterMap f = l.filterMap g
  | [], _ => rfl
  | a :: l, h => by
    rw [List.filterMap_cons, List.filterMap_cons, h a List.mem_cons_self, fm_congr fun b hb => h b (List.mem_cons_of_mem _ hb)]
theorem pick_rev (xs : Array Value) : ((List.range xs.size).filterMap fun (m : Nat) => xs[(((xs.size : Int) - 1) + (m : Int) * (-1)).toNat]?).toArray = xs.toList.reverse.toArray := by
  have e : (List.range xs.size).filterMap (fun (m : Nat) => xs[(((xs.size : Int) - 1) + (m : Int) * (-1)).toNat]?) = ((List.range xs.size).map fun k => xs.size - 1 - k).filterMap (xs[·]?) := by
    rw [List.filterMap_map]
    refine fm_congr fun m hm => ?_
    have hm := List.mem_range.mp hm
    have : ((xs.size : Int) - 1 + (m : Int) * (-1)).toNat = xs.size - 1 - m := by omega
    show xs[_]? = xs[_]?
    rw [this]
  rw [e, PySem.W.krv_range, List.filterMap_reverse, PySem.W.krv_all]
section
variable {prog : Program} {w : World} {A : Around} {E : Value → Shared → Prop} {s : Shared}
theorem sliceApplied_rev {sl : Addr} {vs : Value} {n : Nat} {Q : Int × Int × Nat → Shared → Prop} (hs : s.heap.IsSliceOf sl .none .none vs) (ps : IsPart vs (some (-1)))
    (h : Q ((n : Int) - 1, -1, n) s) : wpAny (model prog w) A (Builtin.Slice.sliceApplied (.ref sl) (pure (n : Int))) Q E s := by
  obtain ⟨os, hos, hcs, hds⟩ := id hs
  unfold Builtin.Slice.sliceApplied Builtin.Slice.sliceFields
  refine wpAny_bind (wpAny_bind (wpAny_field hos hds (x := .none) rfl (wpAny_bind (wpAny_field hos hds (x := .none) rfl (wpAny_bind (wpAny_field hos hds (x := vs) rfl (wpAny_pure ?_)))))))
  refine wpAny_bind (slicePart_ ps ?_)
  show wpAny _ _ (if ((-1 : Int) == 0) = true then _ else _) _ _ s
  rw [if_neg (by decide)]
  refine wpAny_bind (slicePart_none (wpAny_bind (slicePart_none (wpAny_bind (wpAny_pure ?_)))))
  have ea : Builtin.Slice.sliceAdjust none none (-1) (n : Int) = ((n : Int) - 1, -1) := rfl
  show wpAny _ _ (match Builtin.Slice.sliceAdjust none none (-1) (n : Int) with | (lo, hi) => pure (lo, (-1 : Int), Builtin.Slice.slicePlaces lo hi (-1))) _ _ s
  rw [ea]
  show wpAny _ _ (pure ((n : Int) - 1, (-1 : Int), Builtin.Slice.slicePlaces ((n : Int) - 1) (-1) (-1))) _ _ s
  have ep : Builtin.Slice.slicePlaces ((n : Int) - 1) (-1) (-1) = n := by
    unfold Builtin.Slice.slicePlaces
    have h1 : ¬ ((-1 : Int) > 0) := by decide
    rw [if_neg h1]
    by_cases hn : (n : Int) - 1 > -1
    · rw [if_pos hn]
      have e : ((n : Int) - 1 - -1 - 1) / (- -1) + 1 = (n : Int) := by
        rw [show (- -1 : Int) = 1 by decide, Int.ediv_one]
        omega
      rw [e]
      exact Int.toNat_natCast n
    · rw [if_neg hn]
      have e : n = 0 := by omega
      subst e
      rfl
  rw [ep]
  exact wpAny_pure h
theorem getItem_tuple_rev {t sl : Addr} {items : Array Value} {vs : Value} {Q : Value → Shared → Prop} (ht : IsTup s.heap t items) (hs : s.heap.IsSliceOf sl .none .none vs) (ps : IsPart vs (some (-1)))
    (h : Q (.ref s.heap.objs.size) { s with heap := s.heap.push { cls := .type "tuple", data := .seq items.toList.reverse.toArray } })
    (hsz : items.size ≤ sizeLine) : wpAny (model prog w) A (getItem (.ref t) (.ref sl)) Q E s := by
  have htake : sizeOk (.seq items.toList.reverse.toArray) := by
    show items.toList.reverse.toArray.size ≤ sizeLine
    rw [List.size_toArray, List.length_reverse, Array.length_toList]
    exact hsz
  obtain ⟨os, hos, hcs, hds⟩ := id hs
  have hTs : s.TypeIs (.ref sl) "slice" := ⟨os, hos, hcs⟩
  unfold getItem
  try with_reducible refine wpAny_holding ?_
  first | refine wpAny_bind (wpAny_pure ?_) | skip
  refine wpAny_bind (wpAny_sequenceKey ht.typeIs (by decide) ?_)
  refine wpAny_bind (wpAny_callSpecial?_slot (name := Str.ofString "__getitem__") ht.typeIs PyProof.Rows.slot_tuple_getitem
    (wpAny_call_entry PyProof.Rows.slot_tuple_getitem ht.typeIs entry_tuple_getitem ?_ (args_tuple_getitem _ _)))
  show wpAny _ _ (Builtin.Tuple.tupleItemsOf (.ref t) >>= _) _ _ s
  refine wpAny_bind (tupleItemsOf_ ht ?_)
  refine wpAny_bind (wpAny_typeOf hTs ?_)
  rw [if_pos (by decide)]
  refine wpAny_bind (sliceApplied_rev hs ps ?_)
  have hno : ¬ ((((items.size : Int) - 1) == 0 && (-1 : Int) == 1 && items.size == items.size) = true) := by
    rw [show ((-1 : Int) == 1) = false from by decide, Bool.and_false, Bool.false_and]
    exact Bool.false_ne_true
  show wpAny _ _ (if (((items.size : Int) - 1) == 0 && (-1 : Int) == 1 && items.size == items.size) = true then _ else _) _ _ s
  rw [if_neg hno, pick_rev]
  first
    | exact wpAny_bind (m := Builtin.Tuple.tupleExact _) (wpAny_newObj_type (wpAny_pure ⟨_, rfl, wpAny_pure h⟩) htake)
    | exact wpAny_bind (m := Builtin.Tuple.tupleExact _) (wpAny_newObj_type (wpAny_bind (wpAny_pure (wpAny_pure ⟨_, rfl, wpAny_pure h⟩))) htake)
    | exact wpAny_bind (wpAny_bind (m := Builtin.Tuple.tupleExact _) (wpAny_newObj_type (wpAny_pure (wpAny_pure ⟨_, rfl, wpAny_pure h⟩)) htake))
    | exact wpAny_bind (wpAny_bind (m := Builtin.Tuple.tupleExact _) (wpAny_newObj_type (wpAny_pure ⟨_, rfl, wpAny_pure h⟩) htake))
end
section
variable {X : Cx}
def tRevA (K : PySem.W.Frag) (te : TE) : TE := fun σ H Q => te σ H fun x H1 => ∃ a xs, x = .ref a ∧ ((SqL K H1 a xs ∧ ∀ p, H1 p = none → Q (.ref p) (upd H1 p (.lst xs.reverse))) ∨ (SqT K H1 a xs ∧ ∀ p, H1 p = none → Q (.ref p) (upd H1 p (.tup xs.reverse))))
theorem pe_revA {e : Expr} {te : TE} {k : Nat} {p1 p2 p3 pos : Pos} (he : PE X e te) : PE X (.Subscript e (.Slice none none (some (.UnaryOp .USub (.Constant (.int 1) k p1) p2)) p3) pos) (tRevA X.K te) := by
  refine ⟨fun pins s σ H Q I h => ?_⟩
  refine Subscript_ (thn (he.run pins s σ H _ I h) fun v s1 ⟨x, H1, I1, r1, q1⟩ => ?_)
  obtain ⟨a, xs, ex, hx⟩ := q1
  subst ex
  cases r1
  have hst : PO X (some (.UnaryOp .USub (.Constant (.int 1) k p1) p2)) (tPart (tUn (rU fun i => .int (-i)) (tC (.int 1)))) := po_some (pe_un un_neg pe_int)
  refine wpAny_Slice (thn (po_none.run pins s1 σ H1 (fun o H2 => o = none ∧ H2 = H1) I1 ⟨rfl, rfl⟩) fun vl s2 ⟨l, H2, I2, pl, el, e2⟩ => ?_)
  subst el e2
  refine thn (po_none.run pins s2 σ H2 (fun o H3 => o = none ∧ H3 = H2) I2 ⟨rfl, rfl⟩) fun vu s3 ⟨u, H3, I3, pu, eu, e3⟩ => ?_
  subst eu e3
  refine thn (hst.run pins s3 σ H3 (fun o H4 => o = some (-1) ∧ H4 = H3) I3 ⟨1, rfl, -1, rfl, rfl, rfl⟩) fun vs s4 ⟨o, H4, I4, ps, eo, e4⟩ => ?_
  subst eo e4
  have I5 : Inv X pins σ H4 { s4 with heap := s4.heap.push { cls := .type "slice", data := .fields #[vl, vu, vs] } } := I4.kept (t' := s4.toks) fun b ob q => Heap.get?_push_of_some _ q
  show wpAny (model X.prog X.w) X.A (subscriptTail e (.Slice none none (some (.UnaryOp .USub (.Constant (.int 1) k p1) p2)) p3) (.ref a) (.ref s4.heap.objs.size)) (EP X pins σ Q) X.xe { s4 with heap := s4.heap.push { cls := .type "slice", data := .fields #[vl, vu, vs] } }
  rcases hx with ⟨hx, q⟩ | ⟨hx, q⟩
  · obtain ⟨its, r, ht, hz⟩ := I5.list hx
    have hlen := r.length
    refine tail_any (ops := [.ref a, .ref s4.heap.objs.size]) ht.isList.typeIs (PySem.slot_list_getitem.lookup) ?_ (by with_unfolding_all rfl)
    refine wpAny_getItem_list_slice ht.isList (Heap.IsSliceOf.new _ vl vu vs) pl pu ps (by decide) ?_ (by rw [List.size_toArray]; omega)
    rw [PySem.W.krv_pick]
    refine ⟨.ref _, _, I5.laid (t' := s4.toks) (o := .lst xs.reverse) (fun b ob q => Heap.get?_push_of_some _ q) (Nat.le_refl _) ?_, rfl, q _ (I5.hok.fresh (Nat.le_refl _))⟩
    exact ⟨by rw [List.length_reverse]; exact hz, _, 0, r.reverse, Heap.get?_push_size _ rfl⟩
  · obtain ⟨its, r, ht, hz⟩ := I5.tuple hx
    have hlen := r.length
    cases pl
    cases pu
    refine tail_any (ops := [.ref a, .ref s4.heap.objs.size]) ht.typeIs (PyProof.Rows.slot_tuple_getitem.lookup) ?_ (by with_unfolding_all rfl)
    refine getItem_tuple_rev ht (Heap.IsSliceOf.new _ .none .none vs) ps ?_ (by rw [List.size_toArray]; omega)
    refine ⟨.ref _, _, I5.laid (t' := s4.toks) (o := .tup xs.reverse) (fun b ob q => Heap.get?_push_of_some _ q) (Nat.le_refl _) ?_, rfl, q _ (I5.hok.fresh (Nat.le_refl _))⟩
    exact ⟨by rw [List.length_reverse]; exact hz, _, r.reverse, IsTup.new _ _⟩
end
end L2.G4

set_option maxHeartbeats 4000000
/-! GC: binary operations, comparisons, truth, subscripts. -/
namespace L2.G4
open PySem PySem.Spec PyProof.Rows

mutual
/-- the library's data of a plain value (no bytes, no store) -/
def py : D → Option PyData
  | .non => some .none
  | .bl b => some (.bool b)
  | .int i => some (.int i)
  | .str x => some (.str x)
  | .byt _ => none
  | .tup ds => (pys ds).map .tuple
  | .lst ds => (pys ds).map .list
  | .fls ds => (pys ds).map .list
  | .loc _ => none
  | .dct _ _ => none
  | .exn _ _ _ _ => none
  | .fnv _ _ _ _ _ _ => none
def pys : List D → Option (List PyData)
  | [] => some []
  | d :: ds => match py d, pys ds with
    | some a, some b => some (a :: b)
    | _, _ => none
end
/-- .. of a value whose outermost object may be the store's -/
def pyT (st : Store) (d : D) : Option PyData := match lstOf st d with
  | some ds => (pys ds).map .list
  | none => py d

section
variable {K : PySem.W.Frag} {r : Rm} {H : Hp} {n : Nat}
mutual
theorem DV.dp : ∀ {d : D} {v : V} {p : PyData}, DV K H r n d v → py d = some p → Dp K H v p
  | .non, _, _, .non, e => by simp only [py, Option.some.injEq] at e; subst e; exact .non
  | .bl b, _, _, .bl _, e => by simp only [py, Option.some.injEq] at e; subst e; exact .bl b
  | .int i, _, _, .int _, e => by simp only [py, Option.some.injEq] at e; subst e; exact .int i
  | .str x, _, _, .str _, e => by simp only [py, Option.some.injEq] at e; subst e; exact .str x
  | .byt _, _, _, _, e => by simp [py] at e
  | .tup ds, _, _, .tup h z t, e => by
    simp only [py, Option.map_eq_some_iff] at e
    obtain ⟨ps, e1, rfl⟩ := e
    exact .tup h (DVs.dp t e1)
  | .lst ds, _, _, .lst h _ z t, e => by
    simp only [py, Option.map_eq_some_iff] at e
    obtain ⟨ps, e1, rfl⟩ := e
    exact .lst (.of h) (DVs.dp t e1)
  | .fls ds, _, _, .fls h z t, e => by
    simp only [py, Option.map_eq_some_iff] at e
    obtain ⟨ps, e1, rfl⟩ := e
    exact .lst h.sq (DVs.dp t e1)
  | .loc _, _, _, _, e => by simp [py] at e
  | .dct _ _, _, _, _, e => by simp [py] at e
  | .exn _ _ _ _, _, _, _, e => by simp [py] at e
  | .fnv _ _ _ _ _ _, _, _, _, e => by simp [py] at e
theorem DVs.dp : ∀ {ds : List D} {vs : List V} {ps : List PyData}, DVs K H r n ds vs → pys ds = some ps → DpAll K H vs ps
  | [], _, _, .nil, e => by simp only [pys, Option.some.injEq] at e; subst e; exact .nil
  | d :: ds, _, _, .cons a t, e => by
    simp only [pys] at e
    split at e
    · rename_i p q h1 h2
      cases e
      exact .cons (DV.dp a h1) (DVs.dp t h2)
    · cases e
end
theorem DV.dpT {st : Store} {d : D} {v : V} {p : PyData} (S : Sr K r st H) (h : DV K H r st.length d v) (e : pyT st d = some p) : Dp K H v p := by
  unfold pyT at e
  split at e
  · rename_i ds q
    obtain ⟨a, xs, rfl, h1, t, _⟩ := h.lstOf S q
    simp only [Option.map_eq_some_iff] at e
    obtain ⟨ps, e1, rfl⟩ := e
    exact .lst h1 (t.dp e1)
  · exact h.dp e
end

/-! ### + - * // % ** -/
def intPow (i j : Int) : Option Int := if 0 ≤ j ∧ Builtin.Int.intTooBig (((Builtin.Int.intBits i : Nat) : Int) * j) = false then some (i ^ j.toNat) else none
def binD (op : Operator) (d e : D) (st : Store) : Rz D :=
  match op, d, e with
  | .Add, .int i, .int j => .ok (.int (i + j)) st
  | .Sub, .int i, .int j => .ok (.int (i - j)) st
  | .Mult, .int i, .int j => if i.natAbs.log2 + j.natAbs.log2 < 1000000 then .ok (.int (i * j)) st else .bad
  | .FloorDiv, .int i, .int j => if 0 < j ∧ j.natAbs.log2 < 9000 then .ok (.int (i / j)) st else .bad
  | .Mod, .int i, .int j => if 0 < j then .ok (.int (i % j)) st else .bad
  | .Pow, .int i, .int j => match intPow i j with
    | some k => .ok (.int k) st
    | none => .bad
  | .Add, .str x, .str y => if x.length + y.length ≤ sizeLine then .ok (.str (x ++ y)) st else .bad
  | .Add, .byt x, .byt y => if x.size + y.size ≤ 16777216 then .ok (.byt (x ++ y)) st else .bad
  | .Add, .tup xs, .tup ys => if xs.length + ys.length ≤ sizeLine then .ok (.tup (xs ++ ys)) st else .bad
  | .Mult, .tup xs, .int k => if -1000 ≤ k ∧ k ≤ 1000 ∧ xs.length ≤ 1000 then .ok (.tup (List.replicate k.toNat xs).flatten) st else .bad
  | .Mult, .lst xs, .int k => if 0 ≤ k ∧ k < 1000000 ∧ xs.length * k.toNat ≤ sizeLine then .ok (.lst (List.replicate k.toNat xs).flatten) st else .bad
  | .Add, .fls _, _ => .bad
  | .Add, _, .fls _ => .bad
  | .Add, x, y => match lstOf st x, lstOf st y with
    | some xs, some ys => if xs.length + ys.length ≤ sizeLine then .ok (.lst (xs ++ ys)) st else .bad
    | _, _ => .bad
  | _, _, _ => .bad

/-- the reading of an operation on values by what it does to plain values -/
def rG (K : PySem.W.Frag) (f : D → D → Store → Rz D) : R2 := fun x y H Q => ∃ (mg : Str → Option Value) (W : Wx) (σ : St) (r : Rm) (st : Store) (d e : D), Sr K r st H ∧ DV K H r st.length d x ∧ DV K H r st.length e y ∧ Po K mg W r st H σ (Pv K Q) (f d e st)

theorem pow_ok {prog : Program} {w : World} {A : Around} {Q : Value → Shared → Prop} {E : Value → Shared → Prop} {s : Shared} {i j k : Int} {t u : Tok} (h : intPow i j = some k) (q : Q (.int k s.toks) { s with toks := s.toks + 1 }) :
    wpAny (model prog w) A (binaryOp .Pow (.int i t) (.int j u)) Q E s := by
  unfold intPow at h
  split at h
  · rename_i hc
    obtain ⟨h0, hb⟩ := hc
    cases h
    by_cases e0 : j = 0
    · subst e0
      refine PySem.AutoIntOps.pow_0 (by decide) (by decide) ?_
      have : i ^ (0 : Int).toNat = 1 := by simp
      rw [this] at q
      exact q
    · have n0 : ¬ (j == 0) = true := by simpa using e0
      have hj : 0 < j.toNat := by omega
      by_cases e1 : i = 0 ∨ i = 1
      · refine PySem.AutoIntOps.pow_1 (by omega) n0 (by simpa using e1) ?_
        have : i ^ j.toNat = i := by
          rcases e1 with rfl | rfl
          · obtain ⟨m, hm⟩ : ∃ m, j.toNat = m + 1 := ⟨j.toNat - 1, by omega⟩
            rw [hm, Int.pow_succ, Int.mul_zero]
          · exact Int.one_pow
        rw [this] at q
        exact q
      · by_cases e2 : i = -1
        · subst e2
          refine PySem.AutoIntOps.pow_2 (by omega) n0 (by decide) (by decide) ?_
          have key : ∀ m : Nat, ((-1 : Int) ^ m) = if m % 2 = 0 then 1 else -1 := fun m => by
            induction m with
            | zero => rfl
            | succ m ih =>
              rw [Int.pow_succ, ih]
              by_cases hm : m % 2 = 0
              · rw [if_pos hm, if_neg (by omega)]; rfl
              · rw [if_neg hm, if_pos (by omega)]; rfl
          rw [key j.toNat] at q
          by_cases hm : j.toNat % 2 = 0
          · rw [if_pos hm] at q
            rw [if_pos (by have : j % 2 = 0 := by omega
                           simpa using this)]
            exact q
          · rw [if_neg hm] at q
            rw [if_neg (by have : ¬ j % 2 = 0 := by omega
                           simpa using this)]
            exact q
        · exact PySem.AutoIntOps.pow_4 (by omega) n0 (by simpa using e1) (by simpa using e2) (by rw [hb]; decide) q
  · cases h

variable {X : Cx}
theorem op_powG : OpR X (binaryOp .Pow) (fun x y H Q => ∃ i j k, x = .int i ∧ y = .int j ∧ intPow i j = some k ∧ Q (.int k) H) := by
  intro pins s σ H x y v u Q I rx ry h
  obtain ⟨i, j, k, rfl, rfl, hk, q⟩ := h
  obtain ⟨t, rfl⟩ := rx
  obtain ⟨t', rfl⟩ := ry
  exact pow_ok hk ⟨.int k, H, I.tok _, ⟨_, rfl⟩, q⟩

theorem op_binG (op : Operator) : OpR X (binaryOp op) (rG X.K (binD op)) := by
  intro pins s σ H x y v u Q I rx ry h
  obtain ⟨mg, W, σ', r, st, d, e, S, hd, he, p⟩ := h
  unfold binD at p
  split at p
  · cases hd; cases he
    exact op_add pins s σ H _ _ v u Q I rx ry ⟨_, _, rfl, rfl, po_val S p (.int _)⟩
  · cases hd; cases he
    exact op_sub pins s σ H _ _ v u Q I rx ry ⟨_, _, rfl, rfl, po_val S p (.int _)⟩
  · cases hd; cases he
    split at p
    · rename_i hc
      exact op_mulW pins s σ H _ _ v u Q I rx ry ⟨_, _, rfl, rfl, hc, po_val S p (.int _)⟩
    · exact p.elim
  · cases hd; cases he
    split at p
    · rename_i hc
      exact op_fdivW pins s σ H _ _ v u Q I rx ry ⟨_, _, rfl, rfl, hc, po_val S p (.int _)⟩
    · exact p.elim
  · cases hd; cases he
    split at p
    · rename_i hc
      exact op_mod pins s σ H _ _ v u Q I rx ry ⟨_, _, rfl, rfl, hc, po_val S p (.int _)⟩
    · exact p.elim
  · cases hd; cases he
    split at p
    · rename_i k hk
      exact op_powG pins s σ H _ _ v u Q I rx ry ⟨_, _, k, rfl, rfl, hk, po_val S p (.int _)⟩
    · exact p.elim
  · cases hd; cases he
    split at p
    · rename_i hc
      exact op_add_str pins s σ H _ _ v u Q I rx ry ⟨_, _, rfl, rfl, hc, po_val S p (.str _)⟩
    · exact p.elim
  · cases hd; cases he
    split at p
    · rename_i hc
      exact op_add_byt pins s σ H _ _ v u Q I rx ry ⟨_, _, rfl, rfl, hc, po_val S p (.byt _)⟩
    · exact p.elim
  · cases hd with
    | tup h1 z1 t1 =>
    cases he with
    | tup h2 z2 t2 =>
    split at p
    · rename_i hc
      have l1 := t1.length
      have l2 := t2.length
      refine op_catA pins s σ H _ _ v u Q I rx ry ⟨_, _, _, _, rfl, rfl, h1, h2, by omega, fun e => ?_, fun _ e => ?_, fun _ _ => ?_⟩
      · subst e
        cases t1
        exact po_val S p (.tup h2 z2 t2)
      · subst e
        cases t2
        rw [List.append_nil] at p
        exact po_val S p (.tup h1 z1 t1)
      · exact po_tup S p (by rw [List.length_append]; exact hc) (t1.append t2)
    · exact p.elim
  · rename_i xs k
    cases hd with
    | tup h1 z1 t1 =>
    cases he
    split at p
    · rename_i hc
      obtain ⟨c1, c2, c4⟩ := hc
      have l1 := t1.length
      have rep : ∀ m : Nat, DVs X.K H r st.length (List.replicate m _).flatten (List.replicate m _).flatten := fun m => by
        induction m with
        | zero => exact .nil
        | succ m ih =>
          rw [List.replicate_succ, List.replicate_succ, List.flatten_cons, List.flatten_cons]
          exact t1.append ih
      by_cases h0 : xs = [] ∨ k = 1
      · refine op_rep0 pins s σ H _ _ v u Q I rx ry ⟨_, _, _, rfl, rfl, h1, c1, c2, .inl ⟨?_, ?_⟩⟩
        · rcases h0 with h0 | h0
          · subst h0; cases t1; exact .inl rfl
          · exact .inr h0
        · have ef : (List.replicate k.toNat xs).flatten = xs := by
            rcases h0 with h0 | h0
            · subst h0
              have go : ∀ m : Nat, (List.replicate m ([] : List D)).flatten = [] := fun m => by
                induction m with
                | zero => rfl
                | succ m ih => rw [List.replicate_succ, List.flatten_cons, ih]; rfl
              exact go _
            · subst h0
              show (List.replicate 1 xs).flatten = xs
              simp
          rw [ef] at p
          exact po_val S p (.tup h1 z1 t1)
      · have hx : xs ≠ [] := fun z => h0 (.inl z)
        have hk : k ≠ 1 := fun z => h0 (.inr z)
        by_cases h2 : k ≤ 0
        · refine op_rep0 pins s σ H _ _ v u Q I rx ry ⟨_, _, _, rfl, rfl, h1, c1, c2, .inr ⟨⟨fun z => ?_, h2⟩, ?_⟩⟩
          · subst z; cases t1; exact hx rfl
          · have ek : k.toNat = 0 := by omega
            rw [ek] at p
            exact po_tup S p (Nat.zero_le _) .nil
        · refine op_repT pins s σ H _ _ v u Q I rx ry ⟨_, _, _, rfl, rfl, h1, fun e => ?_, by omega, c2, by omega, ?_⟩
          · subst e
            cases t1
            exact hx rfl
          · refine po_tup S p ?_ (rep _)
            have fl : ∀ (m : Nat) (ys : List D), ((List.replicate m ys).flatten).length = m * ys.length := fun m ys => by
              induction m with
              | zero => simp
              | succ m ih => rw [List.replicate_succ, List.flatten_cons, List.length_append, ih, Nat.succ_mul]; omega
            rw [fl]
            refine Nat.le_trans (Nat.mul_le_mul (show _ ≤ 1000 by omega) c4) ?_
            decide
    · exact p.elim
  · cases hd with
    | lst h1 na z1 t1 =>
    cases he
    split at p
    · rename_i hc
      obtain ⟨c1, c2, c3⟩ := hc
      have l1 := t1.length
      refine op_rep pins s σ H _ _ v u Q I rx ry ⟨_, _, _, rfl, rfl, h1, by omega, by omega, by rw [← l1]; exact c3, ?_⟩
      have rep : ∀ m : Nat, DVs X.K H r st.length (List.replicate m _).flatten (List.replicate m _).flatten := fun m => by
        induction m with
        | zero => exact .nil
        | succ m ih =>
          rw [List.replicate_succ, List.replicate_succ, List.flatten_cons, List.flatten_cons]
          exact t1.append ih
      refine po_lst S p ?_ (rep _)
      have fl : ∀ (m : Nat) (ys : List D), ((List.replicate m ys).flatten).length = m * ys.length := fun m ys => by
        induction m with
        | zero => simp
        | succ m ih => rw [List.replicate_succ, List.flatten_cons, List.length_append, ih, Nat.succ_mul]; omega
      rw [fl, Nat.mul_comm]
      exact c3
    · exact p.elim
  · exact p.elim
  · exact p.elim
  · rename_i n1 n2 n3 n4 n5 n6
    split at p
    · rename_i xs ys e1 e2
      split at p
      · rename_i hc
        obtain ⟨a, vs, rfl, h1, t1, z1⟩ := hd.lstH S e1 n1
        obtain ⟨b, ws, rfl, h2, t2, z2⟩ := he.lstH S e2 n2
        have l1 := t1.length
        have l2 := t2.length
        exact op_cat pins s σ H _ _ v u Q I rx ry ⟨_, _, _, _, rfl, rfl, h1, h2, by omega, po_lst S p (by rw [List.length_append]; exact hc) (t1.append t2)⟩
      · exact p.elim
    · exact p.elim
  · exact p.elim
end L2.G4

set_option maxHeartbeats 4000000
/-! GD: comparisons, truth, subscripts, slices, stores. -/
namespace L2.G4
open PySem PySem.Spec PyProof.Rows

/-! ### keys and tables -/
def keyOf : D → Option Key
  | .int i => some (.inl i)
  | .str x => some (.inr x)
  | _ => none
def dOfKey : Key → D
  | .inl i => .int i
  | .inr x => .str x
def dval (kvs : List (Key × D)) (k : Key) : Option D := (kvs.find? fun kv => decide (kv.1 = k)).map (·.2)
def dput (kvs : List (Key × D)) (k : Key) (d : D) : List (Key × D) :=
  if (kvs.any fun kv => decide (kv.1 = k)) = true then kvs.map (fun kv => if kv.1 = k then (kv.1, d) else kv) else kvs ++ [(k, d)]
section
variable {K : PySem.W.Frag} {r : Rm} {H : Hp} {n : Nat}
theorem DV.key {d : D} {v : V} {k : Key} (h : DV K H r n d v) (e : keyOf d = some k) : v = kV k := by
  cases h <;> simp [keyOf] at e <;> subst e <;> rfl
theorem KDV.length : ∀ {kvs : List (Key × D)} {ys : List (Key × V)}, KDV K H r n kvs ys → kvs.length = ys.length
  | _, _, .nil => rfl
  | _, _, .cons _ t => by rw [List.length_cons, List.length_cons, KDV.length t]
theorem KDV.keys : ∀ {kvs : List (Key × D)} {ys : List (Key × V)}, KDV K H r n kvs ys → ys.map (·.1) = kvs.map (·.1)
  | _, _, .nil => rfl
  | _, _, .cons _ t => by rw [List.map_cons, List.map_cons, KDV.keys t]
theorem KDV.val (k : Key) : ∀ {kvs : List (Key × D)} {ys : List (Key × V)}, KDV K H r n kvs ys → (∀ d, dval kvs k = some d → ∃ v, valV ys k = some v ∧ DV K H r n d v) ∧ (dval kvs k = none → valV ys k = none)
  | _, _, .nil => ⟨(fun _ h => by cases h), fun _ => rfl⟩
  | _, _, .cons (k := j) (d := d) (v := v) (ds := ds) (vs := vs) h t => by
    have ih := KDV.val k t
    by_cases e : j = k
    · have e1 : dval ((j, d) :: ds) k = some d := by simp [dval, List.find?_cons, e]
      have e2 : valV ((j, v) :: vs) k = some v := by simp [valV, List.find?_cons, e]
      rw [e1, e2]
      exact ⟨fun d' z => by cases z; exact ⟨v, rfl, h⟩, fun z => by cases z⟩
    · have e1 : dval ((j, d) :: ds) k = dval ds k := by simp [dval, List.find?_cons, e]
      have e2 : valV ((j, v) :: vs) k = valV vs k := by simp [valV, List.find?_cons, e]
      rw [e1, e2]
      exact ih
theorem KDV.repl (k : Key) {d : D} {v : V} (h : DV K H r n d v) : ∀ {kvs : List (Key × D)} {ys : List (Key × V)}, KDV K H r n kvs ys →
    KDV K H r n (kvs.map fun kv => if kv.1 = k then (kv.1, d) else kv) (ys.map fun kv => if kv.1 = k then (kv.1, v) else kv)
  | _, _, .nil => .nil
  | _, _, .cons (k := j) a t => by
    rw [List.map_cons, List.map_cons]
    by_cases e : j = k
    · rw [if_pos e, if_pos e]; exact .cons h (KDV.repl k h t)
    · rw [if_neg e, if_neg e]; exact .cons a (KDV.repl k h t)
theorem KDV.snoc (k : Key) {d : D} {v : V} (h : DV K H r n d v) : ∀ {kvs : List (Key × D)} {ys : List (Key × V)}, KDV K H r n kvs ys → KDV K H r n (kvs ++ [(k, d)]) (ys ++ [(k, v)])
  | _, _, .nil => .cons h .nil
  | _, _, .cons a t => .cons a (KDV.snoc k h t)
theorem any_keys {A B : Type} (k : Key) : ∀ {l : List (Key × A)} {m : List (Key × B)}, l.map (·.1) = m.map (·.1) → (l.any fun kv => decide (kv.1 = k)) = m.any fun kv => decide (kv.1 = k)
  | [], [], _ => rfl
  | [], _ :: _, h => by cases h
  | _ :: _, [], h => by cases h
  | a :: l, b :: m, h => by
    rw [List.map_cons, List.map_cons] at h
    injection h with h1 h2
    rw [List.any_cons, List.any_cons, h1, any_keys k h2]
theorem KDV.put (k : Key) {d : D} {v : V} (h : DV K H r n d v) {kvs : List (Key × D)} {ys : List (Key × V)} (t : KDV K H r n kvs ys) : KDV K H r n (dput kvs k d) (putK ys k v) := by
  unfold dput putK
  rw [any_keys k t.keys]
  split
  · exact t.repl k h
  · exact t.snoc k h
theorem dput_len (kvs : List (Key × D)) (k : Key) (d : D) : (dput kvs k d).length ≤ kvs.length + 1 := by
  unfold dput
  split
  · rw [List.length_map]; omega
  · rw [List.length_append]; simp
theorem map_repl (k : Key) (d : D) : ∀ kvs : List (Key × D), (kvs.map fun kv => if kv.1 = k then (kv.1, d) else kv).map (·.1) = kvs.map (·.1)
  | [] => rfl
  | a :: l => by
    rw [List.map_cons, List.map_cons, List.map_cons, map_repl k d l]
    split <;> rfl
theorem dput_keys (kvs : List (Key × D)) (k : Key) (d : D) : (dput kvs k d).map (·.1) = if (kvs.any fun kv => decide (kv.1 = k)) = true then kvs.map (·.1) else kvs.map (·.1) ++ [k] := by
  unfold dput
  split
  · exact map_repl k d kvs
  · rw [List.map_append]; rfl
theorem dput_nodup {kvs : List (Key × D)} {k : Key} {d : D} (h : (kvs.map (·.1)).Nodup) : ((dput kvs k d).map (·.1)).Nodup := by
  rw [dput_keys]
  split
  · exact h
  · rename_i hn
    refine List.nodup_append.mpr ⟨h, by simp, fun a ha b hb => ?_⟩
    have e : b = k := by simpa using hb
    subst e
    intro z
    subst z
    obtain ⟨p, hp, ep⟩ := List.mem_map.mp ha
    exact hn (List.any_eq_true.mpr ⟨p, hp, by simpa using ep⟩)
end

/-! ### comparisons -/
def isNonD : D → Bool
  | .non => true
  | _ => false
theorem DV.isNon {K : PySem.W.Frag} {r : Rm} {H : Hp} {n : Nat} {d : D} {v : V} (h : DV K H r n d v) : decide (v = .non) = isNonD d := by
  cases h <;> simp [isNonD]
/-- equality: of scalars, else of data -/
def eqD (d e : D) (st : Store) : Option Bool :=
  match d, e with
  | .int i, .int j => some (decide (i = j))
  | .str x, .str y => some (decide (x = y))
  | .bl a, .bl b => some (decide (a = b))
  | .byt a, .byt b => some (decide (a = b))
  | .non, .non => some true
  | d, e => match pyT st d, pyT st e with
    | some a, some b => if SeqAt.shaped a = true ∧ SeqAt.shaped b = true then some (PyData.eqv a b) else none
    | _, _ => none
def ordI (op : CmpOp) (i j : Int) : Option Bool :=
  match op with
  | .Lt => some (decide (i < j))
  | .LtE => some (decide (i ≤ j))
  | .Gt => some (decide (j < i))
  | .GtE => some (decide (j ≤ i))
  | _ => none
def ordS (op : CmpOp) (i j : Str) : Option Bool :=
  match op with
  | .Lt => some (decide (i.cps.toList < j.cps.toList))
  | .LtE => some (!decide (j.cps.toList < i.cps.toList))
  | .Gt => some (decide (j.cps.toList < i.cps.toList))
  | .GtE => some (!decide (i.cps.toList < j.cps.toList))
  | _ => none
def flatD : D → Bool
  | .non | .bl _ | .int _ | .str _ => true
  | _ => false
def eqFlat : D → D → Bool
  | .non, .non => true
  | .bl a, .bl b => a == b
  | .bl a, .int b => (if a = true then 1 else 0) == b
  | .int a, .bl b => a == if b = true then 1 else 0
  | .int a, .int b => a == b
  | .str a, .str b => a == b
  | _, _ => false
/-- x in y -/
def inD (d e : D) (st : Store) : Option Bool :=
  match e with
  | .str y => match d with
    | .str x => some (!(Builtin.Str.occurrences y x 0 y.length 1).isEmpty)
    | _ => none
  | e => match dicOf st e with
    | some kvs => match keyOf d with
      | some k => some (dval kvs k).isSome
      | none => none
    | none => match seqOf st e with
      | some ds => if flatD d = true ∧ ds.all flatD = true then some (ds.any fun y => eqFlat y d) else match tupOf e with
        | some _ => none
        | none => match py d, pys ds with
          | some a, some bs => if SeqAt.shaped a = true ∧ SeqAt.shaped (.list bs) = true then some (bs.any fun z => PyData.eqv z a) else none
          | _, _ => none
      | none => none
def cmpD (op : CmpOp) (d e : D) (st : Store) : Rz D :=
  let back (o : Option Bool) : Rz D := match o with
    | some b => .ok (.bl b) st
    | none => .bad
  match op with
  | .Eq => back (eqD d e st)
  | .NotEq => back ((eqD d e st).map (!·))
  | .In => back (inD d e st)
  | .NotIn => back ((inD d e st).map (!·))
  | .Is => match d, e with
    | d, .non => .ok (.bl (isNonD d)) st
    | .bl a, .bl b => .ok (.bl (decide (a = b))) st
    | _, _ => .bad
  | .IsNot => match d, e with
    | d, .non => .ok (.bl (!isNonD d)) st
    | .bl a, .bl b => .ok (.bl (!decide (a = b))) st
    | _, _ => .bad
  | op => match d, e with
    | .int i, .int j => back (ordI op i j)
    | .str i, .str j => back (ordS op i j)
    | _, _ => .bad

theorem DV.flat {K : PySem.W.Frag} {r : Rm} {H : Hp} {n : Nat} {d : D} {v : V} (h : DV K H r n d v) (e : flatD d = true) : flatV v = true := by
  cases h <;> first | rfl | cases e
theorem DVs.flat {K : PySem.W.Frag} {r : Rm} {H : Hp} {n : Nat} : ∀ {ds : List D} {vs : List V}, DVs K H r n ds vs → ds.all flatD = true → vs.all flatV = true
  | _, _, .nil, _ => rfl
  | _, _, .cons a t, e => by
    rw [List.all_cons, Bool.and_eq_true] at e
    rw [List.all_cons, a.flat e.1, DVs.flat t e.2]; rfl
theorem eqFlat_eq {K : PySem.W.Frag} {r : Rm} {H : Hp} {n : Nat} {d e : D} {v u : V} (h : DV K H r n d v) (h' : DV K H r n e u) (f : flatD d = true) (f' : flatD e = true) : eqV v u = eqFlat d e := by
  cases h <;> cases h' <;> first | rfl | (exact absurd f Bool.false_ne_true) | (exact absurd f' Bool.false_ne_true)
theorem inV_eq {K : PySem.W.Frag} {r : Rm} {H : Hp} {n : Nat} {d : D} {v : V} (h : DV K H r n d v) (f : flatD d = true) : ∀ {ds : List D} {vs : List V}, DVs K H r n ds vs → ds.all flatD = true → inV v vs = ds.any fun y => eqFlat y d
  | _, _, .nil, _ => rfl
  | _, _, .cons a t, e => by
    rw [List.all_cons, Bool.and_eq_true] at e
    show (eqV _ v || inV v _) = _
    rw [eqFlat_eq a h e.1 f, inV_eq h f t e.2]
    rfl
section
variable {X : Cx}
theorem op_eqG (hu : X.A.units + 64 < cLine) : OpR X (compareOp .Eq) (fun x y H Q => ∃ (r : Rm) (st : Store) (d e : D) (b : Bool), Sr X.K r st H ∧ DV X.K H r st.length d x ∧ DV X.K H r st.length e y ∧ eqD d e st = some b ∧ Q (.bl b) H) := by
  intro pins s σ H x y v u Q I rx ry h
  obtain ⟨r, st, d, e, b, S, hd, he, hb, q⟩ := h
  unfold eqD at hb
  split at hb
  · cases hd; cases he; cases hb
    exact op_eq pins s σ H _ _ v u Q I rx ry ⟨rfl, by simpa using q⟩
  · cases hd; cases he; cases hb
    exact op_eq pins s σ H _ _ v u Q I rx ry ⟨rfl, by simpa using q⟩
  · cases hd; cases he; cases hb
    exact op_eq pins s σ H _ _ v u Q I rx ry ⟨rfl, by simpa using q⟩
  · cases hd; cases he; cases hb
    exact op_eq pins s σ H _ _ v u Q I rx ry ⟨rfl, by simpa using q⟩
  · cases hd; cases he; cases hb
    exact op_eq pins s σ H _ _ v u Q I rx ry ⟨rfl, by simpa using q⟩
  · split at hb
    · rename_i a c h1 h2
      split at hb
      · rename_i hs
        cases hb
        exact op_eqD hu pins s σ H _ _ v u Q I rx ry ⟨a, c, hd.dpT S h1, he.dpT S h2, hs.1, hs.2, q⟩
      · cases hb
    · cases hb
theorem op_neG (hu : X.A.units + 64 < cLine) : OpR X (compareOp .NotEq) (fun x y H Q => ∃ (r : Rm) (st : Store) (d e : D) (b : Bool), Sr X.K r st H ∧ DV X.K H r st.length d x ∧ DV X.K H r st.length e y ∧ eqD d e st = some b ∧ Q (.bl (!b)) H) := by
  intro pins s σ H x y v u Q I rx ry h
  obtain ⟨r, st, d, e, b, S, hd, he, hb, q⟩ := h
  unfold eqD at hb
  split at hb
  · cases hd; cases he; cases hb
    exact op_ne pins s σ H _ _ v u Q I rx ry ⟨rfl, by simpa using q⟩
  · cases hd; cases he; cases hb
    exact op_ne pins s σ H _ _ v u Q I rx ry ⟨rfl, by simpa using q⟩
  · cases hd; cases he; cases hb
    exact op_ne pins s σ H _ _ v u Q I rx ry ⟨rfl, by simpa using q⟩
  · cases hd; cases he; cases hb
    exact op_ne pins s σ H _ _ v u Q I rx ry ⟨rfl, by simpa using q⟩
  · cases hd; cases he; cases hb
    exact op_ne pins s σ H _ _ v u Q I rx ry ⟨rfl, by simpa using q⟩
  · split at hb
    · rename_i a c h1 h2
      split at hb
      · rename_i hs
        cases hb
        exact op_neD hu pins s σ H _ _ v u Q I rx ry ⟨a, c, hd.dpT S h1, he.dpT S h2, hs.1, hs.2, q⟩
      · cases hb
    · cases hb
theorem dpT_list {K : PySem.W.Frag} {r : Rm} {st : Store} {H : Hp} {e : D} {u : V} {ds : List D} {bs : List PyData} (S : Sr K r st H) (h : DV K H r st.length e u) (e1 : lstOf st e = some ds) (e2 : pys ds = some bs) : Dp K H u (.list bs) :=
  h.dpT S (by unfold pyT; rw [e1]; simp [e2])
theorem op_inG (hu : X.A.units + 65 < cLine) (neg : Bool) : OpR X (compareOp (if neg then .NotIn else .In)) (fun x y H Q => ∃ (r : Rm) (st : Store) (d e : D) (b : Bool), Sr X.K r st H ∧ DV X.K H r st.length d x ∧ DV X.K H r st.length e y ∧ inD d e st = some b ∧ Q (.bl (if neg then !b else b)) H) := by
  intro pins s σ H x y v u Q I rx ry h
  obtain ⟨r, st, d, e, b, S, hd, he, hb, q⟩ := h
  unfold inD at hb
  split at hb
  · split at hb
    · cases hd; cases he; cases hb
      cases neg with
      | false => exact op_in_str pins s σ H _ _ v u Q I rx ry ⟨_, _, rfl, rfl, q⟩
      | true => exact op_notIn_str pins s σ H _ _ v u Q I rx ry ⟨_, _, rfl, rfl, q⟩
    · cases hb
  · split at hb
    · rename_i kvs hk
      split at hb
      · rename_i k ek
        cases hb
        obtain ⟨a, ys, rfl, hh, t, _, _⟩ := he.dicOf S hk
        have ex := hd.key ek
        subst ex
        obtain rfl : u = Value.ref a := ry
        have hv : (valV ys k).isSome = (dval kvs k).isSome := by
          have hv2 := t.val k
          cases e1 : dval kvs k with
          | some d' => obtain ⟨w', hw, _⟩ := hv2.1 d' e1; rw [hw]; rfl
          | none => rw [hv2.2 e1]; rfl
        cases neg with
        | false => exact d_in (by omega) I (DGet.k hh) rx fun s' I' => ⟨.bl _, H, I', rfl, by rw [hv]; exact q⟩
        | true => exact d_notIn (by omega) I (DGet.k hh) rx fun s' I' => ⟨.bl _, H, I', rfl, by rw [hv]; exact q⟩
      · cases hb
    · split at hb
      · rename_i ds hs
        obtain ⟨a, xs, rfl, hq, t, z⟩ := he.seqOf S hs
        split at hb
        · rename_i hf
          cases hb
          have ev := inV_eq hd hf.1 t hf.2
          have hq' : SqL X.K H a xs ∨ SqT X.K H a xs := hq.elim (fun z => .inl z.1) (fun z => .inr z.1)
          cases neg with
          | false => exact op_in_seq pins s σ H _ _ v u Q I rx ry ⟨a, xs, rfl, hq', hd.flat hf.1, t.flat hf.2, by rw [ev]; exact q⟩
          | true => exact op_notIn_seq pins s σ H _ _ v u Q I rx ry ⟨a, xs, rfl, hq', hd.flat hf.1, t.flat hf.2, by rw [ev]; exact q⟩
        · split at hb
          · cases hb
          · rename_i ht
            have hl : lstOf st e = some ds := by
              rcases hq with z | z
              · exact z.2
              · rw [ht] at z; cases z.2
            split at hb
            · rename_i p bs h1 h2
              split at hb
              · rename_i hsh
                cases hb
                cases neg with
                | false => exact op_inD hu pins s σ H _ _ v u Q I rx ry ⟨p, bs, hd.dp h1, dpT_list S he hl h2, hsh.1, hsh.2, q⟩
                | true => exact op_notInD hu pins s σ H _ _ v u Q I rx ry ⟨p, bs, hd.dp h1, dpT_list S he hl h2, hsh.1, hsh.2, q⟩
              · cases hb
            · cases hb
      · cases hb
theorem op_cmpG (hu : X.A.units + 65 < cLine) (op : CmpOp) : OpR X (compareOp op) (rG X.K (cmpD op)) := by
  intro pins s σ H x y v u Q I rx ry h
  obtain ⟨mg, W, σ', r, st, d, e, S, hd, he, p⟩ := h
  unfold cmpD at p
  cases op with
  | Eq =>
    cases hb : eqD d e st with
    | none => simp only [hb] at p; exact p.elim
    | some b => simp only [hb] at p; exact op_eqG (by omega) pins s σ H x y v u Q I rx ry ⟨r, st, d, e, b, S, hd, he, hb, po_val S p (.bl _)⟩
  | NotEq =>
    cases hb : eqD d e st with
    | none => simp only [hb] at p; exact p.elim
    | some b => simp only [hb] at p; exact op_neG (by omega) pins s σ H x y v u Q I rx ry ⟨r, st, d, e, b, S, hd, he, hb, po_val S p (.bl _)⟩
  | In =>
    cases hb : inD d e st with
    | none => simp only [hb] at p; exact p.elim
    | some b => simp only [hb] at p; exact op_inG hu false pins s σ H x y v u Q I rx ry ⟨r, st, d, e, b, S, hd, he, hb, po_val S p (.bl _)⟩
  | NotIn =>
    cases hb : inD d e st with
    | none => simp only [hb] at p; exact p.elim
    | some b => simp only [hb] at p; exact op_inG hu true pins s σ H x y v u Q I rx ry ⟨r, st, d, e, b, S, hd, he, hb, po_val S p (.bl _)⟩
  | Is =>
    simp only at p
    split at p
    · cases he
      exact op_isN pins s σ H _ _ v u Q I rx ry ⟨rfl, by rw [hd.isNon]; exact po_val S p (.bl _)⟩
    · cases hd; cases he
      exact op_isBl pins s σ H _ _ v u Q I rx ry ⟨_, _, rfl, rfl, po_val S p (.bl _)⟩
    · exact p.elim
  | IsNot =>
    simp only at p
    split at p
    · cases he
      exact op_notN pins s σ H _ _ v u Q I rx ry ⟨rfl, by rw [hd.isNon]; exact po_val S p (.bl _)⟩
    · cases hd; cases he
      exact op_notBl pins s σ H _ _ v u Q I rx ry ⟨_, _, rfl, rfl, po_val S p (.bl _)⟩
    · exact p.elim
  | Lt =>
    simp only at p
    split at p
    · cases hd; cases he
      exact op_lt pins s σ H _ _ v u Q I rx ry ⟨_, _, rfl, rfl, po_val S p (.bl _)⟩
    · cases hd; cases he
      exact op_lt_str pins s σ H _ _ v u Q I rx ry ⟨_, _, rfl, rfl, po_val S p (.bl _)⟩
    · exact p.elim
  | LtE =>
    simp only at p
    split at p
    · cases hd; cases he
      exact op_le pins s σ H _ _ v u Q I rx ry ⟨_, _, rfl, rfl, po_val S p (.bl _)⟩
    · cases hd; cases he
      exact op_le_str pins s σ H _ _ v u Q I rx ry ⟨_, _, rfl, rfl, po_val S p (.bl _)⟩
    · exact p.elim
  | Gt =>
    simp only at p
    split at p
    · cases hd; cases he
      exact op_gt pins s σ H _ _ v u Q I rx ry ⟨_, _, rfl, rfl, po_val S p (.bl _)⟩
    · cases hd; cases he
      exact op_gt_str pins s σ H _ _ v u Q I rx ry ⟨_, _, rfl, rfl, po_val S p (.bl _)⟩
    · exact p.elim
  | GtE =>
    simp only at p
    split at p
    · cases hd; cases he
      exact op_ge pins s σ H _ _ v u Q I rx ry ⟨_, _, rfl, rfl, po_val S p (.bl _)⟩
    · cases hd; cases he
      exact op_ge_str pins s σ H _ _ v u Q I rx ry ⟨_, _, rfl, rfl, po_val S p (.bl _)⟩
    · exact p.elim
end

/-! ### truth -/
def truD (d : D) (st : Store) : Option Bool :=
  match d with
  | .non => some false
  | .bl b => some b
  | .int i => some (i != 0)
  | .str y => if y.length ≤ sizeLine then some ((y.length : Int) != 0) else none
  | .byt y => if y.size ≤ sizeLine then some ((y.size : Int) != 0) else none
  | d => match seqOf st d with
    | some ds => some (!ds.isEmpty)
    | none => match dicOf st d with
      | some kvs => some (!kvs.isEmpty)
      | none => none
theorem DVs.empty {K : PySem.W.Frag} {r : Rm} {H : Hp} {n : Nat} {ds : List D} {vs : List V} (h : DVs K H r n ds vs) : vs.isEmpty = ds.isEmpty := by
  cases h <;> rfl
theorem KDV.empty {K : PySem.W.Frag} {r : Rm} {H : Hp} {n : Nat} {ds : List (Key × D)} {vs : List (Key × V)} (h : KDV K H r n ds vs) : vs.isEmpty = ds.isEmpty := by
  cases h <;> rfl
theorem tru_ok' {K : PySem.W.Frag} {r : Rm} {st : Store} {H : Hp} {d : D} {v : V} {b : Bool} (S : Sr K r st H) (h : DV K H r st.length d v) (e : truD d st = some b) : TruV K v H b := by
  unfold truD at e
  split at e
  · cases h; cases e; rfl
  · cases h; cases e; rfl
  · cases h; cases e; rfl
  · cases h
    split at e
    · rename_i z; cases e; exact ⟨z, rfl⟩
    · cases e
  · cases h
    split at e
    · rename_i z; cases e; exact ⟨z, rfl⟩
    · cases e
  · split at e
    · rename_i ds hs
      cases e
      obtain ⟨a, xs, rfl, hq, t, z⟩ := h.seqOf S hs
      rw [← t.empty]
      rcases hq with q | q
      · exact .inl ⟨xs, q.1, rfl⟩
      · exact .inr (.inl ⟨xs, q.1, rfl⟩)
    · split at e
      · rename_i kvs hk
        cases e
        obtain ⟨a, ys, rfl, hh, t, _, _⟩ := h.dicOf S hk
        rw [← t.empty]
        exact .inr (.inr ⟨ys, hh, rfl⟩)
      · cases e

/-! ### subscripts -/
def idxD (d e : D) (st : Store) : Rz D :=
  match e, d with
  | .int i, .str z => if z.length ≤ sizeLine then match atI z.cps.toList i with
    | some c => .ok (.str ⟨#[c]⟩) st
    | none => .bad
    else .bad
  | .int i, .byt z => if 0 ≤ i ∧ i < z.size ∧ z.size ≤ sizeLine then .ok (.int ((z.toList.getD i.toNat 0).toNat : Nat)) st else .bad
  | e, d => match dicOf st d with
    | some kvs => match keyOf e with
      | some k => match dval kvs k with
        | some x => .ok x st
        | none => .bad
      | none => .bad
    | none => match seqOf st d with
      | some ds => match e with
        | .int i => match atI ds i with
          | some x => .ok x st
          | none => .bad
        | _ => .bad
      | none => .bad
theorem DVs.atI {K : PySem.W.Frag} {r : Rm} {H : Hp} {n : Nat} {ds : List D} {vs : List V} {i : Int} {d : D} (h : DVs K H r n ds vs) (e : L2.atI ds i = some d) : ∃ v, L2.atI vs i = some v ∧ DV K H r n d v := by
  unfold L2.atI at e ⊢
  rw [← h.length]
  cases q : ixN ds.length i with
  | none => rw [q] at e; cases e
  | some j =>
    rw [q] at e
    exact h.get (i := j) e
section
variable {X : Cx}
theorem item_byt {pins : List (Addr × Obj)} {s : Shared} {σ : St} {H : Hp} {value slice : Expr} {z : Array UInt8} {i : Int} {t t' : Tok} {Q : VK} (I : Inv X pins σ H s) (h0 : 0 ≤ i) (h1 : i < z.size) (hz : z.size ≤ sizeLine) (q : Q (.int ((z.toList.getD i.toNat 0).toNat : Nat)) H)
    (hs : subscripted slice false (Value.bytes z t) (Value.int i t') = operate [Value.bytes z t, Value.int i t'] (getItem (Value.bytes z t) (Value.int i t'))) :
    wpAny (model X.prog X.w) X.A (subscriptTail value slice (.bytes z t) (.int i t')) (EP X pins σ Q) X.xe s := by
  obtain ⟨l⟩ := z
  have hl : sizeLine = 16777216 := sizeLine_eq
  have hz : l.length ≤ sizeLine := by simpa using hz
  have h1 : i < l.length := by simpa using h1
  exact PyProof.Rows.tail_any (PySem.W.typeIs_bytes s l.toArray t) PySem.W.FB.slot_bytes_getitem.lookup (PySem.W.getItem_bytes (by omega) h0 h1 ⟨.int ((l.getD i.toNat 0).toNat : Nat), H, I.tok _, ⟨_, rfl⟩, q⟩) hs
theorem ix_G (hu : X.A.units + 1 < cLine) : IxR X (rG X.K idxD) := by
  intro value slice pins s σ H x y v u Q I rx ry h hs
  obtain ⟨mg, W, σ', r, st, d, e, S, hd, he, p⟩ := h
  unfold idxD at p
  split at p
  · cases hd; cases he
    split at p
    · rename_i hz
      split at p
      · rename_i c hc
        exact ix_str value slice pins s σ H _ _ v u Q I rx ry ⟨_, _, _, rfl, rfl, hz, hc, po_val S p (.str _)⟩ hs
      · exact p.elim
    · exact p.elim
  · cases hd; cases he
    split at p
    · rename_i hc
      obtain ⟨t, rfl⟩ := rx
      obtain ⟨t', rfl⟩ := ry
      exact item_byt I hc.1 hc.2.1 hc.2.2 (po_val S p (.int _)) hs
    · exact p.elim
  · split at p
    · rename_i kvs hk
      split at p
      · rename_i k ek
        split at p
        · rename_i x' hx
          obtain ⟨a, ys, rfl, hh, t, _, _⟩ := hd.dicOf S hk
          have ex := he.key ek
          subst ex
          obtain ⟨w', hw, dw⟩ := (t.val k).1 _ hx
          obtain rfl : v = Value.ref a := rx
          have g : DGet H a (kV k) (some w') := by rw [← hw]; exact DGet.k hh
          exact PyProof.Rows.tail_any (dict_typeIs I g) PySem.F.slot_dict_getitem.lookup (d_getItem hu I g ry fun w1 s3 I3 rw' => ⟨w', H, I3, rw', po_val S p dw⟩) hs
        · exact p.elim
      · exact p.elim
    · split at p
      · rename_i ds hs'
        obtain ⟨a, xs, rfl, hq, t, z⟩ := hd.seqOf S hs'
        cases he with
        | int i =>
        simp only at p
        split at p
        · rename_i x' hx
          obtain ⟨w', hw, dw⟩ := t.atI hx
          rcases hq with q | q
          · exact ix_list value slice pins s σ H _ _ v u Q I rx ry ⟨a, xs, _, w', rfl, rfl, q.1, hw, po_val S p dw⟩ hs
          · exact ix_tup value slice pins s σ H _ _ v u Q I rx ry ⟨a, xs, _, w', rfl, rfl, q.1, hw, po_val S p dw⟩ hs
        · exact p.elim
        | _ => exact p.elim
      · exact p.elim
end
end L2.G4

set_option maxHeartbeats 4000000
/-! GE: slices, stores, sorting, the built-in functions. -/
namespace L2.G4
open PySem PySem.Spec PyProof.Rows

/-! ### slices -/
def cutL {A : Type} (xs : List A) (lo hi : Option Int) : List A := (xs.drop (HT.sIx xs.length 0 lo)).take (HT.sIx xs.length xs.length hi - HT.sIx xs.length 0 lo)
def slcD (d : D) (lo hi : Option Int) (st : Store) : Rz D :=
  match d with
  | .str z => if z.length ≤ sizeLine then .ok (.str (cutS z lo hi)) st else .bad
  | d => match tupOf d with
    | some ds => .ok (.tup (cutL ds lo hi)) st
    | none => match lstOf st d with
      | some ds => .ok (.lst (cutL ds lo hi)) st
      | none => .bad
theorem cutL_le {A : Type} (xs : List A) (lo hi : Option Int) : (cutL xs lo hi).length ≤ xs.length := by
  unfold cutL
  rw [List.length_take, List.length_drop]
  omega
theorem cutL_whole {A : Type} (xs : List A) (lo hi : Option Int) (h : HT.sIx xs.length 0 lo = 0 ∧ HT.sIx xs.length xs.length hi = xs.length) : cutL xs lo hi = xs := by
  unfold cutL
  rw [h.1, h.2]
  simp
theorem DVs.cut {K : PySem.W.Frag} {r : Rm} {H : Hp} {n : Nat} {ds : List D} {vs : List V} (h : DVs K H r n ds vs) (lo hi : Option Int) : DVs K H r n (cutL ds lo hi) (cutV vs lo hi) := by
  unfold cutL cutV
  rw [h.length]
  exact (h.drop _).take _
def rSl (K : PySem.W.Frag) (f : D → Option Int → Option Int → Store → Rz D) : V → Option Int → Option Int → Hp → VK → Prop := fun x lo hi H Q =>
  ∃ (mg : Str → Option Value) (W : Wx) (σ : St) (r : Rm) (st : Store) (d : D), Sr K r st H ∧ DV K H r st.length d x ∧ Po K mg W r st H σ (Pv K Q) (f d lo hi st)
section
variable {X : Cx}
theorem sl_G : SlR X (rSl X.K slcD) := by
  intro pins s σ H x v vl vu lo hi sl Q I rx hs pl pu h
  obtain ⟨mg, W, σ', r, st, d, S, hd, p⟩ := h
  unfold slcD at p
  split at p
  · cases hd
    split at p
    · rename_i hz
      exact sl_str pins s σ H _ v vl vu lo hi sl Q I rx hs pl pu ⟨_, rfl, hz, po_val S p (.str _)⟩
    · exact p.elim
  · split at p
    · rename_i ds hq
      obtain ⟨a, xs, rfl, ht, t, z⟩ := hd.tupOf hq
      refine sl_tupA pins s σ H _ v vl vu lo hi sl Q I rx hs pl pu ⟨a, xs, rfl, ht, fun hw => ?_, fun _ => ?_⟩
      · rw [cutL_whole ds lo hi (by rw [t.length]; exact hw)] at p
        exact po_val S p (.tup ht z t)
      · exact po_tup S p (Nat.le_trans (cutL_le _ _ _) z) (t.cut lo hi)
    · split at p
      · rename_i ds hq
        obtain ⟨a, xs, rfl, ht, t, z⟩ := hd.lstOf S hq
        exact sl_list pins s σ H _ v vl vu lo hi sl Q I rx hs pl pu ⟨a, xs, rfl, ht, po_lst S p (Nat.le_trans (cutL_le _ _ _) z) (t.cut lo hi)⟩
      · exact p.elim

/-! ### o[i] = v -/
def setD (o i v : D) (st : Store) : Option Store :=
  match o with
  | .loc n => match st[n]? with
    | some (.lst ds) => match i with
      | .int k => (ixN ds.length k).map fun j => st.set n (.lst (ds.set j v))
      | _ => none
    | some (.dic kvs) => match keyOf i with
      | some k => if kvs.length < sizeLine then some (st.set n (.dic (dput kvs k v))) else none
      | none => none
    | none => none
  | _ => none
/-- what must follow upon a changed store -/
def Pt (K : PySem.W.Frag) (r : Rm) (st : Store) (H : Hp) (Q : Hp → Prop) (st' : Store) : Prop := ∀ r' H', Fw r r' st.length st'.length H H' → Sr K r' st' H' → Q H'
def rSet (K : PySem.W.Frag) : TSet := fun o i v H Q => ∃ (r : Rm) (st st' : Store) (a b c : D), Sr K r st H ∧ DV K H r st.length a o ∧ DV K H r st.length b i ∧ DV K H r st.length c v ∧ setD a b c st = some st' ∧ Pt K r st H Q st'
theorem pt_set {K : PySem.W.Frag} {r : Rm} {st : Store} {H : Hp} {Q : Hp → Prop} {i : Nat} {o : O} {ho : HO} (S : Sr K r st H) (h : Pt K r st H Q (st.set i o)) (hi : i < st.length) (t : OV K H r st.length o ho) : Q (upd H (r i) ho) := by
  have e : (st.set i o).length = st.length := List.length_set
  exact h r _ (by rw [e]; exact fw_set hi) (S.set hi t)
theorem set_G (hu : X.A.units + 1 < cLine) : PSet X (rSet X.K) := by
  intro pins s σ H o i v ov iv u Q I ro ri rv h
  obtain ⟨r, st, st', a, b, c, S, ha, hb, hc, e, q⟩ := h
  unfold setD at e
  split at e
  · rename_i nn
    cases ha with
    | loc hn =>
    obtain ⟨ho, h1, ob, h2, h3⟩ := S.at_ hn
    rw [h2] at e
    cases h3 with
    | lst z t =>
      simp only at e
      split at e
      · rename_i k
        cases hb
        rw [Option.map_eq_some_iff] at e
        obtain ⟨j, ej, rfl⟩ := e
        exact set_list pins s σ H _ _ v ov iv u Q I ro ri rv ⟨_, _, k, j, rfl, rfl, h1, by rw [← t.length]; exact ej, pt_set S q hn (.lst (by rw [List.length_set]; exact z) (t.set hc j))⟩
      · cases e
    | dic z nd t =>
      simp only at e
      split at e
      · rename_i k ek
        split at e
        · rename_i hl
          cases e
          have ex := hb.key ek
          subst ex
          obtain rfl : ov = Value.ref (r nn) := ro
          refine d_setItem hu I (DPut.k h1 (by rw [← t.length]; exact hl)) ri rv fun s' I' => ⟨_, I', pt_set S q hn (.dic ?_ (dput_nodup nd) (t.put k hc))⟩
          exact Nat.le_trans (dput_len _ _ _) hl
        · cases e
      · cases e
  · cases e
end

/-! ### insertion sorts, and that all sorts agree with them -/
section
variable {A : Type} (le : A → A → Bool)
def ins (a : A) : List A → List A
  | [] => [a]
  | b :: l => if le a b = true then a :: b :: l else b :: ins a l
def isort : List A → List A
  | [] => []
  | a :: l => ins le a (isort l)
theorem ins_perm (a : A) : ∀ l, (ins le a l).Perm (a :: l)
  | [] => .refl _
  | b :: l => by
    unfold ins
    split
    · exact .refl _
    · exact ((ins_perm a l).cons b).trans (.swap a b l)
theorem isort_perm : ∀ l, (isort le l).Perm l
  | [] => .refl _
  | a :: l => (ins_perm le a _).trans ((isort_perm l).cons a)
theorem ins_sorted (tr : ∀ a b c, le a b = true → le b c = true → le a c = true) (to : ∀ a b, le a b = true ∨ le b a = true) (a : A) : ∀ l, l.Pairwise (fun x y => le x y = true) → (ins le a l).Pairwise (fun x y => le x y = true)
  | [], _ => by simp [ins]
  | b :: l, h => by
    obtain ⟨h1, h2⟩ := List.pairwise_cons.mp h
    unfold ins
    split
    · rename_i hab
      exact List.pairwise_cons.mpr ⟨fun c hc => (List.mem_cons.mp hc).elim (fun e => by rw [e]; exact hab) fun hc => tr _ _ _ hab (h1 c hc), h⟩
    · rename_i hab
      have hba : le b a = true := (to a b).resolve_left hab
      refine List.pairwise_cons.mpr ⟨fun c hc => ?_, ins_sorted tr to a l h2⟩
      rcases List.mem_cons.mp ((ins_perm le a l).mem_iff.mp hc) with e | hc
      · rw [e]; exact hba
      · exact h1 c hc
theorem isort_sorted (tr : ∀ a b c, le a b = true → le b c = true → le a c = true) (to : ∀ a b, le a b = true ∨ le b a = true) : ∀ l, (isort le l).Pairwise (fun x y => le x y = true)
  | [] => .nil
  | a :: l => ins_sorted le tr to a _ (isort_sorted tr to l)
theorem sorted_uniq (an : ∀ a b, le a b = true → le b a = true → a = b) : ∀ {l m : List A}, l.Perm m → l.Pairwise (fun x y => le x y = true) → m.Pairwise (fun x y => le x y = true) → l = m
  | [], m, p, _, _ => (p.symm.eq_nil).symm
  | a :: l, [], p, _, _ => absurd p.length_eq (by simp)
  | a :: l, b :: m, p, h1, h2 => by
    obtain ⟨x1, y1⟩ := List.pairwise_cons.mp h1
    obtain ⟨x2, y2⟩ := List.pairwise_cons.mp h2
    have e : a = b := by
      rcases List.mem_cons.mp (p.mem_iff.mp (List.mem_cons_self (a := a) (l := l))) with e | ha
      · exact e
      · rcases List.mem_cons.mp (p.mem_iff.mpr (List.mem_cons_self (a := b) (l := m))) with e | hb
        · exact e.symm
        · exact an a b (x1 b hb) (x2 a ha)
    subst e
    rw [sorted_uniq an p.cons_inv y1 y2]
end
def leI (a b : Int) : Bool := decide (a ≤ b)
def leP (a b : Int × Int) : Bool := if a.1 = b.1 then decide (a.2 ≤ b.2) else decide (a.1 < b.1)
theorem leI_iff {a b : Int} : leI a b = true ↔ a ≤ b := by simp [leI]
theorem leP_iff {a b : Int × Int} : leP a b = true ↔ a.1 < b.1 ∨ (a.1 = b.1 ∧ a.2 ≤ b.2) := by
  unfold leP
  by_cases e : a.1 = b.1
  · rw [if_pos e, decide_eq_true_eq]; omega
  · rw [if_neg e, decide_eq_true_eq]; omega
def sortI (ns : List Int) : List Int := isort leI ns
def sortP (ps : List (Int × Int)) : List (Int × Int) := isort leP ps
theorem sortI_of {ns ms : List Int} (p : ms.Perm ns) (h : ms.Pairwise (· ≤ ·)) : ms = sortI ns := by
  refine sorted_uniq leI (fun a b h1 h2 => by rw [leI_iff] at h1 h2; omega) (p.trans (isort_perm leI ns).symm) (h.imp fun h => leI_iff.mpr h) (isort_sorted leI (fun a b c h1 h2 => ?_) (fun a b => ?_) ns)
  · rw [leI_iff] at *; omega
  · rw [leI_iff, leI_iff]; omega
theorem sortP_of {ns ms : List (Int × Int)} (p : ms.Perm ns) (h : ms.Pairwise (fun x y => leP x y = true)) : ms = sortP ns := by
  refine sorted_uniq leP (fun a b h1 h2 => ?_) (p.trans (isort_perm leP ns).symm) h (isort_sorted leP (fun a b c h1 h2 => ?_) (fun a b => ?_) ns)
  · rw [leP_iff] at h1 h2
    refine Prod.ext ?_ ?_ <;> omega
  · rw [leP_iff] at *; omega
  · rw [leP_iff, leP_iff]; omega

/-! ### lists of ints, of bools, of pairs -/
def intOf : D → Option Int
  | .int i => some i
  | _ => none
def blOf : D → Option Bool
  | .bl b => some b
  | _ => none
def prOf : D → Option (Int × Int)
  | .tup [.int i, .int j] => some (i, j)
  | _ => none
def allOf {A : Type} (f : D → Option A) : List D → Option (List A)
  | [] => some []
  | d :: ds => match f d, allOf f ds with
    | some a, some as => some (a :: as)
    | _, _ => none
theorem allOf_map {A B : Type} (f : D → Option A) (g : B → D) (k : B → A) (h : ∀ b, f (g b) = some (k b)) : ∀ l : List B, allOf f (l.map g) = some (l.map k)
  | [] => rfl
  | b :: l => by rw [List.map_cons, List.map_cons]; unfold allOf; rw [h b, allOf_map f g k h l]
theorem DVs.ints {K : PySem.W.Frag} {r : Rm} {H : Hp} {n : Nat} : ∀ {ds : List D} {vs : List V} {ns : List Int}, DVs K H r n ds vs → allOf intOf ds = some ns → vs = ns.map V.int ∧ ds = ns.map D.int
  | _, _, _, .nil, e => by cases e; exact ⟨rfl, rfl⟩
  | _, _, _, .cons a t, e => by
    unfold allOf at e
    split at e
    · rename_i i is h1 h2
      cases e
      obtain ⟨e1, e2⟩ := DVs.ints t h2
      cases a <;> simp [intOf] at h1
      subst h1
      rw [e1, e2]
      exact ⟨rfl, rfl⟩
    · cases e
theorem DVs.bls {K : PySem.W.Frag} {r : Rm} {H : Hp} {n : Nat} : ∀ {ds : List D} {vs : List V} {ns : List Bool}, DVs K H r n ds vs → allOf blOf ds = some ns → vs = ns.map V.bl
  | _, _, _, .nil, e => by cases e; rfl
  | _, _, _, .cons a t, e => by
    unfold allOf at e
    split at e
    · rename_i i is h1 h2
      cases e
      have e1 := DVs.bls t h2
      cases a <;> simp [blOf] at h1
      subst h1
      rw [e1]
      rfl
    · cases e
theorem dvs_ints {K : PySem.W.Frag} {r : Rm} {H : Hp} {n : Nat} : ∀ ns : List Int, DVs K H r n (ns.map D.int) (ns.map V.int)
  | [] => .nil
  | i :: ns => .cons (.int i) (dvs_ints ns)
end L2.G4

set_option maxHeartbeats 4000000
/-! GF: sorted over any sequence; the built-in functions by values. -/
namespace L2.G4
open PySem PySem.Spec PyProof.Rows

/-! ### sorted, over anything that is collected -/
section
variable {prog : Program} {w : World} {A : Around} {E : Value → Shared → Prop} {s : Shared}
theorem sorted_any {v : Value} {vs : List Value} {ltv : Value → Value → Bool} {Q : Value → Shared → Prop} (O : SrtO.Swo ltv) (hz : vs.length ≤ sizeLine)
    (hcol : ∀ Q' : List Value → Shared → Prop, (∀ h' t', (∀ b o, s.heap.get? b = some o → h'.get? b = some o) → Q' vs { s with heap := h', toks := t' }) → wpAny (model prog w) A.in1 (collect v) Q' E s)
    (hS : 2 ≤ vs.length → ∀ (h₁ : Heap) (t : Nat) (a : Addr), h₁.get? a = some (seqObj "list" vs.toArray 0) → (∀ b o, s.heap.get? b = some o → b ≠ a ∧ h₁.get? b = some o) → SrtO.SortableO prog w A.in1.in1 { s with heap := h₁, toks := t } a vs ltv)
    (h : ∀ (out : List Value) (h1 h' : Heap) (t : Nat), SrtO.Srtd ltv out → SrtO.Stb ltv out vs → (∀ b o, s.heap.get? b = some o → h1.get? b = some o) → (∀ b o, h1.get? b = some o → h'.get? b = some o) → (∃ n, h'.get? h1.objs.size = some (seqObj "list" out.toArray n)) → Q (.ref h1.objs.size) { s with heap := h', toks := t }) :
    wpAny (model prog w) A (call (.builtin "sorted") [v]) Q E s := by
  refine Calls.call_function_entry kind_sorted plain_sorted entry_sorted (args_sorted1 _) ?_
  unfold Builtin.«sorted»
  refine wpAny_bind (m := checkCount "sorted" 1 1 _) (wpAny_pure ?_)
  refine wpAny_bind (hcol _ fun h1 t1 k1 => ?_)
  refine wpAny_bind (wpAny_newList ?_ hz)
  have hoL : (h1.push (seqObj "list" vs.toArray 0)).get? h1.objs.size = some (seqObj "list" vs.toArray 0) := Heap.get?_push_size _ rfl
  have keep : ∀ b o, s.heap.get? b = some o → b ≠ h1.objs.size ∧ (h1.push (seqObj "list" vs.toArray 0)).get? b = some o := fun b o q =>
    ⟨Nat.ne_of_lt (Heap.lt_size (k1 b o q)), Heap.get?_push_of_some _ (k1 b o q)⟩
  show wpAny _ _ _ _ _ { s with heap := h1.push (seqObj "list" vs.toArray 0), toks := t1 }
  refine wpAny_bind (wpAny_holding (wpAny_call_entry slot_list_sort ⟨_, hoL, rfl⟩ entry_list_sort (SrtO.list_sort_ord O hoL hz (fun h2 => hS h2 _ _ _ hoL keep) fun out hs hb => ⟨_, rfl, ?_⟩) (args_list_sort _)))
  refine wpAny_pure ⟨_, rfl, h out h1 _ _ hs hb k1 (fun b o q => ?_) (sortedHeap_at hoL)⟩
  have hb' : b < h1.objs.size := Heap.lt_size q
  rw [sortedHeap_old (Nat.ne_of_lt hb') (by rw [size_push']; exact Nat.lt_succ_of_lt hb')]
  exact Heap.get?_push_of_some _ q
end

/-- a permutation on one side of a relation is one on the other -/
theorem perm_lift {A B : Type} {R : A → B → Prop} {bs bs' : List B} (p : bs'.Perm bs) : ∀ {as : List A}, Paired R as bs → ∃ as', as'.Perm as ∧ Paired R as' bs' := by
  induction p with
  | nil => intro as h; exact ⟨as, .refl _, h⟩
  | cons b p ih =>
    intro as h
    cases h with
    | cons r t =>
      obtain ⟨as', p1, p2⟩ := ih t
      exact ⟨_, p1.cons _, .cons r p2⟩
  | swap b c l =>
    intro as h
    cases h with
    | cons r t =>
      cases t with
      | cons r' t' => exact ⟨_, .swap _ _ _, .cons r' (.cons r t')⟩
  | trans p q ih1 ih2 =>
    intro as h
    obtain ⟨a1, x1, y1⟩ := ih2 h
    obtain ⟨a2, x2, y2⟩ := ih1 y1
    exact ⟨a2, x2.trans x1, y2⟩
/-- a plain value and the model's -/
def DVu (K : PySem.W.Frag) (H : Hp) (r : Rm) (n : Nat) (d : D) (u : Value) : Prop := ∃ v, DV K H r n d v ∧ RelV v u
section
variable {K : PySem.W.Frag} {r : Rm} {H : Hp} {n : Nat}
theorem DVs.vals : ∀ {ds : List D} {vs : List V} {us : List Value}, DVs K H r n ds vs → Vals vs us → Paired (DVu K H r n) ds us
  | _, _, _, .nil, .nil => .nil
  | _, _, _, .cons a t, .cons x y => .cons ⟨_, a, x⟩ (DVs.vals t y)
theorem dvs_of : ∀ {ds : List D} {us : List Value}, Paired (DVu K H r n) ds us → ∃ vs, DVs K H r n ds vs ∧ Vals vs us
  | _, _, .nil => ⟨[], .nil, .nil⟩
  | _, _, .cons ⟨v, a, x⟩ t => by
    obtain ⟨vs, b, y⟩ := dvs_of t
    exact ⟨v :: vs, .cons a b, .cons x y⟩
end
/-- the ints of a pair as it stands in the heap -/
def kOf (h : Heap) : Value → Int × Int
  | .ref a => match h.get? a with
    | some o => match o.data with
      | .seq its _ => match its.toList with
        | [.int i _, .int j _] => (i, j)
        | _ => (0, 0)
      | _ => (0, 0)
    | none => (0, 0)
  | _ => (0, 0)
theorem kOf_pair {h : Heap} {v : Value} {i j : Int} (p : Srt.IsPair h v i j) : kOf h v = (i, j) := by
  obtain ⟨a, o, t, u, n, rfl, e, c, d⟩ := p
  unfold kOf
  simp only [e, d]
section
variable {X : Cx} {pins : List (Addr × Obj)} {σ : St} {H : Hp} {s : Shared} {r : Rm} {n : Nat}
theorem pair_at (I : Inv X pins σ H s) {d : D} {p : Int × Int} {u : Value} (h : DVu X.K H r n d u) (e : prOf d = some p) : Srt.IsPair s.heap u p.1 p.2 := by
  obtain ⟨v, hd, ru⟩ := h
  unfold prOf at e
  split at e
  · cases e
    cases hd with
    | tup ht z t =>
      obtain rfl : u = Value.ref _ := ru
      obtain ⟨its, rv, ⟨o, ho, hc, m, hda⟩, _⟩ := I.tuple ht
      cases t with
      | cons a1 t1 =>
        cases t1 with
        | cons a2 t2 =>
          cases t2
          cases a1; cases a2
          obtain ⟨u1, u2, rfl, r1, r2⟩ := vals2 rv
          obtain ⟨t1, rfl⟩ := r1
          obtain ⟨t2, rfl⟩ := r2
          exact ⟨_, o, t1, t2, m, rfl, ho, hc, hda⟩
  · cases e
theorem prOf_inj {d : D} {p : Int × Int} (e : prOf d = some p) : d = .tup [.int p.1, .int p.2] := by
  unfold prOf at e
  split at e
  · cases e; rfl
  · cases e
theorem intOf_inj {d : D} {p : Int} (e : intOf d = some p) : d = .int p := by
  unfold intOf at e
  split at e
  · cases e; rfl
  · cases e
theorem allOf_paired {A : Type} {f : D → Option A} : ∀ {ds : List D} {as : List A}, allOf f ds = some as → Paired (fun d a => f d = some a) ds as
  | [], _, e => by cases e; exact .nil
  | d :: ds, _, e => by
    unfold allOf at e
    split at e
    · rename_i a as h1 h2
      cases e
      exact .cons h1 (allOf_paired h2)
    · cases e
theorem paired_map {A : Type} {f : D → Option A} {g : A → D} (h : ∀ d a, f d = some a → d = g a) : ∀ {ds : List D} {as : List A}, Paired (fun d a => f d = some a) ds as → ds = as.map g
  | _, _, .nil => rfl
  | _, _, .cons e t => by rw [List.map_cons, ← h _ _ e, ← paired_map h t]

/-- how a sequence is collected -/
theorem seq_collect (I : Inv X pins σ H s) {a : Addr} {xs : List V} (hq : SqL X.K H a xs ∨ SqT X.K H a xs) {A : Around} {E : Value → Shared → Prop} : 
    (∃ us, Vals xs us ∧ xs.length ≤ sizeLine ∧ ∀ Q' : List Value → Shared → Prop, (∀ h' t', (∀ b o, s.heap.get? b = some o → h'.get? b = some o) → Q' us { s with heap := h', toks := t' }) → wpAny (model X.prog X.w) A (collect (.ref a)) Q' E s) := by
  rcases hq with hq | hq
  · obtain ⟨us, rv, ⟨o, m, ho, hc, _, hd⟩, z⟩ := I.list hq
    have zz : us.toArray.size ≤ sizeLine := by rw [List.size_toArray, ← rv.length]; exact z
    exact ⟨us, rv, z, fun Q' q => PySem.wpAny_collect_seq a (.inl rfl) ho hc hd (fun h' k => by simpa using q h' s.toks k) zz⟩
  · obtain ⟨us, rv, ⟨o, ho, hc, m, hd⟩, z⟩ := I.tuple hq
    have zz : us.toArray.size ≤ sizeLine := by rw [List.size_toArray, ← rv.length]; exact z
    exact ⟨us, rv, z, fun Q' q => PySem.wpAny_collect_seq a (.inr rfl) ho hc hd (fun h' k => by simpa using q h' s.toks k) zz⟩
end
end L2.G4

set_option maxHeartbeats 4000000
/-! GG: sorted by values; the built-in functions. -/
namespace L2.G4
open PySem PySem.Spec PyProof.Rows

/-- the items sorted: ints, or pairs of ints -/
def srtD (ds : List D) : Option (List D) :=
  match allOf intOf ds with
  | some ns => some ((sortI ns).map D.int)
  | none => match allOf prOf ds with
    | some ps => some ((sortP ps).map fun p => .tup [.int p.1, .int p.2])
    | none => none
section
variable {X : Cx} {pins : List (Addr × Obj)} {σ : St} {H : Hp} {s : Shared}
theorem laid_list (I : Inv X pins σ H s) {r : Rm} {n : Nat} {h1 h' : Heap} {t' : Nat} {ds : List D} {out : List Value} {Q : VK} (k1 : ∀ b o, s.heap.get? b = some o → h1.get? b = some o) (k2 : ∀ b o, h1.get? b = some o → h'.get? b = some o)
    (ho : ∃ m, h'.get? h1.objs.size = some (seqObj "list" out.toArray m)) (z : ds.length ≤ sizeLine) (hp : Paired (DVu X.K H r n) ds out) (q : ∀ vs, DVs X.K H r n ds vs → ∀ p, H p = none → Q (.ref p) (upd H p (.lst vs))) :
    EP X pins σ Q (.ref h1.objs.size) { s with heap := h', toks := t' } := by
  obtain ⟨vs, hd, rv⟩ := dvs_of hp
  obtain ⟨m, hm⟩ := ho
  have I1 : Inv X pins σ H { s with heap := h1, toks := t' } := I.kept k1
  have zz : vs.length ≤ sizeLine := by rw [← hd.length]; exact z
  exact ⟨.ref h1.objs.size, upd H h1.objs.size (.lst vs), I1.laid (t' := t') k2 (Nat.le_refl _) (show ObjOk X.prog X.w _ _ _ (.lst vs) from ⟨zz, out, m, rv, hm⟩), rfl, q vs hd _ (I1.hok.fresh (Nat.le_refl _))⟩
theorem ints_of_dvu {K : PySem.W.Frag} {r : Rm} {n : Nat} {H : Hp} : ∀ {ns : List Int} {us : List Value}, Paired (DVu K H r n) (ns.map D.int) us → IntsAre us ns
  | [], _, .nil => .nil
  | i :: ns, _, .cons ⟨v, a, x⟩ t => by
    cases a
    obtain ⟨tk, rfl⟩ := x
    exact .cons i tk (ints_of_dvu t)
theorem paired_len {A B : Type} {R : A → B → Prop} {as : List A} {bs : List B} (h : Paired R as bs) : as.length = bs.length := Paired.length h
theorem paired_pw {A B : Type} {R : A → B → Prop} {P : A → A → Prop} {P' : B → B → Prop} (hPP : ∀ a b x y, R a x → R b y → P' x y → P a b) : ∀ {as : List A} {bs : List B}, Paired R as bs → bs.Pairwise P' → as.Pairwise P
  | _, _, .nil, _ => .nil
  | a :: as, b :: bs, .cons h t, w => by
    obtain ⟨w1, w2⟩ := List.pairwise_cons.mp w
    refine List.pairwise_cons.mpr ⟨fun c hc => ?_, paired_pw hPP t w2⟩
    have mem : ∀ {as : List A} {bs : List B}, Paired R as bs → ∀ c ∈ as, ∃ y ∈ bs, R c y := by
      intro as bs h
      induction h with
      | nil => intro c hc; cases hc
      | cons r t ih =>
        intro c hc
        rcases List.mem_cons.mp hc with rfl | hc
        · exact ⟨_, List.mem_cons_self, r⟩
        · obtain ⟨y, hy, ry⟩ := ih c hc
          exact ⟨y, List.mem_cons_of_mem _ hy, ry⟩
    obtain ⟨y, hy, ry⟩ := mem t c hc
    exact hPP _ _ _ _ h ry (w1 y hy)

/-- sorted(xs), what is walked is xs's items -/
theorem sorted_core (I : Inv X pins σ H s) {r : Rm} {n : Nat} {u : Value} {ds es : List D} {us : List Value} {Q : VK} {E : Value → Shared → Prop} (hp : Paired (DVu X.K H r n) ds us) (z : ds.length ≤ sizeLine)
    (hcol : ∀ Q' : List Value → Shared → Prop, (∀ h' t', (∀ b o, s.heap.get? b = some o → h'.get? b = some o) → Q' us { s with heap := h', toks := t' }) → wpAny (model X.prog X.w) X.A.in1 (collect u) Q' E s)
    (e : srtD ds = some es) (q : es.length ≤ sizeLine → ∀ vs, DVs X.K H r n es vs → ∀ p, H p = none → Q (.ref p) (upd H p (.lst vs))) :
    wpAny (model X.prog X.w) X.A (call (.builtin "sorted") [u]) (EP X pins σ Q) E s := by
  have zu : us.length ≤ sizeLine := by rw [← paired_len hp]; exact z
  unfold srtD at e
  split at e
  · rename_i ns hns
    cases e
    have ed : ds = ns.map D.int := paired_map (fun _ _ h => intOf_inj h) (allOf_paired hns)
    subst ed
    have hi := ints_of_dvu hp
    refine sorted_any SrtO.swo_int zu hcol (fun h2 h1 t1 a _ _ => SrtO.ints_sortable hi h2) fun out h1 h' t' s1 s2 k1 k2 ho => ?_
    obtain ⟨g1, g2, g3⟩ := SrtO.ints_out hi s1 s2
    have es : out.map SrtO.iv = sortI ns := sortI_of g2 g3
    rw [es] at g1
    have hl : ((sortI ns).map D.int).length ≤ sizeLine := by
      rw [List.length_map, ← es, g2.length_eq]
      rw [List.length_map] at z
      exact z
    refine laid_list I k1 k2 ho hl ?_ (q hl)
    have back : ∀ {ns : List Int} {us : List Value}, IntsAre us ns → Paired (DVu X.K H r n) (ns.map D.int) us := by
      intro ns us h
      induction h with
      | nil => exact .nil
      | cons i t h ih => exact .cons ⟨.int i, .int i, t, rfl⟩ ih
    exact back g1
  · split at e
    · rename_i ps hps
      cases e
      have ed : ds = ps.map fun p => .tup [.int p.1, .int p.2] := paired_map (fun _ _ h => prOf_inj h) (allOf_paired hps)
      have hpair : ∀ d u, d ∈ ds → DVu X.K H r n d u → ∃ p, prOf d = some p ∧ Srt.IsPair s.heap u p.1 p.2 := fun d u hd hu => by
        rw [ed] at hd
        obtain ⟨p, _, rfl⟩ := List.mem_map.mp hd
        exact ⟨p, rfl, pair_at I hu rfl⟩
      have hpv : ∀ u ∈ us, Srt.IsPair s.heap u (kOf s.heap u).1 (kOf s.heap u).2 := by
        have go : ∀ {ds' : List D} {us' : List Value}, Paired (DVu X.K H r n) ds' us' → (∀ d ∈ ds', d ∈ ds) → ∀ u ∈ us', Srt.IsPair s.heap u (kOf s.heap u).1 (kOf s.heap u).2 := by
          intro ds' us' h
          induction h with
          | nil => intro _ u hu; cases hu
          | cons r1 t ih =>
            intro hm u hu
            rcases List.mem_cons.mp hu with rfl | hu
            · obtain ⟨p, _, hp⟩ := hpair _ _ (hm _ List.mem_cons_self) r1
              rw [kOf_pair hp]; exact hp
            · exact ih (fun d hd => hm d (List.mem_cons_of_mem _ hd)) u hu
        exact go hp fun _ h => h
      refine sorted_any (SrtO.swo_lex (kOf s.heap)) zu hcol (fun h2 h1 t1 a ha kk => ?_) fun out h1 h' t' s1 s2 k1 k2 ho => ?_
      · refine SrtO.pairs_sortableO (s := { s with heap := h1, toks := t1 }) (by omega) (fun v hm => (hpv v hm).keeps fun b o e _ => (kk b o e).2) fun o e => ?_
        have e' : some o = some (seqObj "list" us.toArray 0) := e.symm.trans ha
        cases e'
        intro c
        exact absurd (Value.type.inj c) (by decide)
      · obtain ⟨ds', p1, p2⟩ := perm_lift s2.perm hp
        have mem' : ∀ d ∈ ds', d ∈ ds := fun d hd => p1.mem_iff.mp hd
        obtain ⟨qs, hqs⟩ : ∃ qs : List (Int × Int), ds' = qs.map fun p => .tup [.int p.1, .int p.2] := by
          have go : ∀ l : List D, (∀ d ∈ l, d ∈ ds) → ∃ qs : List (Int × Int), l = qs.map fun p => D.tup [.int p.1, .int p.2] := by
            intro l
            induction l with
            | nil => intro _; exact ⟨[], rfl⟩
            | cons d l ih =>
              intro hm
              obtain ⟨qs, hq⟩ := ih fun d hd => hm d (List.mem_cons_of_mem _ hd)
              have hd := hm d List.mem_cons_self
              rw [ed] at hd
              obtain ⟨p, _, hp⟩ := List.mem_map.mp hd
              exact ⟨p :: qs, by rw [List.map_cons, hq, hp]⟩
          exact go ds' mem'
        have inj : ∀ {a b : List (Int × Int)}, (a.map fun p => D.tup [.int p.1, .int p.2]).Perm (b.map fun p => D.tup [.int p.1, .int p.2]) → a.Perm b := fun {a b} h => by
          have := h.map fun d => (prOf d).getD (0, 0)
          rw [List.map_map, List.map_map] at this
          have e1 : ((fun d => (prOf d).getD (0, 0)) ∘ fun p : Int × Int => D.tup [.int p.1, .int p.2]) = id := by funext p; rfl
          rw [e1, List.map_id, List.map_id] at this
          exact this
        have pq : qs.Perm ps := inj (by rw [← hqs, ← ed]; exact p1)
        have pw : qs.Pairwise fun x y => leP x y = true := by
          have w1 : ds'.Pairwise fun a b => ∀ p p', prOf a = some p → prOf b = some p' → leP p p' = true := by
            refine paired_pw (R := fun d u => DVu X.K H r n d u) (P' := fun x y => SrtO.lexB (kOf s.heap y) (kOf s.heap x) = false) (fun a b x y ha hb w p p' e1 e2 => ?_) p2 s1
            have i1 := pair_at I ha e1
            have i2 := pair_at I hb e2
            rw [kOf_pair i1, kOf_pair i2, SrtO.lexB_no] at w
            rw [leP_iff]
            omega
          rw [hqs, List.pairwise_map] at w1
          exact w1.imp fun h => h _ _ rfl rfl
        have eq : qs = sortP ps := sortP_of pq pw
        have hl : ((sortP ps).map fun p => D.tup [.int p.1, .int p.2]).length ≤ sizeLine := by
          rw [List.length_map, ← eq, pq.length_eq]
          rw [ed, List.length_map] at z
          exact z
        refine laid_list I k1 k2 ho hl ?_ (q hl)
        rw [← eq, ← hqs]
        exact p2
    · cases e
end
end L2.G4

set_option maxHeartbeats 4000000
/-! GH: max and min of ints, with a default. -/
namespace L2.G4
open PySem PySem.Spec PyProof.Rows

def mxF (ns : List Int) (b : Int) : Int := ns.foldl (fun m x => if x > m then x else m) b
def mnF (ns : List Int) (b : Int) : Int := ns.foldl (fun m x => if x < m then x else m) b
section
variable {prog : Program} {w : World} {A : Around} {s : Shared}
/-- what is wanted of a built-in's tree -/
def Wfin (prog : Program) (w : World) (A : Around) (Q E : Value → Shared → Prop) (fin : PySem.Fin) (s' : Shared) : Prop :=
  match fin with
  | .done f => (match (Except.ok f : Result) with
    | .ok (.ret v) => Q v s'
    | .ok _ => False
    | .error e => E e s')
  | .again c => c.quiet = true ∧ codeAny (model prog w) A c (fun r s'' => match r with
    | .ok (.ret v) => Q v s''
    | .ok _ => False
    | .error e => E e s'') s'
theorem call_tree {id : String} {b : Builtin} {us : List Value} {kws : List (Str × Value)} {Q E : Value → Shared → Prop} (hk : builtinKind id = none) (hp : plainId id = true) (hb : entryFor table id = some b) (ok : argsOk id ⟨us, kws⟩)
    (h : wpAny (model prog w) A.in1 (b ⟨us, kws⟩) (Wfin prog w A Q E) E s) : wpAny (model prog w) A (call (.builtin id) us kws) Q E s := by
  refine wpAny_call (codeAny_call_builtin hp hb ?_)
  have h' := wpAny_mono h (Q' := fun fin s' => match fin with
    | .done f => (match (Except.ok f : Result) with
      | .ok (.ret v) => Q v s'
      | .ok _ => False
      | .error e => E e s')
    | .again c => c.quiet = true ∧ codeAny (model prog w) A c (fun r s'' => match r with
      | .ok (.ret v) => Q v s''
      | .ok _ => False
      | .error e => E e s'') s') (fun _ _ z => z) fun _ _ z => z
  unfold checkBuiltinCall
  rw [hk]
  simp only
  cases sg : Manifest.signature? id with
  | none => exact wpAny_pure h'
  | some g =>
    have ok' : Bind.checkArgs id g ⟨us, kws⟩ = pure () := by simpa only [argsOk, sg] using ok
    simp only [ok']
    exact wpAny_pure h'
theorem gt_ints {a b : Int} {t u : Tok} {Q : Value → Shared → Prop} {E : Value → Shared → Prop} (h : Q (.bool (decide (a > b))) s) : wpAny (model prog w) A (richCompare .Gt (.int a t) (.int b u)) Q E s :=
  CmpOf.ints_gt (P := fun i v => ∃ t, v = .int (if i = 0 then a else b) t) (fun i => if i = 0 then a else b) (fun _ _ h => h) 0 1 _ _ s Q E ⟨t, rfl⟩ ⟨u, rfl⟩ h
theorem lt_ints {a b : Int} {t u : Tok} {Q : Value → Shared → Prop} {E : Value → Shared → Prop} (h : Q (.bool (decide (a < b))) s) : wpAny (model prog w) A (richCompare .Lt (.int a t) (.int b u)) Q E s :=
  CmpOf.ints_lt (P := fun i v => ∃ t, v = .int (if i = 0 then a else b) t) (fun i => if i = 0 then a else b) (fun _ _ h => h) 0 1 _ _ s Q E ⟨t, rfl⟩ ⟨u, rfl⟩ h
end

section
variable {prog : Program} {w : World} {A : Around} {R : Result → Shared → Prop} {it : Addr} {fp wr : List Addr} {ns : List Int} {St : Nat → Heap → Prop}
abbrev IntAt_max (ns : List Int) (i : Nat) (v : Value) : Prop := ∃ t, v = Value.int (ns.getD i 0) t
theorem mx_loop (Wk : Walks prog w A.in1 it fp wr ns.length (IntAt_max ns) St) {best : Addr} (nb : best ∉ fp) (kws : List (Str × Value)) :
    ∀ (left j : Nat) (s : Shared) (b : Int) (tb : Tok) (ep : Nat), ns.length = j + left → St j s.heap → s.heap.get? best = some { cls := .type "list", data := .seq #[.int b tb, .int b tb] ep } →
    (∀ t h2 k2, (∀ a o, a ∉ wr → a ≠ best → s.heap.get? a = some o → h2.get? a = some o) → R (.ok (.ret (.int (mxF (ns.drop j) b) t))) { s with heap := h2, toks := k2 }) →
    codeAny (model prog w) A (.builtin "max.loop" ⟨[.ref it, .none, .ref best], kws⟩) R s := by
  have nw : best ∉ wr := fun z => nb (Wk.sub _ z)
  have nm : (toString "max" ++ toString ".loop" : String) = "max.loop" := by decide
  intro left
  induction left with
  | zero =>
    intro j s b tb ep hl hst hS fin
    have hj : ns.length = j := hl
    refine codeAny_builtin PySem.F.entry_max_loop ?_
    rw [Around.under_plainId PySem.F.plain_max_loop]
    show wpAny _ _ (seqItems? (.ref best) >>= _) _ _ _
    refine wpAny_bind (wpAny_seqItems hS rfl ?_)
    show wpAny _ _ (tryCatch (pyNext (.ref it)) _ >>= _) _ _ _
    refine wpAny_bind (wpAny_tryCatch (Wk.done s _ _ (by rw [hj]; exact hst) fun h1 k1 kp => ?_))
    have hS1 := kp best _ nw hS
    show wpAny _ _ (updateSeq best (fun _ => #[]) >>= _) _ _ _
    refine wpAny_bind (wpAny_updateSeq hS1 rfl (wpAny_bind (wpAny_letGo (wpAny_pure ?_))))
    have e0 : ns.drop j = [] := List.drop_eq_nil_of_le (by omega)
    have f := fin tb ((h1.update best (Obj.mapSeq fun _ => #[]))) k1 fun a o h1' h2' e => (Heap.get?_update_other _ _ (Ne.symm h2')).trans (kp a o h1' e)
    rw [e0] at f
    exact f
  | succ left ih =>
    intro j s b tb ep hl hst hS fin
    have hj : j < ns.length := by omega
    refine codeAny_builtin PySem.F.entry_max_loop ?_
    rw [Around.under_plainId PySem.F.plain_max_loop]
    show wpAny _ _ (seqItems? (.ref best) >>= _) _ _ _
    refine wpAny_bind (wpAny_seqItems hS rfl ?_)
    show wpAny _ _ (tryCatch (pyNext (.ref it)) _ >>= _) _ _ _
    refine wpAny_bind (wpAny_tryCatch (Wk.item j s _ _ hj hst fun v h1 k1 hv hst1 kp => ?_))
    obtain ⟨tv, rfl⟩ := hv
    have hS1 := kp best _ nw hS
    have ed : ns.drop j = ns.getD j 0 :: ns.drop (j + 1) := by
      rw [List.drop_eq_getElem_cons hj]
      congr 1
      rw [List.getD_eq_getElem?_getD, List.getElem?_eq_getElem hj]
      rfl
    show wpAny _ _ (tryCatch (holding [Value.int (ns.getD j 0) tv, Value.int (ns.getD j 0) tv] (richCompare .Gt (.int (ns.getD j 0) tv) (.int b tb) >>= _)) _ >>= _) _ _ _
    refine wpAny_bind (wpAny_tryCatch (wpAny_holding (wpAny_bind (gt_ints ?_))))
    refine wpAny_bind (wpAny_holding (wpAny_truthy_bool (wpAny_bind (wpAny_letGo (wpAny_pure ?_)))))
    by_cases hb : ns.getD j 0 > b
    · rw [decide_eq_true hb]
      simp only [if_true]
      refine wpAny_bind (wpAny_updateSeq hS1 rfl (wpAny_bind (wpAny_letGo ?_)))
      rw [nm]
      refine wpAny_pure ⟨plainId_quiet PySem.F.plain_max_loop _, ih (j + 1) _ (ns.getD j 0) tv _ (by omega) (Wk.frame _ _ _ hst1 fun a ha o e => ?_) (Heap.get?_update_self _ hS1 rfl) fun t h2 k2 kp2 => ?_⟩
      · exact (Heap.get?_update_other _ _ (fun z : best = a => nb (by rw [z]; exact ha))).trans e
      · have f := fin t h2 k2 fun a o x1 x2 e => kp2 a o x1 x2 ((Heap.get?_update_other _ _ (Ne.symm x2)).trans (kp a o x1 e))
        rw [ed] at f
        unfold mxF at f
        rw [List.foldl_cons, if_pos hb] at f
        exact f
    · rw [decide_eq_false hb]
      simp only [Bool.false_eq_true, if_false]
      refine wpAny_bind (wpAny_letGo ?_)
      rw [nm]
      refine wpAny_pure ⟨plainId_quiet PySem.F.plain_max_loop _, ih (j + 1) _ b tb ep (by omega) hst1 hS1 fun t h2 k2 kp2 => ?_⟩
      have f := fin t h2 k2 fun a o x1 x2 e => kp2 a o x1 x2 (kp a o x1 e)
      rw [ed] at f
      unfold mxF at f
      rw [List.foldl_cons, if_neg hb] at f
      exact f
/-- the loop's first turn: the first item, or the default -/
theorem mx_start (Wk : Walks prog w A.in1 it fp wr ns.length (IntAt_max ns) St) {best : Addr} (nb : best ∉ fp) (kws : List (Str × Value)) {s : Shared} {ep : Nat} (hst : St 0 s.heap)
    (hS : s.heap.get? best = some { cls := .type "list", data := .seq #[] ep })
    (fin : ∀ n l, ns = n :: l → ∀ t h2 k2, (∀ a o, a ∉ wr → a ≠ best → s.heap.get? a = some o → h2.get? a = some o) → R (.ok (.ret (.int (mxF l n) t))) { s with heap := h2, toks := k2 })
    (dft : ns = [] → ∃ x d r, kws = (x, d) :: r ∧ ∀ h2 k2, (∀ a o, a ∉ wr → s.heap.get? a = some o → h2.get? a = some o) → R (.ok (.ret d)) { s with heap := h2, toks := k2 }) :
    codeAny (model prog w) A (.builtin "max.loop" ⟨[.ref it, .none, .ref best], kws⟩) R s := by
  have nw : best ∉ wr := fun z => nb (Wk.sub _ z)
  have nm : (toString "max" ++ toString ".loop" : String) = "max.loop" := by decide
  refine codeAny_builtin PySem.F.entry_max_loop ?_
  rw [Around.under_plainId PySem.F.plain_max_loop]
  show wpAny _ _ (seqItems? (.ref best) >>= _) _ _ _
  refine wpAny_bind (wpAny_seqItems hS rfl ?_)
  show wpAny _ _ (tryCatch (pyNext (.ref it)) _ >>= _) _ _ _
  cases ens : ns with
  | nil =>
    obtain ⟨x, d, rr, ekw, q⟩ := dft ens
    subst ekw
    refine wpAny_bind (wpAny_tryCatch (Wk.done s _ _ (by rw [ens]; exact hst) fun h1 k1 kp => ?_))
    show wpAny _ _ (rule _ >>= _) _ _ _
    exact wpAny_bind (wpAny_rule (wpAny_pure (q h1 k1 kp)))
  | cons n l =>
    refine wpAny_bind (wpAny_tryCatch (Wk.item 0 s _ _ (by rw [ens]; exact Nat.succ_pos _) hst fun v h1 k1 hv hst1 kp => ?_))
    obtain ⟨tv, rfl⟩ := hv
    have hS1 := kp best _ nw hS
    have e0 : ns.getD 0 0 = n := by rw [ens]; rfl
    show wpAny _ _ (updateSeq best (fun _ => #[Value.int (ns.getD 0 0) tv, Value.int (ns.getD 0 0) tv]) >>= _) _ _ _
    refine wpAny_bind (wpAny_updateSeq hS1 rfl ?_)
    rw [nm]
    refine wpAny_pure ⟨plainId_quiet PySem.F.plain_max_loop _, mx_loop Wk nb kws l.length 1 _ (ns.getD 0 0) tv _ (by rw [ens]; simp [Nat.add_comm]) (Wk.frame _ _ _ hst1 fun a ha o e => ?_) (Heap.get?_update_self _ hS1 rfl) fun t h2 k2 kp2 => ?_⟩
    · exact (Heap.get?_update_other _ _ (fun z : best = a => nb (by rw [z]; exact ha))).trans e
    · have f := fin n l ens t h2 k2 fun a o x1 x2 e => kp2 a o x1 x2 ((Heap.get?_update_other _ _ (Ne.symm x2)).trans (kp a o x1 e))
      rw [e0, ens]
      exact f
end
section
variable {prog : Program} {w : World} {A : Around} {E : Value → Shared → Prop} {s : Shared}
theorem argsOk_max_d (a d : Value) : argsOk "max" ⟨[a], [(Str.ofString "default", d)]⟩ := by unfold argsOk; kernel_rfl
theorem argsOk_max_1 (a : Value) : argsOk "max" ⟨[a], []⟩ := by unfold argsOk; kernel_rfl
/-- max(x), max(x, default=d) by what pyIter gives -/
theorem mx_call {x : Value} {ns : List Int} {kws : List (Str × Value)} {dd : Option Value} {Q : Value → Shared → Prop} (hk : (kws = [] ∧ dd = none) ∨ ∃ d, kws = [(Str.ofString "default", d)] ∧ dd = some d)
    (h : wpAny (model prog w) A.in1 (pyIter x) (fun iv s2 => ∃ it fp wr St, iv = .ref it ∧ Walks prog w A.in1 it fp wr ns.length (IntAt_max ns) St ∧ St 0 s2.heap ∧ (∀ b ∈ fp, b < s2.heap.objs.size) ∧
      (∀ n l, ns = n :: l → ∀ t h' k', (∀ b o, b ∉ wr → s2.heap.get? b = some o → h'.get? b = some o) → Q (.int (mxF l n) t) { s2 with heap := h', toks := k' }) ∧
      (ns = [] → ∃ d, dd = some d ∧ ∀ h' k', (∀ b o, b ∉ wr → s2.heap.get? b = some o → h'.get? b = some o) → Q d { s2 with heap := h', toks := k' })) E s) :
    wpAny (model prog w) A (call (.builtin "max") [x] kws) Q E s := by
  have nm : (toString "max" ++ toString ".loop" : String) = "max.loop" := by decide
  have go : ∀ (dl : List Value), dl = dd.toList → kws = dl.map (fun d => (Str.ofString "default", d)) → wpAny (model prog w) A.in1 (do let iv ← pyIter x; again (.builtin (toString "max" ++ toString ".loop") ⟨[iv, Value.none, ← newList []], dl.map fun d => (Str.ofString "default", d)⟩))
      (Wfin prog w A Q E) E s := by
    intro dl e1 e2
    refine wpAny_bind (wpAny_mono h (fun iv s2 h2 => ?_) fun _ _ z => z)
    obtain ⟨it, fp, wr, St, rfl, Wk, hst, hfp, q1, q2⟩ := h2
    refine wpAny_bind (wpAny_newObj_type ?_)
    have nb : s2.heap.objs.size ∉ fp := fun z => Nat.lt_irrefl _ (hfp _ z)
    rw [nm]
    refine wpAny_pure ⟨plainId_quiet PySem.F.plain_max_loop _, mx_start Wk (best := s2.heap.objs.size) nb _ (Wk.frame _ _ _ hst fun b _ o e => Heap.get?_push_of_some _ e) (Heap.get?_push_size _ rfl) (fun n l en t h3 k3 kp => ?_) (fun en => ?_)⟩
    · exact q1 n l en t h3 k3 fun b o hb e => kp b o hb (Nat.ne_of_lt (Heap.lt_size e)) (Heap.get?_push_of_some _ e)
    · obtain ⟨d, ed, q⟩ := q2 en
      subst ed
      have e1 : dl = [d] := e1
      subst e1
      exact ⟨_, d, [], rfl, fun h3 k3 kp => q h3 k3 fun b o hb e => kp b o hb (Heap.get?_push_of_some _ e)⟩
  rcases hk with ⟨rfl, rfl⟩ | ⟨d, rfl, rfl⟩
  · refine call_tree PySem.F.kind_max PySem.F.plain_max PySem.F.entry_max (argsOk_max_1 _) ?_
    show wpAny _ _ (Builtin.Builtins.bindParams "max" ["key", "default"] 0 ⟨[], []⟩ >>= _) _ _ _
    refine wpAny_bind (wpAny_of_eq (show Builtin.Builtins.bindParams "max" ["key", "default"] 0 ⟨[], []⟩ = pure [none, none] from rfl) ?_)
    exact wpAny_bind (wpAny_pure (go [] rfl rfl))
  · refine call_tree PySem.F.kind_max PySem.F.plain_max PySem.F.entry_max (argsOk_max_d _ _) ?_
    show wpAny _ _ (Builtin.Builtins.bindParams "max" ["key", "default"] 0 ⟨[], [(Str.ofString "default", d)]⟩ >>= _) _ _ _
    refine wpAny_bind (wpAny_of_eq (show Builtin.Builtins.bindParams "max" ["key", "default"] 0 ⟨[], [(Str.ofString "default", d)]⟩ = pure [none, some d] from rfl) ?_)
    exact wpAny_bind (wpAny_pure (go [d] rfl rfl))
end

section
variable {prog : Program} {w : World} {A : Around} {R : Result → Shared → Prop} {it : Addr} {fp wr : List Addr} {ns : List Int} {St : Nat → Heap → Prop}
abbrev IntAt_min (ns : List Int) (i : Nat) (v : Value) : Prop := ∃ t, v = Value.int (ns.getD i 0) t
theorem mn_loop (Wk : Walks prog w A.in1 it fp wr ns.length (IntAt_min ns) St) {best : Addr} (nb : best ∉ fp) (kws : List (Str × Value)) :
    ∀ (left j : Nat) (s : Shared) (b : Int) (tb : Tok) (ep : Nat), ns.length = j + left → St j s.heap → s.heap.get? best = some { cls := .type "list", data := .seq #[.int b tb, .int b tb] ep } →
    (∀ t h2 k2, (∀ a o, a ∉ wr → a ≠ best → s.heap.get? a = some o → h2.get? a = some o) → R (.ok (.ret (.int (mnF (ns.drop j) b) t))) { s with heap := h2, toks := k2 }) →
    codeAny (model prog w) A (.builtin "min.loop" ⟨[.ref it, .none, .ref best], kws⟩) R s := by
  have nw : best ∉ wr := fun z => nb (Wk.sub _ z)
  have nm : (toString "min" ++ toString ".loop" : String) = "min.loop" := by decide
  intro left
  induction left with
  | zero =>
    intro j s b tb ep hl hst hS fin
    have hj : ns.length = j := hl
    refine codeAny_builtin PySem.F.entry_min_loop ?_
    rw [Around.under_plainId PySem.F.plain_min_loop]
    show wpAny _ _ (seqItems? (.ref best) >>= _) _ _ _
    refine wpAny_bind (wpAny_seqItems hS rfl ?_)
    show wpAny _ _ (tryCatch (pyNext (.ref it)) _ >>= _) _ _ _
    refine wpAny_bind (wpAny_tryCatch (Wk.done s _ _ (by rw [hj]; exact hst) fun h1 k1 kp => ?_))
    have hS1 := kp best _ nw hS
    show wpAny _ _ (updateSeq best (fun _ => #[]) >>= _) _ _ _
    refine wpAny_bind (wpAny_updateSeq hS1 rfl (wpAny_bind (wpAny_letGo (wpAny_pure ?_))))
    have e0 : ns.drop j = [] := List.drop_eq_nil_of_le (by omega)
    have f := fin tb ((h1.update best (Obj.mapSeq fun _ => #[]))) k1 fun a o h1' h2' e => (Heap.get?_update_other _ _ (Ne.symm h2')).trans (kp a o h1' e)
    rw [e0] at f
    exact f
  | succ left ih =>
    intro j s b tb ep hl hst hS fin
    have hj : j < ns.length := by omega
    refine codeAny_builtin PySem.F.entry_min_loop ?_
    rw [Around.under_plainId PySem.F.plain_min_loop]
    show wpAny _ _ (seqItems? (.ref best) >>= _) _ _ _
    refine wpAny_bind (wpAny_seqItems hS rfl ?_)
    show wpAny _ _ (tryCatch (pyNext (.ref it)) _ >>= _) _ _ _
    refine wpAny_bind (wpAny_tryCatch (Wk.item j s _ _ hj hst fun v h1 k1 hv hst1 kp => ?_))
    obtain ⟨tv, rfl⟩ := hv
    have hS1 := kp best _ nw hS
    have ed : ns.drop j = ns.getD j 0 :: ns.drop (j + 1) := by
      rw [List.drop_eq_getElem_cons hj]
      congr 1
      rw [List.getD_eq_getElem?_getD, List.getElem?_eq_getElem hj]
      rfl
    show wpAny _ _ (tryCatch (holding [Value.int (ns.getD j 0) tv, Value.int (ns.getD j 0) tv] (richCompare .Lt (.int (ns.getD j 0) tv) (.int b tb) >>= _)) _ >>= _) _ _ _
    refine wpAny_bind (wpAny_tryCatch (wpAny_holding (wpAny_bind (lt_ints ?_))))
    refine wpAny_bind (wpAny_holding (wpAny_truthy_bool (wpAny_bind (wpAny_letGo (wpAny_pure ?_)))))
    by_cases hb : ns.getD j 0 < b
    · rw [decide_eq_true hb]
      simp only [if_true]
      refine wpAny_bind (wpAny_updateSeq hS1 rfl (wpAny_bind (wpAny_letGo ?_)))
      rw [nm]
      refine wpAny_pure ⟨plainId_quiet PySem.F.plain_min_loop _, ih (j + 1) _ (ns.getD j 0) tv _ (by omega) (Wk.frame _ _ _ hst1 fun a ha o e => ?_) (Heap.get?_update_self _ hS1 rfl) fun t h2 k2 kp2 => ?_⟩
      · exact (Heap.get?_update_other _ _ (fun z : best = a => nb (by rw [z]; exact ha))).trans e
      · have f := fin t h2 k2 fun a o x1 x2 e => kp2 a o x1 x2 ((Heap.get?_update_other _ _ (Ne.symm x2)).trans (kp a o x1 e))
        rw [ed] at f
        unfold mnF at f
        rw [List.foldl_cons, if_pos hb] at f
        exact f
    · rw [decide_eq_false hb]
      simp only [Bool.false_eq_true, if_false]
      refine wpAny_bind (wpAny_letGo ?_)
      rw [nm]
      refine wpAny_pure ⟨plainId_quiet PySem.F.plain_min_loop _, ih (j + 1) _ b tb ep (by omega) hst1 hS1 fun t h2 k2 kp2 => ?_⟩
      have f := fin t h2 k2 fun a o x1 x2 e => kp2 a o x1 x2 (kp a o x1 e)
      rw [ed] at f
      unfold mnF at f
      rw [List.foldl_cons, if_neg hb] at f
      exact f
/-- the loop's first turn: the first item, or the default -/
theorem mn_start (Wk : Walks prog w A.in1 it fp wr ns.length (IntAt_min ns) St) {best : Addr} (nb : best ∉ fp) (kws : List (Str × Value)) {s : Shared} {ep : Nat} (hst : St 0 s.heap)
    (hS : s.heap.get? best = some { cls := .type "list", data := .seq #[] ep })
    (fin : ∀ n l, ns = n :: l → ∀ t h2 k2, (∀ a o, a ∉ wr → a ≠ best → s.heap.get? a = some o → h2.get? a = some o) → R (.ok (.ret (.int (mnF l n) t))) { s with heap := h2, toks := k2 })
    (dft : ns = [] → ∃ x d r, kws = (x, d) :: r ∧ ∀ h2 k2, (∀ a o, a ∉ wr → s.heap.get? a = some o → h2.get? a = some o) → R (.ok (.ret d)) { s with heap := h2, toks := k2 }) :
    codeAny (model prog w) A (.builtin "min.loop" ⟨[.ref it, .none, .ref best], kws⟩) R s := by
  have nw : best ∉ wr := fun z => nb (Wk.sub _ z)
  have nm : (toString "min" ++ toString ".loop" : String) = "min.loop" := by decide
  refine codeAny_builtin PySem.F.entry_min_loop ?_
  rw [Around.under_plainId PySem.F.plain_min_loop]
  show wpAny _ _ (seqItems? (.ref best) >>= _) _ _ _
  refine wpAny_bind (wpAny_seqItems hS rfl ?_)
  show wpAny _ _ (tryCatch (pyNext (.ref it)) _ >>= _) _ _ _
  cases ens : ns with
  | nil =>
    obtain ⟨x, d, rr, ekw, q⟩ := dft ens
    subst ekw
    refine wpAny_bind (wpAny_tryCatch (Wk.done s _ _ (by rw [ens]; exact hst) fun h1 k1 kp => ?_))
    show wpAny _ _ (rule _ >>= _) _ _ _
    exact wpAny_bind (wpAny_rule (wpAny_pure (q h1 k1 kp)))
  | cons n l =>
    refine wpAny_bind (wpAny_tryCatch (Wk.item 0 s _ _ (by rw [ens]; exact Nat.succ_pos _) hst fun v h1 k1 hv hst1 kp => ?_))
    obtain ⟨tv, rfl⟩ := hv
    have hS1 := kp best _ nw hS
    have e0 : ns.getD 0 0 = n := by rw [ens]; rfl
    show wpAny _ _ (updateSeq best (fun _ => #[Value.int (ns.getD 0 0) tv, Value.int (ns.getD 0 0) tv]) >>= _) _ _ _
    refine wpAny_bind (wpAny_updateSeq hS1 rfl ?_)
    rw [nm]
    refine wpAny_pure ⟨plainId_quiet PySem.F.plain_min_loop _, mn_loop Wk nb kws l.length 1 _ (ns.getD 0 0) tv _ (by rw [ens]; simp [Nat.add_comm]) (Wk.frame _ _ _ hst1 fun a ha o e => ?_) (Heap.get?_update_self _ hS1 rfl) fun t h2 k2 kp2 => ?_⟩
    · exact (Heap.get?_update_other _ _ (fun z : best = a => nb (by rw [z]; exact ha))).trans e
    · have f := fin n l ens t h2 k2 fun a o x1 x2 e => kp2 a o x1 x2 ((Heap.get?_update_other _ _ (Ne.symm x2)).trans (kp a o x1 e))
      rw [e0, ens]
      exact f
end
section
variable {prog : Program} {w : World} {A : Around} {E : Value → Shared → Prop} {s : Shared}
theorem argsOk_min_d (a d : Value) : argsOk "min" ⟨[a], [(Str.ofString "default", d)]⟩ := by unfold argsOk; kernel_rfl
theorem argsOk_min_1 (a : Value) : argsOk "min" ⟨[a], []⟩ := by unfold argsOk; kernel_rfl
/-- min(x), min(x, default=d) by what pyIter gives -/
theorem mn_call {x : Value} {ns : List Int} {kws : List (Str × Value)} {dd : Option Value} {Q : Value → Shared → Prop} (hk : (kws = [] ∧ dd = none) ∨ ∃ d, kws = [(Str.ofString "default", d)] ∧ dd = some d)
    (h : wpAny (model prog w) A.in1 (pyIter x) (fun iv s2 => ∃ it fp wr St, iv = .ref it ∧ Walks prog w A.in1 it fp wr ns.length (IntAt_min ns) St ∧ St 0 s2.heap ∧ (∀ b ∈ fp, b < s2.heap.objs.size) ∧
      (∀ n l, ns = n :: l → ∀ t h' k', (∀ b o, b ∉ wr → s2.heap.get? b = some o → h'.get? b = some o) → Q (.int (mnF l n) t) { s2 with heap := h', toks := k' }) ∧
      (ns = [] → ∃ d, dd = some d ∧ ∀ h' k', (∀ b o, b ∉ wr → s2.heap.get? b = some o → h'.get? b = some o) → Q d { s2 with heap := h', toks := k' })) E s) :
    wpAny (model prog w) A (call (.builtin "min") [x] kws) Q E s := by
  have nm : (toString "min" ++ toString ".loop" : String) = "min.loop" := by decide
  have go : ∀ (dl : List Value), dl = dd.toList → kws = dl.map (fun d => (Str.ofString "default", d)) → wpAny (model prog w) A.in1 (do let iv ← pyIter x; again (.builtin (toString "min" ++ toString ".loop") ⟨[iv, Value.none, ← newList []], dl.map fun d => (Str.ofString "default", d)⟩))
      (Wfin prog w A Q E) E s := by
    intro dl e1 e2
    refine wpAny_bind (wpAny_mono h (fun iv s2 h2 => ?_) fun _ _ z => z)
    obtain ⟨it, fp, wr, St, rfl, Wk, hst, hfp, q1, q2⟩ := h2
    refine wpAny_bind (wpAny_newObj_type ?_)
    have nb : s2.heap.objs.size ∉ fp := fun z => Nat.lt_irrefl _ (hfp _ z)
    rw [nm]
    refine wpAny_pure ⟨plainId_quiet PySem.F.plain_min_loop _, mn_start Wk (best := s2.heap.objs.size) nb _ (Wk.frame _ _ _ hst fun b _ o e => Heap.get?_push_of_some _ e) (Heap.get?_push_size _ rfl) (fun n l en t h3 k3 kp => ?_) (fun en => ?_)⟩
    · exact q1 n l en t h3 k3 fun b o hb e => kp b o hb (Nat.ne_of_lt (Heap.lt_size e)) (Heap.get?_push_of_some _ e)
    · obtain ⟨d, ed, q⟩ := q2 en
      subst ed
      have e1 : dl = [d] := e1
      subst e1
      exact ⟨_, d, [], rfl, fun h3 k3 kp => q h3 k3 fun b o hb e => kp b o hb (Heap.get?_push_of_some _ e)⟩
  rcases hk with ⟨rfl, rfl⟩ | ⟨d, rfl, rfl⟩
  · refine call_tree PySem.F.kind_min PySem.F.plain_min PySem.F.entry_min (argsOk_min_1 _) ?_
    show wpAny _ _ (Builtin.Builtins.bindParams "min" ["key", "default"] 0 ⟨[], []⟩ >>= _) _ _ _
    refine wpAny_bind (wpAny_of_eq (show Builtin.Builtins.bindParams "min" ["key", "default"] 0 ⟨[], []⟩ = pure [none, none] from rfl) ?_)
    exact wpAny_bind (wpAny_pure (go [] rfl rfl))
  · refine call_tree PySem.F.kind_min PySem.F.plain_min PySem.F.entry_min (argsOk_min_d _ _) ?_
    show wpAny _ _ (Builtin.Builtins.bindParams "min" ["key", "default"] 0 ⟨[], [(Str.ofString "default", d)]⟩ >>= _) _ _ _
    refine wpAny_bind (wpAny_of_eq (show Builtin.Builtins.bindParams "min" ["key", "default"] 0 ⟨[], [(Str.ofString "default", d)]⟩ = pure [none, some d] from rfl) ?_)
    exact wpAny_bind (wpAny_pure (go [d] rfl rfl))
end
end L2.G4

set_option maxHeartbeats 4000000
/-! GI: the built-in functions on plain values. -/
namespace L2.G4
open PySem PySem.Spec PyProof.Rows

section
variable {X : Cx} {pins : List (Addr × Obj)} {σ : St} {H : Hp} {s : Shared}
/-- a list or a tuple of ints begins to be walked -/
theorem iter_ints (I : Inv X pins σ H s) {A : Around} (hh : A.handled = none) {a : Addr} {ns : List Int} (hq : SqL X.K H a (ns.map V.int) ∨ SqT X.K H a (ns.map V.int)) {E : Value → Shared → Prop} :
    wpAny (model X.prog X.w) A (pyIter (.ref a)) (fun iv s2 => ∃ it fp wr St, iv = .ref it ∧ Walks X.prog X.w A it fp wr ns.length (fun i v => ∃ t, v = Value.int (ns.getD i 0) t) St ∧ St 0 s2.heap ∧ (∀ b ∈ fp, b < s2.heap.objs.size) ∧
      (∀ b o, s.heap.get? b = some o → b ∉ wr ∧ s2.heap.get? b = some o) ∧ s2 = { s with heap := s2.heap }) E s := by
  have mono : ∀ {it : Addr} {fp wr : List Addr} {n : Nat} {P P' : Nat → Value → Prop} {St : Nat → Heap → Prop}, Walks X.prog X.w A it fp wr n P St → (∀ i v, P i v → P' i v) → Walks X.prog X.w A it fp wr n P' St := fun W hP =>
    { sub := W.sub, frame := W.frame, item := fun i s Q E hi st q => W.item i s Q E hi st fun v h' tk hv => q v h' tk (hP i v hv), done := W.done, self := W.self }
  have at_ : ∀ {us : List Value}, Vals (ns.map V.int) us → ∀ i v, us.toArray[i]? = some v → ∃ t, v = Value.int (ns.getD i 0) t := fun {us} rv i v e => by
    have e' : us[i]? = some v := by simpa using e
    obtain ⟨n, t, rfl, en⟩ := rv.ints.at i v e'
    exact ⟨t, by rw [List.getD_eq_getElem?_getD, en]; rfl⟩
  rcases hq with hq | hq
  · obtain ⟨us, rv, pl, z⟩ := I.list hq
    have hl := pl.isList
    have hlt : a < s.heap.objs.size := by obtain ⟨_, e, _⟩ := hl; exact Heap.lt_size e
    have el : us.toArray.size = ns.length := by rw [List.size_toArray, ← rv.length, List.length_map]
    refine wpAny_pyIter_list hl ⟨s.heap.objs.size, _, _, _, rfl, el ▸ mono (Walks.list hh _ a (Nat.ne_of_lt hlt) us.toArray) (at_ rv), ⟨⟨_, Heap.get?_push_size _ rfl, rfl, rfl⟩, hl.push _⟩, fun b hb => ?_, fun b o e => ⟨?_, Heap.get?_push_of_some _ e⟩, rfl⟩
    · show b < (s.heap.push _).objs.size
      rw [Heap.size_push]
      simp only [List.mem_cons, List.not_mem_nil, or_false] at hb
      rcases hb with rfl | rfl
      · exact Nat.lt_succ_self _
      · exact Nat.lt_succ_of_lt hlt
    · simp only [List.mem_cons, List.not_mem_nil, or_false]
      exact Nat.ne_of_lt (Heap.lt_size e)
  · obtain ⟨us, rv, pl, z⟩ := I.tuple hq
    have hl : s.heap.IsTuple a us.toArray := pl
    have hlt : a < s.heap.objs.size := by obtain ⟨_, e, _⟩ := hl; exact Heap.lt_size e
    have el : us.toArray.size = ns.length := by rw [List.size_toArray, ← rv.length, List.length_map]
    refine wpAny_pyIter_tuple hl ⟨s.heap.objs.size, _, _, _, rfl, el ▸ mono (Walks.tuple hh _ a (Nat.ne_of_lt hlt) us.toArray) (at_ rv), ⟨⟨_, Heap.get?_push_size _ rfl, rfl, rfl⟩, hl.at fun o e => Heap.get?_push_of_some _ e⟩, fun b hb => ?_, fun b o e => ⟨?_, Heap.get?_push_of_some _ e⟩, rfl⟩
    · show b < (s.heap.push _).objs.size
      rw [Heap.size_push]
      simp only [List.mem_cons, List.not_mem_nil, or_false] at hb
      rcases hb with rfl | rfl
      · exact Nat.lt_succ_self _
      · exact Nat.lt_succ_of_lt hlt
    · simp only [List.mem_cons, List.not_mem_nil, or_false]
      exact Nat.ne_of_lt (Heap.lt_size e)
end

/-- max or min of a sequence of ints, the default where it is empty -/
def mmD (mx : Bool) (d : D) (dd : Option D) (st : Store) : Rz D :=
  match seqOf st d with
  | some ds => match allOf intOf ds with
    | some (n :: l) => .ok (.int (if mx = true then mxF l n else mnF l n)) st
    | some [] => match dd with
      | some x => .ok x st
      | none => .bad
    | none => .bad
  | none => .bad

section
variable {X : Cx}
theorem call_mm (hc : X.calm = true) (mx : Bool) {pins : List (Addr × Obj)} {s : Shared} {σ : St} {H : Hp} {mg : Str → Option Value} {W : Wx} {σ' : St} {r : Rm} {st : Store} {d : D} {x : V} {u : Value} {dd : Option D} {du : Option Value} {Q : VK} {kws : List (Str × Value)}
    (I : Inv X pins σ H s) (ru : RelV x u) (S : Sr X.K r st H) (hd : DV X.K H r st.length d x) (hk : (kws = [] ∧ du = none) ∨ ∃ d, kws = [(Str.ofString "default", d)] ∧ du = some d)
    (hdd : ∀ y, dd = some y → ∃ v w, du = some w ∧ RelV v w ∧ DV X.K H r st.length y v) (p : Po X.K mg W r st H σ' (Pv X.K Q) (mmD mx d dd st)) :
    wpAny (model X.prog X.w) X.A (call (.builtin (if mx then "max" else "min")) [u] kws) (EP X pins σ Q) X.xe s := by
  unfold mmD at p
  split at p
  · rename_i ds hs
    obtain ⟨a, xs, rfl, hq, t, z⟩ := hd.seqOf S hs
    obtain rfl : u = Value.ref a := ru
    have hq' : SqL X.K H a xs ∨ SqT X.K H a xs := hq.elim (fun z => .inl z.1) (fun z => .inr z.1)
    have core : ∀ ns, allOf intOf ds = some ns → (∀ n l, ns = n :: l → ∀ t s', Inv X pins σ H s' → EP X pins σ Q (.int (if mx = true then mxF l n else mnF l n) t) s') → (ns = [] → ∃ w, du = some w ∧ ∀ s', Inv X pins σ H s' → EP X pins σ Q w s') →
        wpAny (model X.prog X.w) X.A (call (.builtin (if mx then "max" else "min")) [.ref a] kws) (EP X pins σ Q) X.xe s := fun ns en q1 q2 => by
      obtain ⟨ex, _⟩ := t.ints en
      subst ex
      have it := iter_ints I (A := X.A.in1) (I.ok.hd hc) hq' (E := X.xe)
      cases mx with
      | true =>
        refine mx_call (ns := ns) hk (wpAny_mono it (fun iv s2 h2 => ?_) fun _ _ z => z)
        obtain ⟨j, fp, wr, St, e1, Wk, h0, hf, kp, es⟩ := h2
        refine ⟨j, fp, wr, St, e1, Wk, h0, hf, fun n l e t h' k' k2 => ?_, fun e => ?_⟩
        · rw [es]
          exact q1 n l e t _ (I.kept (t' := k') fun b o hb => k2 b o (kp b o hb).1 (kp b o hb).2)
        · obtain ⟨w, ew, q⟩ := q2 e
          refine ⟨w, ew, fun h' k' k2 => ?_⟩
          rw [es]
          exact q _ (I.kept (t' := k') fun b o hb => k2 b o (kp b o hb).1 (kp b o hb).2)
      | false =>
        refine mn_call (ns := ns) hk (wpAny_mono it (fun iv s2 h2 => ?_) fun _ _ z => z)
        obtain ⟨j, fp, wr, St, e1, Wk, h0, hf, kp, es⟩ := h2
        refine ⟨j, fp, wr, St, e1, Wk, h0, hf, fun n l e t h' k' k2 => ?_, fun e => ?_⟩
        · rw [es]
          exact q1 n l e t _ (I.kept (t' := k') fun b o hb => k2 b o (kp b o hb).1 (kp b o hb).2)
        · obtain ⟨w, ew, q⟩ := q2 e
          refine ⟨w, ew, fun h' k' k2 => ?_⟩
          rw [es]
          exact q _ (I.kept (t' := k') fun b o hb => k2 b o (kp b o hb).1 (kp b o hb).2)
    split at p
    · rename_i n l en
      refine core _ en (fun n' l' e t s' I' => ?_) (fun e => by cases e)
      cases e
      exact ⟨.int _, H, I', ⟨t, rfl⟩, po_val S p (.int _)⟩
    · rename_i en
      split at p
      · rename_i y
        obtain ⟨v, w, e1, e2, e3⟩ := hdd y rfl
        exact core _ en (fun n' l' e => by cases e) fun _ => ⟨w, e1, fun s' I' => ⟨v, H, I', e2, po_val S p e3⟩⟩
      · exact p.elim
    · exact p.elim
  · exact p.elim

/-! ### built-in functions by values -/
def rGs (K : PySem.W.Frag) (f : List D → Store → Rz D) : List V → Hp → VK → Prop := fun xs H Q => ∃ (mg : Str → Option Value) (W : Wx) (σ : St) (r : Rm) (st : Store) (ds : List D), Sr K r st H ∧ DVs K H r st.length ds xs ∧ Po K mg W r st H σ (Pv K Q) (f ds st)
inductive Blt where
  | len | abs | max | min | int | bool | str | sum | sorted | tuple | list | all | any | repr
  deriving DecidableEq
def Blt.val : Blt → Value
  | .len => .builtin "len" | .abs => .builtin "abs" | .max => .builtin "max" | .min => .builtin "min" | .int => .type "int" | .bool => .type "bool" | .str => .type "str"
  | .sum => .builtin "sum" | .sorted => .builtin "sorted" | .tuple => .type "tuple" | .list => .type "list" | .all => .builtin "all" | .any => .builtin "any" | .repr => .builtin "repr"
def lenD (d : D) (st : Store) : Option Int :=
  match d with
  | .str y => if y.length ≤ sizeLine then some (y.length : Int) else none
  | .byt y => if y.size ≤ sizeLine then some (y.size : Int) else none
  | d => match seqOf st d with
    | some ds => some (ds.length : Int)
    | none => match dicOf st d with
      | some kvs => some (kvs.length : Int)
      | none => none
def pyKey : Key → PyData
  | .inl i => .int i
  | .inr x => .str x
mutual
/-- data that may be shown, with dicts, without lists -/
def pyR : D → Option PyData
  | .non => some .none
  | .bl b => some (.bool b)
  | .int i => some (.int i)
  | .str x => some (.str x)
  | .byt _ => none
  | .tup ds => (pyRs ds).map .tuple
  | .lst _ => none
  | .fls _ => none
  | .loc _ => none
  | .dct ks ds => (pyRs ds).map fun ps => .dict ((ks.map pyKey).zip ps)
  | .exn _ _ _ _ => none
  | .fnv _ _ _ _ _ _ => none
def pyRs : List D → Option (List PyData)
  | [] => some []
  | d :: ds => match pyR d, pyRs ds with
    | some a, some b => some (a :: b)
    | _, _ => none
end
theorem pyRs_len : ∀ {ds : List D} {ps : List PyData}, pyRs ds = some ps → ps.length = ds.length
  | [], _, e => by simp only [pyRs, Option.some.injEq] at e; subst e; rfl
  | d :: ds, _, e => by
    simp only [pyRs] at e
    split at e
    · rename_i h1 h2
      cases e
      rw [List.length_cons, List.length_cons, pyRs_len h2]
    · cases e
def reprD (d : D) (st : Store) : Option Str :=
  match pyT st d with
  | some p => if p.showable = true ∧ p.hasDict = false ∧ p.depth ≤ 60 ∧ p.shown.length ≤ sizeLine then some p.shown else none
  | none => match pyR d with
    | some p => if p.showable = true ∧ p.depth ≤ 60 ∧ p.shown.length ≤ sizeLine then some p.shown else none
    | none => none
def keysI (kvs : List (Key × D)) : Option (List Int) := allOf intOf (kvs.map fun kv => dOfKey kv.1)
def bltD (b : Blt) (args : List D) (st : Store) : Rz D :=
  match b, args with
  | .len, [d] => match lenD d st with
    | some n => .ok (.int n) st
    | none => .bad
  | .abs, [.int i] => .ok (.int (if i < 0 then -i else i)) st
  | .max, [.int i, .int j] => .ok (.int (if j > i then j else i)) st
  | .min, [.int i, .int j] => .ok (.int (if j < i then j else i)) st
  | .max, [d] => mmD true d none st
  | .min, [d] => mmD false d none st
  | .int, [.int i] => .ok (.int i) st
  | .int, [.bl k] => .ok (.int (if k then 1 else 0)) st
  | .int, [.str a] => match intText? a with
    | some n => if a.length ≤ 640 then .ok (.int n) st else .bad
    | none => .bad
  | .bool, [.int i] => .ok (.bl (i != 0)) st
  | .bool, [.bl k] => .ok (.bl k) st
  | .str, [.int i] => if i.natAbs.log2 < 1920 then .ok (.str (toString i)) st else .bad
  | .sum, [d] => match lstOf st d with
    | some ds => match allOf intOf ds with
      | some ns => .ok (.int ns.sum) st
      | none => .bad
    | none => .bad
  | .sorted, [d] => match seqOf st d with
    | some ds => match srtD ds with
      | some es => .ok (.lst es) st
      | none => .bad
    | none => match dicOf st d with
      | some kvs => match keysI kvs with
        | some ks => if ks.length < 64 then .ok (.lst ((sortI ks).map D.int)) st else .bad
        | none => .bad
      | none => .bad
  | .tuple, [d] => match tupOf d with
    | some _ => .ok d st
    | none => match lstOf st d with
      | some ds => .ok (.tup ds) st
      | none => .bad
  | .list, [d] => match seqOf st d with
    | some ds => .ok (.lst ds) st
    | none => .bad
  | .all, [d] => match lstOf st d with
    | some ds => match allOf blOf ds with
      | some bs => .ok (.bl (bs.all id)) st
      | none => .bad
    | none => .bad
  | .any, [d] => match lstOf st d with
    | some ds => match allOf blOf ds with
      | some bs => .ok (.bl (bs.any id)) st
      | none => .bad
    | none => .bad
  | .repr, [d] => match reprD d st with
    | some x => .ok (.str x) st
    | none => .bad
  | _, _ => .bad

theorem DVs.one {K : PySem.W.Frag} {H : Hp} {r : Rm} {n : Nat} {d : D} {vs : List V} (h : DVs K H r n [d] vs) : ∃ v, vs = [v] ∧ DV K H r n d v := by
  cases h with
  | cons a t => cases t; exact ⟨_, rfl, a⟩
theorem DVs.two {K : PySem.W.Frag} {H : Hp} {r : Rm} {n : Nat} {d e : D} {vs : List V} (h : DVs K H r n [d, e] vs) : ∃ v u, vs = [v, u] ∧ DV K H r n d v ∧ DV K H r n e u := by
  cases h with
  | cons a t =>
    obtain ⟨u, rfl, b⟩ := t.one
    exact ⟨_, u, rfl, a, b⟩

theorem dict_keys {P : Program} {w : World} {h : Heap} : ∀ {es : List DictEntry} {vs : List (Key × Value)} {ks : List Key}, Pairs (mixKind P w) es vs → vs.map (·.1) = ks → ReadsAll h (es.map (·.key)) (ks.map pyKey) []
  | _, _, [], .nil, _ => .nil
  | _, _, _ :: _, .nil, e => by cases e
  | _, _, [], .cons _ _ _, e => by cases e
  | _, _, k :: ks, .cons h1 _ t, e => by
    rw [List.map_cons] at e
    injection e with e1 e2
    rw [List.map_cons, List.map_cons]
    subst e1
    have q := dict_keys (h := h) t e2
    rcases keyIs_shape h1 with ⟨i, t', e3, e4⟩ | ⟨x, t', e3, e4⟩
    · rw [e3, e4]; exact ReadsAll.cons (Reads.int i t') q
    · rw [e3, e4]; exact ReadsAll.cons (Reads.str x t') q
theorem dict_vals {P : Program} {w : World} : ∀ {es : List DictEntry} {vs : List (Key × Value)} {ys : List (Key × V)}, Pairs (mixKind P w) es vs → KV ys vs → Vals (ys.map (·.2)) (es.map (·.val)) ∧ vs.map (·.1) = ys.map (·.1)
  | _, _, _, .nil, .nil => ⟨.nil, rfl⟩
  | _, _, _, .cons _ h2 t, .cons r q => by
    obtain ⟨a, b⟩ := dict_vals t q
    rw [List.map_cons, List.map_cons, List.map_cons, List.map_cons, h2, b, r.1]
    exact ⟨.cons r.2 a, rfl⟩
section
variable {X : Cx} {pins : List (Addr × Obj)} {σ : St} {H : Hp} {s : Shared} {r : Rm} {n : Nat}
mutual
theorem DV.readsR (I : Inv X pins σ H s) : ∀ (d : D) (v : V) (u : Value) (p : PyData), DV X.K H r n d v → pyR d = some p → RelV v u → ∃ as, Reads s.heap u p as ∧ sysModules ∉ as
  | .non, _, _, _, .non, e, ru => by simp only [pyR, Option.some.injEq] at e; subst e; cases ru; exact ⟨_, Reads.none, by simp⟩
  | .bl b, _, _, _, .bl _, e, ru => by simp only [pyR, Option.some.injEq] at e; subst e; cases ru; exact ⟨_, Reads.bool b, by simp⟩
  | .int i, _, _, _, .int _, e, ru => by simp only [pyR, Option.some.injEq] at e; subst e; obtain ⟨t, rfl⟩ := ru; exact ⟨_, Reads.int i t, by simp⟩
  | .str x, _, _, _, .str _, e, ru => by simp only [pyR, Option.some.injEq] at e; subst e; obtain ⟨t, rfl⟩ := ru; exact ⟨_, Reads.str x t, by simp⟩
  | .byt _, _, _, _, _, e, _ => by simp [pyR] at e
  | .lst _, _, _, _, _, e, _ => by simp [pyR] at e
  | .fls _, _, _, _, _, e, _ => by simp [pyR] at e
  | .loc _, _, _, _, _, e, _ => by simp [pyR] at e
  | .exn _ _ _ _, _, _, _, _, e, _ => by simp [pyR] at e
  | .fnv _ _ _ _ _ _, _, _, _, _, e, _ => by simp [pyR] at e
  | .tup ds, _, _, _, .tup h z t, e, ru => by
    simp only [pyR, Option.map_eq_some_iff] at e
    obtain ⟨ps, e1, rfl⟩ := e
    cases ru
    obtain ⟨its, rv, ⟨o, ho, hc, m, hd⟩, _⟩ := I.tuple h
    obtain ⟨as, hr, hn⟩ := DVs.readsR I ds _ its ps t e1 rv
    exact ⟨_, Reads.tuple ho hc hd hr, hn⟩
  | .dct ks ds, _, _, _, .dct (xs := xs) h na l nd z t, e, ru => by
    simp only [pyR, Option.map_eq_some_iff] at e
    obtain ⟨ps, e1, rfl⟩ := e
    cases ru
    obtain ⟨_, hsm, vs, kv, o, es, ep, ho, hx, hd, _, hp, _⟩ := dk_of I.hok h
    obtain ⟨a1, a2⟩ := dict_vals hp kv
    have lx : ks.length = xs.length := l.trans t.length
    have ek : (ks.zip xs).map (·.1) = ks := zip_fst lx
    have ex : (ks.zip xs).map (·.2) = xs := by
      have go : ∀ {A B : Type} {l : List A} {m : List B}, l.length = m.length → (l.zip m).map (·.2) = m := by
        intro A B l
        induction l with
        | nil => intro m e; cases m with | nil => rfl | cons => cases e
        | cons a l ih =>
          intro m e
          cases m with
          | nil => cases e
          | cons b m => rw [List.zip_cons_cons, List.map_cons, ih (by simpa using e)]
      exact go lx
    rw [ek] at a2
    rw [ex] at a1
    obtain ⟨as, hr, hn⟩ := DVs.readsR I ds _ _ ps t e1 a1
    have lp : (ks.map pyKey).length = ps.length := by rw [List.length_map, pyRs_len e1]; exact l
    have q1 : ((ks.map pyKey).zip ps).map (·.1) = ks.map pyKey := zip_fst lp
    have q2 : ((ks.map pyKey).zip ps).map (·.2) = ps := by
      have go : ∀ {A B : Type} {l : List A} {m : List B}, l.length = m.length → (l.zip m).map (·.2) = m := by
        intro A B l
        induction l with
        | nil => intro m e; cases m with | nil => rfl | cons => cases e
        | cons a l ih =>
          intro m e
          cases m with
          | nil => cases e
          | cons b m => rw [List.zip_cons_cons, List.map_cons, ih (by simpa using e)]
      exact go lp
    refine ⟨_, Reads.dict ho hx.1 hd (as := []) (bs := as) (by rw [q1]; exact dict_keys hp a2) (by rw [q2]; exact hr), ?_⟩
    simp only [List.cons_append, List.nil_append, List.mem_cons, not_or]
    exact ⟨fun q => by rw [← q] at hsm; simp at hsm, hn⟩
theorem DVs.readsR (I : Inv X pins σ H s) : ∀ (ds : List D) (vs : List V) (us : List Value) (ps : List PyData), DVs X.K H r n ds vs → pyRs ds = some ps → Vals vs us → ∃ as, ReadsAll s.heap us ps as ∧ sysModules ∉ as
  | [], _, _, _, .nil, e, rv => by simp only [pyRs, Option.some.injEq] at e; subst e; cases rv; exact ⟨_, ReadsAll.nil, by simp⟩
  | d :: ds, _, _, _, .cons a t, e, rv => by
    simp only [pyRs] at e
    split at e
    · rename_i p q h1 h2
      cases e
      cases rv with
      | cons r1 r2 =>
        obtain ⟨as, g1, g2⟩ := DV.readsR I d _ _ p a h1 r1
        obtain ⟨bs, g3, g4⟩ := DVs.readsR I ds _ _ q t h2 r2
        exact ⟨_, ReadsAll.cons g1 g3, by rw [List.mem_append]; exact fun z => z.elim g2 g4⟩
    · cases e
end
end
theorem repr_ok (hu : X.A.units + 70 < cLine) (hg : X.A.guards = some []) {pins : List (Addr × Obj)} {s : Shared} {σ : St} {H : Hp} {r : Rm} {st : Store} {d : D} {v : V} {u : Value} {x : Str} {Q : VK}
    (I : Inv X pins σ H s) (ru : RelV v u) (S : Sr X.K r st H) (hd : DV X.K H r st.length d v) (e : reprD d st = some x) (q : Q (.str x) H) :
    wpAny (model X.prog X.w) X.A (call (.builtin "repr") [u]) (EP X pins σ Q) X.xe s := by
  unfold reprD at e
  split at e
  · rename_i p hp
    split at e
    · rename_i hc
      obtain ⟨h1, h2, h3, h4⟩ := hc
      cases e
      have dp := hd.dpT S hp
      obtain ⟨as, rd⟩ := Dp.reads I p v u dp ru
      cases dp with
      | non =>
        cases ru
        exact PySem.P.repr_of_none ⟨.str _, H, I.tok _, ⟨_, rfl⟩, q⟩
      | bl b =>
        cases ru
        refine PySem.P.repr_of_bool ⟨.str _, H, I.tok _, ⟨_, rfl⟩, ?_⟩
        exact q
      | int i =>
        obtain ⟨t, rfl⟩ := ru
        have h1' : i.natAbs.log2 < 1920 := by simpa [PyData.showable] using h1
        exact PySem.P.repr_of_int h1' ⟨.str _, H, I.tok _, ⟨_, rfl⟩, q⟩
      | str y =>
        obtain ⟨t, rfl⟩ := ru
        exact PySem.P.repr_of_str ⟨.str _, H, I.tok _, ⟨_, rfl⟩, q⟩ h4
      | lst hs ha =>
        cases ru
        exact PySem.repr_of_reads' rd h1 (fun z => by rw [h2] at z; cases z) hg (by omega) (fun _ _ z => z) (fun h' t tk k => ⟨.str _, H, I.kept (t' := tk) k, ⟨_, rfl⟩, q⟩) h4
      | tup hs ha =>
        cases ru
        exact PySem.repr_of_reads' rd h1 (fun z => by rw [h2] at z; cases z) hg (by omega) (fun _ _ z => z) (fun h' t tk k => ⟨.str _, H, I.kept (t' := tk) k, ⟨_, rfl⟩, q⟩) h4
    · cases e
  · rename_i hp
    split at e
    · rename_i p hr
      split at e
      · rename_i hc
        obtain ⟨h1, h2, h3⟩ := hc
        cases e
        obtain ⟨as, rd, hn⟩ := DV.readsR I d v u p hd hr ru
        have fin : ∀ a, v = .ref a → wpAny (model X.prog X.w) X.A (call (.builtin "repr") [u]) (EP X pins σ Q) X.xe s := fun a ea => by
          subst ea
          cases ru
          exact PySem.repr_of_reads' rd h1 (fun _ => hn) hg (by omega) (fun _ _ z => z) (fun h' t tk k => ⟨.str _, H, I.kept (t' := tk) k, ⟨_, rfl⟩, q⟩) h3
        cases hd with
        | non => simp [pyT, lstOf, py] at hp
        | bl b => simp [pyT, lstOf, py] at hp
        | int i => simp [pyT, lstOf, py] at hp
        | str x => simp [pyT, lstOf, py] at hp
        | byt b => simp [pyR] at hr
        | tup => exact fin _ rfl
        | lst => exact fin _ rfl
        | fls => exact fin _ rfl
        | loc => exact fin _ rfl
        | dct => exact fin _ rfl
        | exn => exact fin _ rfl
        | fnv => exact fin _ rfl
      · cases e
    · cases e
end
end L2.G4

set_option maxHeartbeats 4000000
/-! GJ: every built-in function at once; isinstance; methods of lists and dicts. -/
namespace L2.G4
open PySem PySem.Spec PyProof.Rows
section
variable {X : Cx}
theorem blsAll {K : PySem.W.Frag} {H : Hp} {r : Rm} {n : Nat} {ds : List D} {vs : List V} {bs : List Bool} (t : DVs K H r n ds vs) (e : allOf blOf ds = some bs) : vs = bs.map V.bl := t.bls e
theorem call_G (hc : X.calm = true) (hu : X.A.units + 70 < cLine) (b : Blt) (hg : b = .repr → X.A.guards = some []) : CallR X b.val (rGs X.K (bltD b)) := by
  intro pins s σ H xs us Q I rv h
  obtain ⟨mg, W, σ', r, st, ds, S, hds, p⟩ := h
  unfold bltD at p
  split at p
  · -- len
    obtain ⟨v, rfl, hd⟩ := hds.one
    split at p
    · rename_i n hn
      unfold lenD at hn
      split at hn
      · cases hd
        split at hn
        · rename_i z; cases hn
          exact call_len pins s σ H _ us Q I rv ⟨_, _, rfl, ⟨z, rfl⟩, po_val S p (.int _)⟩
        · cases hn
      · cases hd
        split at hn
        · rename_i z; cases hn
          exact call_len pins s σ H _ us Q I rv ⟨_, _, rfl, ⟨z, rfl⟩, po_val S p (.int _)⟩
        · cases hn
      · split at hn
        · rename_i es hs
          cases hn
          obtain ⟨a, ys, rfl, hq, t, z⟩ := hd.seqOf S hs
          exact call_len pins s σ H _ us Q I rv ⟨_, _, rfl, hq.elim (fun q => .inl ⟨ys, q.1, t.length⟩) (fun q => .inr ⟨ys, q.1, t.length⟩), po_val S p (.int _)⟩
        · split at hn
          · rename_i kvs hk
            cases hn
            obtain ⟨a, ys, rfl, hh, t, _, _⟩ := hd.dicOf S hk
            rw [t.length] at p
            exact call_lenD pins s σ H _ us Q I rv ⟨_, ys, rfl, hh, po_val S p (.int _)⟩
          · cases hn
    · exact p.elim
  · obtain ⟨v, rfl, hd⟩ := hds.one
    cases hd
    exact call_abs pins s σ H _ us Q I rv ⟨_, rfl, po_val S p (.int _)⟩
  · obtain ⟨v, u, rfl, hd, he⟩ := hds.two
    cases hd; cases he
    exact call_max2 hc pins s σ H _ us Q I rv ⟨_, _, rfl, po_val S p (.int _)⟩
  · obtain ⟨v, u, rfl, hd, he⟩ := hds.two
    cases hd; cases he
    exact call_min2 hc pins s σ H _ us Q I rv ⟨_, _, rfl, po_val S p (.int _)⟩
  · obtain ⟨v, rfl, hd⟩ := hds.one
    obtain ⟨u, rfl, ru⟩ := vals1 rv
    exact call_mm hc true I ru S hd (.inl ⟨rfl, rfl⟩) (fun _ z => by cases z) p
  · obtain ⟨v, rfl, hd⟩ := hds.one
    obtain ⟨u, rfl, ru⟩ := vals1 rv
    exact call_mm hc false I ru S hd (.inl ⟨rfl, rfl⟩) (fun _ z => by cases z) p
  · obtain ⟨v, rfl, hd⟩ := hds.one
    cases hd
    exact call_int1 pins s σ H _ us Q I rv (.inl ⟨_, rfl, po_val S p (.int _)⟩)
  · obtain ⟨v, rfl, hd⟩ := hds.one
    cases hd
    exact call_int1 pins s σ H _ us Q I rv (.inr ⟨_, rfl, po_val S p (.int _)⟩)
  · obtain ⟨v, rfl, hd⟩ := hds.one
    cases hd
    split at p
    · rename_i n hn
      split at p
      · rename_i z
        exact call_int_str pins s σ H _ us Q I rv ⟨_, _, rfl, hn, z, po_val S p (.int _)⟩
      · exact p.elim
    · exact p.elim
  · obtain ⟨v, rfl, hd⟩ := hds.one
    cases hd
    exact call_bool1 pins s σ H _ us Q I rv (.inl ⟨_, rfl, po_val S p (.bl _)⟩)
  · obtain ⟨v, rfl, hd⟩ := hds.one
    cases hd
    exact call_bool1 pins s σ H _ us Q I rv (.inr ⟨_, rfl, po_val S p (.bl _)⟩)
  · obtain ⟨v, rfl, hd⟩ := hds.one
    cases hd
    split at p
    · rename_i z
      exact call_str_int pins s σ H _ us Q I rv ⟨_, rfl, z, po_val S p (.str _)⟩
    · exact p.elim
  · -- sum
    obtain ⟨v, rfl, hd⟩ := hds.one
    split at p
    · rename_i es hs
      split at p
      · rename_i ns hn
        obtain ⟨a, ys, rfl, hq, t, z⟩ := hd.lstOf S hs
        obtain ⟨e1, _⟩ := t.ints hn
        subst e1
        exact cr_sum hc pins s σ H _ us Q I rv ⟨a, ns, rfl, hq, po_val S p (.int _)⟩
      · exact p.elim
    · exact p.elim
  · -- sorted
    obtain ⟨v, rfl, hd⟩ := hds.one
    split at p
    · rename_i es hs
      split at p
      · rename_i fs hf
        obtain ⟨a, ys, rfl, hq, t, z⟩ := hd.seqOf S hs
        obtain ⟨u, rfl, ru⟩ := vals1 rv
        obtain rfl : u = Value.ref a := ru
        obtain ⟨ws, rw', zw, col⟩ := seq_collect I (hq.elim (fun z => .inl z.1) (fun z => .inr z.1)) (A := X.A.in1) (E := X.xe)
        exact sorted_core I (t.vals rw') z col hf fun zl vs hv => po_lst S p zl hv
      · exact p.elim
    · split at p
      · rename_i kvs hk
        split at p
        · rename_i ks hks
          split at p
          · rename_i hl
            obtain ⟨a, ys, rfl, hh, t, z, nd⟩ := hd.dicOf S hk
            have ek : ys.map (·.1) = ks.map Sum.inl := by
              rw [t.keys]
              have go : ∀ (l : List (Key × D)) (ks : List Int), allOf intOf (l.map fun kv => dOfKey kv.1) = some ks → l.map (·.1) = ks.map Sum.inl := by
                intro l
                induction l with
                | nil => intro ks e; cases e; rfl
                | cons kv l ih =>
                  intro ks e
                  rw [List.map_cons] at e
                  unfold allOf at e
                  split at e
                  · rename_i i is h1 h2
                    cases e
                    rw [List.map_cons, List.map_cons, ih is h2]
                    congr 1
                    cases hkk : kv.1 with
                    | inl j =>
                      rw [hkk] at h1
                      have h1 : some j = some i := h1
                      cases h1; rfl
                    | inr y => rw [hkk] at h1; cases h1
                  · cases e
              exact go kvs ks hks
            refine call_sortedDI hc pins s σ H _ us Q I rv ⟨_, ys, ks, rfl, .inl hh, ek, hl, fun zs q p1 p2 hq => ?_⟩
            have es := sortI_of p1 p2
            subst es
            refine po_lst S p ?_ (dvs_ints _) q hq
            rw [List.length_map, p1.length_eq]
            exact Nat.le_trans (Nat.le_of_lt hl) (by decide)
          · exact p.elim
        · exact p.elim
      · exact p.elim
  · -- tuple
    obtain ⟨v, rfl, hd⟩ := hds.one
    split at p
    · rename_i es he
      obtain ⟨a, ys, rfl, hq, t, z⟩ := hd.tupOf he
      exact call_tuple_of pins s σ H _ us Q I rv ⟨a, ys, rfl, .inr ⟨hq, po_val S p hd⟩⟩
    · split at p
      · rename_i es hs
        obtain ⟨a, ys, rfl, hq, t, z⟩ := hd.lstOf S hs
        exact call_tuple_of pins s σ H _ us Q I rv ⟨a, ys, rfl, .inl ⟨hq, po_tup S p z t⟩⟩
      · exact p.elim
  · -- list
    obtain ⟨v, rfl, hd⟩ := hds.one
    split at p
    · rename_i es hs
      obtain ⟨a, ys, rfl, hq, t, z⟩ := hd.seqOf S hs
      exact call_list_of pins s σ H _ us Q I rv ⟨a, ys, rfl, hq.elim (fun z => .inl z.1) (fun z => .inr z.1), po_lst S p z t⟩
    · exact p.elim
  · -- all
    obtain ⟨v, rfl, hd⟩ := hds.one
    split at p
    · rename_i es hs
      split at p
      · rename_i bs hb
        obtain ⟨a, ys, rfl, hq, t, z⟩ := hd.lstOf S hs
        have ey := t.bls hb
        subst ey
        exact cr_all hc pins s σ H _ us Q I rv ⟨a, bs, rfl, hq, po_val S p (.bl _)⟩
      · exact p.elim
    · exact p.elim
  · -- any
    obtain ⟨v, rfl, hd⟩ := hds.one
    split at p
    · rename_i es hs
      split at p
      · rename_i bs hb
        obtain ⟨a, ys, rfl, hq, t, z⟩ := hd.lstOf S hs
        have ey := t.bls hb
        subst ey
        exact cr_any hc pins s σ H _ us Q I rv ⟨a, bs, rfl, hq, po_val S p (.bl _)⟩
      · exact p.elim
    · exact p.elim
  · -- repr
    obtain ⟨v, rfl, hd⟩ := hds.one
    split at p
    · rename_i x hx
      obtain ⟨u, rfl, ru⟩ := vals1 rv
      exact repr_ok hu (hg rfl) I ru S hd hx (po_val S p (.str _))
    · exact p.elim
  · exact p.elim
end

/-! ### isinstance of a built-in class -/
def tyD (d : D) (st : Store) : String :=
  match d with
  | .non => "NoneType"
  | .bl _ => "bool"
  | .int _ => "int"
  | .str _ => "str"
  | .byt _ => "bytes"
  | .tup _ => "tuple"
  | .lst _ => "list"
  | .fls _ => "list"
  | .dct _ _ => "dict"
  | .exn _ _ _ _ => ""
  | .fnv _ _ _ _ _ _ => ""
  | .loc n => match st[n]? with
    | some (.dic _) => "dict"
    | _ => "list"
def isExn : D → Bool
  | .exn .. => true
  | .fnv .. => true
  | _ => false
def isiD (T : String) (d : D) (st : Store) : Rz D := if isExn d = true then .bad else match kitB (tyD d st) T with
  | some b => .ok (.bl b) st
  | none => .bad
section
variable {X : Cx}
theorem SqT.ty {K : PySem.W.Frag} {H : Hp} {a : Addr} {xs : List V} (h : SqT K H a xs) : TyX K H (.ref a) (.type "tuple") := by
  rcases h with (h | ⟨o, h⟩) | ⟨o, its, n, hk, hc, hs, hz, r⟩
  · exact .base (.tup h)
  · exact .fTuple h
  · exact .kTuple hk hc
theorem FzL.ty {K : PySem.W.Frag} {H : Hp} {a : Addr} {xs : List V} (h : FzL K H a xs) : TyX K H (.ref a) (.type "list") := by
  rcases h with ⟨o, h⟩ | h
  · exact .base (.frz h)
  · rcases h with (h | ⟨o, h⟩) | ⟨o, its, n, hk, hc, hd, hs, hz, r⟩
    · cases h
    · cases h
    · exact .kList hk hc
theorem DV.ty {K : PySem.W.Frag} {H : Hp} {r : Rm} {st : Store} {d : D} {v : V} (S : Sr K r st H) (h : DV K H r st.length d v) (hx : isExn d ≠ true) : TyX K H v (.type (tyD d st)) := by
  cases h with
  | non => exact .base .non
  | bl b => exact .base (.bl b)
  | int i => exact .base (.int i)
  | str x => exact .base (.str x)
  | byt b => exact .byt b
  | tup h z t => exact G4.SqT.ty h
  | lst h na z t => exact .base (.lst h)
  | fls h z t => exact G4.FzL.ty h
  | dct h na l nd z t => exact .base (.dK h)
  | exn => exact absurd rfl hx
  | fnv => exact absurd rfl hx
  | loc hi =>
    obtain ⟨ho, h1, o, h2, h3⟩ := S.at_ hi
    unfold tyD
    simp only [h2]
    cases h3 with
    | lst => exact .base (.lst h1)
    | dic => exact .base (.dK h1)
theorem call_isiG (T : String) : CallR X (.builtin "isinstance") (fun xs H Q => ∃ (mg : Str → Option Value) (W : Wx) (σ : St) (r : Rm) (st : Store) (d : D) (v : V), xs = [v, .ty T] ∧ Sr X.K r st H ∧ DV X.K H r st.length d v ∧ Po X.K mg W r st H σ (Pv X.K Q) (isiD T d st)) := by
  intro pins s σ H xs us Q I rv h
  obtain ⟨mg, W, σ', r, st, d, v, rfl, S, hd, p⟩ := h
  unfold isiD at p
  split at p
  · exact p.elim
  · rename_i hx
    split at p
    · rename_i b hb
      exact call_isi pins s σ H _ us Q I rv ⟨v, .ty T, _, _, b, rfl, .ty T, hd.ty S hx, kit_ty hb, po_val S p (.bl _)⟩
    · exact p.elim
end

/-! ### methods that change a list -/
inductive Mth where
  | append | extend | pop
  deriving DecidableEq
def Mth.id : Mth → String
  | .append => "list.append"
  | .extend => "list.extend"
  | .pop => "list.pop"
def mthD (m : Mth) (d : D) (args : List D) (st : Store) : Rz D :=
  match d with
  | .loc n => match st[n]? with
    | some (.lst ds) => match m, args with
      | .append, [x] => if ds.length < sizeLine then .ok .non (st.set n (.lst (ds ++ [x]))) else .bad
      | .extend, [.fls _] => .bad
      | .extend, [x] => match lstOf st x with
        | some es => if ds.length + es.length ≤ sizeLine then .ok .non (st.set n (.lst (ds ++ es))) else .bad
        | none => .bad
      | .pop, [.int i] => if -(2 ^ 63) ≤ i ∧ i < 2 ^ 63 then match seqIndex? i ds.length with
        | some k => match ds[k]? with
          | some y => .ok y (st.set n (.lst (ds.eraseIdx k)))
          | none => .bad
        | none => .bad
        else .bad
      | .pop, [] => match ds[ds.length - 1]? with
        | some y => .ok y (st.set n (.lst ds.dropLast))
        | none => .bad
      | _, _ => .bad
    | _ => .bad
  | _ => .bad
section
variable {X : Cx}
theorem mt_G (m : Mth) : MtR X m.id (fun x xs H Q => ∃ (mg : Str → Option Value) (W : Wx) (σ : St) (r : Rm) (st : Store) (d : D) (ds : List D), Sr X.K r st H ∧ DV X.K H r st.length d x ∧ DVs X.K H r st.length ds xs ∧ Po X.K mg W r st H σ (Pv X.K Q) (mthD m d ds st)) := by
  intro pins s σ H x xs v us Q I rx rxs h
  obtain ⟨mg, W, σ', r, st, d, as, S, hd, has, p⟩ := h
  unfold mthD at p
  split at p
  · rename_i n
    cases hd with
    | loc hn =>
    obtain ⟨ho, h1, ob, h2, h3⟩ := S.at_ hn
    rw [h2] at p
    cases h3 with
    | dic => exact p.elim
    | lst z t =>
    simp only at p
    split at p
    · obtain ⟨y, rfl, hy⟩ := has.one
      split at p
      · rename_i hl
        exact mt_append pins s σ H _ _ v us Q I rx rxs ⟨_, _, y, rfl, rfl, h1, by rw [← t.length]; exact hl, po_set S p hn (.lst (by rw [List.length_append]; exact hl) (t.append (.cons hy .nil))) .non⟩
      · exact p.elim
    · exact p.elim
    · obtain ⟨y, rfl, hy⟩ := has.one
      rename_i nf
      split at p
      · rename_i es he
        split at p
        · rename_i hl
          obtain ⟨b, zs, rfl, hb, tb, zb⟩ := hy.lstH S he (fun fs z => nf fs (by rw [z]))
          exact mt_extend pins s σ H _ _ v us Q I rx rxs ⟨_, b, _, zs, rfl, rfl, h1, hb, by rw [← t.length, ← tb.length]; exact hl, po_set S p hn (.lst (by rw [List.length_append]; exact hl) (t.append tb)) .non⟩
        · exact p.elim
      · exact p.elim
    · obtain ⟨y, rfl, hy⟩ := has.one
      cases hy
      split at p
      · rename_i hi
        split at p
        · rename_i k hk
          split at p
          · rename_i y' ey
            obtain ⟨w', ew, dw⟩ := t.get ey
            exact mt_popAt pins s σ H _ _ v us Q I rx rxs ⟨_, _, _, k, w', rfl, rfl, h1, hi.1, hi.2, by rw [← t.length]; exact hk, ew, po_set S p hn (.lst (Nat.le_trans (List.length_eraseIdx_le _ _) z) (t.eraseIdx k)) dw⟩
          · exact p.elim
        · exact p.elim
      · exact p.elim
    · cases has
      split at p
      · rename_i y' ey
        obtain ⟨w', ew, dw⟩ := t.get ey
        have hdl : ∀ {ds : List D} {vs : List V}, DVs X.K H r st.length ds vs → DVs X.K H r st.length ds.dropLast vs.dropLast := fun {ds vs} h => by
          rw [List.dropLast_eq_take, List.dropLast_eq_take, ← h.length]
          exact h.take _
        exact mt_pop pins s σ H _ _ v us Q I rx rxs ⟨_, _, w', rfl, rfl, h1, by rw [← t.length]; exact ew, po_set S p hn (.lst (by rw [List.length_dropLast]; omega) (hdl t)) dw⟩
      · exact p.elim
    · exact p.elim
  · exact p.elim
end
end L2.G4

set_option maxHeartbeats 4000000
/-! GK: readings by what a piece of syntax does to plain values; one rule a construct. -/
namespace L2.G4
open PySem PySem.Spec PyProof.Rows

abbrev Fe (A : Type) := Env → Store → Rz A
section
variable (K : PySem.W.Frag) (mg : Str → Option Value) (W : Wx)
def tE (f : Fe D) : TE := fun σ H Q => ∃ (r : Rm) (env : Env) (st : Store), Wd K r env st σ H ∧ Po K mg W r st H σ (Pv K Q) (f env st)
def tT (f : Fe Bool) : TT := fun σ H Q => ∃ (r : Rm) (env : Env) (st : Store), Wd K r env st σ H ∧ Po K mg W r st H σ (fun b _ _ H' => Q b H') (f env st)
def tA (f : Fe (List D)) : TA := fun σ H Q => ∃ (r : Rm) (env : Env) (st : Store), Wd K r env st σ H ∧ Po K mg W r st H σ (Pvs K Q) (f env st)
end
abbrev SE (X : Cx) (W : Wx) (e : Expr) (f : Fe D) : Prop := PE X e (tE X.K X.mg W f)
abbrev ST (X : Cx) (W : Wx) (e : Expr) (f : Fe Bool) : Prop := PT X e (tT X.K X.mg W f)
abbrev SW (X : Cx) (W : Wx) (e : Expr) (f : Fe Bool) : Prop := PW X e (tT X.K X.mg W f)
abbrev SA (X : Cx) (W : Wx) (es : List Expr) (f : Fe (List D)) : Prop := PA X es (tA X.K X.mg W f)

theorem PE.imp {X : Cx} {e : Expr} {t t' : TE} (h : PE X e t) (i : ∀ σ H Q, t' σ H Q → t σ H Q) : PE X e t' := ⟨fun pins s σ H Q I q => h.run pins s σ H Q I (i σ H Q q)⟩
theorem PT.imp {X : Cx} {e : Expr} {t t' : TT} (h : PT X e t) (i : ∀ σ H Q, t' σ H Q → t σ H Q) : PT X e t' := ⟨fun pins s σ H Q I q => h.run pins s σ H Q I (i σ H Q q)⟩
theorem PW.imp {X : Cx} {e : Expr} {t t' : TT} (h : PW X e t) (i : ∀ σ H Q, t' σ H Q → t σ H Q) : PW X e t' := ⟨fun wh pins s σ H Q I q => h.run wh pins s σ H Q I (i σ H Q q)⟩
theorem PA.imp {X : Cx} {es : List Expr} {t t' : TA} (h : PA X es t) (i : ∀ σ H Q, t' σ H Q → t σ H Q) : PA X es t' := ⟨fun pos pins s σ H Q I q => h.run pos pins s σ H Q I (i σ H Q q)⟩

section
variable {K : PySem.W.Frag} {mg : Str → Option Value} {W : Wx} {r r' : Rm} {env : Env} {st st' : Store} {σ : St} {H H' : Hp}
theorem Wd.fw (wd : Wd K r env st σ H) (F : Fw r r' st.length st'.length H H') (S : Sr K r' st' H') : Wd K r' env st' σ H' := ⟨S, wd.ev.fw wd.sr F⟩
/-- one step, then the rest: the reading of the first -/
theorem tE_then {f : Fe D} {B : Type} {g : D → Store → Rz B} {Qb : B → (Rm) → Store → Hp → Prop} {Q : VK} (wd : Wd K r env st σ H) (p : Po K mg W r st H σ Qb ((f env st).bind g))
    (h : ∀ d r' st' H' v, Wd K r' env st' σ H' → DV K H' r' st'.length d v → Fw r r' st.length st'.length H H' → Po K mg W r' st' H' σ Qb (g d st') → Q v H') : tE K mg W f σ H Q :=
  ⟨r, env, st, wd, p.first.mono fun d r' st' H' _ F S q v hv => h d r' st' H' v (wd.fw F S) hv F q⟩
theorem tT_then {f : Fe Bool} {B : Type} {g : Bool → Store → Rz B} {Qb : B → (Rm) → Store → Hp → Prop} {Q : Bool → Hp → Prop} (wd : Wd K r env st σ H) (p : Po K mg W r st H σ Qb ((f env st).bind g))
    (h : ∀ b r' st' H', Wd K r' env st' σ H' → Fw r r' st.length st'.length H H' → Po K mg W r' st' H' σ Qb (g b st') → Q b H') : tT K mg W f σ H Q :=
  ⟨r, env, st, wd, p.first.mono fun b r' st' H' _ F S q => h b r' st' H' (wd.fw F S) F q⟩
theorem tA_then {f : Fe (List D)} {B : Type} {g : List D → Store → Rz B} {Qb : B → (Rm) → Store → Hp → Prop} {Q : List V → Hp → Prop} (wd : Wd K r env st σ H) (p : Po K mg W r st H σ Qb ((f env st).bind g))
    (h : ∀ ds r' st' H' vs, Wd K r' env st' σ H' → DVs K H' r' st'.length ds vs → Fw r r' st.length st'.length H H' → Po K mg W r' st' H' σ Qb (g ds st') → Q vs H') : tA K mg W f σ H Q :=
  ⟨r, env, st, wd, p.first.mono fun ds r' st' H' _ F S q vs hv => h ds r' st' H' vs (wd.fw F S) hv F q⟩
end

/-! ### what the semantics of each construct is -/
def fVar (i : Nat) : Fe D := fun env st => match env[i]? with
  | some (some d) => .ok d st
  | _ => .bad
def fCon (d : D) : Fe D := fun _ st => .ok d st
def fBin (f : D → D → Store → Rz D) (a b : Fe D) : Fe D := fun env st => (a env st).bind fun x st1 => (b env st1).bind fun y st2 => f x y st2
def fUn (f : D → Store → Rz D) (a : Fe D) : Fe D := fun env st => (a env st).bind f
def fTru (a : Fe D) : Fe Bool := fun env st => (a env st).bind fun x st1 => match truD x st1 with
  | some b => .ok b st1
  | none => .bad
def fIf {A : Type} (t : Fe Bool) (a b : Fe A) : Fe A := fun env st => (t env st).bind fun k st1 => if k = true then a env st1 else b env st1
def fNotT (t : Fe Bool) : Fe Bool := fun env st => (t env st).bind fun k st1 => .ok (!k) st1
def fNotV (a : Fe D) : Fe D := fun env st => (fTru a env st).bind fun k st1 => .ok (.bl (!k)) st1
def fAndT (a b : Fe Bool) : Fe Bool := fun env st => (a env st).bind fun k st1 => if k = true then b env st1 else .ok false st1
def fOrT (a b : Fe Bool) : Fe Bool := fun env st => (a env st).bind fun k st1 => if k = true then .ok true st1 else b env st1
def fAndV (a b : Fe D) : Fe D := fun env st => (a env st).bind fun x st1 => match truD x st1 with
  | some k => if k = true then b env st1 else .ok x st1
  | none => .bad
def fOrV (a b : Fe D) : Fe D := fun env st => (a env st).bind fun x st1 => match truD x st1 with
  | some k => if k = true then .ok x st1 else b env st1
  | none => .bad
def fNil : Fe (List D) := fun _ st => .ok [] st
def fCons (a : Fe D) (t : Fe (List D)) : Fe (List D) := fun env st => (a env st).bind fun x st1 => (t env st1).bind fun xs st2 => .ok (x :: xs) st2
def fTup (t : Fe (List D)) : Fe D := fun env st => (t env st).bind fun xs st1 => if xs.length ≤ sizeLine then .ok (.tup xs) st1 else .bad
def fLst (t : Fe (List D)) : Fe D := fun env st => (t env st).bind fun xs st1 => if xs.length ≤ sizeLine then .ok (.lst xs) st1 else .bad
def fNew (t : Fe (List D)) : Fe D := fun env st => (t env st).bind fun xs st1 => if xs.length ≤ sizeLine then .ok (.loc st1.length) (st1 ++ [.lst xs]) else .bad
def fNewD : Fe D := fun _ st => .ok (.loc st.length) (st ++ [.dic []])
def fCmp2 (f g : D → D → Store → Rz D) (a b c : Fe D) : Fe D := fun env st => (a env st).bind fun x st1 => (b env st1).bind fun y st2 => (f x y st2).bind fun z st3 => match z with
  | .bl k => if k = true then (c env st3).bind fun w st4 => g y w st4 else .ok (.bl false) st3
  | _ => .bad
def fArgs {A : Type} (f : List D → Store → Rz A) (t : Fe (List D)) : Fe A := fun env st => (t env st).bind f

section
variable {X : Cx} {W : Wx} {e a b c : Expr} {es : List Expr} {pos : Pos}
theorem se_var {i : Nat} {x : Str} (hN : X.N[i]? = some x) (hv : Vis X.env.scope x) (hd : (x == ("__debug__" : Str)) = false) (hcd : (x == ("__classdict__" : Str)) = false) : SE X W (.Name x pos) (fVar i) := by
  refine PE.imp (pe_var (i := i) hN hv hd hcd) fun σ H Q ⟨r, env, st, wd, p⟩ => ?_
  unfold fVar at p
  split at p
  · rename_i d e
    obtain ⟨v, h1, h2⟩ := wd.ev.at_ i d e
    exact ⟨v, h1, po_val wd.sr p h2⟩
  · exact p.elim
theorem se_con {d : D} {v : V} (h : PE X e (tC v)) (hd : ∀ H r n, DV X.K H r n d v) : SE X W e (fCon d) :=
  PE.imp h fun σ H Q ⟨r, env, st, wd, p⟩ => po_val wd.sr p (hd _ _ _)
theorem se_bin {op : Operator} (ha : SE X W a fa) (hb : SE X W b fb) : SE X W (.BinOp a op b pos) (fBin (binD op) fa fb) := by
  refine PE.imp (pe_op (op_binG op) ha hb) fun σ H Q ⟨r, env, st, wd, p⟩ => ?_
  refine tE_then wd p fun d r1 st1 H1 v w1 dv F1 p1 => tE_then w1 p1 fun d2 r2 st2 H2 v2 w2 dv2 F2 p2 => ?_
  exact ⟨_, W, σ, r2, st2, d, d2, w2.sr, dv.fw w1.sr F2, dv2, p2⟩
theorem se_cmp {op : CmpOp} (hu : X.A.units + 65 < cLine) (ha : SE X W a fa) (hb : SE X W b fb) (hm : behindInMarks op b = false) : SE X W (.Compare a [op] [b] pos) (fBin (cmpD op) fa fb) := by
  refine PE.imp (pe_cmpR (op_cmpG hu op) ha hb hm) fun σ H Q ⟨r, env, st, wd, p⟩ => ?_
  refine tE_then wd p fun d r1 st1 H1 v w1 dv F1 p1 => tE_then w1 p1 fun d2 r2 st2 H2 v2 w2 dv2 F2 p2 => ?_
  exact ⟨_, W, σ, r2, st2, d, d2, w2.sr, dv.fw w1.sr F2, dv2, p2⟩
/-- what a comparison hands back is a bool -/
theorem cmpD_bl {op : CmpOp} {d e : D} {st st' : Store} {x : D} (h : cmpD op d e st = .ok x st') : (∃ k, x = .bl k) ∧ st' = st := by
  unfold cmpD at h
  cases op <;> simp only at h <;> (repeat' (split at h)) <;> first | (cases h; exact ⟨⟨_, rfl⟩, rfl⟩) | cases h
theorem cmpD_noexc {op : CmpOp} {d e : D} {st st' : Store} {x : Ex} : cmpD op d e st ≠ .exc x st' := by
  intro h
  unfold cmpD at h
  cases op <;> simp only at h <;> (repeat' (split at h)) <;> cases h
def fCmpT (op : CmpOp) (a b : Fe D) : Fe Bool := fun env st => (fBin (cmpD op) a b env st).bind fun x st1 => match x with
  | .bl k => .ok k st1
  | _ => .bad
theorem bind_assoc3 {A B C : Type} (x : Rz A) (f : A → Store → Rz B) (g : B → Store → Rz C) : (x.bind f).bind g = x.bind fun a s => (f a s).bind g := Rz.bind_bind x f g
theorem st_cmp {op : CmpOp} (hu : X.A.units + 65 < cLine) (ha : SE X W a fa) (hb : SE X W b fb) (hm : behindInMarks op b = false) : ST X W (.Compare a [op] [b] pos) (fCmpT op fa fb) := by
  refine PT.imp (pt_cmpR (op_cmpG hu op) ha hb hm) fun σ H Q ⟨r, env, st, wd, p⟩ => ?_
  unfold fCmpT fBin at p
  rw [Rz.bind_bind] at p
  refine tE_then wd p fun d r1 st1 H1 v w1 dv F1 p1 => ?_
  rw [Rz.bind_bind] at p1
  refine tE_then w1 p1 fun d2 r2 st2 H2 v2 w2 dv2 F2 p2 => ?_
  refine ⟨_, W, σ, r2, st2, d, d2, w2.sr, dv.fw w1.sr F2, dv2, p2.first.mono fun z r3 st3 H3 e3 F3 S3 p3 v3 dv3 => ?_⟩
  obtain ⟨⟨k, rfl⟩, _⟩ := cmpD_bl e3
  cases dv3
  exact ⟨k, rfl, p3.here S3⟩
theorem se_cmp2 {op op' : CmpOp} (hu : X.A.units + 65 < cLine) (ha : SE X W a fa) (hb : SE X W b fb) (hc : SE X W c fc) (hm : lastMarks [op, op'] [b, c] = false) : SE X W (.Compare a [op, op'] [b, c] pos) (fCmp2 (cmpD op) (cmpD op') fa fb fc) := by
  refine PE.imp (pe_chain (op_cmpG hu op) (op_cmpG hu op') ha hb hc hm) fun σ H Q ⟨r, env, st, wd, p⟩ => ?_
  refine tE_then wd p fun d r1 st1 H1 v w1 dv F1 p1 => tE_then w1 p1 fun d2 r2 st2 H2 v2 w2 dv2 F2 p2 => ?_
  refine ⟨_, W, σ, r2, st2, d, d2, w2.sr, dv.fw w1.sr F2, dv2, p2.first.mono fun z r3 st3 H3 e3 F3 S3 p3 v3 dv3 => ?_⟩
  obtain ⟨⟨k, rfl⟩, _⟩ := cmpD_bl e3
  cases dv3
  refine ⟨k, rfl, ?_⟩
  have w3 := w2.fw F3 S3
  cases k with
  | true =>
    refine tE_then w3 p3 fun d4 r4 st4 H4 v4 w4 dv4 F4 p4 => ?_
    exact ⟨_, W, σ, r4, st4, d2, d4, w4.sr, (dv2.fw w2.sr F3).fw S3 F4, dv4, p4⟩
  | false => exact po_val S3 p3 (.bl false)
def fBoolT (f : Fe D) : Fe Bool := fun env st => (f env st).bind fun x st1 => match x with
  | .bl k => .ok k st1
  | _ => .bad
theorem st_cmp2 {op op' : CmpOp} (hu : X.A.units + 65 < cLine) (ha : SE X W a fa) (hb : SE X W b fb) (hc : SE X W c fc) (hm : lastMarks [op, op'] [b, c] = false) : ST X W (.Compare a [op, op'] [b, c] pos) (fBoolT (fCmp2 (cmpD op) (cmpD op') fa fb fc)) := by
  refine PT.imp (pt_chain (op_cmpG hu op) (op_cmpG hu op') ha hb hc hm) fun σ H Q ⟨r, env, st, wd, p⟩ => ?_
  unfold fBoolT fCmp2 at p
  rw [Rz.bind_bind] at p
  refine tE_then wd p fun d r1 st1 H1 v w1 dv F1 p1 => ?_
  rw [Rz.bind_bind] at p1
  refine tE_then w1 p1 fun d2 r2 st2 H2 v2 w2 dv2 F2 p2 => ?_
  rw [Rz.bind_bind] at p2
  refine ⟨_, W, σ, r2, st2, d, d2, w2.sr, dv.fw w1.sr F2, dv2, p2.first.mono fun z r3 st3 H3 e3 F3 S3 p3 v3 dv3 => ?_⟩
  obtain ⟨⟨k, rfl⟩, _⟩ := cmpD_bl e3
  cases dv3
  refine ⟨k, rfl, ?_⟩
  have w3 := w2.fw F3 S3
  cases k with
  | true =>
    simp only [if_true] at p3
    rw [Rz.bind_bind] at p3
    refine tE_then w3 p3 fun d4 r4 st4 H4 v4 w4 dv4 F4 p4 => ?_
    refine ⟨_, W, σ, r4, st4, d2, d4, w4.sr, (dv2.fw w2.sr F3).fw S3 F4, dv4, p4.first.mono fun z r5 st5 H5 e5 F5 S5 p5 v5 dv5 => ?_⟩
    obtain ⟨⟨k, rfl⟩, _⟩ := cmpD_bl e5
    cases dv5
    exact ⟨k, rfl, p5.here S5⟩
  | false => exact ⟨false, rfl, p3.here S3⟩
theorem st_tru (ha : SE X W a fa) (he : ∀ whole, isTrue a X.env whole = (do let v ← whole; standAt a.pos; holding [v] (truthy v))) : ST X W a (fTru fa) := by
  refine PT.imp (pt_truth ha he) fun σ H Q ⟨r, env, st, wd, p⟩ => ?_
  refine tE_then wd p fun d r1 st1 H1 v w1 dv F1 p1 => ?_
  split at p1
  · rename_i k hk
    exact ⟨k, tru_ok' w1.sr dv hk, p1.here w1.sr⟩
  · exact p1.elim
theorem st_not {ft : Fe Bool} (ha : ST X W a ft) : ST X W (.UnaryOp .Not a pos) (fNotT ft) := by
  refine PT.imp (pt_not ha) fun σ H Q ⟨r, env, st, wd, p⟩ => ?_
  exact tT_then wd p fun k r1 st1 H1 w1 F1 p1 => p1.here w1.sr
theorem se_not (ha : SE X W a fa) : SE X W (.UnaryOp .Not a pos) (fNotV fa) := by
  refine PE.imp (pe_notT ha) fun σ H Q ⟨r, env, st, wd, p⟩ => ?_
  unfold fNotV fTru at p
  rw [Rz.bind_bind] at p
  refine tE_then wd p fun d r1 st1 H1 v w1 dv F1 p1 => ?_
  split at p1
  · rename_i k hk
    exact ⟨k, tru_ok' w1.sr dv hk, po_val w1.sr p1 (.bl _)⟩
  · exact p1.elim
theorem se_neg (ha : SE X W a fa) : SE X W (.UnaryOp .USub a pos) (fUn (fun d st => match d with | .int i => .ok (.int (-i)) st | _ => .bad) fa) := by
  refine PE.imp (pe_un un_neg ha) fun σ H Q ⟨r, env, st, wd, p⟩ => ?_
  refine tE_then wd p fun d r1 st1 H1 v w1 dv F1 p1 => ?_
  split at p1
  · cases dv
    exact ⟨_, rfl, po_val w1.sr p1 (.int _)⟩
  · exact p1.elim
theorem sw_and1 {ft : Fe Bool} (ha : ST X W a ft) : SW X W (.BoolOp .And [a] pos) ft := pw_and1 ha
theorem sw_or1 {ft : Fe Bool} (ha : ST X W a ft) : SW X W (.BoolOp .Or [a] pos) ft := pw_or1 ha
theorem sw_and {ft fu : Fe Bool} (ha : ST X W a ft) (hb : SW X W (.BoolOp .And (b :: es) pos) fu) : SW X W (.BoolOp .And (a :: b :: es) pos) (fAndT ft fu) := by
  refine PW.imp (pw_and ha hb) fun σ H Q ⟨r, env, st, wd, p⟩ => ?_
  refine tT_then wd p fun k r1 st1 H1 w1 F1 p1 => ?_
  cases k with
  | true => exact ⟨r1, env, st1, w1, p1⟩
  | false => exact p1.here w1.sr
theorem sw_or {ft fu : Fe Bool} (ha : ST X W a ft) (hb : SW X W (.BoolOp .Or (b :: es) pos) fu) : SW X W (.BoolOp .Or (a :: b :: es) pos) (fOrT ft fu) := by
  refine PW.imp (pw_or ha hb) fun σ H Q ⟨r, env, st, wd, p⟩ => ?_
  refine tT_then wd p fun k r1 st1 H1 w1 F1 p1 => ?_
  cases k with
  | true => exact p1.here w1.sr
  | false => exact ⟨r1, env, st1, w1, p1⟩
theorem se_one {op : PySem.BoolOp} (ha : SE X W a fa) : SE X W (.BoolOp op [a] pos) fa := pe_one ha
theorem se_and (ha : SE X W a fa) (hb : SE X W (.BoolOp .And (b :: es) pos) fb) : SE X W (.BoolOp .And (a :: b :: es) pos) (fAndV fa fb) := by
  refine PE.imp (pe_andT ha hb) fun σ H Q ⟨r, env, st, wd, p⟩ => ?_
  refine tE_then wd p fun d r1 st1 H1 v w1 dv F1 p1 => ?_
  split at p1
  · rename_i k hk
    refine ⟨k, tru_ok' w1.sr dv hk, ?_⟩
    cases k with
    | true => exact ⟨r1, env, st1, w1, p1⟩
    | false => exact po_val w1.sr p1 dv
  · exact p1.elim
theorem se_or (ha : SE X W a fa) (hb : SE X W (.BoolOp .Or (b :: es) pos) fb) : SE X W (.BoolOp .Or (a :: b :: es) pos) (fOrV fa fb) := by
  refine PE.imp (pe_orT ha hb) fun σ H Q ⟨r, env, st, wd, p⟩ => ?_
  refine tE_then wd p fun d r1 st1 H1 v w1 dv F1 p1 => ?_
  split at p1
  · rename_i k hk
    refine ⟨k, tru_ok' w1.sr dv hk, ?_⟩
    cases k with
    | true => exact po_val w1.sr p1 dv
    | false => exact ⟨r1, env, st1, w1, p1⟩
  · exact p1.elim
theorem se_ife {ft : Fe Bool} (hc : ST X W c ft) (ha : SE X W a fa) (hb : SE X W b fb) : SE X W (.IfExp c a b pos) (fIf ft fa fb) := by
  refine PE.imp (pe_ifExp hc ha hb) fun σ H Q ⟨r, env, st, wd, p⟩ => ?_
  refine tT_then wd p fun k r1 st1 H1 w1 F1 p1 => ?_
  cases k with
  | true => exact ⟨r1, env, st1, w1, p1⟩
  | false => exact ⟨r1, env, st1, w1, p1⟩
theorem sa_nil : SA X W [] fNil := PA.imp pa_nil fun σ H Q ⟨r, env, st, wd, p⟩ => p.here wd.sr [] .nil
theorem sa_cons {ft : Fe (List D)} (ha : SE X W e fa) (hr : SA X W es ft) (hs : starEach (e :: es) X.env = (false, eval e X.env) :: starEach es X.env) : SA X W (e :: es) (fCons fa ft) := by
  refine PA.imp (pa_cons ha hr hs) fun σ H Q ⟨r, env, st, wd, p⟩ => ?_
  refine tE_then wd p fun d r1 st1 H1 v w1 dv F1 p1 => tA_then w1 p1 fun ds r2 st2 H2 vs w2 dvs F2 p2 => ?_
  exact p2.here w2.sr _ (.cons (dv.fw w1.sr F2) dvs)
theorem se_tup {ft : Fe (List D)} {k : Nat} (h : SA X W es ft) : SE X W (.Tuple es k pos) (fTup ft) := by
  refine PE.imp (pe_tup h) fun σ H Q ⟨r, env, st, wd, p⟩ => ?_
  refine tA_then wd p fun ds r1 st1 H1 vs w1 dvs F1 p1 => ?_
  split at p1
  · rename_i z
    exact ⟨by rw [← dvs.length]; exact z, po_tup w1.sr p1 z dvs⟩
  · exact p1.elim
theorem se_lst {ft : Fe (List D)} (h : SA X W es ft) : SE X W (.List es pos) (fLst ft) := by
  refine PE.imp (pe_lst h) fun σ H Q ⟨r, env, st, wd, p⟩ => ?_
  refine tA_then wd p fun ds r1 st1 H1 vs w1 dvs F1 p1 => ?_
  split at p1
  · rename_i z
    exact ⟨by rw [← dvs.length]; exact z, po_lst w1.sr p1 z dvs⟩
  · exact p1.elim
theorem se_new {ft : Fe (List D)} (h : SA X W es ft) : SE X W (.List es pos) (fNew ft) := by
  refine PE.imp (pe_lst h) fun σ H Q ⟨r, env, st, wd, p⟩ => ?_
  refine tA_then wd p fun ds r1 st1 H1 vs w1 dvs F1 p1 => ?_
  split at p1
  · rename_i z
    exact ⟨by rw [← dvs.length]; exact z, po_new w1.sr p1 (.lst z dvs)⟩
  · exact p1.elim
theorem se_newD : SE X W (.Dict [] [] pos) fNewD :=
  PE.imp pe_dnewK fun σ H Q ⟨r, env, st, wd, p⟩ => po_new wd.sr p (.dic (Nat.zero_le _) .nil .nil)
theorem se_idx (hu : X.A.units + 1 < cLine) (ha : SE X W a fa) (hb : SE X W b fb) (hs : PlainIx b) : SE X W (.Subscript a b pos) (fBin idxD fa fb) := by
  refine PE.imp (pe_ix (ix_G hu) ha hb hs) fun σ H Q ⟨r, env, st, wd, p⟩ => ?_
  refine tE_then wd p fun d r1 st1 H1 v w1 dv F1 p1 => tE_then w1 p1 fun d2 r2 st2 H2 v2 w2 dv2 F2 p2 => ?_
  exact ⟨_, W, σ, r2, st2, d, d2, w2.sr, dv.fw w1.sr F2, dv2, p2⟩
/-- a slice's end -/
def tO (K : PySem.W.Frag) (mg : Str → Option Value) (W : Wx) (f : Fe (Option Int)) : TO := fun σ H Q => ∃ (r : Rm) (env : Env) (st : Store), Wd K r env st σ H ∧ Po K mg W r st H σ (fun o _ _ H' => Q o H') (f env st)
abbrev SO (X : Cx) (W : Wx) (e : Option Expr) (f : Fe (Option Int)) : Prop := PO X e (tO X.K X.mg W f)
def fPart (a : Fe D) : Fe (Option Int) := fun env st => (a env st).bind fun x st1 => match x with
  | .int i => .ok (some i) st1
  | _ => .bad
def fNoPart : Fe (Option Int) := fun _ st => .ok none st
theorem PO.imp {e : Option Expr} {t t' : TO} (h : PO X e t) (i : ∀ σ H Q, t' σ H Q → t σ H Q) : PO X e t' := ⟨fun pins s σ H Q I q => h.run pins s σ H Q I (i σ H Q q)⟩
theorem so_some (ha : SE X W e fa) : SO X W (some e) (fPart fa) := by
  refine PO.imp (po_some ha) fun σ H Q ⟨r, env, st, wd, p⟩ => ?_
  refine tE_then wd p fun d r1 st1 H1 v w1 dv F1 p1 => ?_
  split at p1
  · cases dv
    exact ⟨_, rfl, p1.here w1.sr⟩
  · exact p1.elim
theorem so_none : SO X W none fNoPart := PO.imp po_none fun σ H Q ⟨r, env, st, wd, p⟩ => p.here wd.sr
def fSlc (a : Fe D) (lo hi : Fe (Option Int)) : Fe D := fun env st => (a env st).bind fun x st1 => (lo env st1).bind fun l st2 => (hi env st2).bind fun h st3 => slcD x l h st3
theorem tO_then {K : PySem.W.Frag} {mg : Str → Option Value} {r : Rm} {env : Env} {st : Store} {σ : St} {H : Hp} {f : Fe (Option Int)} {B : Type} {g : Option Int → Store → Rz B} {Qb : B → (Rm) → Store → Hp → Prop} {Q : Option Int → Hp → Prop} (wd : Wd K r env st σ H) (p : Po K mg W r st H σ Qb ((f env st).bind g))
    (h : ∀ o r' st' H', Wd K r' env st' σ H' → Fw r r' st.length st'.length H H' → Po K mg W r' st' H' σ Qb (g o st') → Q o H') : tO K mg W f σ H Q :=
  ⟨r, env, st, wd, p.first.mono fun o r' st' H' _ F S q => h o r' st' H' (wd.fw F S) F q⟩
theorem se_slc {lo hi : Option Expr} {fl fh : Fe (Option Int)} {p2 : Pos} (ha : SE X W e fa) (hl : SO X W lo fl) (hh : SO X W hi fh) : SE X W (.Subscript e (.Slice lo hi none p2) pos) (fSlc fa fl fh) := by
  refine PE.imp (pe_slice sl_G ha hl hh) fun σ H Q ⟨r, env, st, wd, p⟩ => ?_
  refine tE_then wd p fun d r1 st1 H1 v w1 dv F1 p1 => tO_then w1 p1 fun l r2 st2 H2 w2 F2 p2 => tO_then w2 p2 fun h r3 st3 H3 w3 F3 p3 => ?_
  exact ⟨_, W, σ, r3, st3, d, w3.sr, (dv.fw w1.sr F2).fw w2.sr F3, p3⟩
end
end L2.G4

set_option maxHeartbeats 4000000
/-! GL: calls: built-in functions, methods, defs of the program; what a def hands back. -/
namespace L2.G4
open PySem PySem.Spec PyProof.Rows

theorem type_mth : ∀ m : Mth, typeOf (.builtin m.id) = pure (.type "method_descriptor")
  | .append => PySem.F.type_list_append
  | .extend => PySem.F.type_list_extend
  | .pop => PySem.F.type_list_pop
section
variable {X : Cx} {W : Wx} {e o a b : Expr} {es : List Expr} {pos p : Pos} {x : Str}
theorem se_blt {ft : Fe (List D)} (bt : Blt) (hc : X.calm = true) (hu : X.A.units + 70 < cLine) (hgd : bt = .repr → X.A.guards = some []) (hg : Gl X x) (hm : X.mg x = none) (hv : bootBuiltins x = some bt.val) (hn : x ≠ "__name__") (hdb : (x == ("__debug__" : Str)) = false)
    (ha : SA X W (e :: es) ft) (he : starEach (e :: es) X.env = (false, eval e X.env) :: starEach es X.env) (hpl : (backTo pos (starEach es X.env)).any (·.1) = false) : SE X W (.Call (.Name x p) (e :: es) [] pos) (fArgs (bltD bt) ft) := by
  have cg := call_G (X := X) hc hu bt hgd
  have red : ∀ σ H Q, tE X.K X.mg W (fArgs (bltD bt) ft) σ H Q → tCB (rGs X.K (bltD bt)) (tA X.K X.mg W ft) σ H Q := fun σ H Q ⟨r, env, st, wd, p⟩ =>
    tA_then wd p fun ds r1 st1 H1 vs w1 dvs F1 p1 => ⟨_, W, σ, r1, st1, ds, w1.sr, dvs, p1⟩
  cases bt <;> first
    | exact PE.imp (pe_callB cg hg hm hv ha hn hdb he hpl) red
    | exact PE.imp (pe_callTy cg hg hm hv ha hn hdb he hpl) red
/-- isinstance(e, T), T a built-in class -/
theorem se_isi {T : String} {tx : Str} {tp : Pos} (hg : Gl X "isinstance") (hm : X.mg "isinstance" = none) (hgT : Gl X tx) (hmT : X.mg tx = none) (hvT : bootBuiltins tx = some (.type T)) (hn : tx ≠ "__name__") (hdb : (tx == ("__debug__" : Str)) = false)
    (ha : SE X W e fa) (hs : starEach (e :: [.Name tx tp]) X.env = (false, eval e X.env) :: starEach [.Name tx tp] X.env) : SE X W (.Call (.Name "isinstance" p) [e, .Name tx tp] [] pos) (fUn (isiD T) fa) := by
  refine PE.imp (pe_callB (call_isiG T) hg hm (by decide +kernel) (pa_cons ha (pa_cons (pe_bltn (v := .ty T) hgT hmT hvT rfl hn hdb) pa_nil) hs) (by decide) (by decide) hs) fun σ H Q ⟨r, env, st, wd, p⟩ => ?_
  refine tE_then wd p fun d r1 st1 H1 v w1 dv F1 p1 => ?_
  exact ⟨_, W, σ, r1, st1, d, v, rfl, w1.sr, dv, p1⟩
def fMmD (mx : Bool) (a d : Fe D) : Fe D := fun env st => (a env st).bind fun x st1 => (d env st1).bind fun y st2 => mmD mx x (some y) st2
theorem se_mmd (mx : Bool) {kp : Pos} (hc : X.calm = true) (hx : x = (if mx then "max" else "min" : String)) (hg : Gl X x) (hm : X.mg x = none) (ha : SE X W e fa) (hb : SE X W b fb)
    (hs : starEach [e] X.env = (false, eval e X.env) :: starEach [] X.env) : SE X W (.Call (.Name x p) [e] [⟨some "default", b, kp⟩] pos) (fMmD mx fa fb) := by
  subst hx
  have cr : CallRK X (.builtin (if mx then "max" else "min")) [Str.ofString "default"] (fun xs zs H Q => ∃ (mg : Str → Option Value) (W : Wx) (σ : St) (r : Rm) (st : Store) (d y : D) (v w : V), xs = [v] ∧ zs = [w] ∧ Sr X.K r st H ∧ DV X.K H r st.length d v ∧ DV X.K H r st.length y w ∧ Po X.K mg W r st H σ (Pv X.K Q) (mmD mx d (some y) st)) := by
    intro pins s σ H xs zs us ws Q I rx rz h
    obtain ⟨mg, W, σ', r, st, d, y, v, w, rfl, rfl, S, hd, hy, p⟩ := h
    obtain ⟨u, rfl, ru⟩ := vals1 rx
    obtain ⟨z, rfl, rw'⟩ := vals1 rz
    exact call_mm hc mx I ru S hd (.inr ⟨z, rfl, rfl⟩) (fun y' e => by cases e; exact ⟨w, z, rfl, rw', hy⟩) p
  refine PE.imp (pe_callBK cr hg hm (by cases mx <;> decide +kernel) (pa_cons ha pa_nil hs) (pk_cons hb pk_nil) (by cases mx <;> decide) (by cases mx <;> decide) (by rw [hs]; rfl) (by rw [hs]; rfl)) fun σ H Q ⟨r, env, st, wd, p⟩ => ?_
  refine tE_then wd p fun d r1 st1 H1 v w1 dv F1 p1 => tE_then w1 p1 fun d2 r2 st2 H2 v2 w2 dv2 F2 p2 => ?_
  exact ⟨_, W, σ, r2, st2, d, d2, v, v2, rfl, rfl, w2.sr, dv.fw w1.sr F2, dv2, p2⟩
/-- o.m(..), m a method that changes the list o -/
def fMth (m : Mth) (o : Fe D) (t : Fe (List D)) : Fe D := fun env st => (o env st).bind fun x st1 => match lstOf st1 x with
  | some _ => (t env st1).bind fun xs st2 => mthD m x xs st2
  | none => .bad
theorem se_mth (m : Mth) {name : Str} {apos cpos : Pos} {ft : Fe (List D)} (slot : Slot "list" name m.id) (ho : SE X W o fo) (ha : SA X W (e :: es) ft) (h1 : attributeBase o name X.env (eval o X.env) = eval o X.env)
    (h2 : (((backTo cpos (starEach (e :: es) X.env)).all fun x => !x.fst) && (backToKw cpos (keywordEach [] X.env)).all (fun x => x.fst.isSome) && decide (((e :: es).length + ([] : List Keyword).length + if ([] : List Keyword).isEmpty = true then 0 else 1) < 30)) = true)
    (h3 : (apos.endLine == cpos.line) = true) (h4 : starEach (e :: es) X.env = (false, eval e X.env) :: starEach es X.env) (h5 : (backTo cpos (starEach es X.env)).any (·.1) = false) :
    SE X W (.Call (.Attribute o name apos) (e :: es) [] cpos) (fMth m fo ft) := by
  refine PE.imp (pe_bm (T := "list") (id := m.id) PySem.F.plainAttrs_list slot (type_mth m) (mt_G m) ho ha h1 h2 h3 h4 h5) fun σ H Q ⟨r, env, st, wd, p⟩ => ?_
  refine tE_then wd p fun d r1 st1 H1 v w1 dv F1 p1 => ?_
  split at p1
  · rename_i ds hl
    obtain ⟨q, xs, rfl, hq, _, _⟩ := dv.lstOf w1.sr hl
    refine ⟨.inl ⟨rfl, xs, hq⟩, tA_then w1 p1 fun as r2 st2 H2 vs w2 dvs F2 p2 => ?_⟩
    exact ⟨_, W, σ, r2, st2, d, as, w2.sr, dv.fw w1.sr F2, dvs, p2⟩
  · exact p1.elim
theorem se_mth0 (m : Mth) {name : Str} {apos cpos : Pos} (slot : Slot "list" name m.id) (ho : SE X W o fo) (h1 : attributeBase o name X.env (eval o X.env) = eval o X.env) (h3 : (apos.endLine == cpos.line) = true) :
    SE X W (.Call (.Attribute o name apos) [] [] cpos) (fMth m fo fNil) := by
  refine PE.imp (pe_bm0 (T := "list") (id := m.id) PySem.F.plainAttrs_list slot (type_mth m) (mt_G m) ho h1 h3) fun σ H Q ⟨r, env, st, wd, p⟩ => ?_
  refine tE_then wd p fun d r1 st1 H1 v w1 dv F1 p1 => ?_
  split at p1
  · rename_i ds hl
    obtain ⟨q, xs, rfl, hq, _, _⟩ := dv.lstOf w1.sr hl
    exact ⟨.inl ⟨rfl, xs, hq⟩, _, W, σ, r1, st1, d, [], w1.sr, dv, .nil, p1⟩
  · exact p1.elim
end
end L2.G4

set_option maxHeartbeats 4000000
/-! GM: what a def hands back (its own objects forgotten), a def's promise, the call. -/
namespace L2.G4
open PySem PySem.Spec PyProof.Rows

/-! ### values whose objects are old -/
mutual
def blw (n : Nat) : D → Bool
  | .non => true
  | .bl _ => true
  | .int _ => true
  | .str _ => true
  | .byt _ => true
  | .tup ds => blws n ds
  | .lst ds => blws n ds
  | .fls ds => blws n ds
  | .loc i => decide (i < n)
  | .dct _ ds => blws n ds
  | .exn _ _ _ d => blw n d
  | .fnv _ _ _ _ _ ds => blws n ds
def blws (n : Nat) : List D → Bool
  | [] => true
  | d :: ds => blw n d && blws n ds
end
def blwO (n : Nat) : O → Bool
  | .lst ds => blws n ds
  | .dic kvs => blws n (kvs.map (·.2))
section
variable {K : PySem.W.Frag} {H : Hp} {r : Rm} {n n' : Nat}
mutual
theorem DV.blw_of : ∀ {d : D} {v : V}, DV K H r n d v → blw n d = true
  | _, _, .non => by simp [blw]
  | _, _, .bl _ => by simp [blw]
  | _, _, .int _ => by simp [blw]
  | _, _, .str _ => by simp [blw]
  | _, _, .byt _ => by simp [blw]
  | _, _, .tup _ _ t => by simp only [blw]; exact DVs.blw_of t
  | _, _, .lst _ _ _ t => by simp only [blw]; exact DVs.blw_of t
  | _, _, .fls _ _ t => by simp only [blw]; exact DVs.blw_of t
  | _, _, .loc h => by simpa [blw] using h
  | _, _, .dct _ _ _ _ _ t => by simp only [blw]; exact DVs.blw_of t
  | _, _, .exn _ _ t => by simp only [blw]; exact DV.blw_of t
  | _, _, .fnv _ _ t _ _ => by simp only [blw]; exact DVs.blw_of t
theorem DVs.blw_of : ∀ {ds : List D} {vs : List V}, DVs K H r n ds vs → blws n ds = true
  | _, _, .nil => by simp [blws]
  | _, _, .cons a t => by simp only [blws, Bool.and_eq_true]; exact ⟨DV.blw_of a, DVs.blw_of t⟩
end
mutual
theorem DV.cut (le : n ≤ n') : ∀ {d : D} {v : V}, DV K H r n' d v → blw n d = true → DV K H r n d v
  | _, _, .non, _ => .non
  | _, _, .bl b, _ => .bl b
  | _, _, .int i, _ => .int i
  | _, _, .str x, _ => .str x
  | _, _, .byt b, _ => .byt b
  | _, _, .tup h z t, e => .tup h z (DVs.cutn le t (by simpa only [blw] using e))
  | _, _, .lst h na z t, e => .lst h ⟨fun i hi => na.1 i (Nat.lt_of_lt_of_le hi le), na.2⟩ z (DVs.cutn le t (by simpa only [blw] using e))
  | _, _, .fls h z t, e => .fls h z (DVs.cutn le t (by simpa only [blw] using e))
  | _, _, .loc h, e => .loc (by simpa [blw] using e)
  | _, _, .dct h na l nd z t, e => .dct h ⟨fun i hi => na.1 i (Nat.lt_of_lt_of_le hi le), na.2⟩ l nd z (DVs.cutn le t (by simpa only [blw] using e))
  | _, _, .exn h na t, e => .exn h ⟨fun i hi => na.1 i (Nat.lt_of_lt_of_le hi le), na.2⟩ (DV.cut le t (by simpa only [blw] using e))
  | _, _, .fnv h na t l z, e => .fnv h ⟨fun i hi => na.1 i (Nat.lt_of_lt_of_le hi le), na.2⟩ (DVs.cutn le t (by simpa only [blw] using e)) l z
theorem DVs.cutn (le : n ≤ n') : ∀ {ds : List D} {vs : List V}, DVs K H r n' ds vs → blws n ds = true → DVs K H r n ds vs
  | _, _, .nil, _ => .nil
  | _, _, .cons a t, e => by
    simp only [blws, Bool.and_eq_true] at e
    exact .cons (DV.cut le a e.1) (DVs.cutn le t e.2)
end
theorem KDV.cutn (le : n ≤ n') : ∀ {ds : List (Key × D)} {vs : List (Key × V)}, KDV K H r n' ds vs → blws n (ds.map (·.2)) = true → KDV K H r n ds vs
  | _, _, .nil, _ => .nil
  | _, _, .cons a t, e => by
    simp only [List.map_cons, blws, Bool.and_eq_true] at e
    exact .cons (a.cut le e.1) (KDV.cutn le t e.2)
theorem KDV.dvs {r : Rm} {n : Nat} : ∀ {ds : List (Key × D)} {vs : List (Key × V)}, KDV K H r n ds vs → DVs K H r n (ds.map (·.2)) (vs.map (·.2))
  | _, _, .nil => .nil
  | _, _, .cons a t => .cons a (KDV.dvs t)
theorem KDV.zipvs {r : Rm} {n : Nat} : ∀ {ds : List (Key × D)} {vs : List (Key × V)}, KDV K H r n ds vs → (ds.map (·.1)).zip (vs.map (·.2)) = vs
  | _, _, .nil => rfl
  | _, _, .cons a t => by rw [List.map_cons, List.map_cons, List.zip_cons_cons, KDV.zipvs t]
theorem DV.dct_of {r : Rm} {n : Nat} {a : Addr} {kvs : List (Key × D)} {ys : List (Key × V)} (h : H a = some (.dK ys)) (na : (∀ i, i < n → r i ≠ a) ∧ ¬ r.pv a) (t : KDV K H r n kvs ys) (nd : (kvs.map (·.1)).Nodup) (z : kvs.length ≤ sizeLine) : DV K H r n (.dct (kvs.map (·.1)) (kvs.map (·.2))) (.ref a) :=
  .dct (xs := ys.map (·.2)) (by rw [KDV.zipvs t]; exact h) na (by rw [List.length_map, List.length_map]) nd (by rw [List.length_map]; exact z) (KDV.dvs t)
theorem KDV.blw_of : ∀ {ds : List (Key × D)} {vs : List (Key × V)}, KDV K H r n ds vs → blws n (ds.map (·.2)) = true
  | _, _, .nil => by simp [blws]
  | _, _, .cons a t => by simp only [List.map_cons, blws, Bool.and_eq_true]; exact ⟨a.blw_of, KDV.blw_of t⟩
theorem OV.cutn (le : n ≤ n') {o : O} {ho : HO} (h : OV K H r n' o ho) (e : blwO n o = true) : OV K H r n o ho := by
  cases h with
  | lst z t => exact .lst z (t.cutn le e)
  | dic z nd t => exact .dic z nd (t.cutn le e)
theorem OV.blw_of {o : O} {ho : HO} (h : OV K H r n o ho) : blwO n o = true := by
  cases h with
  | lst z t => exact t.blw_of
  | dic z nd t => exact t.blw_of
/-- the first n objects and one more, under its number n -/
def rl (r : Rm) (n k : Nat) : Rm := ⟨fun i => if i = n then r k else r i, r.pv⟩
theorem rl_old {i k : Nat} (h : i < n) : rl r n k i = r i := if_neg (Nat.ne_of_lt h)
theorem rl_new {k : Nat} : rl r n k n = r k := if_pos rfl
mutual
theorem DV.relab {k : Nat} (le : n ≤ n') (hk : k < n') : ∀ {d : D} {v : V}, DV K H r n' d v → blw n d = true → DV K H (rl r n k) (n + 1) d v
  | _, _, .non, _ => .non
  | _, _, .bl b, _ => .bl b
  | _, _, .int i, _ => .int i
  | _, _, .str x, _ => .str x
  | _, _, .byt b, _ => .byt b
  | _, _, .tup h z t, e => .tup h z (DVs.relab le hk t (by simpa only [blw] using e))
  | _, _, .lst h na z t, e => .lst h ⟨(fun i hi => by
      by_cases q : i = n
      · subst q; rw [rl_new]; exact na.1 k hk
      · rw [rl_old (by omega)]; exact na.1 i (by omega)), na.2⟩ z (DVs.relab le hk t (by simpa only [blw] using e))
  | _, _, .fls h z t, e => .fls h z (DVs.relab le hk t (by simpa only [blw] using e))
  | _, _, .loc (i := i) h, e => by
    have hi : i < n := by simpa [blw] using e
    rw [← rl_old (r := r) (k := k) hi]
    exact .loc (Nat.lt_succ_of_lt hi)
  | _, _, .dct h na l nd z t, e => .dct h ⟨(fun i hi => by
      by_cases q : i = n
      · subst q; rw [rl_new]; exact na.1 k hk
      · rw [rl_old (by omega)]; exact na.1 i (by omega)), na.2⟩ l nd z (DVs.relab le hk t (by simpa only [blw] using e))
  | _, _, .exn h na t, e => .exn h ⟨(fun i hi => by
      by_cases q : i = n
      · subst q; rw [rl_new]; exact na.1 k hk
      · rw [rl_old (by omega)]; exact na.1 i (by omega)), na.2⟩ (DV.relab le hk t (by simpa only [blw] using e))
  | _, _, .fnv h na t l z, e => .fnv h ⟨(fun i hi => by
      by_cases q : i = n
      · subst q; rw [rl_new]; exact na.1 k hk
      · rw [rl_old (by omega)]; exact na.1 i (by omega)), na.2⟩ (DVs.relab le hk t (by simpa only [blw] using e)) l z
theorem DVs.relab {k : Nat} (le : n ≤ n') (hk : k < n') : ∀ {ds : List D} {vs : List V}, DVs K H r n' ds vs → blws n ds = true → DVs K H (rl r n k) (n + 1) ds vs
  | _, _, .nil, _ => .nil
  | _, _, .cons a t, e => by
    simp only [blws, Bool.and_eq_true] at e
    exact .cons (DV.relab le hk a e.1) (DVs.relab le hk t e.2)
end
theorem KDV.relab {k : Nat} (le : n ≤ n') (hk : k < n') : ∀ {ds : List (Key × D)} {vs : List (Key × V)}, KDV K H r n' ds vs → blws n (ds.map (·.2)) = true → KDV K H (rl r n k) (n + 1) ds vs
  | _, _, .nil, _ => .nil
  | _, _, .cons a t, e => by
    simp only [List.map_cons, blws, Bool.and_eq_true] at e
    exact .cons (a.relab le hk e.1) (KDV.relab le hk t e.2)
theorem OV.relab {k : Nat} (le : n ≤ n') (hk : k < n') {o : O} {ho : HO} (h : OV K H r n' o ho) (e : blwO n o = true) : OV K H (rl r n k) (n + 1) o ho := by
  cases h with
  | lst z t => exact .lst z (t.relab le hk e)
  | dic z nd t => exact .dic z nd (t.relab le hk e)
theorem Sr.relab {st st' : Store} {k : Nat} {o : O} (S : Sr K r st' H) (le : st.length ≤ k) (ek : st'[k]? = some o) (ok : ∀ i o, i < st.length → st'[i]? = some o → blwO st.length o = true) (eo : blwO st.length o = true) :
    Sr K (rl r st.length k) (st'.take st.length ++ [o]) H := by
  have hk : k < st'.length := by
    obtain ⟨z, _⟩ := List.getElem?_eq_some_iff.mp ek
    exact z
  have el : (st'.take st.length).length = st.length := by rw [List.length_take]; omega
  have en : (st'.take st.length ++ [o]).length = st.length + 1 := by rw [List.length_append, el]; rfl
  refine ⟨fun i j hi hj e => ?_, fun i u e => ?_, S.pvA, fun i hi => ?_, S.tab⟩
  · rw [en] at hi hj
    by_cases qi : i = st.length <;> by_cases qj : j = st.length
    · omega
    · rw [qi, rl_new, rl_old (by omega)] at e
      have := S.inj k j hk (by omega) e
      omega
    · rw [qj, rl_new, rl_old (by omega)] at e
      have := S.inj i k (by omega) hk e
      omega
    · rw [rl_old (by omega), rl_old (by omega)] at e
      exact S.inj i j (by omega) (by omega) e
  · rw [en]
    by_cases hi : i < st.length
    · rw [List.getElem?_append_left (by omega), List.getElem?_take_of_lt hi] at e
      obtain ⟨ho, h1, h2⟩ := S.obj i u e
      exact ⟨ho, by rw [rl_old hi]; exact h1, h2.relab (by omega) hk (ok i u hi e)⟩
    · rw [List.getElem?_append_right (by omega), el] at e
      have hi0 : i - st.length = 0 := by
        cases q : i - st.length with
        | zero => rfl
        | succ m => rw [q] at e; simp at e
      rw [hi0] at e
      have e' : o = u := by simpa using e
      subst e'
      have ei : i = st.length := by omega
      subst ei
      obtain ⟨ho, h1, h2⟩ := S.obj k o ek
      exact ⟨ho, by rw [rl_new]; exact h1, h2.relab (by omega) hk eo⟩
  · rw [en] at hi
    by_cases q : i = st.length
    · subst q; rw [rl_new]; exact S.pvN k hk
    · rw [rl_old (by omega)]; exact S.pvN i (by omega)
/-- the first n objects alone -/
theorem Sr.cutn {st st' : Store} (S : Sr K r st' H) (le : st.length ≤ st'.length) (ok : ∀ i o, i < st.length → st'[i]? = some o → blwO st.length o = true) : Sr K r (st'.take st.length) H := by
  have el : (st'.take st.length).length = st.length := by rw [List.length_take]; omega
  refine ⟨fun i j hi hj e => S.inj i j (by omega) (by omega) e, fun i o e => ?_, S.pvA, fun i hi => S.pvN i (by omega), S.tab⟩
  rw [el]
  have hi : i < st.length := by
    obtain ⟨z, _⟩ := List.getElem?_eq_some_iff.mp e
    omega
  rw [List.getElem?_take_of_lt hi] at e
  obtain ⟨ho, h1, h2⟩ := S.obj i o e
  exact ⟨ho, h1, h2.cutn le (ok i o hi e)⟩
theorem Fw.cutn {r' : Rm} {H' : Hp} (F : Fw r r' n n' H H') : Fw r r' n n H H' := ⟨Nat.le_refl _, F.ag, fun i h1 h2 => absurd h2 (Nat.not_lt.mpr h1), F.kp, F.pv⟩
end

/-- the old objects hold old objects alone -/
def gcOk (st st' : Store) : Prop := st.length ≤ st'.length ∧ ∀ i o, i < st.length → st'[i]? = some o → st[i]? = some o ∨ blwO st.length o = true
open Classical in
/-- what is handed back, what was made on the way forgotten; a list just made is handed back as an object (kn), or by its contents -/
noncomputable def gcD (kn : Bool) (st : Store) (d : D) (st' : Store) : Rz D :=
  if gcOk st st' ∧ blw st.length d = true then .ok d (st'.take st.length)
  else match d with
    | .loc k => match st'[k]? with
      | some (.lst ds) => if gcOk st st' ∧ st.length ≤ k ∧ blws st.length ds = true then
          (if kn = true then .ok (.loc st.length) (st'.take st.length ++ [.lst ds]) else .ok (.lst ds) (st'.take st.length))
        else .ok d st'
      | some (.dic kvs) => if gcOk st st' ∧ st.length ≤ k ∧ blws st.length (kvs.map (·.2)) = true then
          (if kn = true then .ok (.loc st.length) (st'.take st.length ++ [.dic kvs]) else .ok (.dct (kvs.map (·.1)) (kvs.map (·.2))) (st'.take st.length))
        else .ok d st'
      | _ => .ok d st'
    | _ => .ok d st'
open Classical in
noncomputable def gcE (st : Store) (e : Ex) (st' : Store) : Rz D :=
  if gcOk st st' ∧ (∀ f d, e.at_ = some (f, d) → blw st.length d = true) then .exc e (st'.take st.length) else .exc e st'
noncomputable def gcR (kn : Bool) (st : Store) : Rz D → Rz D
  | .ok d st' => gcD kn st d st'
  | .exc e st' => gcE st e st'
  | .bad => .bad

section
variable {K : PySem.W.Frag} {mg : Str → Option Value} {W : Wx} {r : Rm} {st : Store} {H : Hp} {σ : St} {Q : VK}
theorem gcOk.all {r' : Rm} {st' : Store} {H' : Hp} (S : Sr K r st H) (ok : gcOk st st') : ∀ i o, i < st.length → st'[i]? = some o → blwO st.length o = true := fun i o hi e => by
  rcases ok.2 i o hi e with h | h
  · obtain ⟨ho, _, h2⟩ := S.obj i o h
    exact h2.blw_of
  · exact h
/-- what follows upon what is handed back, follows upon the body's end -/
theorem gc_ok (kn : Bool) (S : Sr K r st H) {x : Rz D} (h : Po K mg W r st H σ (Pv K Q) (gcR kn st x)) : Po K mg W r st H σ (Pv K Q) x := by
  cases x with
  | bad => exact h
  | ok d st' =>
    intro r' H' F S' v hv
    have h : Po K mg W r st H σ (Pv K Q) (gcD kn st d st') := h
    unfold gcD at h
    split at h
    · rename_i hc
      obtain ⟨ok, hb⟩ := hc
      have el : (st'.take st.length).length = st.length := by rw [List.length_take]; have := ok.1; omega
      exact h r' H' (by rw [el]; exact F.cutn) (S'.cutn ok.1 (ok.all (r' := r') (H' := H') S)) v (by rw [el]; exact hv.cut ok.1 hb)
    · split at h
      · rename_i k _ _
        split at h
        · rename_i ds e
          split at h
          · rename_i hc
            obtain ⟨ok, hk, hb⟩ := hc
            have el : (st'.take st.length).length = st.length := by rw [List.length_take]; have := ok.1; omega
            have Sc := S'.cutn ok.1 (ok.all (r' := r') (H' := H') S)
            obtain ⟨ho, h1, h2⟩ := S'.obj k _ e
            have hkl : k < st'.length := by
              obtain ⟨z, _⟩ := List.getElem?_eq_some_iff.mp e
              exact z
            cases h2 with
            | lst z t =>
            have tc := t.cutn ok.1 hb
            have na : ∀ i, i < st.length → r' i ≠ r' k := fun i hi q => by
              have := S'.inj i k (by have := ok.1; omega) hkl q
              omega
            cases hv
            split at h
            · have en : (st'.take st.length ++ [O.lst ds]).length = st.length + 1 := by rw [List.length_append, el]; rfl
              have F2 : Fw r (rl r' st.length k) st.length (st.length + 1) H H' := ⟨Nat.le_succ _, fun i hi => (rl_old hi).trans (F.ag i hi), fun i x1 x2 => by
                have e1 : i = st.length := by omega
                subst e1
                rw [rl_new]
                exact F.nw k hk hkl, F.kp, F.pv⟩
              refine h (rl r' st.length k) H' (by rw [en]; exact F2) (S'.relab hk e (ok.all (r' := r') (H' := H') S) hb) _ ?_
              have q : DV K H' (rl r' st.length k) (st'.take st.length ++ [O.lst ds]).length (.loc st.length) (.ref (rl r' st.length k st.length)) := .loc (by rw [en]; exact Nat.lt_succ_self _)
              rw [rl_new] at q
              exact q
            · exact h r' H' (by rw [el]; exact F.cutn) Sc _ (by rw [el]; exact (.lst h1 ⟨na, fun z => S'.pvN k hkl z⟩ z tc))
          · exact h r' H' F S' _ hv
        · rename_i kvs e
          split at h
          · rename_i hc
            obtain ⟨ok, hk, hb⟩ := hc
            have el : (st'.take st.length).length = st.length := by rw [List.length_take]; have := ok.1; omega
            have Sc := S'.cutn ok.1 (ok.all (r' := r') (H' := H') S)
            obtain ⟨ho, h1, h2⟩ := S'.obj k _ e
            have hkl : k < st'.length := by
              obtain ⟨z, _⟩ := List.getElem?_eq_some_iff.mp e
              exact z
            cases h2 with
            | dic z nd t =>
            have tc := t.cutn ok.1 hb
            have na : ∀ i, i < st.length → r' i ≠ r' k := fun i hi q => by
              have := S'.inj i k (by have := ok.1; omega) hkl q
              omega
            cases hv
            split at h
            · have en : (st'.take st.length ++ [O.dic kvs]).length = st.length + 1 := by rw [List.length_append, el]; rfl
              have F2 : Fw r (rl r' st.length k) st.length (st.length + 1) H H' := ⟨Nat.le_succ _, fun i hi => (rl_old hi).trans (F.ag i hi), fun i x1 x2 => by
                have e1 : i = st.length := by omega
                subst e1
                rw [rl_new]
                exact F.nw k hk hkl, F.kp, F.pv⟩
              refine h (rl r' st.length k) H' (by rw [en]; exact F2) (S'.relab hk e (ok.all (r' := r') (H' := H') S) hb) _ ?_
              have q : DV K H' (rl r' st.length k) (st'.take st.length ++ [O.dic kvs]).length (.loc st.length) (.ref (rl r' st.length k st.length)) := .loc (by rw [en]; exact Nat.lt_succ_self _)
              rw [rl_new] at q
              exact q
            · refine h r' H' (by rw [el]; exact F.cutn) Sc _ ?_
              rw [el]
              exact DV.dct_of h1 ⟨na, fun z => S'.pvN k hkl z⟩ tc nd z
          · exact h r' H' F S' _ hv
        · exact h r' H' F S' _ hv
      · exact h r' H' F S' _ hv
  | exc e st' =>
    intro r' H' c dx F S' hx
    have h : Po K mg W r st H σ (Pv K Q) (gcE st e st') := h
    unfold gcE at h
    split at h
    · rename_i hc
      obtain ⟨ok, hb⟩ := hc
      have el : (st'.take st.length).length = st.length := by rw [List.length_take]; have := ok.1; omega
      refine h r' H' c dx (by rw [el]; exact F.cutn) (S'.cutn ok.1 (ok.all (r' := r') (H' := H') S)) ?_
      rw [el]
      obtain ⟨x1, x2⟩ := hx
      refine ⟨x1, ?_⟩
      cases ea : e.at_ with
      | none => rw [ea] at x2; exact x2
      | some q =>
        obtain ⟨f, d⟩ := q
        rw [ea] at x2
        obtain ⟨a, v, y1, y2, y3⟩ := x2
        exact ⟨a, v, y1, y2, y3.cut ok.1 (hb f d ea)⟩
    · exact h r' H' c dx F S' hx
end
end L2.G4

set_option maxHeartbeats 4000000
/-! GMa: x[::-1], list(x) as an object, dicts written down. -/
namespace L2.G4
open PySem PySem.Spec PyProof.Rows
section
variable {X : Cx} {W : Wx} {a b e : Expr} {fa fb : Fe D} {pos : Pos}
def revD (d : D) (st : Store) : Rz D := match d with
  | .tup ds => .ok (.tup ds.reverse) st
  | d => match lstOf st d with
    | some ds => .ok (.lst ds.reverse) st
    | none => .bad
theorem se_rev {k : Nat} {p1 p2 p3 : Pos} (ha : SE X W e fa) : SE X W (.Subscript e (.Slice none none (some (.UnaryOp .USub (.Constant (.int 1) k p1) p2)) p3) pos) (fUn revD fa) := by
  refine PE.imp (pe_revA ha) fun σ H Q ⟨r, env, st, wd, p⟩ => ?_
  refine tE_then wd p fun d r1 st1 H1 v w1 dv F1 p1 => ?_
  unfold revD at p1
  split at p1
  · cases dv with
    | tup h z t => exact ⟨_, _, rfl, .inr ⟨h, po_tup w1.sr p1 (by rw [List.length_reverse]; exact z) t.reverse⟩⟩
  · split at p1
    · rename_i ds hl
      obtain ⟨q, xs, rfl, hq, t, z⟩ := dv.lstOf w1.sr hl
      exact ⟨_, _, rfl, .inl ⟨hq, po_lst w1.sr p1 (by rw [List.length_reverse]; exact z) t.reverse⟩⟩
    · exact p1.elim
/-- list(x), an object of the store -/
def lofD (args : List D) (st : Store) : Rz D := match args with
  | [d] => match seqOf st d with
    | some ds => .ok (.loc st.length) (st ++ [.lst ds])
    | none => .bad
  | _ => .bad
theorem call_lofG : CallR X (.type "list") (rGs X.K lofD) := by
  intro pins s σ H xs us Q I rv h
  obtain ⟨mg, W, σ', r, st, ds, S, hds, p⟩ := h
  unfold lofD at p
  split at p
  · obtain ⟨v, rfl, hd⟩ := hds.one
    split at p
    · rename_i es hs
      obtain ⟨a, ys, rfl, hq, t, z⟩ := hd.seqOf S hs
      exact call_list_of pins s σ H _ us Q I rv ⟨a, ys, rfl, hq.elim (fun z => .inl z.1) (fun z => .inr z.1), po_new S p (.lst z t)⟩
    · exact p.elim
  · exact p.elim
theorem se_lof {x : Str} {es : List Expr} {p : Pos} {ft : Fe (List D)} (hg : Gl X x) (hm : X.mg x = none) (hv : bootBuiltins x = some (.type "list")) (hn : x ≠ "__name__") (hdb : (x == ("__debug__" : Str)) = false)
    (ha : SA X W (e :: es) ft) (he : starEach (e :: es) X.env = (false, eval e X.env) :: starEach es X.env) (hpl : (backTo pos (starEach es X.env)).any (·.1) = false) : SE X W (.Call (.Name x p) (e :: es) [] pos) (fArgs lofD ft) :=
  PE.imp (pe_callTy call_lofG hg hm hv ha hn hdb he hpl) fun σ H Q ⟨r, env, st, wd, p⟩ =>
    tA_then wd p fun ds r1 st1 H1 vs w1 dvs F1 p1 => ⟨_, W, σ, r1, st1, ds, w1.sr, dvs, p1⟩
/-! ### dicts -/
def fDct0 : Fe D := fun _ st => .ok (.dct [] []) st
theorem se_dct0 : SE X W (.Dict [] [] pos) fDct0 :=
  PE.imp pe_dnewK fun σ H Q ⟨r, env, st, wd, h⟩ => fun p hp =>
    h r _ (fw_new hp) (wd.sr.new hp) _ (.dct (xs := []) upd_same ⟨wd.sr.fresh hp, wd.sr.fpv hp⟩ rfl .nil (Nat.zero_le _) .nil)
def dsp1 (x y : D) (n : Nat) (st : Store) : Rz D := match keyOf x, st[n]? with
  | some k, some (.dic []) => .ok (.loc n) (st.set n (.dic [(k, y)]))
  | _, _ => .bad
def fDsp1 (a b : Fe D) : Fe D := fun env st => (a env (st ++ [.dic []])).bind fun x st1 => (b env st1).bind fun y st2 => dsp1 x y st.length st2
theorem se_dsp1 (ha : SE X W a fa) (hb : SE X W b fb) : SE X W (.Dict [some a] [b] pos) (fDsp1 fa fb) := by
  refine PE.imp (pe_disp (pps_cons ha hb pps_nil) rfl rfl (by simp) (by simp)) fun σ H Q ⟨r, env, st, wd, h⟩ => ?_
  intro p hp
  have el : (st ++ [O.dic []]).length = st.length + 1 := by simp
  have F0 : Fw r (ext r st.length p) st.length (st ++ [O.dic []]).length H (upd H p (.dK [])) := by rw [el]; exact fw_ext hp
  have S0 : Sr X.K (ext r st.length p) (st ++ [O.dic []]) (upd H p (.dK [])) := wd.sr.ext hp (.dic (Nat.zero_le _) .nil .nil)
  have w0 := wd.fw F0 S0
  have h0 := Po.fw S0 F0 h
  refine tE_then w0 h0 fun x r1 st1 H1 v w1 dx F1 p1 => tE_then w1 p1 fun y r2 st2 H2 u w2 dy F2 p2 => ?_
  unfold dsp1 at p2
  split at p2
  · rename_i k ek e0
    have hn : st.length < st2.length := by
      obtain ⟨z, _⟩ := List.getElem?_eq_some_iff.mp e0
      exact z
    obtain ⟨ho, h1, h2⟩ := w2.sr.obj _ _ e0
    have er : r2 st.length = p := by
      rw [F2.ag _ (Nat.lt_of_lt_of_le (by rw [el]; exact Nat.lt_succ_self _) F1.le), F1.ag _ (by rw [el]; exact Nat.lt_succ_self _), ext_at, if_pos rfl]
    rw [er] at h1
    cases h2 with
    | dic z nd t =>
    cases t
    have ev := dx.key ek
    subst ev
    refine ⟨h1, [(k, u)], rfl, by simp, ?_⟩
    have em : mergeK [] [(k, u)] = [(k, u)] := by simp [mergeK, putK]
    rw [em, ← er]
    have q := po_set (o := .dic [(k, y)]) (ho := .dK [(k, u)]) w2.sr p2 hn (.dic (Nat.le_trans (Nat.le_refl 1) (by decide)) (by simp) (.cons dy .nil)) (.loc hn)
    exact q
  · exact p2.elim
/-- as data -/
noncomputable def fDspD (a b : Fe D) : Fe D := fun env st => gcR false st (fDsp1 a b env st)
theorem se_dspD (ha : SE X W a fa) (hb : SE X W b fb) : SE X W (.Dict [some a] [b] pos) (fDspD fa fb) :=
  PE.imp (se_dsp1 ha hb) fun σ H Q ⟨r, env, st, wd, h⟩ => ⟨r, env, st, wd, gc_ok false wd.sr h⟩
end
end L2.G4

set_option maxHeartbeats 4000000
/-! GEa: own exception classes over any built-in one: made by an __init__ that calls the base's and stores one field. -/
namespace L2.G4
open PySem PySem.Spec PyProof.Rows

/-- an own exception class over B, as the written part tells -/
structure ExC (K : PySem.W.Frag) (C : Addr) (newId : String) (bmB : List Value) : Prop where
  cls : ∃ nm q N bs bm sn sub ab col dd k0 k1 k2 k3 k5, K.lookup C = some (excClassObj nm q C N bs bm true sn sub ab col dd k0 k1 k2 k3 k5 newId) ∧ PySem.W.excTail bmB bm = true
  sa : PySem.W.findIn K (.ref C) "__setattr__" = some (some (.builtin "object.__setattr__"))
  exC : PySem.W.subIn K (.ref C) (.type "BaseException") = some true
  tyC : PySem.W.typeIn K (.ref C) = some (.type "type")
  kC : PySem.W.keepIn K (.ref C) = true
/-- its base -/
structure ExB (B newId initId : String) (bmB : List Value) : Prop where
  F : ExcBaseFacts B newId initId bmB
  S : StoreFacts B bmB "object.__setattr__" "object"
  ty : typeOf (.type B) = pure (.type "type")
  hi : PySem.W.handedIn (.builtin initId) = true
section
open PySem.W PySem.Calls PySem.HandSPX Builtin.ObjectAttr
variable {prog : Program} {w : World} {A : Around} {R : Result → Shared → Prop} {hp : Heap} {g : Array GenState} {d : Drawn} {t : Nat} {os : OsState} {K : Frag} {C : Addr} {B newId initId : String} {bmB : List Value}
theorem osaB (E : ExB B newId initId bmB) (T : ExC K C newId bmB) {name : Str} {tk : Tok} {v : Value} {x : Addr} {fv : Array Value} (X : K.In hp) (hx : hp.get? x = some { cls := .ref C, data := .fields fv }) (ha : findIn K (.ref C) name = some none)
    (hq : ∀ h' tk' dx, (∀ b o, b ≠ x → hp.get? b = some o → h'.get? b = some o) → hp.objs.size ≤ dx → dx ≠ x → h'.get? x = some { cls := .ref C, dict := some dx, data := .fields fv } →
      h'.Ns1 dx (fun y => if y = name then some v else none) → R (.ok (.ret .none)) ⟨h', g, d, tk', os⟩) :
    codeAny (model prog w) A (.call (.builtin "object.__setattr__") ⟨[.ref x, .str name tk, v], []⟩) R ⟨hp, g, d, t, os⟩ := by
  obtain ⟨nm, q, N, bs, bm, sn, sub, ab, col, dd, k0, k1, k2, k3, k5, hC, hbm⟩ := T.cls
  have hcl : clsIn K C = some { name := nm, bases := bs, mro := .ref C :: bm, ns := N, qualname := q, hasDict := true, slotNames := sn, subclasses := sub, abstract := ab, collection := col, hasDel := false } := by unfold clsIn; rw [hC] <;> rfl
  have over : excOver K C bmB = true := by
    unfold excOver
    rw [hcl]
    show (C == C && excTail bmB bm) = true
    rw [hbm, beq_self_eq_true]; rfl
  have tak : takerIn K C name = some none := by unfold takerIn; rw [ha]; rfl
  have hcls : Looks (model prog w) hp (classData C) _ := looks_clsIn X hcl
  have xs : x ≠ hp.objs.size := Nat.ne_of_lt (Heap.lt_size hx)
  refine osa_openX (s := ⟨hp, g, d, t, os⟩) (od := none) E.S X ⟨hx, rfl, rfl, trivial⟩ over tak fun b => ?_
  show wpAny _ _ (storeInOwnDict (.ref x) (.ref C) (.str name tk) name v b) _ _ _
  unfold storeInOwnDict ownDictForStores
  repeat (first | with_reducible refine store_in_new ?_ ?_ | with_reducible refine wpAny_loadPart_at hx ?_ | with_reducible refine hcls.at ?_ | wp_step)
  · exact ⟨_, #[], _, (Heap.get?_update_ne _ _ _ _ xs.symm).trans (Heap.get?_push_at rfl rfl), rfl, fun e he => absurd he (by simp), fun _ => rfl⟩
  · intro h' tk' hn' hs
    have hx₁ : (hp.push { cls := .type "dict", data := .dict #[] }).get? x = some { cls := .ref C, data := .fields fv } := Heap.get?_push_of_some _ hx
    refine hq h' tk' hp.objs.size (fun b o hb ho => ?_) (Nat.le_refl _) xs.symm ?_ hn'
    · exact (hs.2 b (Nat.ne_of_lt (Heap.lt_size ho))).trans ((Heap.get?_update_ne _ _ _ _ hb).trans (Heap.get?_push_of_some _ ho))
    · exact (hs.2 x xs).trans (Heap.get?_update_self _ hx₁ rfl)
end
section
variable {X : Cx} {pins : List (Addr × Obj)} {σ : St} {H : Hp} {s : Shared} {a C : Addr} {f : Str} {y : V} {u : Value} {A : Around} {B newId initId : String} {bmB : List Value}
/-- self.f = y -/
theorem ostB {Q : Unit → Shared → Prop} {E' : Value → Shared → Prop} (E : ExB B newId initId bmB) (T : ExC X.K C newId bmB) (I : Inv X pins σ H s) (e : H a = some (exo a C none)) (hno : PySem.W.findIn X.K (.ref C) f = some none) (ry : RelV y u)
    (h : ∀ dx s', H dx = none → dx ≠ a → Inv X pins σ (upd (upd H dx (exd dx [(f, y)])) a (exo a C (some dx))) s' → Q () s') : wpAny (model X.prog X.w) A (setAttr (.ref a) f u) Q E' s := by
  obtain ⟨t1, ho⟩ := exo_at I.hok e
  obtain ⟨hp, g, d, t, os⟩ := s
  refine PySem.W.set_plain I.kIn (ox := { cls := .ref C, dict := none, data := .fields #[.ref t1, .none, .none, .none, .bool false, .none] }) (od := none) ⟨ho, rfl, rfl, trivial⟩ T.sa ?_
  refine osaB E T I.kIn ho hno fun h' tk' dx k dn dne hx hn => ?_
  have fresh : H dx = none := I.hok.fresh dn
  have nd : ∀ {b : Addr} {o : Obj}, hp.get? b = some o → b ≠ dx := fun q => Nat.ne_of_lt (Nat.lt_of_lt_of_le (Heap.lt_size q) dn)
  have na : ∀ {b : Addr}, H b = none → b ≠ a := fun n z => by
    rw [z, e] at n
    cases n
  have U : Un X.fs [] H (upd (upd H dx (exd dx [(f, y)])) a (exo a C (some dx))) hp h' :=
    ⟨fun b o q n _ _ => k b o (na n) q, fun b o q n _ _ => ⟨o.slots, k b o (na n) q⟩, fun b o q n _ => by rw [upd_ne (na n), upd_ne (nd q)]; exact n,
      (fun b o q _ => by
        by_cases hb : b = a
        · subst hb; exact ⟨_, hx⟩
        · exact ⟨o, k b o hb q⟩), fun b xs q => by rw [upd_ne (at_ne e q exo_tup), upd_ne (ne_of_none q fresh)]; exact q,
      fun b o v q => by rw [upd_ne (at_ne e q exo_frz), upd_ne (ne_of_none q fresh)]; exact q, fun b ps q => ⟨#[], by rw [upd_ne (at_ne e q exo_tbl), upd_ne (ne_of_none q fresh), q]; simp⟩⟩
  refine h dx _ fresh dne (I.un (t' := tk') U fun b o q => ?_)
  by_cases hb : b = a
  · subst hb
    rw [upd_same] at q
    cases q
    exact exo_ok hx
  · rw [upd_ne hb] at q
    by_cases hd : b = dx
    · subst hd
      rw [upd_same] at q
      cases q
      exact exd_ok hn (relO_put (fs := []) ry fun g => True.intro)
    · rw [upd_ne hd] at q
      exact (I.hok b o q).stay (fun c v hc z => k c v (hc.elim (fun hc => by rw [hc]; exact hb) fun hc => at_ne e hc exo_own) z)
        (fun c hc => by rw [upd_ne (at_ne e hc exo_own), upd_ne (ne_of_none hc fresh)]; exact hc) fun c xs hc => by rw [upd_ne (at_ne e hc exo_tup), upd_ne (ne_of_none hc fresh)]; exact hc
/-- the base's __init__ -/
theorem oinitB {us : List Value} {Q : Value → Shared → Prop} (E : ExB B newId initId bmB) (T : ExC X.K C newId bmB) (I : Inv X pins σ H s) (e : H a = some (exo a C none)) (hl : us.length ≤ sizeLine) (h : ∀ s', Inv X pins σ H s' → Q .none s') :
    wpAny (model X.prog X.w) X.A (call (.builtin initId) (.ref a :: us)) Q X.xe s := by
  obtain ⟨nm, q, N, bs, bm, sn, sub, ab, col, dd, k0, k1, k2, k3, k5, hC, hbm⟩ := T.cls
  obtain ⟨t1, ho⟩ := exo_at I.hok e
  obtain ⟨hp, g, d, t, os⟩ := s
  refine wpAny_call (PySem.HandSPX.init_base E.F (fun Y => PySem.W.excTail_contains Y bm hbm) (I.kIn _ _ hC) ho hl fun h' t2 k hx => ?_)
  have J := I.write (t' := t) (x := a) (e := a) (o := exo a C none) (by rw [e]; exact True.intro) (.inl rfl) k ⟨_, hx⟩ (exo_ok hx)
  rw [show upd H a (exo a C none) = H from funext fun b => if hb : b = a then by rw [hb, upd_same, e] else upd_ne hb] at J
  exact h _ J
/-- what stands of B itself -/
structure ExK (K : PySem.W.Frag) (mg : Str → Option Value) (B initId : String) : Prop where
  gB : mg (Str.ofString B) = none
  bB : bootBuiltins (Str.ofString B) = some (.type B)
  vB : PySem.W.findCls K (.type B) (.type "type") "__init__" = some (.val (.builtin initId))
  st : Manifest.isStub B = false
def tBin (K : PySem.W.Frag) (newId : String) (bmB : List Value) (ta : TA) : TE := fun σ H Q => ta σ H fun vs H1 => ∃ (a C : Addr) (ws : List V), vs = .ref a :: ws ∧ ws.length ≤ 1000 ∧ ExC K C newId bmB ∧ H1 a = some (exo a C none) ∧ Q .non H1
theorem pe_bin_ {e : Expr} {es : List Expr} {ta : TA} {p1 p2 pos : Pos} {x : Str} (E : ExB B newId initId bmB) (k : ExK X.K X.mg B initId) (hx : x = Str.ofString B) (hn : x ≠ "__name__") (hdb : (x == ("__debug__" : Str)) = false) (hg : Gl X x) (ha : PA X (e :: es) ta)
    {pl : Sem Bool} (hc : eval (.Call (.Attribute (.Name x p1) "__init__" p2) (e :: es) [] pos) X.env = (eval (.Name x p1) X.env >>= fun ov => standAt p2.atName >>= fun _ => holding [ov] (getMethod ov "__init__" pl) >>= fun q => callWith pos q.1 q.2 (backTo pos (starEach (e :: es) X.env)) (backToKw pos (keywordEach [] X.env)))) (he : starEach (e :: es) X.env = (false, eval e X.env) :: starEach es X.env) (hpl : (backTo pos (starEach es X.env)).any (·.1) = false) :
    PE X (.Call (.Attribute (.Name x p1) "__init__" p2) (e :: es) [] pos) (tBin X.K newId bmB ta) := by
  refine ⟨fun pins s σ H Q I h => ?_⟩
  subst hx
  refine PySem.W.methodCall_KW (ld_blt I hg k.gB k.bB ?_ hn hdb) hc
  obtain ⟨m, fr⟩ := I.fr
  refine PySem.W.method_type fr I.ok.mod.kin E.ty k.st k.vB E.hi ?_
  show wpAny _ _ (callWith pos (Value.builtin initId) [] (backTo pos (starEach (e :: es) X.env)) []) _ _ _
  refine PyProof.Rows.callWith_method1 (thn (ha.run pos pins _ σ H _ (I.tok _) h) fun us s1 ⟨vs, H1, I1, r1, a, C, ws, ev, hl, T, ea, q⟩ => ?_) he hpl
  subst ev
  cases r1 with
  | @cons _ u0 _ ur ra rw' =>
    obtain rfl : u0 = Value.ref a := ra
    exact oinitB E T I1 ea (by rw [← Paired.length rw', sizeLine_eq]; omega) fun s' J => ⟨.non, H1, J, rfl, q⟩
def tOstB (K : PySem.W.Frag) (newId : String) (bmB : List Value) (f : Str) (to te : TE) : TS := fun D σ H => te σ H fun y H1 => to σ H1 fun x H2 => ∃ a C : Addr, x = .ref a ∧ ExC K C newId bmB ∧ PySem.W.findIn K (.ref C) f = some none ∧
  H2 a = some (exo a C none) ∧ ∀ dx, H2 dx = none → dx ≠ a → D.nx σ (upd (upd H2 dx (exd dx [(f, y)])) a (exo a C (some dx)))
theorem ps_ostB {o e : Expr} {to te : TE} {p' pos : Pos} (E : ExB B newId initId bmB) (ho : PE X o to) (he : PE X e te) (hs : swapsWith e (some (.Attribute o f p')) pos.line X.env = pure false) : PS X (.Assign [.Attribute o f p'] e pos) (tOstB X.K newId bmB f to te) := by
  refine ⟨fun pins s σ H D I h => ?_⟩
  refine plainObj_wpAny_Assign_Attribute (thn (he.run pins s σ H _ I h) fun v s1 ⟨y, H1, I1, r1, q1⟩ => thn (ho.run pins s1 σ H1 _ I1 q1) fun u s2 ⟨x, H2, I2, r2, a, C, ex, T, hno, ea, q⟩ => ?_) hs
  subst ex
  obtain rfl : u = Value.ref a := r2
  exact ostB E T I2 ea hno r1 fun dx s' n ne J => ⟨σ, _, J, q dx n ne⟩
end

/-! ### __init__(self, y): B.__init__(self, 'm'); self.f = y -/
def spInit (K : PySem.W.Frag) (newId : String) (bmB : List Value) (f : Str) : Sp := fun vs H Q _ => ∃ (a C : Addr) (v : V), vs = [.ref a, v] ∧ ExC K C newId bmB ∧ PySem.W.findIn K (.ref C) f = some none ∧ H a = some (exo a C none) ∧
  ∀ dx, H dx = none → dx ≠ a → Q .non (upd (upd H dx (exd dx [(f, v)])) a (exo a C (some dx)))
section
variable {P : Program} {w : World} {K : PySem.W.Frag} {mg : Str → Option Value} {base : Heap} {B newId initId : String} {bmB : List Value}
theorem initB_ok (E : ExB B newId initId bmB) (k : ExK K mg B initId) {qual xB fl y m : Str} {st : Stmt} {fI : Addr} {fd : FuncData} {j : Nat} {p1 p2 p3 p4 p5 p6 p7 p8 p9 p10 : Pos} (F : Fun K "__init__" qual st fI fd)
    (hbody : defBody st = [.Expr (.Call (.Attribute (.Name xB p1) "__init__" p2) [.Name "self" p3, .Constant (.str m) j p4] [] p5) p6, .Assign [.Attribute (.Name "self" p7) fl p8] (.Name y p9) p10])
    (S : FnScope ["self", y] ["self", y] (defScope st)) (hx : xB = Str.ofString B) (hn : xB ≠ "__name__") (hdb : (xB == ("__debug__" : Str)) = false) (hgl : (defScope st).names.lookup xB = some .globalImplicit) (h0 : (defScope st).names.lookup (Str.ofString "self") = some .local) (h1 : (defScope st).names.lookup y = some .local)
    (hy : (y == ("__debug__" : Str)) = false) (hy2 : (y == ("__classdict__" : Str)) = false) (hns : y ≠ "self")
    (hc : ∀ env : PySem.Env, ∃ pl : Sem Bool, eval (.Call (.Attribute (.Name xB p1) "__init__" p2) [.Name "self" p3, .Constant (.str m) j p4] [] p5) env = (eval (.Name xB p1) env >>= fun ov => standAt p2.atName >>= fun _ => holding [ov] (getMethod ov "__init__" pl) >>= fun q => callWith p5 q.1 q.2 (backTo p5 (starEach [.Name "self" p3, .Constant (.str m) j p4] env)) (backToKw p5 (keywordEach [] env))))
    (hs1 : ∀ env : PySem.Env, swapsWith (.Call (.Attribute (.Name xB p1) "__init__" p2) [.Name "self" p3, .Constant (.str m) j p4] [] p5) none p6.line env = pure false) (hs2 : ∀ env : PySem.Env, swapsWith (.Name y p9) (some (.Attribute (.Name "self" p7) fl p8)) p10.line env = pure false) :
    FnOk P w K mg base (L2.CX P w) 1 fI fd ["self", y] (spInit K newId bmB fl) := by
  refine F.okX S (fun vs H Q E' h => by obtain ⟨_, _, _, rfl, _⟩ := h; rfl) fun cdv A outer s H vs Q E' hr hsp => ?_
  rw [hbody]
  obtain ⟨a, C, v, rfl, T, hno, ea, q⟩ := hsp
  obtain ⟨pl, hpl⟩ := hc (envOfC qual (defScope st) s.heap.objs.size fI cdv)
  refine ⟨_, pss_cons (ps_expr (pe_bin_ E k hx hn hdb hgl (pa_cons (pe_var (i := 0) rfl (.inl h0) (by decide) (by decide)) (pa_cons pe_str pa_nil)) hpl rfl rfl) (hs1 _)) (pss_cons (ps_ostB E (pe_var (i := 0) rfl (.inl h0) (by decide) (by decide)) (pe_var (i := 1) rfl (.inl h1) hy hy2) (hs2 _)) pss_nil), ?_⟩
  exact ⟨.ref a, rfl, a, C, [.str m], rfl, by simp, T, ea, v, rfl, .ref a, rfl, a, C, rfl, T, hno, ea, fun dx n ne => q dx n ne⟩
end

/-! ### C(e), raised -/
section
variable {X : Cx} {B newId initId : String} {bmB : List Value} {x y f : Str} {C fI : Addr} {fd : FuncData} {e : Expr} {te : TE} {p pos pos2 : Pos}
theorem pmkB (E : ExB B newId initId bmB) (T : ExC X.K C newId bmB) (iC : PySem.W.findIn X.K (.ref C) "__init__" = some (some (.ref fI))) (tI : PySem.W.typeIn X.K (.ref fI) = some (.type "function"))
    (F1 : FnOk X.prog X.w X.K X.mg X.base (L2.CX X.prog X.w) 1 fI fd ["self", y] (spInit X.K newId bmB f)) (hno : PySem.W.findIn X.K (.ref C) f = some none) (hr : Room 2 X.A) (hb : Binds X.K fd ["self", y] [])
    (hg : Gl X x) (hm : X.mg x = some (.ref C)) (hdb : (x == ("__debug__" : Str)) = false) (hs : starEach [e] X.env = (false, eval e X.env) :: starEach [] X.env) (ha : PE X e te) : PMk X (.Call (.Name x p) [e] [] pos) (fun σ H Q => te σ H fun v H1 => ∀ d, H1 d = none → Q (.ref C) (some d) (upd H1 d (.xd [(f, v)]))) := by
  intro pins s σ H Q I h
  obtain ⟨nm, q, N, bs, bm, sn, sub, ab, col, dd, k0, k1, k2, k3, k5, hC, hbm⟩ := T.cls
  refine wpAny_Call_Name_kw (ld_glob I hg hm ?_ hdb)
  refine PySem.W.callWith_K (h₀ := X.base) I.ok.mod.kin T.kC (thn ((pa_cons ha pa_nil hs).run pos pins s σ H (fun vs H1 => match vs with
    | [v] => ∀ d, H1 d = none → Q (.ref C) (some d) (upd H1 d (.xd [(f, v)]))
    | _ => False) I h) fun us s1 hh => ?_) hs rfl
  obtain ⟨vs, H1, I1, r1, q0⟩ := hh
  refine ⟨I1.kIn, ?_⟩
  obtain ⟨v, rfl, q1⟩ : ∃ v, vs = [v] ∧ ∀ d, H1 d = none → Q (.ref C) (some d) (upd H1 d (.xd [(f, v)])) := by
    cases vs with
    | nil => exact q0.elim
    | cons v r => cases r with
      | nil => exact ⟨v, rfl, q0⟩
      | cons => exact q0.elim
  obtain ⟨u, rfl, ru⟩ := vals1 r1
  show wpAny _ _ (call (.ref C) [u]) _ _ _
  obtain ⟨hp, g, dr, tk, os⟩ := s1
  have up1 : hp.objs.size ≤ hp.objs.size + 1 := Nat.le_succ _
  generalize ea : hp.objs.size + 1 = a at up1
  have hn : H1 a = none := I1.hok.fresh up1
  have kk : ∀ b o, hp.get? b = some o → ((hp.push (PySem.W.kdv_tup [u])).push (PySem.HandSPX.excO C hp.objs.size)).get? b = some o := fun b o e => Heap.get?_push_of_some _ (Heap.get?_push_of_some _ e)
  have there : ((hp.push (PySem.W.kdv_tup [u])).push (PySem.HandSPX.excO C hp.objs.size)).get? a = some (PySem.HandSPX.excO C hp.objs.size) := by subst ea; heap_get
  have I2 : Inv X pins σ (upd H1 a (exo a C none)) ⟨(hp.push (PySem.W.kdv_tup [u])).push (PySem.HandSPX.excO C hp.objs.size), g, dr, tk, os⟩ := I1.laid (t' := tk) kk up1 (exo_ok there)
  have sp : spInit X.K newId bmB f [.ref a, v] (upd H1 a (exo a C none)) (fun z H2 => z = .non ∧ ∃ (d : Addr) (fs : List (Str × V)), H2 a = some (exo a C (some d)) ∧ H2 d = some (exd d fs) ∧ H1 d = none ∧ Q (.ref C) (some d) (upd (del H2 a) d (.xd fs))) (fun _ _ _ => False) := by
    refine ⟨a, C, v, rfl, T, hno, upd_same, fun dx n ne => ⟨rfl, dx, [(f, v)], upd_same, by rw [upd_ne ne, upd_same], ?_, ?_⟩⟩
    · rw [upd_ne ne] at n; exact n
    · have n1 : H1 dx = none := by rw [upd_ne ne] at n; exact n
      have eq : upd (del (upd (upd (upd H1 a (exo a C none)) dx (exd dx [(f, v)])) a (exo a C (some dx))) a) dx (HO.xd [(f, v)]) = upd H1 dx (.xd [(f, v)]) := by
        funext b
        by_cases b1 : b = dx
        · rw [b1, upd_same, upd_same]
        · rw [upd_ne b1, upd_ne b1]
          by_cases b2 : b = a
          · rw [b2, del_same, hn]
          · rw [del_ne b2, upd_ne b2, upd_ne b1, upd_ne b2]
      rw [eq]
      exact q1 dx n1
  refine wpAny_call (PySem.HandSPX.call_own E.F (fun Y => PySem.W.excTail_contains Y bm hbm) (I1.kIn _ _ hC) (PySem.W.looks_findIn I1.kIn iC) (fun self => PySem.W.bind_fn I1.kIn self tI) (by show 1 ≤ sizeLine; rw [sizeLine_eq]; omega)
    (codeAny_mono (F1.run _ X.stack _ _ ⟨[Value.ref (hp.objs.size + 1), u], []⟩ [Value.ref (hp.objs.size + 1), u] [.ref a, v] _ (fun _ _ _ => False) ((hr.mono (by omega)).make C [u] []) (I2.env0.make C [u] []) ?_ ?_ sp) fun r s' hq' => ?_))
  · have := hb ⟨(hp.push (PySem.W.kdv_tup [u])).push (PySem.HandSPX.excO C hp.objs.size), g, dr, tk, os⟩ [Value.ref (hp.objs.size + 1), u] I2.kIn rfl
    exact this
  · subst ea
    exact .cons rfl (.cons ru .nil)
  · cases r with
    | error er => exact passAt takes0 σ pins _ _ er s' I2 hq'
    | ok fl =>
      cases fl with
      | ret z =>
        obtain ⟨z', H2, os2, bare2, un2, hok2, rv, ev, d, fs, ea2, ed, hd1, q2⟩ := hq'
        subst ev
        obtain ⟨h2, g2, d2, t2, os'⟩ := s'
        subst ea
        exact ⟨rv, mk_end (raises_own T.exC T.tyC) I1 up1 kk un2 hok2 os2 bare2 ea2 ed hd1 q2⟩
      | next => exact False.elim hq'
      | brk => exact False.elim hq'
      | cont => exact False.elim hq'
end
/-- an error of a class is what «except» of this class names -/
theorem exm_selfG {K : PySem.W.Frag} {C : Addr} (h1 : PySem.W.subIn K (.ref C) (.type "BaseException") = some true) (h2 : PySem.W.isClsIn K C = true) (h3 : PySem.W.typeIn K (.ref C) = some (.type "type")) (h4 : PySem.W.subIn K (.ref C) (.ref C) = some true) : PySem.W.exmOne K (.ref C) (.ref C) = some true := by
  have h2 : (PySem.W.clsIn K C).isSome = true := h2
  show (if (PySem.W.subIn K (.ref C) (.type "BaseException") == some true) = true then (if ((PySem.W.clsIn K C).isSome && PySem.W.typeIn K (.ref C) == some (.type "type")) = true then PySem.W.subIn K (.ref C) (.ref C) else none) else none) = some true
  rw [h1, h2, h3, h4]
  rfl
theorem exB_ValueError : ExB "ValueError" "ValueError.__new__" "ValueError.__init__" [.type "ValueError", .type "Exception", .type "BaseException", .type "object"] := ⟨PySem.F.excBase_ValueError, PySem.F.store_ValueError, by kernel_rfl, by decide +kernel⟩
theorem exB_LookupError : ExB "LookupError" "LookupError.__new__" "LookupError.__init__" [.type "LookupError", .type "Exception", .type "BaseException", .type "object"] := ⟨PySem.F.excBase_LookupError, PySem.F.store_LookupError, by kernel_rfl, by decide +kernel⟩
theorem exB_IndexError : ExB "IndexError" "IndexError.__new__" "IndexError.__init__" [.type "IndexError", .type "LookupError", .type "Exception", .type "BaseException", .type "object"] := ⟨PySem.F.excBase_IndexError, PySem.F.store_IndexError, by kernel_rfl, by decide +kernel⟩
theorem exB_OverflowError : ExB "OverflowError" "OverflowError.__new__" "OverflowError.__init__" [.type "OverflowError", .type "ArithmeticError", .type "Exception", .type "BaseException", .type "object"] := ⟨PySem.F.excBase_OverflowError, PySem.F.store_OverflowError, by kernel_rfl, by decide +kernel⟩
theorem exB_ArithmeticError : ExB "ArithmeticError" "ArithmeticError.__new__" "ArithmeticError.__init__" [.type "ArithmeticError", .type "Exception", .type "BaseException", .type "object"] := ⟨PySem.F.excBase_ArithmeticError, PySem.F.store_ArithmeticError, by kernel_rfl, by decide +kernel⟩
theorem exB_RuntimeError : ExB "RuntimeError" "RuntimeError.__new__" "RuntimeError.__init__" [.type "RuntimeError", .type "Exception", .type "BaseException", .type "object"] := ⟨PySem.F.excBase_RuntimeError, PySem.F.store_RuntimeError, by kernel_rfl, by decide +kernel⟩
end L2.G4

set_option maxHeartbeats 4000000
/-! GN: outcomes of statements, a def's promise by what it computes, the call. -/
namespace L2.G4
open PySem PySem.Spec PyProof.Rows

/-- what a statement comes to -/
inductive Fl where
  | nx (env : Env) (st : Store)
  | rt (d : D) (st : Store)
  | bk (env : Env) (st : Store)
  | ct (env : Env) (st : Store)
  | exc (e : Ex) (env : Env) (st : Store)
  | bad
abbrev Fs := Env → Store → Fl
def Fl.andThen (x : Fl) (g : Fs) : Fl := match x with
  | .nx env st => g env st
  | y => y
/-- an expression first -/
def Fl.ofRz {A : Type} (env : Env) (x : Rz A) (g : A → Store → Fl) : Fl := match x with
  | .ok a st => g a st
  | .exc e st => .exc e env st
  | .bad => .bad
@[simp] theorem Fl.ofRz_ok {A : Type} (env : Env) (a : A) (st : Store) (g : A → Store → Fl) : Fl.ofRz env (.ok a st) g = g a st := rfl
@[simp] theorem Fl.ofRz_exc {A : Type} (env : Env) (e : Ex) (st : Store) (g : A → Store → Fl) : Fl.ofRz env (.exc e st) g = .exc e env st := rfl
@[simp] theorem Fl.ofRz_bad {A : Type} (env : Env) (g : A → Store → Fl) : Fl.ofRz env .bad g = .bad := rfl
@[simp] theorem Fl.andThen_nx (env : Env) (st : Store) (g : Fs) : (Fl.nx env st).andThen g = g env st := rfl
@[simp] theorem Fl.andThen_rt (d : D) (st : Store) (g : Fs) : (Fl.rt d st).andThen g = .rt d st := rfl
@[simp] theorem Fl.andThen_exc (e : Ex) (env : Env) (st : Store) (g : Fs) : (Fl.exc e env st).andThen g = .exc e env st := rfl
@[simp] theorem Fl.andThen_bk (env : Env) (st : Store) (g : Fs) : (Fl.bk env st).andThen g = .bk env st := rfl
@[simp] theorem Fl.andThen_ct (env : Env) (st : Store) (g : Fs) : (Fl.ct env st).andThen g = .ct env st := rfl

section
variable (K : PySem.W.Frag) (mg : Str → Option Value) (W : Wx) (r : Rm) (n : Nat) (H : Hp) (D : Ends)
def Pf : Fl → Prop
  | .nx env' st' => ∀ r' σ' H', Fw r r' n st'.length H H' → Wd K r' env' st' σ' H' → D.nx σ' H'
  | .bk env' st' => ∀ r' σ' H', Fw r r' n st'.length H H' → Wd K r' env' st' σ' H' → D.bk σ' H'
  | .ct env' st' => ∀ r' σ' H', Fw r r' n st'.length H H' → Wd K r' env' st' σ' H' → D.ct σ' H'
  | .rt d st' => ∀ r' H' v, Fw r r' n st'.length H H' → Sr K r' st' H' → DV K H' r' st'.length d v → D.rt v H'
  | .exc e env' st' => ∀ r' σ' H' c dx, Fw r r' n st'.length H H' → Wd K r' env' st' σ' H' → ExR K mg H' r' st'.length e c dx → W c dx σ' H'
  | .bad => False
def tS (f : Fs) : TS := fun D σ H => ∃ (r : Rm) (env : Env) (st : Store), Wd K r env st σ H ∧ Pf K mg W r st.length H D (f env st)
end
abbrev SS (X : Cx) (W : Wx) (s : Stmt) (f : Fs) : Prop := PS X s (tS X.K X.mg W f)
abbrev SSs (X : Cx) (W : Wx) (s : List Stmt) (f : Fs) : Prop := PSs X s (tS X.K X.mg W f)
theorem PS.imp {X : Cx} {s : Stmt} {t t' : TS} (h : PS X s t) (i : ∀ D σ H, t' D σ H → t D σ H) : PS X s t' := ⟨fun pins s σ H D I q => h.run pins s σ H D I (i D σ H q)⟩
theorem PSs.imp {X : Cx} {s : List Stmt} {t t' : TS} (h : PSs X s t) (i : ∀ D σ H, t' D σ H → t D σ H) : PSs X s t' := ⟨fun pins s σ H D I q => h.run pins s σ H D I (i D σ H q)⟩

section
variable {K : PySem.W.Frag} {mg : Str → Option Value} {W : Wx} {r r' : Rm} {env env' : Env} {st st' : Store} {σ σ' : St} {H H' : Hp} {De : Ends}
theorem Pf.fw {x : Fl} (S' : Sr K r' st' H') (F : Fw r r' st.length st'.length H H') (h : Pf K mg W r st.length H De x) : Pf K mg W r' st'.length H' De x := by
  cases x with
  | nx e s => exact fun r2 σ2 H2 F2 w2 => h r2 σ2 H2 (F.trans S' F2) w2
  | bk e s => exact fun r2 σ2 H2 F2 w2 => h r2 σ2 H2 (F.trans S' F2) w2
  | ct e s => exact fun r2 σ2 H2 F2 w2 => h r2 σ2 H2 (F.trans S' F2) w2
  | rt d s => exact fun r2 H2 v F2 S2 dv => h r2 H2 v (F.trans S' F2) S2 dv
  | exc e en s => exact fun r2 σ2 H2 c dx F2 w2 x => h r2 σ2 H2 c dx (F.trans S' F2) w2 x
  | bad => exact h
theorem Pf.here (w : Wd K r env st σ H) (h : Pf K mg W r st.length H De (.nx env st)) : De.nx σ H := h r σ H (Fw.refl _ _ _) w
/-- an expression ahead of the rest -/
theorem Pf.first {A : Type} {x : Rz A} {g : A → Store → Fl} (w : Wd K r env st σ H) (h : Pf K mg W r st.length H De (Fl.ofRz env x g)) :
    Po K mg W r st H σ (fun a r' st' H' => Wd K r' env st' σ H' ∧ Pf K mg W r' st'.length H' De (g a st')) x := by
  cases x with
  | ok a s => exact fun r' H' F S => ⟨w.fw F S, Pf.fw S F h⟩
  | exc e s => exact fun r' H' c dx F S x => h r' σ H' c dx F (w.fw F S) x
  | bad => exact h
/-- a statement ahead of the rest -/
theorem Pf.seq {x : Fl} {g : Fs} (h : Pf K mg W r st.length H De (x.andThen g)) :
    Pf K mg W r st.length H { De with nx := fun σ' H' => tS K mg W g De σ' H' } x := by
  cases x with
  | nx e s => exact fun r' σ' H' F w => ⟨r', e, s, w, Pf.fw w.sr F h⟩
  | _ => exact h
end

/-! ### a def -/
def startE (n : Nat) (ds : List D) : Env := ds.map some ++ List.replicate (n - ds.length) none
theorem ev_start {K : PySem.W.Frag} {H : Hp} {r : Rm} {n : Nat} {N : List Str} {ds : List D} {vs : List V} (h : DVs K H r n ds vs) : Ev_ K H r n (startE N.length ds) (start N vs) := by
  have hl := h.length
  refine ⟨by unfold startE start; simp [hl], fun i d e => ?_⟩
  unfold startE at e
  have hi : i < ds.length := by
    by_cases q : i < ds.length
    · exact q
    · rw [List.getElem?_append_right (by simpa using q), List.getElem?_replicate] at e
      split at e <;> cases e
  rw [List.getElem?_append_left (by simpa using hi), List.getElem?_map] at e
  cases q : ds[i]? with
  | none => rw [q] at e; cases e
  | some d' =>
    rw [q] at e
    cases e
    obtain ⟨v, h1, h2⟩ := h.get q
    refine ⟨v, ?_, h2⟩
    unfold start
    rw [List.getElem?_append_left (by rw [List.length_map, ← hl]; exact hi), List.getElem?_map, h1]
    rfl
def Fl.res : Fl → Rz D
  | .nx _ st => .ok .non st
  | .rt d st => .ok d st
  | .exc e _ st => .exc e st
  | _ => .bad
abbrev PFn := List D → Store → Rz D
/-- what a def computes, by its body -/
noncomputable def runFn (kn : Bool) (m : Nat) (n : Nat) (body : Fs) : PFn := fun ds st =>
  if ds.length = m then gcR kn st (body (startE n ds) st).res else .bad
theorem Pf.of_res {K : PySem.W.Frag} {mg : Str → Option Value} {r : Rm} {st : Store} {H : Hp} {Q : VK} {E : XK} {x : Fl} (h : Po K mg (fun c dx _ H' => E c dx H') r st H [] (Pv K Q) x.res) :
    Pf K mg (fun c dx _ H' => E c dx H') r st.length H { nx := fun _ H' => Q .non H', rt := Q } x := by
  cases x with
  | nx e s => exact fun r' σ' H' F w => h r' H' F w.sr _ .non
  | rt d s => exact fun r' H' v F S dv => h r' H' F S v dv
  | exc e en s => exact fun r' σ' H' c dx F w x => h r' H' c dx F w.sr x
  | bk e s => exact h.elim
  | ct e s => exact h.elim
  | bad => exact h

structure FnG (P : Program) (w : World) (K : PySem.W.Frag) (mg : Str → Option Value) (base : Heap) (k : Nat) (f : Addr) (fd : FuncData) (ps : List Str) (F : PFn) (gd : Bool) : Prop where
  len : ∀ ds st, ds.length ≠ ps.length → F ds st = .bad
  run : ∀ (A : Around) (outer : List PySem.Env) (s : Shared) (H : Hp) (args : Args) (us : List Value) (vs : List V) (r : Rm) (st : Store) (ds : List D) (Q : VK) (E : XK), Room k A → (gd = true → A.guards = some []) →
    Env0 P w K mg base A outer s H → BindsTo s fd args (ps.zip us) → Vals vs us → Sr K r st H → DVs K H r st.length ds vs → Po K mg (fun c dx _ H' => E c dx H') r st H [] (Pv K Q) (F ds st) →
    codeAny (model P w) A (.call (.ref f) args) (CR (L2.CX P w) outer P w H s Q E) s

theorem fnG_of {P : Program} {w : World} {K : PySem.W.Frag} {mg : Str → Option Value} {base : Heap} {k : Nat} {f : Addr} {name qual : Str} {params : Arguments} {body : List Stmt} {scope : Scope} {dV kV doc pm cdv ct oc : Value} {an od : Option Addr}
    {osl : Array (Option Value)} {N ps : List Str} {kn gd : Bool} {g : Fs} (lk : K.lookup f = some ⟨oc, od, .func (PySem.W.fnOf name qual params body scope dV kV doc pm an cdv ct), osl⟩) (hcd : PySem.W.codeIn K cdv qual = true) (S : FnScope N ps scope)
    (hbody : ∀ (A : Around) (outer : List PySem.Env) (s : Shared) (H : Hp) (E : XK), Room k (A.deeper (envOfC qual scope s.heap.objs.size f cdv)) → (gd = true → A.guards = some []) →
      SSs (cxOf (L2.CX P w) P w K mg base N qual scope f cdv A outer s H E) (fun c dx _ H' => E c dx H') body g) :
    FnG P w K mg base (k + 1) f (PySem.W.fnOf name qual params body scope dV kV doc pm an cdv ct) ps (runFn kn ps.length N.length g) gd := by
  refine ⟨fun ds st h => by unfold runFn; rw [if_neg h], fun A outer s H args us vs r st ds Q E hr hgd e0 hb rv Sh hd p => ?_⟩
  unfold runFn at p
  split at p
  · rename_i hlen
    have hl : vs.length = ps.length := by rw [← hd.length, hlen]
    have KX : K.In s.heap := e0.mod.kin.keeps fun b o e => (e0.bs b o e).1
    have lim : s.heap.NoLimit := e0.mod.nolimit.keeps fun b o e => (e0.bs b o e).1
    have hkind : ∀ y ∈ ps.zip us, scope.names.lookup y.1 = some .local ∨ (scope.names.lookup y.1 = some .cell ∧ ((cellsFrom (s.heap.objs.size + 1) scope.names []).lookup y.1).isSome = true) := by
      intro y hy
      rcases S.par y.1 (List.of_mem_zip hy).1 with q | q
      · exact .inl q
      · exact .inr ⟨q, PySem.W.cellsFrom_some _ _ _ (.inl q)⟩
    have hbod := hbody A outer s H E (hr.deeper _) hgd
    have goal2 : ∀ s1, InCallC s s.heap.objs.size (bindL (envOfC qual scope s.heap.objs.size f cdv).kindOf (ps.zip us) fun _ => none) (cellsFrom (s.heap.objs.size + 1) scope.names []) (bindC (envOfC qual scope s.heap.objs.size f cdv).kindOf (ps.zip us) fun _ => none) s1 → _ := fun s1 x =>
      hbod.run [] s1 (start N vs) H { nx := fun _ H' => Q .non H', rt := Q } (inv_start S hr.hd e0 hl rv x) ⟨r, startE N.length ds, st, ⟨Sh, ev_start hd⟩, Pf.of_res (gc_ok kn Sh p)⟩
    refine codeAny_call_function hr.depth (KX _ _ lk) rfl S.co S.gen rfl (PySem.W.codeRec_of KX hcd) (hb _ _ _ _ ?_)
    refine wpAny_newFunctionEnv_cells S.kind hkind fun env he s1 x => ?_
    subst he
    refine ⟨lim.keeps x.toInCall.keep, codeAny_func ?_⟩
    refine wpAny_mono (goal2 s1 x) (fun fl s' hs => ?_) fun e s' hs => hs
    cases fl with
    | ret u =>
      obtain ⟨v, σ', H', J, rv', q⟩ := hs
      exact ⟨v, H', J.os, J.bare, J.base, J.hok, rv', q⟩
    | next =>
      obtain ⟨σ', H', J, q⟩ := hs
      exact ⟨V.non, H', J.os, J.bare, J.base, J.hok, rfl, q⟩
    | brk =>
      obtain ⟨_, _, _, q⟩ := hs
      exact False.elim q
    | cont =>
      obtain ⟨_, _, _, q⟩ := hs
      exact False.elim q
  · exact p.elim
theorem FnG.mono {P : Program} {w : World} {K : PySem.W.Frag} {mg : Str → Option Value} {base : Heap} {j k : Nat} {f : Addr} {fd : FuncData} {ps : List Str} {F : PFn} {gd : Bool} (G : FnG P w K mg base j f fd ps F gd) (h : j ≤ k) : FnG P w K mg base k f fd ps F gd :=
  ⟨G.len, fun A outer s H args us vs r st ds Q E hr => G.run A outer s H args us vs r st ds Q E (hr.mono h)⟩

section
variable {X : Cx} {W : Wx} {e : Expr} {es : List Expr} {x : Str} {p pos : Pos} {k : Nat} {f : Addr} {fd : FuncData} {ps : List Str} {F : PFn} {ft : Fe (List D)} {dds : List D} {dvs : List V} {dus : List Value} {gd : Bool}
/-- the callee runs; dds: the defaults that fill up -/
theorem run_G {pins : List (Addr × Obj)} {σ : St} {H : Hp} {s : Shared} {Q : VK} {us : List Value} {vs : List V} {r : Rm} {st : Store} {ds : List D} (G : FnG X.prog X.w X.K X.mg X.base k f fd ps F gd) (hr : Room k X.A) (hgd : gd = true → X.A.guards = some []) (hb : Binds X.K fd ps dus) (hd : Vals dvs dus)
    (hdd : ∀ H r n, DVs X.K H r n dds dvs) (tk : Takes X W) (I : Inv X pins σ H s) (rv : Vals vs us) (S : Sr X.K r st H) (hv : DVs X.K H r st.length ds vs) (p : Po X.K X.mg W r st H σ (Pv X.K Q) (F (ds ++ dds) st)) :
    wpAny (model X.prog X.w) X.A (call (.ref f) us) (EP X pins σ Q) X.xe s := by
  have hv2 := hv.append (hdd H r st.length)
  have r2 : Vals (vs ++ dvs) (us ++ dus) := rv.append hd
  have hl : (us ++ dus).length = ps.length := by
    rw [← r2.length, ← hv2.length]
    apply Classical.byContradiction
    intro hn
    rw [G.len _ _ hn] at p
    exact p
  refine wpAny_call (codeAny_mono (G.run X.A X.stack s H ⟨us, []⟩ (us ++ dus) (vs ++ dvs) r st (ds ++ dds) Q (fun c dx H' => W c dx σ H') hr hgd I.env0 (hb s us I.kIn hl) r2 S hv2 ?_) fun res s' hq => ?_)
  · generalize F (ds ++ dds) st = y at p ⊢
    cases y with
    | ok d st' => exact p
    | exc e st' => exact p
    | bad => exact p
  · cases res with
    | error e => exact passAt tk σ pins H s e s' I hq
    | ok fl =>
      cases fl with
      | ret u => exact I.after hq
      | next => exact False.elim hq
      | brk => exact False.elim hq
      | cont => exact False.elim hq
theorem se_call (G : FnG X.prog X.w X.K X.mg X.base k f fd ps F gd) (hr : Room k X.A) (hgd : gd = true → X.A.guards = some []) (hg : Gl X x) (hm : X.mg x = some (.ref f)) (hk : PySem.W.keepIn X.K (.ref f) = true) (hb : Binds X.K fd ps dus) (hd : Vals dvs dus)
    (hdd : ∀ H r n, DVs X.K H r n dds dvs) (tk : Takes X W) (ha : SA X W (e :: es) ft) (hdb : (x == ("__debug__" : Str)) = false) (he : starEach (e :: es) X.env = (false, eval e X.env) :: starEach es X.env) (hpl : (backTo pos (starEach es X.env)).any (·.1) = false) :
    SE X W (.Call (.Name x p) (e :: es) [] pos) (fArgs (fun ds st => F (ds ++ dds) st) ft) := by
  refine ⟨fun pins s σ H Q I ⟨r, env, st, wd, p⟩ => ?_⟩
  refine wpAny_Call_Name_kw (ld_glob I hg hm ?_ hdb)
  have ht : tA X.K X.mg W ft σ H (fun vs H1 => ∃ (r1 : Rm) (st1 : Store) (ds : List D), Sr X.K r1 st1 H1 ∧ DVs X.K H1 r1 st1.length ds vs ∧ Po X.K X.mg W r1 st1 H1 σ (Pv X.K Q) (F (ds ++ dds) st1)) :=
    tA_then wd p fun ds r1 st1 H1 vs w1 dvs' F1 p1 => ⟨r1, st1, ds, w1.sr, dvs', p1⟩
  refine PySem.W.callWith_K (h₀ := X.base) I.ok.mod.kin hk (thn (ha.run pos pins s σ H _ I ht) fun us s1 ⟨vs, H1, I1, r1, q⟩ => ⟨I1.kIn, ?_⟩) he hpl
  obtain ⟨r2, st2, ds, S2, hv, p2⟩ := q
  exact run_G G hr hgd hb hd hdd tk I1 r1 S2 hv p2
theorem se_call0 (G : FnG X.prog X.w X.K X.mg X.base k f fd ps F gd) (hr : Room k X.A) (hgd : gd = true → X.A.guards = some []) (hg : Gl X x) (hm : X.mg x = some (.ref f)) (hk : PySem.W.keepIn X.K (.ref f) = true) (hb : Binds X.K fd ps dus) (hd : Vals dvs dus)
    (hdd : ∀ H r n, DVs X.K H r n dds dvs) (tk : Takes X W) (hdb : (x == ("__debug__" : Str)) = false) :
    SE X W (.Call (.Name x p) [] [] pos) (fArgs (fun ds st => F (ds ++ dds) st) fNil) := by
  refine ⟨fun pins s σ H Q I ⟨r, env, st, wd, p⟩ => ?_⟩
  refine wpAny_Call_Name_kw (ld_glob I hg hm ?_ hdb)
  exact PySem.W.callWith_K0 I.kIn hk (run_G (us := []) (vs := []) (ds := []) G hr hgd hb hd hdd tk I .nil wd.sr .nil p)
end
end L2.G4

set_option maxHeartbeats 4000000
/-! GO: private addresses; what is walked; targets; plain statements; for and while. -/
namespace L2.G4
open PySem PySem.Spec PyProof.Rows

def Rm.wp (r : Rm) (p : Addr → Prop) : Rm := ⟨r.at_, p⟩
def Rm.add (r : Rm) (a : Addr) : Rm := ⟨r.at_, fun b => r.pv b ∨ b = a⟩
section
variable {K : PySem.W.Frag} {H H' : Hp} {r r' : Rm} {n n' : Nat} {st st' : Store}
mutual
theorem DV.wp {p : Addr → Prop} (hp : ∀ a, p a → r.pv a) : ∀ {d : D} {v : V}, DV K H r n d v → DV K H (r.wp p) n d v
  | _, _, .non => .non
  | _, _, .bl b => .bl b
  | _, _, .int i => .int i
  | _, _, .str x => .str x
  | _, _, .byt b => .byt b
  | _, _, .tup h z t => .tup h z (DVs.wp hp t)
  | _, _, .lst h na z t => .lst h ⟨na.1, fun q => na.2 (hp _ q)⟩ z (DVs.wp hp t)
  | _, _, .fls h z t => .fls h z (DVs.wp hp t)
  | _, _, .loc (i := i) h => DV.loc (r := r.wp p) h
  | _, _, .dct h na l nd z t => .dct h ⟨na.1, fun q => na.2 (hp _ q)⟩ l nd z (DVs.wp hp t)
  | _, _, .exn h na t => .exn h ⟨na.1, fun q => na.2 (hp _ q)⟩ (DV.wp hp t)
  | _, _, .fnv h na t l z => .fnv h ⟨na.1, fun q => na.2 (hp _ q)⟩ (DVs.wp hp t) l z
theorem DVs.wp {p : Addr → Prop} (hp : ∀ a, p a → r.pv a) : ∀ {ds : List D} {vs : List V}, DVs K H r n ds vs → DVs K H (r.wp p) n ds vs
  | _, _, .nil => .nil
  | _, _, .cons a t => .cons (DV.wp hp a) (DVs.wp hp t)
end
theorem KDV.wp {p : Addr → Prop} (hp : ∀ a, p a → r.pv a) : ∀ {ds : List (Key × D)} {vs : List (Key × V)}, KDV K H r n ds vs → KDV K H (r.wp p) n ds vs
  | _, _, .nil => .nil
  | _, _, .cons a t => .cons (a.wp hp) (KDV.wp hp t)
theorem OV.wp {p : Addr → Prop} (hp : ∀ a, p a → r.pv a) {o : O} {ho : HO} (h : OV K H r n o ho) : OV K H (r.wp p) n o ho := by
  cases h with
  | lst z t => exact .lst z (t.wp hp)
  | dic z nd t => exact .dic z nd (t.wp hp)
theorem Sr.wp {p : Addr → Prop} (hp : ∀ a, p a → r.pv a) (S : Sr K r st H) : Sr K (r.wp p) st H :=
  ⟨S.inj, fun i o e => let ⟨ho, h1, h2⟩ := S.obj i o e; ⟨ho, h1, h2.wp hp⟩, fun a ha => S.pvA a (hp a ha), fun i hi z => S.pvN i hi (hp _ z), S.tab⟩
theorem SqT.ne_new {a b : Addr} {xs : List V} {o : HO} (hn : H a = none) (h : SqT K H b xs) : SqT K (upd H a o) b xs := by
  rcases h with (h | ⟨q, h⟩) | h
  · exact .inl (.inl (by rw [upd_ne (ne_of_none h hn)]; exact h))
  · exact .inl (.inr ⟨q, by rw [upd_ne (ne_of_none h hn)]; exact h⟩)
  · exact .inr h
theorem FzL.ne_new {a b : Addr} {xs : List V} {o : HO} (hn : H a = none) (h : FzL K H b xs) : FzL K (upd H a o) b xs := by
  rcases h with ⟨q, h⟩ | h
  · exact .inl ⟨q, by rw [upd_ne (ne_of_none h hn)]; exact h⟩
  · exact .inr h
mutual
theorem DV.add {a : Addr} {o : HO} (hn : H a = none) : ∀ {d : D} {v : V}, DV K H r n d v → DV K (upd H a o) (r.add a) n d v
  | _, _, .non => .non
  | _, _, .bl b => .bl b
  | _, _, .int i => .int i
  | _, _, .str x => .str x
  | _, _, .byt b => .byt b
  | _, _, .tup h z t => .tup (G4.SqT.ne_new hn h) z (DVs.add hn t)
  | _, _, .lst h na z t => .lst (by rw [upd_ne (ne_of_none h hn)]; exact h) ⟨na.1, fun q => q.elim na.2 (ne_of_none h hn)⟩ z (DVs.add hn t)
  | _, _, .fls h z t => .fls (FzL.ne_new hn h) z (DVs.add hn t)
  | _, _, .loc (i := i) h => DV.loc (r := r.add a) h
  | _, _, .dct h na l nd z t => .dct (by rw [upd_ne (ne_of_none h hn)]; exact h) ⟨na.1, fun q => q.elim na.2 (ne_of_none h hn)⟩ l nd z (DVs.add hn t)
  | _, _, .exn h na t => .exn (by rw [upd_ne (ne_of_none h hn)]; exact h) ⟨na.1, fun q => q.elim na.2 (ne_of_none h hn)⟩ (DV.add hn t)
  | _, _, .fnv h na t l z => .fnv (by rw [upd_ne (ne_of_none h hn)]; exact h) ⟨na.1, fun q => q.elim na.2 (ne_of_none h hn)⟩ (DVs.add hn t) l z
theorem DVs.add {a : Addr} {o : HO} (hn : H a = none) : ∀ {ds : List D} {vs : List V}, DVs K H r n ds vs → DVs K (upd H a o) (r.add a) n ds vs
  | _, _, .nil => .nil
  | _, _, .cons a t => .cons (DV.add hn a) (DVs.add hn t)
end
theorem KDV.add {a : Addr} {o : HO} (hn : H a = none) : ∀ {ds : List (Key × D)} {vs : List (Key × V)}, KDV K H r n ds vs → KDV K (upd H a o) (r.add a) n ds vs
  | _, _, .nil => .nil
  | _, _, .cons a t => .cons (a.add hn) (KDV.add hn t)
theorem OV.add {a : Addr} {u : HO} (hn : H a = none) {o : O} {ho : HO} (h : OV K H r n o ho) : OV K (upd H a u) (r.add a) n o ho := by
  cases h with
  | lst z t => exact .lst z (t.add hn)
  | dic z nd t => exact .dic z nd (t.add hn)
theorem Sr.add {a : Addr} {xs : List V} (hn : H a = none) (S : Sr K r st H) : Sr K (r.add a) st (upd H a (.lst xs)) :=
  ⟨S.inj, fun i o e => let ⟨ho, h1, h2⟩ := S.obj i o e; ⟨ho, by show upd H a _ (r i) = _; rw [upd_ne (ne_of_none h1 hn)]; exact h1, h2.add hn⟩, fun b hb => by
    by_cases e : b = a
    · exact ⟨xs, by rw [e]; exact upd_same⟩
    · rcases hb with hb | hb
      · obtain ⟨ys, q⟩ := S.pvA b hb
        exact ⟨ys, by rw [upd_ne e]; exact q⟩
      · exact absurd hb e, fun i hi z => z.elim (S.pvN i hi) (S.fresh hn i hi), tabs_new S.tab hn⟩
theorem SqT.ne_lst {a b : Addr} {xs ys : List V} {o : HO} (hn : H a = some (.lst ys)) (h : SqT K H b xs) : SqT K (upd H a o) b xs := by
  rcases h with (h | ⟨q, h⟩) | h
  · exact .inl (.inl (by rw [upd_ne (fun z => by rw [z, hn] at h; cases h)]; exact h))
  · exact .inl (.inr ⟨q, by rw [upd_ne (fun z => by rw [z, hn] at h; cases h)]; exact h⟩)
  · exact .inr h
theorem FzL.ne_lst {a b : Addr} {xs ys : List V} {o : HO} (hn : H a = some (.lst ys)) (h : FzL K H b xs) : FzL K (upd H a o) b xs := by
  rcases h with ⟨q, h⟩ | h
  · exact .inl ⟨q, by rw [upd_ne (fun z => by rw [z, hn] at h; cases h)]; exact h⟩
  · exact .inr h
mutual
theorem DV.upv {a : Addr} {o : HO} {ys : List V} (ha : r.pv a) (hn : H a = some (.lst ys)) : ∀ {d : D} {v : V}, DV K H r n d v → DV K (upd H a o) r n d v
  | _, _, .non => .non
  | _, _, .bl b => .bl b
  | _, _, .int i => .int i
  | _, _, .str x => .str x
  | _, _, .byt b => .byt b
  | _, _, .tup h z t => .tup (G4.SqT.ne_lst hn h) z (DVs.upv ha hn t)
  | _, _, .lst h na z t => .lst (by rw [upd_ne (fun z => na.2 (by rw [z]; exact ha))]; exact h) na z (DVs.upv ha hn t)
  | _, _, .fls h z t => .fls (FzL.ne_lst hn h) z (DVs.upv ha hn t)
  | _, _, .loc (i := i) h => DV.loc h
  | _, _, .dct h na l nd z t => .dct (by rw [upd_ne (fun z => na.2 (by rw [z]; exact ha))]; exact h) na l nd z (DVs.upv ha hn t)
  | _, _, .exn h na t => .exn (by rw [upd_ne (fun z => na.2 (by rw [z]; exact ha))]; exact h) na (DV.upv ha hn t)
  | _, _, .fnv h na t l z => .fnv (by rw [upd_ne (fun z => na.2 (by rw [z]; exact ha))]; exact h) na (DVs.upv ha hn t) l z
theorem DVs.upv {a : Addr} {o : HO} {ys : List V} (ha : r.pv a) (hn : H a = some (.lst ys)) : ∀ {ds : List D} {vs : List V}, DVs K H r n ds vs → DVs K (upd H a o) r n ds vs
  | _, _, .nil => .nil
  | _, _, .cons b t => .cons (DV.upv ha hn b) (DVs.upv ha hn t)
end
theorem KDV.upv {a : Addr} {o : HO} {ys : List V} (ha : r.pv a) (hn : H a = some (.lst ys)) : ∀ {ds : List (Key × D)} {vs : List (Key × V)}, KDV K H r n ds vs → KDV K (upd H a o) r n ds vs
  | _, _, .nil => .nil
  | _, _, .cons b t => .cons (b.upv ha hn) (KDV.upv ha hn t)
theorem OV.upv {a : Addr} {u : HO} {ys : List V} (ha : r.pv a) (hn : H a = some (.lst ys)) {o : O} {ho : HO} (h : OV K H r n o ho) : OV K (upd H a u) r n o ho := by
  cases h with
  | lst z t => exact .lst z (t.upv ha hn)
  | dic z nd t => exact .dic z nd (t.upv ha hn)
theorem Sr.upv {a : Addr} {xs ys : List V} (ha : r.pv a) (hn : H a = some (.lst ys)) (S : Sr K r st H) : Sr K r st (upd H a (.lst xs)) :=
  ⟨S.inj, fun i o e => by
    obtain ⟨ho, h1, h2⟩ := S.obj i o e
    have hi : i < st.length := (List.getElem?_eq_some_iff.mp e).1
    exact ⟨ho, by rw [upd_ne (fun z => S.pvN i hi (by rw [z]; exact ha))]; exact h1, h2.upv ha hn⟩, fun b hb => by
    by_cases e : b = a
    · exact ⟨xs, by rw [e]; exact upd_same⟩
    · obtain ⟨zs, q⟩ := S.pvA b hb
      exact ⟨zs, by rw [upd_ne e]; exact q⟩, S.pvN, tabs_upd S.tab fun o e => by
    rw [hn] at e
    cases e
    exact ⟨ntL, fun _ _ => ncL⟩⟩

/-- a later heap in which more may be private -/
structure Fp (r r' : Rm) (n n' : Nat) (H H' : Hp) : Prop where
  fw : Fw r (r'.wp r.pv) n n' H H'
  nw : ∀ a, r'.pv a → r.pv a ∨ H a = none
theorem Fp.of (F : Fw r r' n n' H H') : Fp r r' n n' H H' := ⟨⟨F.le, F.ag, F.nw, F.kp, rfl⟩, fun a h => .inl (by rw [← F.pv]; exact h)⟩
theorem Fp.trans {r2 r3 : Rm} {s1 s2 s3 : Store} {H1 H2 H3 : Hp} (S2 : Sr K (r2.wp r.pv) s2 H2) (a : Fp r r2 s1.length s2.length H1 H2) (b : Fw r2 r3 s2.length s3.length H2 H3) : Fp r r3 s1.length s3.length H1 H3 :=
  ⟨Fw.trans (r2 := r2.wp r.pv) (r3 := r3.wp r.pv) S2 a.fw ⟨b.le, b.ag, b.nw, b.kp, rfl⟩, fun x h => a.nw x (by rw [← b.pv]; exact h)⟩
mutual
theorem DV.fp (S : Sr K r st H) (F : Fp r r' st.length n' H H') : ∀ {d : D} {v : V}, DV K H r st.length d v → DV K H' r' n' d v
  | _, _, .non => .non
  | _, _, .bl b => .bl b
  | _, _, .int i => .int i
  | _, _, .str x => .str x
  | _, _, .byt b => .byt b
  | _, _, .tup h z t => .tup (F.fw.sqT S h) z (DVs.fp S F t)
  | _, _, .lst (a := a) h na z t => .lst (F.fw.kp _ _ h na.1 ntL) ⟨(fun i hi e => by
      have e : (r'.wp r.pv) i = a := e
      by_cases hl : i < st.length
      · rw [F.fw.ag i hl] at e; exact na.1 i hl e
      · exact (F.fw.nw i (Nat.le_of_not_lt hl) hi).not (by rw [e]; exact h) ntL), fun q => (F.nw a q).elim na.2 (fun z => by rw [h] at z; cases z)⟩ z (DVs.fp S F t)
  | _, _, .fls h z t => .fls (F.fw.fzL S h) z (DVs.fp S F t)
  | _, _, .loc (i := i) h => by
    have e : (r'.wp r.pv) i = r i := F.fw.ag i h
    rw [← e]
    exact DV.loc (r := r') (Nat.lt_of_lt_of_le h F.fw.le)
  | _, _, .dct (a := a) h na l nd z t => .dct (F.fw.kp _ _ h na.1 ntK) ⟨(fun i hi e => by
      have e : (r'.wp r.pv) i = a := e
      by_cases hl : i < st.length
      · rw [F.fw.ag i hl] at e; exact na.1 i hl e
      · exact (F.fw.nw i (Nat.le_of_not_lt hl) hi).not (by rw [e]; exact h) ntK), fun q => (F.nw a q).elim na.2 (fun z => by rw [h] at z; cases z)⟩ l nd z (DVs.fp S F t)
  | _, _, .exn (dx := a) h na t => .exn (F.fw.kp _ _ h na.1 ntX) ⟨(fun i hi e => by
      have e : (r'.wp r.pv) i = a := e
      by_cases hl : i < st.length
      · rw [F.fw.ag i hl] at e; exact na.1 i hl e
      · exact (F.fw.nw i (Nat.le_of_not_lt hl) hi).not (by rw [e]; exact h) ntX), fun q => (F.nw a q).elim na.2 (fun z => by rw [h] at z; cases z)⟩ (DV.fp S F t)
  | _, _, .fnv (c := a) h na t l z => .fnv (F.fw.kp _ _ h na.1 ntC) ⟨(fun i hi e => by
      have e : (r'.wp r.pv) i = a := e
      by_cases hl : i < st.length
      · rw [F.fw.ag i hl] at e; exact na.1 i hl e
      · exact (F.fw.nw i (Nat.le_of_not_lt hl) hi).not (by rw [e]; exact h) ntC), fun q => (F.nw a q).elim na.2 (fun z => by rw [h] at z; cases z)⟩ (DVs.fp S F t) l z
theorem DVs.fp (S : Sr K r st H) (F : Fp r r' st.length n' H H') : ∀ {ds : List D} {vs : List V}, DVs K H r st.length ds vs → DVs K H' r' n' ds vs
  | _, _, .nil => .nil
  | _, _, .cons a t => .cons (DV.fp S F a) (DVs.fp S F t)
end
end

/-- a later heap in which private lists may have changed -/
structure Fq (K : PySem.W.Frag) (r r' : Rm) (n n' : Nat) (H H' : Hp) : Prop where
  le : n ≤ n'
  ag : ∀ i, i < n → r' i = r i
  nw : ∀ i, n ≤ i → i < n' → NT (H (r' i))
  kp : ∀ a o, H a = some o → (∀ i, i < n → r i ≠ a) → ¬ r.pv a → NTb o → H' a = some o
  pv : ∀ a, r'.pv a → r.pv a ∨ H a = none
section
variable {K : PySem.W.Frag} {H H' : Hp} {r r' : Rm} {n n' : Nat} {st st' : Store}
theorem Fp.q (F : Fp r r' n n' H H') : Fq K r r' n n' H H' := ⟨F.fw.le, F.fw.ag, F.fw.nw, fun a o h h1 _ ho => F.fw.kp a o h h1 ho, F.nw⟩
theorem Sr.npv (S : Sr K r st H) {a : Addr} {o : HO} (h : H a = some o) (ho : ∀ xs, o ≠ .lst xs) : ¬ r.pv a := fun q => by
  obtain ⟨xs, e⟩ := S.pvA a q
  rw [h] at e
  cases e
  exact ho xs rfl
theorem Fq.sqT (S : Sr K r st H) (F : Fq K r r' st.length n' H H') {a : Addr} {xs : List V} (h : SqT K H a xs) : SqT K H' a xs := by
  rcases h with (h | ⟨o, h⟩) | h
  · exact .inl (.inl (F.kp _ _ h (S.tup_ne h (.inl ⟨_, rfl⟩)) (S.npv h fun xs z => nomatch z) ntT))
  · exact .inl (.inr ⟨o, F.kp _ _ h (S.tup_ne h (.inr ⟨_, _, rfl⟩)) (S.npv h fun xs z => nomatch z) ntZ⟩)
  · exact .inr h
theorem Fq.fzL (S : Sr K r st H) (F : Fq K r r' st.length n' H H') {a : Addr} {xs : List V} (h : FzL K H a xs) : FzL K H' a xs := by
  rcases h with ⟨o, h⟩ | h
  · exact .inl ⟨o, F.kp _ _ h (S.tup_ne h (.inr ⟨_, _, rfl⟩)) (S.npv h fun xs z => nomatch z) ntZ⟩
  · exact .inr h
mutual
theorem DV.fq (S : Sr K r st H) (F : Fq K r r' st.length n' H H') : ∀ {d : D} {v : V}, DV K H r st.length d v → DV K H' r' n' d v
  | _, _, .non => .non
  | _, _, .bl b => .bl b
  | _, _, .int i => .int i
  | _, _, .str x => .str x
  | _, _, .byt b => .byt b
  | _, _, .tup h z t => .tup (F.sqT S h) z (DVs.fq S F t)
  | _, _, .lst (a := a) h na z t => .lst (F.kp _ _ h na.1 na.2 ntL) ⟨(fun i hi e => by
      by_cases hl : i < st.length
      · rw [F.ag i hl] at e; exact na.1 i hl e
      · exact (F.nw i (Nat.le_of_not_lt hl) hi).not (by rw [e]; exact h) ntL), fun q => (F.pv a q).elim na.2 (fun z => by rw [h] at z; cases z)⟩ z (DVs.fq S F t)
  | _, _, .fls h z t => .fls (F.fzL S h) z (DVs.fq S F t)
  | _, _, .loc (i := i) h => by
    rw [← F.ag i h]
    exact DV.loc (r := r') (Nat.lt_of_lt_of_le h F.le)
  | _, _, .dct (a := a) h na l nd z t => .dct (F.kp _ _ h na.1 na.2 ntK) ⟨(fun i hi e => by
      by_cases hl : i < st.length
      · rw [F.ag i hl] at e; exact na.1 i hl e
      · exact (F.nw i (Nat.le_of_not_lt hl) hi).not (by rw [e]; exact h) ntK), fun q => (F.pv a q).elim na.2 (fun z => by rw [h] at z; cases z)⟩ l nd z (DVs.fq S F t)
  | _, _, .exn (dx := a) h na t => .exn (F.kp _ _ h na.1 na.2 ntX) ⟨(fun i hi e => by
      by_cases hl : i < st.length
      · rw [F.ag i hl] at e; exact na.1 i hl e
      · exact (F.nw i (Nat.le_of_not_lt hl) hi).not (by rw [e]; exact h) ntX), fun q => (F.pv a q).elim na.2 (fun z => by rw [h] at z; cases z)⟩ (DV.fq S F t)
  | _, _, .fnv (c := a) h na t l z => .fnv (F.kp _ _ h na.1 na.2 ntC) ⟨(fun i hi e => by
      by_cases hl : i < st.length
      · rw [F.ag i hl] at e; exact na.1 i hl e
      · exact (F.nw i (Nat.le_of_not_lt hl) hi).not (by rw [e]; exact h) ntC), fun q => (F.pv a q).elim na.2 (fun z => by rw [h] at z; cases z)⟩ (DVs.fq S F t) l z
theorem DVs.fq (S : Sr K r st H) (F : Fq K r r' st.length n' H H') : ∀ {ds : List D} {vs : List V}, DVs K H r st.length ds vs → DVs K H' r' n' ds vs
  | _, _, .nil => .nil
  | _, _, .cons a t => .cons (DV.fq S F a) (DVs.fq S F t)
end
end

/-! ### what is walked -/
abbrev Gd := Option (Nat × List D)
def gdOk (g : Gd) (st : Store) : Prop := match g with
  | none => True
  | some (n, ds) => st[n]? = some (.lst ds)
@[simp] theorem gdOk_none (st : Store) : gdOk none st = True := rfl
structure Ylds (K : PySem.W.Frag) (J : It) (items : List D) (g : Gd) (r : Rm) (st : Store) (H : Hp) : Prop where
  go : ∀ (i : Nat) (d : D) (r' : Rm) (st' : Store) (H' : Hp), items[i]? = some d → Fq K r r' st.length st'.length H H' → Sr K r' st' H' → gdOk g st' →
    J.go i H' ∧ ∀ x H3, J.yld i H' x H3 → Fw r' r' st'.length st'.length H' H3 ∧ Sr K r' st' H3 ∧ DV K H3 r' st'.length d x
  stop : ∀ (r' : Rm) (st' : Store) (H' : Hp), Fq K r r' st.length st'.length H H' → Sr K r' st' H' → gdOk g st' → J.stop items.length H'
abbrev Src := List D × Gd
def tI (K : PySem.W.Frag) (mg : Str → Option Value) (W : Wx) (f : Fe Src) : TI := fun σ H R => ∃ (r : Rm) (env : Env) (st : Store), Wd K r env st σ H ∧
  Po K mg W r st H σ (fun q r' st' H' => ∀ J, Ylds K J q.1 q.2 r' st' H' → R J H') (f env st)
abbrev SI (X : Cx) (W : Wx) (tg e : Expr) (f : Fe Src) : Prop := PI X tg e (tI X.K X.mg W f)
theorem PI.imp {X : Cx} {tg e : Expr} {t t' : TI} (h : PI X tg e t) (i : ∀ σ H R, t' σ H R → t σ H R) : PI X tg e t' := ⟨fun pins s σ H R I q => h.run pins s σ H R I (i σ H R q)⟩

/-- the items of a list or a tuple, and what must stay -/
def srcOf (st : Store) (d : D) : Option Src := match d with
  | .tup ds => some (ds, none)
  | .lst ds => some (ds, none)
  | .fls ds => some (ds, none)
  | .loc n => match st[n]? with
    | some (.lst ds) => some (ds, some (n, ds))
    | _ => none
  | _ => none
section
variable {K : PySem.W.Frag} {H H' : Hp} {r r' : Rm} {st st' : Store} {d : D} {v : V}
/-- what lay there lies there still -/
theorem DV.src (S : Sr K r st H) (h : DV K H r st.length d v) {ds : List D} {g : Gd} (e : srcOf st d = some (ds, g)) :
    ∃ a xs, v = .ref a ∧ DVs K H r st.length ds xs ∧ ((SqT K H a xs ∧ ∀ r' st' H', Fq K r r' st.length st'.length H H' → Sr K r' st' H' → gdOk g st' → ∃ ys, SqT K H' a ys ∧ DVs K H' r' st'.length ds ys) ∨
      (SqL K H a xs ∧ ∀ r' st' H', Fq K r r' st.length st'.length H H' → Sr K r' st' H' → gdOk g st' → ∃ ys, SqL K H' a ys ∧ DVs K H' r' st'.length ds ys)) := by
  cases h with
  | tup h1 z t =>
    cases e
    exact ⟨_, _, rfl, t, .inl ⟨h1, fun r' st' H' F S' _ => ⟨_, F.sqT S h1, t.fq S F⟩⟩⟩
  | lst h1 na z t =>
    cases e
    exact ⟨_, _, rfl, t, .inr ⟨.of h1, fun r' st' H' F S' _ => ⟨_, .of (F.kp _ _ h1 na.1 na.2 ntL), t.fq S F⟩⟩⟩
  | fls h1 z t =>
    cases e
    exact ⟨_, _, rfl, t, .inr ⟨h1.sq, fun r' st' H' F S' _ => ⟨_, (F.fzL S h1).sq, t.fq S F⟩⟩⟩
  | loc hi =>
    rename_i i
    obtain ⟨ho, h1, o, h2, h3⟩ := S.at_ hi
    cases h3 with
    | lst z t =>
      simp only [srcOf, h2, Option.some.injEq, Prod.mk.injEq] at e
      obtain ⟨rfl, rfl⟩ := e
      refine ⟨_, _, rfl, t, .inr ⟨.of h1, fun r' st' H' F S' q => ?_⟩⟩
      have q : st'[i]? = some (.lst _) := q
      obtain ⟨ho', h1', h2'⟩ := S'.obj i _ q
      cases h2' with
      | lst z' t' =>
        have e2 : r' i = r i := F.ag i hi
        exact ⟨_, .of (by rw [← e2]; exact h1'), t'⟩
    | dic => simp [srcOf, h2] at e
  | _ => cases e
end
/-- how a list or a tuple is walked -/
def iSq (K : PySem.W.Frag) (tl : TE) : TI := fun σ H R => tl σ H fun x H1 => ∃ a, x = .ref a ∧ (((∃ xs, SqL K H1 a xs) ∧ R (Itl K a) H1) ∨ ((∃ xs, SqT K H1 a xs) ∧ R (Itt K a) H1))
section
variable {X : Cx} {tg : Expr} {W : Wx}
theorem pi_sq {l : Expr} {tl : TE} (hl : PE X l tl) : PI X tg l (iSq X.K tl) := by
  refine ⟨fun pins s σ H R I h => ?_⟩
  refine thn (hl.run pins s σ H _ I h) fun v s1 ⟨x, H1, I1, r1, q1⟩ => ?_
  obtain ⟨a, e, q⟩ := q1
  subst e
  cases r1
  have fp : ∀ b ∈ [s1.heap.objs.size], FpOk X pins H1 b := fun b hb => by
    have e : b = s1.heap.objs.size := by simpa using hb
    subst e
    exact I1.fpOk (Nat.le_refl _) (I1.hok.fresh (Nat.le_refl _))
  rcases q with ⟨⟨xs, hq⟩, q⟩ | ⟨⟨xs, hq⟩, q⟩
  · obtain ⟨its, rv, p, hz⟩ := I1.list hq
    exact wpAny_pyIter_list p.isList ⟨s1.heap.objs.size, [s1.heap.objs.size], _, _, H1, rfl, I1.kept (t' := s1.toks) fun b o e => Heap.get?_push_of_some _ e, turn_list a _, ⟨_, Heap.get?_push_size _ rfl, rfl, rfl⟩, fp, q⟩
  · obtain ⟨its, rv, p, hz⟩ := I1.tuple hq
    exact wpAny_pyIter_tuple (show s1.heap.IsTuple a its.toArray from p) ⟨s1.heap.objs.size, [s1.heap.objs.size], _, _, H1, rfl, I1.kept (t' := s1.toks) fun b o e => Heap.get?_push_of_some _ e, turn_tuple a _, ⟨_, Heap.get?_push_size _ rfl, rfl, rfl⟩, fp, q⟩
theorem ylds_l {K : PySem.W.Frag} {r : Rm} {st : Store} {H : Hp} {a : Addr} {ds : List D} {g : Gd}
    (h : ∀ r' st' H', Fq K r r' st.length st'.length H H' → Sr K r' st' H' → gdOk g st' → ∃ ys, SqL K H' a ys ∧ DVs K H' r' st'.length ds ys) : Ylds K (Itl K a) ds g r st H where
  go := fun i d r' st' H' e F S q => by
    obtain ⟨ys, h1, h2⟩ := h r' st' H' F S q
    obtain ⟨v, h3, h4⟩ := h2.get e
    refine ⟨⟨ys, v, h1, h3⟩, fun x H3 ⟨e3, h5⟩ => ?_⟩
    subst e3
    have := h5 ys h1
    rw [h3] at this
    cases this
    exact ⟨Fw.refl _ _ _, S, h4⟩
  stop := fun r' st' H' F S q => by
    obtain ⟨ys, h1, h2⟩ := h r' st' H' F S q
    exact ⟨ys, h1, Nat.le_of_eq h2.length.symm⟩
theorem ylds_t {K : PySem.W.Frag} {r : Rm} {st : Store} {H : Hp} {a : Addr} {ds : List D} {g : Gd}
    (h : ∀ r' st' H', Fq K r r' st.length st'.length H H' → Sr K r' st' H' → gdOk g st' → ∃ ys, SqT K H' a ys ∧ DVs K H' r' st'.length ds ys) : Ylds K (Itt K a) ds g r st H where
  go := fun i d r' st' H' e F S q => by
    obtain ⟨ys, h1, h2⟩ := h r' st' H' F S q
    obtain ⟨v, h3, h4⟩ := h2.get e
    refine ⟨⟨ys, v, h1, h3⟩, fun x H3 ⟨e3, h5⟩ => ?_⟩
    subst e3
    have := h5 ys h1
    rw [h3] at this
    cases this
    exact ⟨Fw.refl _ _ _, S, h4⟩
  stop := fun r' st' H' F S q => by
    obtain ⟨ys, h1, h2⟩ := h r' st' H' F S q
    exact ⟨ys, h1, Nat.le_of_eq h2.length.symm⟩
theorem ylds_r {K : PySem.W.Frag} {r : Rm} {st : Store} {H : Hp} {lo : Int} {n : Nat} : Ylds K (Itr lo n) ((List.range n).map fun i : Nat => D.int (lo + i)) none r st H where
  go := fun i d r' st' H' e F S q => by
    have hi : i < n := by
      have := (List.getElem?_eq_some_iff.mp e).1
      simpa using this
    rw [List.getElem?_map, List.getElem?_range hi] at e
    cases e
    refine ⟨hi, fun x H3 ⟨e3, h5⟩ => ?_⟩
    subst e3
    subst h5
    exact ⟨Fw.refl _ _ _, S, .int _⟩
  stop := fun r' st' H' F S q => by
    show n ≤ _
    simp
def fSrc (a : Fe D) : Fe Src := fun env st => (a env st).bind fun x st1 => match srcOf st1 x with
  | some q => .ok q st1
  | none => .bad
theorem si_sq {l : Expr} {fa : Fe D} (ha : SE X W l fa) : SI X W tg l (fSrc fa) := by
  refine PI.imp (pi_sq ha) fun σ H R ⟨r, env, st, wd, p⟩ => ?_
  refine tE_then wd p fun d r1 st1 H1 v w1 dv F1 p1 => ?_
  split at p1
  · rename_i q e
    obtain ⟨ds, g⟩ := q
    obtain ⟨a, xs, rfl, hd, hh⟩ := dv.src w1.sr e
    have p2 := p1.here w1.sr
    refine ⟨a, rfl, ?_⟩
    rcases hh with ⟨h1, h2⟩ | ⟨h1, h2⟩
    · exact .inr ⟨⟨xs, h1⟩, p2 _ (ylds_t h2)⟩
    · exact .inl ⟨⟨xs, h1⟩, p2 _ (ylds_l h2)⟩
  · exact p1.elim
end
end L2.G4

set_option maxHeartbeats 4000000
/-! GP: targets, statements, loops, comprehensions. -/
namespace L2.G4
open PySem PySem.Spec PyProof.Rows

/-! ### targets -/
abbrev Tg := D → Env → Option Env
abbrev Tgs := List D → Env → Option Env
def gdName (i : Nat) : Tg := fun d env => some (env.set i (some d))
def gdTup (t : Tgs) : Tg := fun d env => match d with
  | .tup ds => t ds env
  | _ => none
def gdNil : Tgs := fun ds env => match ds with
  | [] => some env
  | _ => none
def gdCons (a : Tg) (t : Tgs) : Tgs := fun ds env => match ds with
  | d :: r => (a d env).bind (t r)
  | [] => none
section
variable (K : PySem.W.Frag)
/-- slots outside sl stay -/
def Same (sl : List Nat) (σ σ' : St) : Prop := σ'.length = σ.length ∧ ∀ i, i ∉ sl → σ'[i]? = σ[i]?
def tG (b : Tg) (sl : List Nat) : TG := fun v σ H Q => ∃ (r : Rm) (env : Env) (st : Store) (d : D) (env' : Env), Wd K r env st σ H ∧ DV K H r st.length d v ∧ b d env = some env' ∧ ∀ σ', Wd K r env' st σ' H → Same sl σ σ' → Q σ' H
def tGs (b : Tgs) (sl : List Nat) : TGs := fun vs σ H Q => ∃ (r : Rm) (env : Env) (st : Store) (ds : List D) (env' : Env), Wd K r env st σ H ∧ DVs K H r st.length ds vs ∧ b ds env = some env' ∧ ∀ σ', Wd K r env' st σ' H → Same sl σ σ' → Q σ' H
end
theorem Same.refl (sl : List Nat) (σ : St) : Same sl σ σ := ⟨rfl, fun _ _ => rfl⟩
theorem Same.trans {a b : List Nat} {σ σ1 σ2 : St} (x : Same a σ σ1) (y : Same b σ1 σ2) : Same (a ++ b) σ σ2 :=
  ⟨y.1.trans x.1, fun i hi => (y.2 i fun z => hi (List.mem_append_right _ z)).trans (x.2 i fun z => hi (List.mem_append_left _ z))⟩
theorem PG.imp {X : Cx} {e : Expr} {t t' : TG} (h : PG X e t) (i : ∀ v σ H Q, t' v σ H Q → t v σ H Q) : PG X e t' := ⟨fun pins s σ H v u Q I rv q => h.run pins s σ H v u Q I rv (i v σ H Q q)⟩
theorem PGs.imp {X : Cx} {e : List Expr} {t t' : TGs} (h : PGs X e t) (i : ∀ v σ H Q, t' v σ H Q → t v σ H Q) : PGs X e t' := ⟨fun pins s σ H v u Q I rv q => h.run pins s σ H v u Q I rv (i v σ H Q q)⟩
abbrev SG (X : Cx) (e : Expr) (b : Tg) (sl : List Nat) : Prop := PG X e (tG X.K b sl)
abbrev SGs (X : Cx) (e : List Expr) (b : Tgs) (sl : List Nat) : Prop := PGs X e (tGs X.K b sl)
section
variable {X : Cx} {e : Expr} {es : List Expr} {pos : Pos} {sl sl2 : List Nat}
theorem sg_name {i : Nat} {x : Str} (hN : X.N.Nodup) (hi : X.N[i]? = some x) (hx : Loc X.env.scope x) (hf : X.fn x = true ∨ X.env.scope.names.lookup x = some .local) : SG X (.Name x pos) (gdName i) [i] := by
  refine PG.imp (pg_name hN hi hx hf) fun v σ H Q ⟨r, env, st, d, env', w, hd, e, q⟩ => ?_
  cases e
  exact q _ ⟨w.sr, w.ev.set i hd⟩ ⟨List.length_set, fun j hj => List.getElem?_set_ne fun z => hj (by simp [z])⟩
theorem sgs_nil : SGs X [] gdNil [] := by
  refine PGs.imp pgs_nil fun vs σ H Q ⟨r, env, st, ds, env', w, hd, e, q⟩ => ?_
  cases hd with
  | nil => cases e; exact ⟨rfl, q σ w (Same.refl _ _)⟩
  | cons => cases e
theorem sgs_cons {a : Tg} {t : Tgs} (h1 : SG X e a sl) (h2 : SGs X es t sl2) (hs : (assignEach (e :: es) X.env).map (·.2) = assign e X.env :: (assignEach es X.env).map (·.2)) : SGs X (e :: es) (gdCons a t) (sl ++ sl2) := by
  refine PGs.imp (pgs_cons h1 h2 hs) fun vs σ H Q ⟨r, env, st, ds, env', w, hd, e, q⟩ => ?_
  cases hd with
  | nil => cases e
  | @cons d v ds vs x xs =>
    simp only [gdCons] at e
    cases e1 : a d env with
    | none => rw [e1] at e; cases e
    | some env1 =>
      rw [e1] at e
      exact ⟨v, vs, rfl, r, env, st, d, env1, w, x, e1, fun σ1 w1 s1 => ⟨r, env1, st, ds, env', w1, xs, e, fun σ2 w2 s2 => q σ2 w2 (s1.trans s2)⟩⟩
theorem sg_tup {k n : Nat} {t : Tgs} (hc : X.calm = true) (h : SGs X es t sl) (hn : (assignEach es X.env).length = n) (hst : (assignEach es X.env).findIdx? (·.1) = none) : SG X (.Tuple es k pos) (fun d env => match d with
    | .tup ds => if ds.length = n then t ds env else none
    | _ => none) sl := by
  refine PG.imp (pg_tup hc h hn hst) fun v σ H Q ⟨r, env, st, d, env', w, hd, e, q⟩ => ?_
  cases hd with
  | tup h1 z xs =>
    simp only at e
    split at e
    · rename_i hl
      exact ⟨_, _, rfl, h1, by rw [← xs.length]; exact hl, r, env, st, _, env', w, xs, e, q⟩
    · cases e
  | _ => cases e
end

/-! ### statements -/
section
variable {X : Cx} {W : Wx} {e a b : Expr} {s : Stmt} {ss ts : List Stmt} {pos : Pos} {f g : Fs} {fa fb : Fe D} {sl : List Nat}
def fSkip : Fs := fun env st => .nx env st
theorem ss_nil : SSs X W [] fSkip := PSs.imp pss_nil fun De σ H ⟨r, env, st, w, p⟩ => p.here w
def fSeq (f g : Fs) : Fs := fun env st => (f env st).andThen g
theorem ss_cons (h1 : SS X W s f) (h2 : SSs X W ss g) : SSs X W (s :: ss) (fSeq f g) :=
  PSs.imp (pss_cons h1 h2) fun De σ H ⟨r, env, st, w, p⟩ => ⟨r, env, st, w, p.seq⟩
theorem ss_pass : SS X W (.Pass pos) fSkip := PS.imp ps_pass fun De σ H ⟨r, env, st, w, p⟩ => p.here w
def fBrk : Fs := fun env st => .bk env st
def fCnt : Fs := fun env st => .ct env st
theorem ss_break : SS X W (.Break pos) fBrk := PS.imp ps_break fun De σ H ⟨r, env, st, w, p⟩ => p r σ H (Fw.refl _ _ _) w
theorem ss_continue : SS X W (.Continue pos) fCnt := PS.imp ps_continue fun De σ H ⟨r, env, st, w, p⟩ => p r σ H (Fw.refl _ _ _) w
def fDrop (a : Fe D) : Fs := fun env st => Fl.ofRz env (a env st) fun _ st1 => .nx env st1
theorem tE_pf {K : PySem.W.Frag} {mg : Str → Option Value} {f : Fe D} {g : D → Store → Fl} {r : Rm} {env : Env} {st : Store} {σ : St} {H : Hp} {De : Ends} {Q : VK} (w : Wd K r env st σ H) (p : Pf K mg W r st.length H De (Fl.ofRz env (f env st) g))
    (h : ∀ d r' st' H' v, Wd K r' env st' σ H' → DV K H' r' st'.length d v → Pf K mg W r' st'.length H' De (g d st') → Q v H') : tE K mg W f σ H Q :=
  ⟨r, env, st, w, (p.first w).mono fun d r' st' H' _ F S q v hv => h d r' st' H' v q.1 hv q.2⟩
theorem ss_expr (ha : SE X W e fa) (hs : swapsWith e none pos.line X.env = pure false) : SS X W (.Expr e pos) (fDrop fa) :=
  PS.imp (ps_expr ha hs) fun De σ H ⟨r, env, st, w, p⟩ => tE_pf w p fun d r1 st1 H1 v w1 dv p1 => p1.here w1
def fRet (a : Fe D) : Fs := fun env st => Fl.ofRz env (a env st) fun d st1 => .rt d st1
theorem ss_ret (ha : SE X W e fa) : SS X W (.Return (some e) pos) (fRet fa) :=
  PS.imp (ps_ret ha) fun De σ H ⟨r, env, st, w, p⟩ => tE_pf w p fun d r1 st1 H1 v w1 dv p1 => p1 r1 H1 v (Fw.refl _ _ _) w1.sr dv
def fRetN : Fs := fun _ st => .rt .non st
theorem ss_retN : SS X W (.Return none pos) fRetN := PS.imp ps_retN fun De σ H ⟨r, env, st, w, p⟩ => p r H .non (Fw.refl _ _ _) w.sr .non
def fIfS (c : Fe Bool) (f g : Fs) : Fs := fun env st => Fl.ofRz env (c env st) fun k st1 => if k = true then f env st1 else g env st1
theorem tT_pf {K : PySem.W.Frag} {mg : Str → Option Value} {f : Fe Bool} {g : Bool → Store → Fl} {r : Rm} {env : Env} {st : Store} {σ : St} {H : Hp} {De : Ends} {Q : Bool → Hp → Prop} (w : Wd K r env st σ H) (p : Pf K mg W r st.length H De (Fl.ofRz env (f env st) g))
    (h : ∀ k r' st' H', Wd K r' env st' σ H' → Pf K mg W r' st'.length H' De (g k st') → Q k H') : tT K mg W f σ H Q :=
  ⟨r, env, st, w, (p.first w).mono fun k r' st' H' _ F S q => h k r' st' H' q.1 q.2⟩
theorem ss_if {fc : Fe Bool} (hc : ST X W e fc) (h1 : SSs X W ss f) (h2 : SSs X W ts g) : SS X W (.If e ss ts pos) (fIfS fc f g) := by
  refine PS.imp (ps_if hc h1 h2) fun De σ H ⟨r, env, st, w, p⟩ => tT_pf w p fun k r1 st1 H1 w1 p1 => ?_
  cases k with
  | true => exact ⟨r1, env, st1, w1, p1⟩
  | false => exact ⟨r1, env, st1, w1, p1⟩
def fAsg (a : Fe D) (t : Tg) : Fs := fun env st => Fl.ofRz env (a env st) fun d st1 => match t d env with
  | some env' => .nx env' st1
  | none => .bad
theorem pf_tg {K : PySem.W.Frag} {mg : Str → Option Value} {t : Tg} {r : Rm} {env : Env} {st : Store} {σ : St} {H : Hp} {De : Ends} {d : D} {v : V} (w : Wd K r env st σ H) (dv : DV K H r st.length d v)
    (p : Pf K mg W r st.length H De (match t d env with
      | some env' => .nx env' st
      | none => .bad)) : tG K t sl v σ H De.nx := by
  cases e : t d env with
  | none => rw [e] at p; exact p.elim
  | some env' =>
    rw [e] at p
    exact ⟨r, env, st, d, env', w, dv, e, fun σ' w' _ => p r σ' H (Fw.refl _ _ _) w'⟩
theorem ss_set {i : Nat} {x : Str} {p' : Pos} (hN : X.N.Nodup) (hi : X.N[i]? = some x) (hx : Loc X.env.scope x) (hf : X.fn x = true ∨ X.env.scope.names.lookup x = some .local) (ha : SE X W e fa) (hs : swapsWith e (some (.Name x p')) pos.line X.env = pure false) :
    SS X W (.Assign [.Name x p'] e pos) (fAsg fa (gdName i)) :=
  PS.imp (ps_set hN hi hx ha hs hf) fun De σ H ⟨r, env, st, w, p⟩ => tE_pf w p fun d r1 st1 H1 v w1 dv p1 => p1 r1 _ H1 (Fw.refl _ _ _) ⟨w1.sr, w1.ev.set i dv⟩
theorem ss_asg {t : Tg} {tg : Expr} (ha : SE X W e fa) (ht : SG X tg t sl) (hs : swapsWithSole [tg] e pos.line X.env = pure false) (hw : swappedStores [tg] e X.env = pure none) (h1 : (assignEach [tg] X.env).map (·.2) = [assign tg X.env]) :
    SS X W (.Assign [tg] e pos) (fAsg fa t) :=
  PS.imp (ps_asg ha ht hs hw h1) fun De σ H ⟨r, env, st, w, p⟩ => tE_pf w p fun d r1 st1 H1 v w1 dv p1 => pf_tg w1 dv p1
theorem tA_pf {K : PySem.W.Frag} {mg : Str → Option Value} {f : Fe (List D)} {g : List D → Store → Fl} {r : Rm} {env : Env} {st : Store} {σ : St} {H : Hp} {De : Ends} {Q : List V → Hp → Prop} (w : Wd K r env st σ H) (p : Pf K mg W r st.length H De (Fl.ofRz env (f env st) g))
    (h : ∀ d r' st' H' v, Wd K r' env st' σ H' → DVs K H' r' st'.length d v → Pf K mg W r' st'.length H' De (g d st') → Q v H') : tA K mg W f σ H Q :=
  ⟨r, env, st, w, (p.first w).mono fun d r' st' H' _ F S q v hv => h d r' st' H' v q.1 hv q.2⟩
/-- a, b = x, y -/
def fPar (i j : Nat) (t : Fe (List D)) : Fs := fun env st => Fl.ofRz env (t env st) fun ds st1 => match ds with
  | [d, e] => .nx ((env.set i (some d)).set j (some e)) st1
  | _ => .bad
theorem ss_par {i j : Nat} {x y : Str} {ft : Fe (List D)} {px py pt : Pos} {kt k2 pt2} (hc : X.calm = true) (hN : X.N.Nodup) (hi : X.N[i]? = some x) (hj : X.N[j]? = some y) (hij : i ≠ j)
    (hx : X.env.scope.names.lookup x = some .local) (hy : X.env.scope.names.lookup y = some .local) (ha : SA X W [a, b] ft)
    (hw : swappedStores [.Tuple [.Name x px, .Name y py] kt pt] (.Tuple [a, b] k2 pt2) X.env = pure (some [x, y]))
    (hs : swapsWithSole [.Tuple [.Name x px, .Name y py] kt pt] (.Tuple [a, b] k2 pt2) pos.line X.env = pure false) :
    SS X W (.Assign [.Tuple [.Name x px, .Name y py] kt pt] (.Tuple [a, b] k2 pt2) pos) (fPar i j ft) := by
  refine PS.imp (ps_par hc hN hi hj hij hx hy ha hw hs) fun De σ H ⟨r, env, st, w, p⟩ => tA_pf w p fun ds r1 st1 H1 vs w1 dvs p1 => ?_
  split at p1
  · cases dvs with
    | cons d1 r =>
      cases r with
      | cons d2 r =>
        cases r
        exact ⟨_, _, rfl, p1 r1 _ H1 (Fw.refl _ _ _) ⟨w1.sr, (w1.ev.set i d1).set j d2⟩⟩
  · exact p1.elim
def fPar3 (i j l : Nat) (t : Fe (List D)) : Fs := fun env st => Fl.ofRz env (t env st) fun ds st1 => match ds with
  | [d, e, f] => .nx (((env.set i (some d)).set j (some e)).set l (some f)) st1
  | _ => .bad
/-- o[i] = e -/
def fSto (o i a : Fe D) : Fs := fun env st => Fl.ofRz env (a env st) fun x st1 => Fl.ofRz env (o env st1) fun d st2 => Fl.ofRz env (i env st2) fun k st3 => match setD d k x st3 with
  | some st4 => .nx env st4
  | none => .bad
end
end L2.G4

set_option maxHeartbeats 4000000
/-! GQ: stores, for, while, list comprehensions. -/
namespace L2.G4
open PySem PySem.Spec PyProof.Rows

section
variable {X : Cx} {W : Wx} {e a b o : Expr} {s : Stmt} {ss ts : List Stmt} {pos : Pos} {f g : Fs} {fa fb fo fi : Fe D} {sl : List Nat}
theorem tE_pfF {K : PySem.W.Frag} {mg : Str → Option Value} {f : Fe D} {g : D → Store → Fl} {r : Rm} {env : Env} {st : Store} {σ : St} {H : Hp} {De : Ends} {Q : VK} (w : Wd K r env st σ H) (p : Pf K mg W r st.length H De (Fl.ofRz env (f env st) g))
    (h : ∀ d r' st' H' v, Wd K r' env st' σ H' → DV K H' r' st'.length d v → Fw r r' st.length st'.length H H' → Pf K mg W r' st'.length H' De (g d st') → Q v H') : tE K mg W f σ H Q :=
  ⟨r, env, st, w, (p.first w).mono fun d r' st' H' _ F S q v hv => h d r' st' H' v q.1 hv F q.2⟩
theorem ss_sto {p' : Pos} (hu : X.A.units + 1 < cLine) (ha : SE X W e fa) (ho : SE X W o fo) (hi : SE X W a fi)
    (hs : swapsWithSole [.Subscript o a p'] e pos.line X.env = pure false) (hw : swappedStores [.Subscript o a p'] e X.env = pure none)
    (hq : ∀ v, assign (.Subscript o a p') X.env v = (do
      let ov ← holding [v] (eval o X.env)
      let iv ← holding [v, ov] (eval a X.env)
      standAt p'
      holding [v, ov, iv] (setItem ov iv v)
      release [v, ov, iv] [])) (h1 : (assignEach [.Subscript o a p'] X.env).map (·.2) = [assign (.Subscript o a p') X.env]) :
    SS X W (.Assign [.Subscript o a p'] e pos) (fSto fo fi fa) := by
  refine PS.imp (ps_asg ha (pg_sub ho hi (set_G hu) hq) hs hw h1) fun De σ H ⟨r, env, st, w, p⟩ => ?_
  refine tE_pfF w p fun x r1 st1 H1 v w1 dx F1 p1 => tE_pfF w1 p1 fun d r2 st2 H2 u w2 dd F2 p2 => tE_pfF w2 p2 fun k r3 st3 H3 y w3 dk F3 p3 => ?_
  cases q : setD d k x st3 with
  | none => rw [q] at p3; exact p3.elim
  | some st4 =>
    rw [q] at p3
    exact ⟨r3, st3, st4, d, k, x, w3.sr, dd.fw w2.sr F3, dk, (dx.fw w1.sr F2).fw w2.sr F3, q, fun r4 H4 F4 S4 => p3 r4 σ H4 F4 ⟨S4, w3.ev.fw w3.sr F4⟩⟩
theorem ss_par3 {i j l : Nat} {x y z : Str} {c : Expr} {ft : Fe (List D)} {px py pz pt : Pos} {kt k2 pt2} (hc : X.calm = true) (hN : X.N.Nodup) (hi : X.N[i]? = some x) (hj : X.N[j]? = some y) (hl : X.N[l]? = some z) (hij : i ≠ j) (hil : i ≠ l) (hjl : j ≠ l)
    (hx : X.env.scope.names.lookup x = some .local) (hy : X.env.scope.names.lookup y = some .local) (hz : X.env.scope.names.lookup z = some .local) (ha : SA X W [a, b, c] ft)
    (hw : swappedStores [.Tuple [.Name x px, .Name y py, .Name z pz] kt pt] (.Tuple [a, b, c] k2 pt2) X.env = pure (some [x, y, z]))
    (hs : swapsWithSole [.Tuple [.Name x px, .Name y py, .Name z pz] kt pt] (.Tuple [a, b, c] k2 pt2) pos.line X.env = pure false) :
    SS X W (.Assign [.Tuple [.Name x px, .Name y py, .Name z pz] kt pt] (.Tuple [a, b, c] k2 pt2) pos) (fPar3 i j l ft) := by
  refine PS.imp (ps_par3 hc hN hi hj hl hij hil hjl hx hy hz ha hw hs) fun De σ H ⟨r, env, st, w, p⟩ => tA_pf w p fun ds r1 st1 H1 vs w1 dvs p1 => ?_
  split at p1
  · cases dvs with
    | cons d1 r =>
      cases r with
      | cons d2 r =>
        cases r with
        | cons d3 r =>
          cases r
          exact ⟨_, _, _, rfl, p1 r1 _ H1 (Fw.refl _ _ _) ⟨w1.sr, ((w1.ev.set i d1).set j d2).set l d3⟩⟩
  · exact p1.elim
/-- name op= e, ints -/
def opI : Operator → Option (Int → Int → Int)
  | .Add => some fun i j => i + j
  | .Sub => some fun i j => i - j
  | _ => none
def augD (op : Operator) (x y : D) : Option D := match opI op, x, y with
  | some f, .int i, .int j => some (.int (f i j))
  | _, _, _ => none
def fAug (op : Operator) (i : Nat) (a : Fe D) : Fs := fun env st => match env[i]? with
  | some (some x) => Fl.ofRz env (a env st) fun y st1 => match augD op x y with
    | some z => .nx (env.set i (some z)) st1
    | none => .bad
  | _ => .bad
def rAug (op : Operator) : TIp := fun x y H Q => ∃ f i j, opI op = some f ∧ x = .int i ∧ y = .int j ∧ Q (.int (f i j)) H
theorem ip_aug (op : Operator) : PIp X op (rAug op) := by
  intro pins s σ H x y v u Q I r1 r2 ⟨f, i, j, e, e1, e2, q⟩
  cases op <;> cases e
  · exact ip_add pins s σ H x y v u Q I r1 r2 ⟨i, j, e1, e2, q⟩
  · exact ip_sub pins s σ H x y v u Q I r1 r2 ⟨i, j, e1, e2, q⟩
theorem ss_aug {op : Operator} {i : Nat} {x : Str} {p' : Pos} (hN : X.N.Nodup) (hi : X.N[i]? = some x) (hx : Loc X.env.scope x) (hf : X.fn x = true ∨ X.env.scope.names.lookup x = some .local) (ha : SE X W e fa) :
    SS X W (.AugAssign (.Name x p') op e pos) (fAug op i fa) := by
  refine PS.imp (ps_aug hN hi hx ha (ip_aug op) hf) fun De σ H ⟨r, env, st, w, p⟩ => ?_
  unfold fAug at p
  split at p
  · rename_i d ed
    obtain ⟨v, h1, h2⟩ := w.ev.at_ i d ed
    refine ⟨v, h1, tE_pfF w p fun y r1 st1 H1 u w1 dy F1 p1 => ?_⟩
    split at p1
    · rename_i z ez
      unfold augD at ez
      split at ez
      · rename_i f' i' j' eo
        cases ez
        cases h2
        cases dy
        exact ⟨f', i', j', eo, rfl, rfl, p1 r1 _ H1 (Fw.refl _ _ _) ⟨w1.sr, w1.ev.set i (.int _)⟩⟩
      · cases ez
    · exact p1.elim
  · exact p.elim

/-! ### loops -/
def Fl.turn (x : Fl) (k : Fs) : Fl := match x with
  | .nx e s => k e s
  | .ct e s => k e s
  | .bk e s => .nx e s
  | y => y
@[simp] theorem Fl.turn_nx (e : Env) (s : Store) (k : Fs) : (Fl.nx e s).turn k = k e s := rfl
@[simp] theorem Fl.turn_ct (e : Env) (s : Store) (k : Fs) : (Fl.ct e s).turn k = k e s := rfl
@[simp] theorem Fl.turn_bk (e : Env) (s : Store) (k : Fs) : (Fl.bk e s).turn k = .nx e s := rfl
@[simp] theorem Fl.turn_rt (d : D) (s : Store) (k : Fs) : (Fl.rt d s).turn k = .rt d s := rfl
@[simp] theorem Fl.turn_exc (x : Ex) (e : Env) (s : Store) (k : Fs) : (Fl.exc x e s).turn k = .exc x e s := rfl
theorem Pf.turn {K : PySem.W.Frag} {mg : Str → Option Value} {r : Rm} {st : Store} {H : Hp} {De : Ends} {x : Fl} {k : Fs} {N : St → Hp → Prop} (h : Pf K mg W r st.length H De (x.turn k))
    (hn : ∀ r' env' st' σ' H', Fw r r' st.length st'.length H H' → Wd K r' env' st' σ' H' → Pf K mg W r st.length H De (k env' st') → N σ' H') :
    Pf K mg W r st.length H { De with nx := N, ct := N, bk := De.nx } x := by
  cases x with
  | nx e s => exact fun r' σ' H' F w => hn r' e s σ' H' F w h
  | ct e s => exact fun r' σ' H' F w => hn r' e s σ' H' F w h
  | bk e s => exact h
  | rt d s => exact h
  | exc x e s => exact h
  | bad => exact h
open Classical in
noncomputable def forGo (t : Tg) (g : Gd) (body : Fs) : List D → Fs
  | [] => fun env st => if gdOk g st then .nx env st else .bad
  | d :: ds => fun env st => if gdOk g st then (match t d env with
    | some env1 => (body env1 st).turn (forGo t g body ds)
    | none => .bad) else .bad
noncomputable def fFor (src : Fe Src) (t : Tg) (body : Fs) : Fs := fun env st => Fl.ofRz env (src env st) fun q st1 => forGo t q.2 body q.1 env st1
theorem ss_for {iter tg : Expr} {src : Fe Src} {t : Tg} (hp : PassesOwn (model X.prog X.w) X.A X.env X.xe) (hc : X.calm = true) (hi : SI X W tg iter src) (hg : SG X tg t sl) (hb : SSs X W ss f)
    (hs : ∀ x, foldedSetIterable iter X.env x = pure x) : SS X W (.For tg iter ss [] pos) (fFor src t f) := by
  refine PS.imp (ps_for hp hc hi hg hb hs) fun De σ H ⟨r, env, st, w, p⟩ => ?_
  refine ⟨r, env, st, w, (p.first w).mono fun q r1 st1 H1 _ F1 S1 hq J y => ?_⟩
  obtain ⟨w1, p1⟩ := hq
  obtain ⟨items, gd⟩ := q
  refine ⟨fun i m σ' H' => m + i = items.length ∧ ∃ (r' : Rm) (env' : Env) (st' : Store), Fw r1 r' st1.length st'.length H1 H' ∧ Wd X.K r' env' st' σ' H' ∧ Pf X.K X.mg W r' st'.length H' De (forGo t gd f (items.drop i) env' st'),
    ⟨items.length, rfl, r1, env, st1, Fw.refl _ _ _, w1, p1⟩, ?_⟩
  rintro i m σ' H' ⟨hm, r', env', st', F, w', p'⟩
  by_cases hi : i < items.length
  · refine .inr ?_
    have ed : items.drop i = items[i] :: items.drop (i + 1) := List.drop_eq_getElem_cons hi
    rw [ed] at p'
    unfold forGo at p'
    split at p'
    · rename_i ok
      obtain ⟨hgo, hy⟩ := y.go i items[i] r' st' H' (List.getElem?_eq_getElem hi) (Fp.of F).q w'.sr ok
      refine ⟨hgo, fun σ2 H2 => ∃ (r2 : Rm) (env2 : Env) (st2 : Store), Fw r1 r2 st1.length st2.length H1 H2 ∧ Wd X.K r2 env2 st2 σ2 H2 ∧ Pf X.K X.mg W r2 st2.length H2 De (forGo t gd f (items.drop (i + 1)) env2 st2), fun σ2 H2 ⟨r2, env2, st2, h1, h2, h3⟩ => ⟨m - 1, by omega, by omega, r2, env2, st2, h1, h2, h3⟩, fun x H3 hyl => ?_⟩
      obtain ⟨F3, S3, dx⟩ := hy x H3 hyl
      have w3 := w'.fw F3 S3
      cases et : t items[i] env' with
      | none => rw [et] at p'; exact p'.elim
      | some env1 =>
        rw [et] at p'
        refine ⟨r', env', st', items[i], env1, w3, dx, et, fun σ4 w4 _ => ⟨r', env1, st', w4, ?_⟩⟩
        have p4 : Pf X.K X.mg W r' st'.length H3 De ((f env1 st').turn (forGo t gd f (items.drop (i + 1)))) := p'.fw S3 F3
        exact p4.turn fun r5 env5 st5 σ5 H5 F5 w5 p5 => ⟨r5, env5, st5, F.trans w'.sr (F3.trans S3 F5), w5, p5.fw w5.sr F5⟩
    · exact p'.elim
  · refine .inl ?_
    have ei : i = items.length := by omega
    subst ei
    rw [List.drop_length] at p'
    unfold forGo at p'
    split at p'
    · rename_i ok
      exact ⟨y.stop r' st' H' (Fp.of F).q w'.sr ok, p'.here w'⟩
    · exact p'.elim
def whGo (c : Fe Bool) (body : Fs) : Nat → Fs
  | 0 => fun _ _ => .bad
  | n + 1 => fun env st => Fl.ofRz env (c env st) fun k st1 => if k = true then (body env st1).turn (whGo c body n) else .nx env st1
theorem ss_while {fc : Fe Bool} (n : Nat) (hp : PassesOwn (model X.prog X.w) X.A X.env X.xe) (hc : ST X W e fc) (hb : SSs X W ss f) : SS X W (.While e ss [] pos) (whGo fc f n) := by
  refine PS.imp (ps_while hp hc hb) fun De σ H h => ⟨fun m σ' H' => tS X.K X.mg W (whGo fc f m) De σ' H', ⟨n, h⟩, ?_⟩
  rintro m σ1 H1 ⟨r, env, st, w, p⟩
  cases m with
  | zero => exact p.elim
  | succ m =>
    refine tT_pf w p fun k r1 st1 H2 w1 p1 => ?_
    cases k with
    | true => exact ⟨fun σ' H' => tS X.K X.mg W (whGo fc f m) De σ' H', fun σ' H' h => ⟨m, Nat.lt_succ_self _, h⟩, r1, env, st1, w1, p1.turn fun r5 env5 st5 σ5 H5 F5 w5 p5 => ⟨r5, env5, st5, w5, p5.fw w5.sr F5⟩⟩
    | false => exact p1.here w1

/-! ### list comprehensions -/
def wipeE (env : Env) : List Nat → Env
  | [] => env
  | v :: vs => (wipeE env vs).set v none
theorem wipeE_some {env : Env} {i : Nat} {d : D} : ∀ {vs : List Nat}, (wipeE env vs)[i]? = some (some d) → env[i]? = some (some d) ∧ i ∉ vs
  | [], h => ⟨h, by simp⟩
  | v :: vs, h => by
    unfold wipeE at h
    by_cases hi : v = i
    · subst hi
      by_cases hv : v < (wipeE env vs).length
      · rw [List.getElem?_set_self hv] at h; cases h
      · rw [List.getElem?_eq_none (by simpa using hv)] at h; cases h
    · rw [List.getElem?_set_ne hi] at h
      obtain ⟨h1, h2⟩ := wipeE_some h
      exact ⟨h1, by simp only [List.mem_cons, not_or]; exact ⟨fun e => hi e.symm, h2⟩⟩
theorem wipeE_length (env : Env) : ∀ vs : List Nat, (wipeE env vs).length = env.length
  | [] => rfl
  | v :: vs => by unfold wipeE; rw [List.length_set, wipeE_length env vs]
theorem Ev_.wipe {K : PySem.W.Frag} {H : Hp} {r : Rm} {n : Nat} {env : Env} {σ : St} (h : Ev_ K H r n env σ) (vs : List Nat) : Ev_ K H r n (wipeE env vs) (wipe σ vs) :=
  ⟨by rw [wipeE_length, wipe_length, h.len], fun i d e => by
    obtain ⟨e1, e2⟩ := wipeE_some e
    rw [wipe_out e2]
    exact h.at_ i d e1⟩
theorem wipe_same {σ σ' : St} : ∀ {vs : List Nat}, σ'.length = σ.length → (∀ i, i ∉ vs → σ'[i]? = (wipe σ vs)[i]?) → wipe σ' vs = wipe σ vs := by
  intro vs hl h
  apply List.ext_getElem?
  intro i
  have key : ∀ (σ : St) (vs : List Nat) (i : Nat), i ∈ vs → i < σ.length → (wipe σ vs)[i]? = some none := by
    intro σ vs
    induction vs with
    | nil => intro i hi; simp at hi
    | cons v vs ih =>
      intro i hi hlt
      unfold wipe
      by_cases e : v = i
      · subst e
        rw [List.getElem?_set_self (by rw [wipe_length]; exact hlt)]
      · rw [List.getElem?_set_ne e]
        rcases List.mem_cons.mp hi with z | z
        · exact absurd z.symm e
        · exact ih i z hlt
  by_cases hi : i ∈ vs
  · by_cases hlt : i < σ.length
    · rw [key σ' vs i hi (by omega), key σ vs i hi hlt]
    · rw [List.getElem?_eq_none (by rw [wipe_length]; omega), List.getElem?_eq_none (by rw [wipe_length]; omega)]
  · rw [wipe_out hi]
    exact h i hi
/-- no exception may come -/
def Rz.noexc {A : Type} (x : Rz A) : Rz A := match x with
  | .exc _ _ => .bad
  | y => y
@[simp] theorem Rz.noexc_ok {A : Type} (a : A) (st : Store) : (Rz.ok a st).noexc = .ok a st := rfl
open Classical in
noncomputable def lcGo (t : Tg) (g : Gd) (c : Fe Bool) (el : Fe D) (env : Env) : List D → List D → Store → Rz (List D)
  | [], acc, st => if gdOk g st then .ok acc st else .bad
  | d :: ds, acc, st => if gdOk g st then (match t d env with
    | some env1 => (c env1 st).noexc.bind fun k st1 => if k = true then (el env1 st1).noexc.bind fun y st2 => if acc.length < sizeLine then lcGo t g c el env ds (acc ++ [y]) st2 else .bad else lcGo t g c el env ds acc st1
    | none => .bad) else .bad
def lcEnd (kn : Bool) : List D → Store → Rz D := fun acc st => if kn = true then .ok (.loc st.length) (st ++ [.lst acc]) else .ok (.lst acc) st
noncomputable def fLc (kn : Bool) (src : Fe Src) (t : Tg) (c : Fe Bool) (el : Fe D) (own : List Nat) : Fe D := fun env st => (src env st).bind fun q st1 => (lcGo t q.2 c el (wipeE env own) q.1 [] st1).bind (lcEnd kn)
def W0 : Wx := fun _ _ _ _ => False
def fYes : Fe Bool := fun _ st => .ok true st
abbrev STs (X : Cx) (W : Wx) (es : List Expr) (f : Fe Bool) : Prop := PTs X es (tT X.K X.mg W f)
theorem PTs.imp {es : List Expr} {t t' : TT} (h : PTs X es t) (i : ∀ σ H Q, t' σ H Q → t σ H Q) : PTs X es t' := ⟨fun pins s σ H Q I q => h.run pins s σ H Q I (i σ H Q q)⟩
theorem sts_nil : STs X W [] fYes := PTs.imp pts_nil fun σ H Q ⟨r, env, st, wd, p⟩ => p.here wd.sr
theorem sts_one {fc : Fe Bool} (h : ST X W e fc) : STs X W [e] fc := pts_one h
theorem inner {A B : Type} {K : PySem.W.Frag} {mg : Str → Option Value} {r r1 : Rm} {st st1 : Store} {H H1 : Hp} {σ σ2 : St} {Q : B → Rm → Store → Hp → Prop} {Qb : A → Rm → Store → Hp → Prop} {x : Rz A} {gg : A → Store → Rz B} (h : Po K mg W r1 st1 H1 σ Q (x.noexc.bind gg))
    (hk : ∀ a st2 r' H', Fw r r' st.length st2.length H H' → Sr K r' st2 H' → Po K mg W r1 st1 H1 σ Q (gg a st2) → Qb a r' st2 H') : Po K mg W0 r st H σ2 Qb x := by
  cases x with
  | ok a s => exact fun r' H' F S => hk a s r' H' F S h
  | exc e s => exact h.elim
  | bad => exact h.elim
end
end L2.G4

set_option maxHeartbeats 4000000
/-! GR: list comprehensions: the rule. -/
namespace L2.G4
open PySem PySem.Spec PyProof.Rows
section
variable {K : PySem.W.Frag} {H H' : Hp} {r r' : Rm} {n n' : Nat} {st st' : Store}
theorem Ev_.fp {env : Env} {σ : St} (S : Sr K r st H) (F : Fp r r' st.length n' H H') (e : Ev_ K H r st.length env σ) : Ev_ K H' r' n' env σ :=
  ⟨e.len, fun i d h => let ⟨v, h1, h2⟩ := e.at_ i d h; ⟨v, h1, h2.fp S F⟩⟩
theorem Fw.updN {a : Addr} {o : HO} (F : Fw r r' n n' H H') (hn : H a = none) : Fw r r' n n' H (upd H' a o) :=
  ⟨F.le, F.ag, F.nw, fun b u e h ho => by rw [upd_ne (ne_of_none e hn)]; exact F.kp b u e h ho, F.pv⟩
/-- a private list is given to the store -/
def opn (r : Rm) (p : Addr → Prop) (n : Nat) (a : Addr) : Rm := ext (r.wp p) n a
mutual
theorem DV.opn {a : Addr} {p : Addr → Prop} (hp : ∀ a, p a → r.pv a) (ha : r.pv a) : ∀ {d : D} {v : V}, DV K H r n d v → DV K H (opn r p n a) (n + 1) d v
  | _, _, .non => .non
  | _, _, .bl b => .bl b
  | _, _, .int i => .int i
  | _, _, .str x => .str x
  | _, _, .byt b => .byt b
  | _, _, .tup h z t => .tup h z (DVs.opn hp ha t)
  | _, _, .lst h na z t => .lst h ⟨(fun i hi e => by
      have e : (if i = n then a else r i) = _ := e
      by_cases q : i = n
      · rw [if_pos q] at e; exact na.2 (by rw [← e]; exact ha)
      · rw [if_neg q] at e; exact na.1 i (by omega) e), fun q => na.2 (hp _ q)⟩ z (DVs.opn hp ha t)
  | _, _, .fls h z t => .fls h z (DVs.opn hp ha t)
  | _, _, .loc (i := i) h => by
    have e : (G4.opn r p n a) i = r i := if_neg (Nat.ne_of_lt h)
    rw [← e]
    exact .loc (Nat.lt_succ_of_lt h)
  | _, _, .dct h na l nd z t => .dct h ⟨(fun i hi e => by
      have e : (if i = n then a else r i) = _ := e
      by_cases q : i = n
      · rw [if_pos q] at e; exact na.2 (by rw [← e]; exact ha)
      · rw [if_neg q] at e; exact na.1 i (by omega) e), fun q => na.2 (hp _ q)⟩ l nd z (DVs.opn hp ha t)
  | _, _, .exn h na t => .exn h ⟨(fun i hi e => by
      have e : (if i = n then a else r i) = _ := e
      by_cases q : i = n
      · rw [if_pos q] at e; exact na.2 (by rw [← e]; exact ha)
      · rw [if_neg q] at e; exact na.1 i (by omega) e), fun q => na.2 (hp _ q)⟩ (DV.opn hp ha t)
  | _, _, .fnv h na t l z => .fnv h ⟨(fun i hi e => by
      have e : (if i = n then a else r i) = _ := e
      by_cases q : i = n
      · rw [if_pos q] at e; exact na.2 (by rw [← e]; exact ha)
      · rw [if_neg q] at e; exact na.1 i (by omega) e), fun q => na.2 (hp _ q)⟩ (DVs.opn hp ha t) l z
theorem DVs.opn {a : Addr} {p : Addr → Prop} (hp : ∀ a, p a → r.pv a) (ha : r.pv a) : ∀ {ds : List D} {vs : List V}, DVs K H r n ds vs → DVs K H (opn r p n a) (n + 1) ds vs
  | _, _, .nil => .nil
  | _, _, .cons b t => .cons (DV.opn hp ha b) (DVs.opn hp ha t)
end
theorem KDV.opn {a : Addr} {p : Addr → Prop} (hp : ∀ a, p a → r.pv a) (ha : r.pv a) : ∀ {ds : List (Key × D)} {vs : List (Key × V)}, KDV K H r n ds vs → KDV K H (opn r p n a) (n + 1) ds vs
  | _, _, .nil => .nil
  | _, _, .cons b t => .cons (b.opn hp ha) (KDV.opn hp ha t)
theorem OV.opn {a : Addr} {p : Addr → Prop} (hp : ∀ a, p a → r.pv a) (ha : r.pv a) {o : O} {ho : HO} (h : OV K H r n o ho) : OV K H (opn r p n a) (n + 1) o ho := by
  cases h with
  | lst z t => exact .lst z (t.opn hp ha)
  | dic z nd t => exact .dic z nd (t.opn hp ha)
theorem Sr.opn {a : Addr} {p : Addr → Prop} {o : O} {ho : HO} (hp : ∀ a, p a → r.pv a) (ha : r.pv a) (hna : ¬ p a) (S : Sr K r st H) (e : H a = some ho) (t : OV K H r st.length o ho) : Sr K (opn r p st.length a) (st ++ [o]) H where
  inj := fun i j hi hj e => by
    rw [List.length_append] at hi hj
    simp only [List.length_cons, List.length_nil] at hi hj
    have e : (if i = st.length then a else r i) = (if j = st.length then a else r j) := e
    by_cases h1 : i = st.length <;> by_cases h2 : j = st.length
    · omega
    · rw [if_pos h1, if_neg h2] at e; exact absurd (by rw [← e]; exact ha) (S.pvN j (by omega))
    · rw [if_neg h1, if_pos h2] at e; exact absurd (by rw [e]; exact ha) (S.pvN i (by omega))
    · rw [if_neg h1, if_neg h2] at e; exact S.inj i j (by omega) (by omega) e
  obj := fun i u eu => by
    have el : (st ++ [o]).length = st.length + 1 := by simp
    rw [el]
    by_cases hi : i < st.length
    · rw [List.getElem?_append_left hi] at eu
      obtain ⟨hu, h1, h2⟩ := S.obj i u eu
      have er : (G4.opn r p st.length a) i = r i := if_neg (Nat.ne_of_lt hi)
      exact ⟨hu, by rw [er]; exact h1, h2.opn hp ha⟩
    · rw [List.getElem?_append_right (Nat.le_of_not_lt hi)] at eu
      have hi0 : i - st.length = 0 := by
        cases q : i - st.length with
        | zero => rfl
        | succ m => rw [q] at eu; simp at eu
      rw [hi0] at eu
      have e' : o = u := by simpa using eu
      subst e'
      have ei : i = st.length := by omega
      subst ei
      have er : (G4.opn r p st.length a) st.length = a := if_pos rfl
      exact ⟨ho, by rw [er]; exact e, t.opn hp ha⟩
  pvA := fun b hb => S.pvA b (hp b hb)
  pvN := fun i hi z => by
    rw [List.length_append] at hi
    simp only [List.length_cons, List.length_nil] at hi
    have z : p (if i = st.length then a else r i) := z
    by_cases h1 : i = st.length
    · rw [if_pos h1] at z; exact hna z
    · rw [if_neg h1] at z; exact S.pvN i (by omega) (hp _ z)
  tab := S.tab
theorem keepD {a : Addr} {u : HO} (S : Sr K r st H) (ha : r.pv a) (F : Fw r r' st.length n' H H') (e : H a = some u) : H' a = some u := by
  obtain ⟨xs, ex⟩ := S.pvA a ha
  rw [e] at ex
  cases ex
  exact F.kp a _ e (fun i hi z => S.pvN i hi (by rw [z]; exact ha)) ntL

theorem lc_end {mg : Str → Option Value} {W : Wx} {kn : Bool} {r1 : Rm} {st1 : Store} {H1 : Hp} {Dd : Addr} {σ : St} {Q : VK} {acc : List D} {av : List V} (hD : H1 Dd = none) (S1 : Sr K r1 st1 H1) (F : Fp r1 r' st1.length st'.length H1 H') (hpv : r'.pv = (r1.add Dd).pv) (S' : Sr K r' st' H') (hDd : H' Dd = some (.lst av)) (hacc : DVs K H' r' st'.length acc av) (hz : acc.length ≤ sizeLine)
    (p' : Po K mg W r1 st1 H1 σ (Pv K Q) (lcEnd kn acc st')) : Q (.ref Dd) H' := by
  have hsub : ∀ a, r1.pv a → r'.pv a := fun a h => by rw [hpv]; exact .inl h
  have hpd : r'.pv Dd := by rw [hpv]; exact .inr rfl
  have hnd : ¬ r1.pv Dd := S1.fpv hD
  have hna : ∀ i, i < st'.length → r' i ≠ Dd := fun i hi z => S'.pvN i hi (by rw [z]; exact hpd)
  unfold lcEnd at p'
  split at p'
  · have en : (st' ++ [O.lst acc]).length = st'.length + 1 := by simp
    refine p' (opn r' r1.pv st'.length Dd) H' ?_ (S'.opn hsub hpd hnd hDd (.lst hz hacc)) _ ?_
    · rw [en]
      refine ⟨Nat.le_succ_of_le F.fw.le, fun j hj => ?_, fun j h1 h2 => ?_, fun b u e h ho => F.fw.kp b u e h ho, rfl⟩
      · have : j ≠ st'.length := by have := F.fw.le; omega
        exact (if_neg this).trans (F.fw.ag j hj)
      · by_cases q : j = st'.length
        · have e : (opn r' r1.pv st'.length Dd) j = Dd := if_pos q
          rw [e, hD]; exact .none
        · have e : (opn r' r1.pv st'.length Dd) j = r' j := if_neg q
          rw [e]; exact F.fw.nw j h1 (by omega)
    · have e : (opn r' r1.pv st'.length Dd) st'.length = Dd := if_pos rfl
      have q : DV K H' (opn r' r1.pv st'.length Dd) (st' ++ [O.lst acc]).length (.loc st'.length) (.ref ((opn r' r1.pv st'.length Dd) st'.length)) := .loc (by rw [en]; exact Nat.lt_succ_self _)
      rw [e] at q
      exact q
  · exact p' (r'.wp r1.pv) H' F.fw (S'.wp hsub) _ (.lst hDd ⟨hna, hnd⟩ hz (hacc.wp hsub))
/-- what the comprehension's reading asks -/
theorem lc_read {mg : Str → Option Value} {W : Wx} {src : Fe Src} {t : Tg} {sl vs : List Nat} {c : Fe Bool} {el : Fe D} {kn : Bool} {env : Env} {σ : St} {Q : VK} (hsl : ∀ i ∈ sl, i ∈ vs) (wd : Wd K r env st σ H)
    (p : Po K mg W r st H σ (Pv K Q) (fLc kn src t c el vs env st)) : tLc (tI K mg W src) (tG K t sl) (tT K mg W0 c) (tE K mg W0 el) vs σ H Q := by
  refine ⟨r, env, st, wd, p.first.mono fun q r1 st1 H1 _ F1 S1 p1 J y Dd hD => ?_⟩
  have w1 := wd.fw F1 S1
  obtain ⟨items, gd⟩ := q
  refine ⟨fun i m H' => m + i = items.length ∧ ∃ (r' : Rm) (st' : Store) (acc : List D) (av : List V), Fp r1 r' st1.length st'.length H1 H' ∧ r'.pv = (r1.add Dd).pv ∧ Sr K r' st' H' ∧ H' Dd = some (.lst av) ∧ DVs K H' r' st'.length acc av ∧ acc.length ≤ sizeLine ∧
      Po K mg W r1 st1 H1 σ (Pv K Q) ((lcGo t gd c el (wipeE env vs) (items.drop i) acc st').bind (lcEnd kn)), ⟨items.length, rfl, r1.add Dd, st1, [], [], ⟨fw_new hD, fun a h => h.elim .inl fun e => .inr (by rw [e]; exact hD)⟩, rfl, S1.add hD, upd_same, .nil, Nat.zero_le _, p1⟩, ?_⟩
  rintro i m H' ⟨hm, r', st', acc, av, F, hpv, S', hDd, hacc, hz, p'⟩
  have hsub : ∀ a, r1.pv a → r'.pv a := fun a h => by rw [hpv]; exact .inl h
  have hpd : r'.pv Dd := by rw [hpv]; exact .inr rfl
  by_cases hi : i < items.length
  · refine .inr ?_
    have ed : items.drop i = items[i] :: items.drop (i + 1) := List.drop_eq_getElem_cons hi
    rw [ed] at p'
    unfold lcGo at p'
    split at p'
    · rename_i ok
      obtain ⟨hgo, hy⟩ := y.go i items[i] r' st' H' (List.getElem?_eq_getElem hi) F.q S' ok
      refine ⟨hgo, fun H2 => ∃ (r2 : Rm) (st2 : Store) (acc : List D) (av : List V), Fp r1 r2 st1.length st2.length H1 H2 ∧ r2.pv = (r1.add Dd).pv ∧ Sr K r2 st2 H2 ∧ H2 Dd = some (.lst av) ∧ DVs K H2 r2 st2.length acc av ∧ acc.length ≤ sizeLine ∧
        Po K mg W r1 st1 H1 σ (Pv K Q) ((lcGo t gd c el (wipeE env vs) (items.drop (i + 1)) acc st2).bind (lcEnd kn)), fun H2 ⟨r2, st2, acc2, av2, h⟩ => ⟨m - 1, by omega, by omega, r2, st2, acc2, av2, h⟩, fun x H3 hyl => ?_⟩
      obtain ⟨F3, S3, dx⟩ := hy x H3 hyl
      have P3 : Fp r1 r' st1.length st'.length H1 H3 := F.trans (S'.wp hsub) F3
      cases et : t items[i] (wipeE env vs) with
      | none => rw [et] at p'; exact p'.elim
      | some env1 =>
        rw [et] at p'
        refine ⟨r', wipeE env vs, st', items[i], env1, ⟨S3, (w1.ev.fp S1 P3).wipe vs⟩, dx, et, fun σ4 w4 sm => ⟨?_, ?_⟩⟩
        · have l4 : σ4.length = σ.length := by rw [sm.1, wipe_length]
          exact wipe_same l4 fun j hj => sm.2 j fun z => hj (hsl j z)
        · have p4 : Po K mg W r1 st1 H1 σ (Pv K Q) ((c env1 st').noexc.bind fun k st1 => (if k = true then (el env1 st1).noexc.bind fun y st2 => if acc.length < sizeLine then lcGo t gd c el (wipeE env vs) (items.drop (i + 1)) (acc ++ [y]) st2 else .bad else lcGo t gd c el (wipeE env vs) (items.drop (i + 1)) acc st1).bind (lcEnd kn)) := by
            rw [← Rz.bind_bind]; exact p'
          refine ⟨r', env1, st', w4, inner p4 fun k st5 r5 H5 F5 S5 p5 => ?_⟩
          have h5 : H5 Dd = some (.lst av) := keepD S3 hpd F5 (keepD S' hpd F3 hDd)
          have e5 : r5.pv = (r1.add Dd).pv := F5.pv.trans hpv
          have P5 : Fp r1 r5 st1.length st5.length H1 H5 := P3.trans (S3.wp hsub) F5
          have a5 := (hacc.fw S' F3).fw S3 F5
          cases k with
          | true =>
            simp only [if_true] at p5 ⊢
            have p6 : Po K mg W r1 st1 H1 σ (Pv K Q) ((el env1 st5).noexc.bind fun y st2 => (if acc.length < sizeLine then lcGo t gd c el (wipeE env vs) (items.drop (i + 1)) (acc ++ [y]) st2 else .bad).bind (lcEnd kn)) := by
              rw [← Rz.bind_bind]; exact p5
            refine ⟨r5, env1, st5, w4.fw F5 S5, inner p6 fun yv st6 r6 H6 F6 S6 p7 v dv => ?_⟩
            have hp5 : r5.pv Dd := by rw [e5]; exact .inr rfl
            have hp6 : r6.pv Dd := by rw [F6.pv]; exact hp5
            have h6 : H6 Dd = some (.lst av) := keepD S5 hp5 F6 h5
            have P6 : Fp r1 r6 st1.length st6.length H1 H6 := P5.trans (S5.wp fun a h => by rw [e5]; exact .inl h) F6
            have a6 := a5.fw S5 F6
            split at p7
            · rename_i hlt
              refine ⟨av, h6, by rw [← hacc.length]; exact hlt, r6, st6, acc ++ [yv], av ++ [v], ⟨P6.fw.updN hD, P6.nw⟩, F6.pv.trans e5, S6.upv hp6 h6, upd_same, ?_, by rw [List.length_append, List.length_singleton]; exact hlt, p7⟩
              exact (a6.append (.cons dv .nil)).upv hp6 h6
            · exact p7.elim
          | false =>
            rw [if_neg Bool.false_ne_true] at p5
            simp only [Bool.false_eq_true, if_false]
            exact ⟨r5, st5, acc, av, P5, e5, S5, h5, a5, hz, p5⟩
    · exact p'.elim
  · refine .inl ?_
    have ei : i = items.length := by omega
    subst ei
    rw [List.drop_length] at p'
    unfold lcGo at p'
    split at p'
    · rename_i ok
      refine ⟨y.stop r' st' H' F.q S' ok, ?_⟩
      have p' : Po K mg W r1 st1 H1 σ (Pv K Q) (lcEnd kn acc st') := p'
      have hnd : ¬ r1.pv Dd := S1.fpv hD
      have hna : ∀ i, i < st'.length → r' i ≠ Dd := fun i hi z => S'.pvN i hi (by rw [z]; exact hpd)
      unfold lcEnd at p'
      split at p'
      · have en : (st' ++ [O.lst acc]).length = st'.length + 1 := by simp
        refine p' (opn r' r1.pv st'.length Dd) H' ?_ (S'.opn hsub hpd hnd hDd (.lst hz hacc)) _ ?_
        · rw [en]
          refine ⟨Nat.le_succ_of_le F.fw.le, fun j hj => ?_, fun j h1 h2 => ?_, fun b u e h ho => F.fw.kp b u e h ho, rfl⟩
          · have : j ≠ st'.length := by have := F.fw.le; omega
            exact (if_neg this).trans (F.fw.ag j hj)
          · by_cases q : j = st'.length
            · have e : (opn r' r1.pv st'.length Dd) j = Dd := if_pos q
              rw [e, hD]; exact .none
            · have e : (opn r' r1.pv st'.length Dd) j = r' j := if_neg q
              rw [e]; exact F.fw.nw j h1 (by omega)
        · have e : (opn r' r1.pv st'.length Dd) st'.length = Dd := if_pos rfl
          have q : DV K H' (opn r' r1.pv st'.length Dd) (st' ++ [O.lst acc]).length (.loc st'.length) (.ref ((opn r' r1.pv st'.length Dd) st'.length)) := .loc (by rw [en]; exact Nat.lt_succ_self _)
          rw [e] at q
          exact q
      · exact p' (r'.wp r1.pv) H' F.fw (S'.wp hsub) _ (.lst hDd ⟨hna, hnd⟩ hz (hacc.wp hsub))
    · exact p'.elim
end
section
variable {X : Cx} {W : Wx} {elt tg iter : Expr} {ifs : List Expr} {scope : Scope} {own : List (Str × Nat)} {pos : Pos} {src : Fe Src} {t : Tg} {sl : List Nat} {c : Fe Bool} {el : Fe D}
theorem se_lc (kn : Bool) (hc : X.calm = true) (hN : X.N.Nodup) (hi : SI X W tg iter src) (ok : BlkOk X.N X.env.scope scope own) (hsl : ∀ i ∈ sl, i ∈ own.map (·.2))
    (hg : ∀ (s : Shared) (H : Hp) (C : Addr) (cl : List (Str × Addr)) (fp : List Addr), SG (X.blk s H scope (compEnvC scope cl C X.env) fp) tg t sl)
    (ht : ∀ (s : Shared) (H : Hp) (C : Addr) (cl : List (Str × Addr)) (fp : List Addr), STs (X.blk s H scope (compEnvC scope cl C X.env) fp) W0 ifs c)
    (he : ∀ (s : Shared) (H : Hp) (C : Addr) (cl : List (Str × Addr)) (fp : List Addr), SE (X.blk s H scope (compEnvC scope cl C X.env) fp) W0 elt el) (hs : ∀ x, foldedSetIterable iter X.env x = pure x) :
    SE X W (.ListComp elt [⟨tg, iter, ifs, 0⟩] scope pos) (fLc kn src t c el (own.map (·.2))) :=
  PE.imp (pe_lc hc hN hi ok hg ht he hs) fun σ H Q ⟨r, env, st, wd, p⟩ => lc_read hsl wd p
/-- name = [..], swapped with the store -/
theorem ss_setLc (kn : Bool) {i : Nat} {y : Str} {py spos : Pos} (hc : X.calm = true) (hN : X.N.Nodup) (hy : X.N[i]? = some y) (hyl : X.env.scope.names.lookup y = some .local)
    (hsw : swapsWith (.ListComp elt [⟨tg, iter, ifs, 0⟩] scope pos) (some (.Name y py)) spos.line X.env = pure true) (hi : SI X W tg iter src) (ok : BlkOk X.N X.env.scope scope own) (hsl : ∀ i ∈ sl, i ∈ own.map (·.2))
    (hg : ∀ (s : Shared) (H : Hp) (C : Addr) (cl : List (Str × Addr)) (fp : List Addr), SG (X.blk s H scope (compEnvC scope cl C X.env) fp) tg t sl)
    (ht : ∀ (s : Shared) (H : Hp) (C : Addr) (cl : List (Str × Addr)) (fp : List Addr), STs (X.blk s H scope (compEnvC scope cl C X.env) fp) W0 ifs c)
    (he : ∀ (s : Shared) (H : Hp) (C : Addr) (cl : List (Str × Addr)) (fp : List Addr), SE (X.blk s H scope (compEnvC scope cl C X.env) fp) W0 elt el) (hs : ∀ x, foldedSetIterable iter X.env x = pure x) :
    SS X W (.Assign [.Name y py] (.ListComp elt [⟨tg, iter, ifs, 0⟩] scope pos) spos) (fAsg (fLc kn src t c el (own.map (·.2))) (gdName i)) := by
  refine PS.imp (ps_setLc (te := tE X.K X.mg W0 el) (tt := tT X.K X.mg W0 c) (g := tG X.K t sl) (wi := tI X.K X.mg W src) hc hN hy hyl hsw hi ok hg ht he hs) fun De σ H ⟨r, env, st, w, p⟩ => ?_
  refine lc_read (kn := kn) (Q := fun x H1 => De.nx (σ.set i (some x)) H1) hsl w ?_
  exact (p.first w).mono fun d r1 st1 H1 _ F1 S1 q v dv => q.2 r1 _ H1 (Fw.refl _ _ _) ⟨S1, q.1.ev.set i dv⟩
end
end L2.G4

set_option maxHeartbeats 4000000
/-! GRb: steps of Fq, for a loop within a comprehension. (Towards two generators.) -/
namespace L2.G4
open PySem PySem.Spec PyProof.Rows
section
variable {K : PySem.W.Frag} {H H1 H2 : Hp} {r r1 r2 : Rm} {n n' : Nat} {st st1 st2 : Store}
theorem Fq.refl (r : Rm) (n : Nat) (H : Hp) : Fq K r r n n H H := ⟨Nat.le_refl _, fun _ _ => rfl, fun i h1 h2 => absurd h2 (Nat.not_lt.mpr h1), fun _ _ h _ _ _ => h, fun _ h => .inl h⟩
theorem Fq.trans (S1 : Sr K r1 st1 H1) (a : Fq K r r1 st.length st1.length H H1) (b : Fw r1 r2 st1.length st2.length H1 H2) (sb : ∀ a, r.pv a → r1.pv a) : Fq K r r2 st.length st2.length H H2 where
  le := Nat.le_trans a.le b.le
  ag := fun i h => (b.ag i (Nat.lt_of_lt_of_le h a.le)).trans (a.ag i h)
  nw := fun i h1 h2 => by
    by_cases h : i < st1.length
    · rw [b.ag i h]; exact a.nw i h1 h
    · have q := b.nw i (Nat.le_of_not_lt h) h2
      intro o e ho
      by_cases hh : ∃ j, j < st.length ∧ r j = r2 i
      · obtain ⟨j, hj, ej⟩ := hh
        obtain ⟨ho2, h3, _, _, h4⟩ := S1.at_ (Nat.lt_of_lt_of_le hj a.le)
        rw [a.ag j hj, ej] at h3
        exact q.not h3 h4.nt
      · by_cases hp : r1.pv (r2 i)
        · obtain ⟨xs, e2⟩ := S1.pvA _ hp
          exact q.not e2 ntL
        · by_cases hp0 : r.pv (r2 i)
          · exact absurd (sb _ hp0) hp
          · exact q.not (a.kp _ _ e (fun j hj z => hh ⟨j, hj, z⟩) hp0 ho) ho
  kp := fun x o h hn hp ho => b.kp x o (a.kp x o h hn hp ho) (fun i hi e => by
    by_cases hl : i < st.length
    · rw [a.ag i hl] at e; exact hn i hl e
    · exact (a.nw i (Nat.le_of_not_lt hl) hi).not (by rw [e]; exact h) ho) ho
  pv := fun x h => a.pv x (by rw [← b.pv]; exact h)
theorem Fq.updP {a : Addr} {o : HO} (F : Fq K r r1 n n' H H1) (ha : r.pv a) : Fq K r r1 n n' H (upd H1 a o) :=
  ⟨F.le, F.ag, F.nw, fun b u e h hp ho => by rw [upd_ne (fun z => hp (by rw [z]; exact ha))]; exact F.kp b u e h hp ho, F.pv⟩
theorem Ev_.fq {env : Env} {σ : St} (S : Sr K r st H) (F : Fq K r r1 st.length n' H H1) (e : Ev_ K H r st.length env σ) : Ev_ K H1 r1 n' env σ :=
  ⟨e.len, fun i d h => let ⟨v, h1, h2⟩ := e.at_ i d h; ⟨v, h1, h2.fq S F⟩⟩
end
/-! ### two generators -/
open Classical in
noncomputable def lc2Go (t : Tg) (g : Gd) (c : Fe Bool) (src1 : Fe Src) (t1 : Tg) (c1 : Fe Bool) (el : Fe D) (vs1 : List Nat) (env : Env) : List D → List D → Store → Rz (List D)
  | [], acc, st => if gdOk g st then .ok acc st else .bad
  | d :: ds, acc, st => if gdOk g st then (match t d env with
    | none => .bad
    | some env1 => (c env1 st).noexc.bind fun k st1 => if k = true then (src1 env1 st1).noexc.bind fun q st2 => (lcGo t1 q.2 c1 el (wipeE env1 vs1) q.1 acc st2).bind fun acc2 st3 => lc2Go t g c src1 t1 c1 el vs1 env ds acc2 st3
      else lc2Go t g c src1 t1 c1 el vs1 env ds acc st1) else .bad
noncomputable def fLc2 (kn : Bool) (src : Fe Src) (t : Tg) (c : Fe Bool) (src1 : Fe Src) (t1 : Tg) (c1 : Fe Bool) (el : Fe D) (vs vs1 : List Nat) : Fe D := fun env st => (src env st).bind fun q st1 => (lc2Go t q.2 c src1 t1 c1 el vs1 (wipeE env vs) q.1 [] st1).bind (lcEnd kn)
section
variable {K : PySem.W.Frag} {H : Hp} {r : Rm} {st : Store}
theorem lc2_read {mg : Str → Option Value} {W : Wx} {src src1 : Fe Src} {t t1 : Tg} {sl sl1 vs vs1 : List Nat} {c c1 : Fe Bool} {el : Fe D} {kn : Bool} {env : Env} {σ : St} {Q : VK} (hsl : ∀ i ∈ sl, i ∈ vs) (hsl1 : ∀ i ∈ sl1, i ∈ vs1) (wd : Wd K r env st σ H)
    (p : Po K mg W r st H σ (Pv K Q) (fLc2 kn src t c src1 t1 c1 el vs vs1 env st)) : tLc2 (tI K mg W src) (tG K t sl) (tT K mg W0 c) (tI K mg W0 src1) (tG K t1 sl1) (tT K mg W0 c1) (tE K mg W0 el) vs vs1 σ H Q := by
  refine ⟨r, env, st, wd, p.first.mono fun q r1 st1 H1 _ F1 S1 p1 J y Dd hD => ?_⟩
  have w1 := wd.fw F1 S1
  obtain ⟨items, gd⟩ := q
  refine ⟨fun i m H' => m + i = items.length ∧ ∃ (r' : Rm) (st' : Store) (acc : List D) (av : List V), Fp r1 r' st1.length st'.length H1 H' ∧ r'.pv = (r1.add Dd).pv ∧ Sr K r' st' H' ∧ H' Dd = some (.lst av) ∧ DVs K H' r' st'.length acc av ∧ acc.length ≤ sizeLine ∧
      Po K mg W r1 st1 H1 σ (Pv K Q) ((lc2Go t gd c src1 t1 c1 el vs1 (wipeE env vs) (items.drop i) acc st').bind (lcEnd kn)), ⟨items.length, rfl, r1.add Dd, st1, [], [], ⟨fw_new hD, fun a h => h.elim .inl fun e => .inr (by rw [e]; exact hD)⟩, rfl, S1.add hD, upd_same, .nil, Nat.zero_le _, p1⟩, ?_⟩
  rintro i m H' ⟨hm, r', st', acc, av, F, hpv, S', hDd, hacc, hz, p'⟩
  have hsub : ∀ a, r1.pv a → r'.pv a := fun a h => by rw [hpv]; exact .inl h
  have hpd : r'.pv Dd := by rw [hpv]; exact .inr rfl
  by_cases hi : i < items.length
  · refine .inr ?_
    have ed : items.drop i = items[i] :: items.drop (i + 1) := List.drop_eq_getElem_cons hi
    rw [ed] at p'
    unfold lc2Go at p'
    split at p'
    · rename_i ok
      obtain ⟨hgo, hy⟩ := y.go i items[i] r' st' H' (List.getElem?_eq_getElem hi) F.q S' ok
      refine ⟨hgo, fun H2 => ∃ (r2 : Rm) (st2 : Store) (acc : List D) (av : List V), Fp r1 r2 st1.length st2.length H1 H2 ∧ r2.pv = (r1.add Dd).pv ∧ Sr K r2 st2 H2 ∧ H2 Dd = some (.lst av) ∧ DVs K H2 r2 st2.length acc av ∧ acc.length ≤ sizeLine ∧
        Po K mg W r1 st1 H1 σ (Pv K Q) ((lc2Go t gd c src1 t1 c1 el vs1 (wipeE env vs) (items.drop (i + 1)) acc st2).bind (lcEnd kn)), fun H2 ⟨r2, st2, acc2, av2, h⟩ => ⟨m - 1, by omega, by omega, r2, st2, acc2, av2, h⟩, fun x H3 hyl => ?_⟩
      obtain ⟨F3, S3, dx⟩ := hy x H3 hyl
      have P3 : Fp r1 r' st1.length st'.length H1 H3 := F.trans (S'.wp hsub) F3
      cases et : t items[i] (wipeE env vs) with
      | none => rw [et] at p'; exact p'.elim
      | some env1 =>
        rw [et] at p'
        refine ⟨r', wipeE env vs, st', items[i], env1, ⟨S3, (w1.ev.fp S1 P3).wipe vs⟩, dx, et, fun σ4 w4 sm => ⟨?_, ?_⟩⟩
        · have l4 : σ4.length = σ.length := by rw [sm.1, wipe_length]
          exact wipe_same l4 fun j hj => sm.2 j fun z => hj (hsl j z)
        · have p4 : Po K mg W r1 st1 H1 σ (Pv K Q) ((c env1 st').noexc.bind fun k st1 => (if k = true then (src1 env1 st1).noexc.bind fun q st2 => (lcGo t1 q.2 c1 el (wipeE env1 vs1) q.1 acc st2).bind fun acc2 st3 => lc2Go t gd c src1 t1 c1 el vs1 (wipeE env vs) (items.drop (i + 1)) acc2 st3
              else lc2Go t gd c src1 t1 c1 el vs1 (wipeE env vs) (items.drop (i + 1)) acc st1).bind (lcEnd kn)) := by
            rw [← Rz.bind_bind]; exact p'
          refine ⟨r', env1, st', w4, inner p4 fun k st5 r5 H5 F5 S5 p5 => ?_⟩
          have h5 : H5 Dd = some (.lst av) := keepD S3 hpd F5 (keepD S' hpd F3 hDd)
          have e5 : r5.pv = (r1.add Dd).pv := F5.pv.trans hpv
          have P5 : Fp r1 r5 st1.length st5.length H1 H5 := P3.trans (S3.wp hsub) F5
          have a5 := (hacc.fw S' F3).fw S3 F5
          have w5 := w4.fw F5 S5
          cases k with
          | false =>
            rw [if_neg Bool.false_ne_true] at p5
            simp only [Bool.false_eq_true, if_false]
            exact ⟨r5, st5, acc, av, P5, e5, S5, h5, a5, hz, p5⟩
          | true =>
            simp only [if_true] at p5 ⊢
            have p6 : Po K mg W r1 st1 H1 σ (Pv K Q) ((src1 env1 st5).noexc.bind fun q st2 => ((lcGo t1 q.2 c1 el (wipeE env1 vs1) q.1 acc st2).bind fun acc2 st3 => lc2Go t gd c src1 t1 c1 el vs1 (wipeE env vs) (items.drop (i + 1)) acc2 st3).bind (lcEnd kn)) := by
              rw [← Rz.bind_bind]; exact p5
            refine ⟨r5, env1, st5, w5, inner p6 fun q1 st6 r6 H6 F6 S6 p7 J1 y1 => ?_⟩
            obtain ⟨items1, gd1⟩ := q1
            have hp5 : r5.pv Dd := by rw [e5]; exact .inr rfl
            have e6 : r6.pv = (r1.add Dd).pv := F6.pv.trans e5
            have hp6 : r6.pv Dd := by rw [e6]; exact .inr rfl
            have h6 : H6 Dd = some (.lst av) := keepD S5 hp5 F6 h5
            have P6 : Fp r1 r6 st1.length st6.length H1 H6 := P5.trans (S5.wp fun a h => by rw [e5]; exact .inl h) F6
            have a6 := a5.fw S5 F6
            have w6 := w5.fw F6 S6
            refine ⟨fun j k H' => k + j = items1.length ∧ ∃ (r' : Rm) (st' : Store) (acc : List D) (av : List V), Fp r1 r' st1.length st'.length H1 H' ∧ r'.pv = (r1.add Dd).pv ∧ Sr K r' st' H' ∧ H' Dd = some (.lst av) ∧ DVs K H' r' st'.length acc av ∧ acc.length ≤ sizeLine ∧ Fq K r6 r' st6.length st'.length H6 H' ∧
              Po K mg W r1 st1 H1 σ (Pv K Q) (((lcGo t1 gd1 c1 el (wipeE env1 vs1) (items1.drop j) acc st').bind fun acc2 st3 => lc2Go t gd c src1 t1 c1 el vs1 (wipeE env vs) (items.drop (i + 1)) acc2 st3).bind (lcEnd kn)),
              ⟨items1.length, rfl, r6, st6, acc, av, P6, e6, S6, h6, a6, hz, Fq.refl _ _ _, p7⟩, ?_⟩
            rintro j k H8 ⟨hk, r8, st8, acc8, av8, P8, e8, S8, h8, a8, z8, Q8, p8⟩
            have sub8 : ∀ a, r1.pv a → r8.pv a := fun a h => by rw [e8]; exact .inl h
            have hp8 : r8.pv Dd := by rw [e8]; exact .inr rfl
            have sb8 : ∀ a, r6.pv a → r8.pv a := fun a h => by rw [e8, ← e6]; exact h
            by_cases hj : j < items1.length
            · refine .inr ?_
              have ed1 : items1.drop j = items1[j] :: items1.drop (j + 1) := List.drop_eq_getElem_cons hj
              rw [ed1] at p8
              unfold lcGo at p8
              split at p8
              · rename_i ok1
                obtain ⟨hgo1, hy1⟩ := y1.go j items1[j] r8 st8 H8 (List.getElem?_eq_getElem hj) Q8 S8 ok1
                refine ⟨hgo1, fun H2 => ∃ (r2 : Rm) (st2 : Store) (acc : List D) (av : List V), Fp r1 r2 st1.length st2.length H1 H2 ∧ r2.pv = (r1.add Dd).pv ∧ Sr K r2 st2 H2 ∧ H2 Dd = some (.lst av) ∧ DVs K H2 r2 st2.length acc av ∧ acc.length ≤ sizeLine ∧ Fq K r6 r2 st6.length st2.length H6 H2 ∧
                  Po K mg W r1 st1 H1 σ (Pv K Q) (((lcGo t1 gd1 c1 el (wipeE env1 vs1) (items1.drop (j + 1)) acc st2).bind fun acc2 st3 => lc2Go t gd c src1 t1 c1 el vs1 (wipeE env vs) (items.drop (i + 1)) acc2 st3).bind (lcEnd kn)),
                  fun H2 ⟨r2, st2, acc2, av2, h⟩ => ⟨k - 1, by omega, by omega, r2, st2, acc2, av2, h⟩, fun x1 H9 hyl1 => ?_⟩
                obtain ⟨F9, S9, dx1⟩ := hy1 x1 H9 hyl1
                have P9 : Fp r1 r8 st1.length st8.length H1 H9 := P8.trans (S8.wp sub8) F9
                have Q9 : Fq K r6 r8 st6.length st8.length H6 H9 := Q8.trans S8 F9 sb8
                have h9 : H9 Dd = some (.lst av8) := keepD S8 hp8 F9 h8
                have a9 := a8.fw S8 F9
                cases et1 : t1 items1[j] (wipeE env1 vs1) with
                | none => rw [et1] at p8; exact p8.elim
                | some env2 =>
                  rw [et1] at p8
                  refine ⟨r8, wipeE env1 vs1, st8, items1[j], env2, ⟨S9, (w6.ev.fq S6 Q9).wipe vs1⟩, dx1, et1, fun σ7 w7 sm1 => ⟨?_, ?_⟩⟩
                  · have l7 : σ7.length = σ4.length := by rw [sm1.1, wipe_length]
                    exact wipe_same l7 fun j hj => sm1.2 j fun z => hj (hsl1 j z)
                  · have p9 : Po K mg W r1 st1 H1 σ (Pv K Q) ((c1 env2 st8).noexc.bind fun k st1 => ((if k = true then (el env2 st1).noexc.bind fun y st2 => if acc8.length < sizeLine then lcGo t1 gd1 c1 el (wipeE env1 vs1) (items1.drop (j + 1)) (acc8 ++ [y]) st2 else .bad else lcGo t1 gd1 c1 el (wipeE env1 vs1) (items1.drop (j + 1)) acc8 st1).bind fun acc2 st3 => lc2Go t gd c src1 t1 c1 el vs1 (wipeE env vs) (items.drop (i + 1)) acc2 st3).bind (lcEnd kn)) := by
                      rw [← Rz.bind_bind, ← Rz.bind_bind]; exact p8
                    refine ⟨r8, env2, st8, w7, inner p9 fun k1 sa ra Ha Fa Sa pa => ?_⟩
                    have ha : Ha Dd = some (.lst av8) := keepD S9 hp8 Fa h9
                    have ea : ra.pv = (r1.add Dd).pv := Fa.pv.trans e8
                    have Pa : Fp r1 ra st1.length sa.length H1 Ha := P9.trans (S9.wp sub8) Fa
                    have Qa : Fq K r6 ra st6.length sa.length H6 Ha := Q9.trans S9 Fa sb8
                    have aa := a9.fw S9 Fa
                    cases k1 with
                    | false =>
                      rw [if_neg Bool.false_ne_true] at pa
                      simp only [Bool.false_eq_true, if_false]
                      exact ⟨ra, sa, acc8, av8, Pa, ea, Sa, ha, aa, z8, Qa, pa⟩
                    | true =>
                      simp only [if_true] at pa ⊢
                      have pb : Po K mg W r1 st1 H1 σ (Pv K Q) ((el env2 sa).noexc.bind fun y st2 => ((if acc8.length < sizeLine then lcGo t1 gd1 c1 el (wipeE env1 vs1) (items1.drop (j + 1)) (acc8 ++ [y]) st2 else .bad).bind fun acc2 st3 => lc2Go t gd c src1 t1 c1 el vs1 (wipeE env vs) (items.drop (i + 1)) acc2 st3).bind (lcEnd kn)) := by
                        rw [← Rz.bind_bind, ← Rz.bind_bind]; exact pa
                      have w9 := w7.fw Fa Sa
                      refine ⟨ra, env2, sa, w9, inner pb fun yv sb rb Hb Fb Sb pc v dv => ?_⟩
                      have hpa : ra.pv Dd := by rw [ea]; exact .inr rfl
                      have hpb : rb.pv Dd := by rw [Fb.pv]; exact hpa
                      have hb : Hb Dd = some (.lst av8) := keepD Sa hpa Fb ha
                      have Pb : Fp r1 rb st1.length sb.length H1 Hb := Pa.trans (Sa.wp fun a h => by rw [ea]; exact .inl h) Fb
                      have Qb : Fq K r6 rb st6.length sb.length H6 Hb := Qa.trans Sa Fb fun a h => by rw [ea, ← e6]; exact h
                      have ab := aa.fw Sa Fb
                      split at pc
                      · rename_i hlt
                        refine ⟨av8, hb, by rw [← a8.length]; exact hlt, rb, sb, acc8 ++ [yv], av8 ++ [v], ⟨Pb.fw.updN hD, Pb.nw⟩, Fb.pv.trans ea, Sb.upv hpb hb, upd_same, ?_, by rw [List.length_append, List.length_singleton]; exact hlt, Qb.updP hp6, pc⟩
                        exact (ab.append (.cons dv .nil)).upv hpb hb
                      · exact pc.elim
              · exact p8.elim
            · refine .inl ?_
              have ej : j = items1.length := by omega
              subst ej
              rw [List.drop_length] at p8
              unfold lcGo at p8
              split at p8
              · rename_i ok1
                exact ⟨y1.stop r8 st8 H8 Q8 S8 ok1, r8, st8, acc8, av8, P8, e8, S8, h8, a8, z8, p8⟩
              · exact p8.elim
    · exact p'.elim
  · refine .inl ?_
    have ei : i = items.length := by omega
    subst ei
    rw [List.drop_length] at p'
    unfold lc2Go at p'
    split at p'
    · rename_i ok
      refine ⟨y.stop r' st' H' F.q S' ok, ?_⟩
      have p' : Po K mg W r1 st1 H1 σ (Pv K Q) (lcEnd kn acc st') := p'
      exact lc_end (kn := kn) hD S1 F hpv S' hDd hacc hz p'
    · exact p'.elim
end
section
variable {X : Cx} {W : Wx} {elt tg iter tg1 iter1 : Expr} {ifs ifs1 : List Expr} {scope : Scope} {own : List (Str × Nat)} {pos : Pos} {src src1 : Fe Src} {t t1 : Tg} {sl sl1 vs1 : List Nat} {c c1 : Fe Bool} {el : Fe D}
theorem se_lc2 (kn : Bool) (hc : X.calm = true) (hN : X.N.Nodup) (hi : SI X W tg iter src) (ok : BlkOk X.N X.env.scope scope own) (hsl : ∀ i ∈ sl, i ∈ own.map (·.2)) (hsl1 : ∀ i ∈ sl1, i ∈ vs1) (hv : ∀ i ∈ vs1, i ∈ own.map (·.2))
    (hg : ∀ (s : Shared) (H : Hp) (C : Addr) (cl : List (Str × Addr)) (fp : List Addr), SG (X.blk s H scope (compEnvC scope cl C X.env) fp) tg t sl)
    (ht : ∀ (s : Shared) (H : Hp) (C : Addr) (cl : List (Str × Addr)) (fp : List Addr), STs (X.blk s H scope (compEnvC scope cl C X.env) fp) W0 ifs c)
    (he : ∀ (s : Shared) (H : Hp) (C : Addr) (cl : List (Str × Addr)) (fp : List Addr), SE (X.blk s H scope (compEnvC scope cl C X.env) fp) W0 elt el) (hs : ∀ x, foldedSetIterable iter X.env x = pure x)
    (hi1 : ∀ (s : Shared) (H : Hp) (C : Addr) (cl : List (Str × Addr)) (fp : List Addr), SI (X.blk s H scope (compEnvC scope cl C X.env) fp) W0 tg1 iter1 src1)
    (hg1 : ∀ (s : Shared) (H : Hp) (C : Addr) (cl : List (Str × Addr)) (fp : List Addr), SG (X.blk s H scope (compEnvC scope cl C X.env) fp) tg1 t1 sl1)
    (ht1 : ∀ (s : Shared) (H : Hp) (C : Addr) (cl : List (Str × Addr)) (fp : List Addr), STs (X.blk s H scope (compEnvC scope cl C X.env) fp) W0 ifs1 c1) (hs1 : ∀ env x, foldedSetIterable iter1 env x = pure x) :
    SE X W (.ListComp elt [⟨tg, iter, ifs, 0⟩, ⟨tg1, iter1, ifs1, 0⟩] scope pos) (fLc2 kn src t c src1 t1 c1 el (own.map (·.2)) vs1) :=
  PE.imp (pe_lc2 hc hN hi ok hv hg ht hi1 hg1 ht1 he hs hs1) fun σ H Q ⟨r, env, st, wd, p⟩ => lc2_read hsl hsl1 wd p
end
end L2.G4

set_option maxHeartbeats 4000000
/-! GS: sources: range, enumerate, zip. -/
namespace L2.G4
open PySem PySem.Spec PyProof.Rows

/-! ### enumerate over a tuple -/
theorem meets_enum_any {v : Value} {o : Obj} {H : Heap → Prop} (B : Begins v o H) (hv : ∃ a, v = .ref a) :
    Meets (Builtin.«enumerate.__new__» ⟨[.type "enumerate", v], []⟩) (fun _ R s => H s.heap ∧
      R (.ok (.ret (.ref (s.heap.push o).objs.size))) { s with heap := (s.heap.push o).push { cls := .type "enumerate", data := .fields #[.none, .bool false, .ref s.heap.objs.size, rawInt 0, .none, .none] } }) :=
  .of_wp fun prog w A R s h => by
    obtain ⟨a, rfl⟩ := hv
    obtain ⟨hp, g, d, tk, os⟩ := s
    obtain ⟨h1, h⟩ := h
    have hsub := sub_enumerate
    have step : ∀ {A' : Around} {E : Value → Shared → Prop} {Q : Value → Shared → Prop}, Q (.ref hp.objs.size) ⟨hp.push o, g, d, tk, os⟩ → wpAny (model prog w) A' (pyIter (.ref a)) Q E ⟨hp, g, d, tk, os⟩ :=
      fun q => B.iter prog w _ _ ⟨hp, g, d, tk, os⟩ _ h1 q
    wp_walk using step
    refine wpAny_stack_any fun st => wpAny_pure ?_
    split
    · rename_i c _ _ _ _ _
      cases (c == Value.type "enumerate") <;> (wp_walk using step; exact ⟨_, rfl, h⟩)
    · wp_walk using step
      exact ⟨_, rfl, h⟩
section
variable {prog : Program} {w : World} {A : Around} {E : Value → Shared → Prop} {s : Shared}
theorem call_enum_tup {l : Addr} {items : Array Value} {Q : Value → Shared → Prop} (hL : s.heap.IsTuple l items)
    (h : ∀ h', IsEnum h' (s.heap.objs.size + 1) s.heap.objs.size 0 .none → h'.IsTupleIter s.heap.objs.size l 0 → h'.objs.size = s.heap.objs.size + 2 →
      (∀ b o, s.heap.get? b = some o → h'.get? b = some o) → Q (.ref (s.heap.objs.size + 1)) { s with heap := h' }) :
    wpAny (model prog w) A (call (.type "enumerate") [.ref l]) Q E s := by
  refine callType_new F.called_enumerate (by decide) (F.typeCall_enumerate_1 _) (F.newCall_enumerate_1 _) (fun obj => F.args_object_init_2 obj _) F.entry_enumerate_new
    (meets_enum_any (begins_tuple l items) ⟨l, rfl⟩) ⟨hL, ?_⟩
  have sz : (s.heap.push { cls := .type "tuple_iterator", data := .fields #[.ref l, .int 0 0] }).objs.size = s.heap.objs.size + 1 := Heap.size_push ..
  show _ ∧ _
  rw [sz]
  have en : IsEnum ((s.heap.push { cls := .type "tuple_iterator", data := .fields #[.ref l, .int 0 0] }).push
      { cls := .type "enumerate", data := .fields #[.none, .bool false, .ref s.heap.objs.size, rawInt 0, .none, .none] }) (s.heap.objs.size + 1) s.heap.objs.size 0 .none := by
    have q := Heap.get?_push_size (s.heap.push { cls := .type "tuple_iterator", data := .fields #[.ref l, .int 0 0] })
      (o := { cls := .type "enumerate", data := .fields #[.none, .bool false, .ref s.heap.objs.size, rawInt 0, .none, .none] }) rfl
    rw [sz] at q; exact q
  exact ⟨⟨_, en, rfl⟩, h _ en ⟨_, Heap.get?_push_of_some _ (Heap.get?_push_size _ rfl), rfl, rfl⟩ (by rw [Heap.size_push, sz]) fun b o x => Heap.get?_push_of_some _ (Heap.get?_push_of_some _ x)⟩
end
/-- the tuple at a, each item in a new pair -/
def Itnt (K : PySem.W.Frag) (a : Addr) : It :=
  ⟨fun i H => ∃ (xs : List V) (x : V), SqT K H a xs ∧ xs[i]? = some x, fun i H v H' => ∃ T x, v = .ref T ∧ H T = none ∧ H' = upd H T (.tup [.int (i : Nat), x]) ∧ ∀ xs, SqT K H a xs → xs[i]? = some x, fun i H => ∃ xs : List V, SqT K H a xs ∧ xs.length ≤ i⟩
theorem turn_enT {P : Program} {w : World} {K : PySem.W.Frag} {elts : List Expr} {kk : Nat} {tpos : Pos} (a e it : Addr) :
    Turn P w K (.Tuple elts kk tpos) (Itnt K a) [e, it] e (fun i h => (∃ old, IsEnum h e it ((i : Nat) : Int) old) ∧ h.IsTupleIter it a i ∧ e ≠ it ∧ e ≠ a ∧ a ≠ it) where
  mem := by simp
  obj := fun i h st b hb => by
    obtain ⟨⟨old, he⟩, ⟨o, ho, hc, hd⟩, _⟩ := st
    rcases (show b = e ∨ b = it by simpa using hb) with z | z
    · subst z
      exact ⟨_, he, fun v q => nomatch q⟩
    · subst z
      exact ⟨o, ho, fun v q => by rw [hd] at q; cases q⟩
  keep := fun i h h' st k => let ⟨⟨old, he⟩, hi, hne⟩ := st; ⟨⟨old, k e (by simp) _ he⟩, hi.at fun o q => k it (by simp) o q, hne⟩
  item := by
    intro X hP hw hK hc i pins s σ H E I hf st hg
    subst hP hw hK
    obtain ⟨⟨old, he⟩, hit, hne, hea, hai⟩ := st
    obtain ⟨xs, x, hq, hx⟩ := hg
    obtain ⟨its, rv, p, hz⟩ := I.tuple hq
    obtain ⟨u, hu, ru⟩ := rv.get hx
    have hel : e < s.heap.objs.size := Heap.lt_size he
    have hil : it < s.heap.objs.size := by
      obtain ⟨_, q, _⟩ := hit
      exact Heap.lt_size q
    have hlt : i < its.toArray.size := by
      have := (List.getElem?_eq_some_iff.mp hu).1
      simpa using this
    refine wpAny_pyNext_enum_itemD (Draws.tuple (by exact I.ok.hd hc) it a hai its.toArray) he ⟨hit, show s.heap.IsTuple a its.toArray from p⟩ hlt hne (by simp; exact ⟨hne, hea⟩) fun u' h' tk hu' ho st' hT hsz hk => ?_
    have eu : u' = u := by
      have e1 : its.toArray[i]? = some u := by simpa using hu
      rw [e1] at hu'
      exact (Option.some.inj hu').symm
    subst eu
    refine ⟨_, rfl, wpAny_letOwnedTupleGo_enum (s := { s with heap := h', toks := tk + 1 }) ho fun h'' he' sb => ?_⟩
    have hT2 : h''.get? s.heap.objs.size = some { cls := .type "tuple", data := .seq #[.int i tk, u'] } := (sb.2 _ (Nat.ne_of_gt hel)).trans hT
    have new : ObjOk X.prog X.w (upd H s.heap.objs.size (.tup [.int (i : Nat), x])) h'' s.heap.objs.size (.tup [.int (i : Nat), x]) :=
      ⟨by show 2 ≤ sizeLine; decide, [.int i tk, u'], .cons ⟨_, rfl⟩ (.cons ru .nil), ⟨_, hT2, rfl, _, rfl⟩⟩
    have I1 : Inv X pins σ (upd H s.heap.objs.size (.tup [.int (i : Nat), x])) { s with heap := h'', toks := tk + 1 } :=
      I.turnedNew (ch := [e, it]) (fun b ob hb q => (sb.2 b (fun z => hb (by simp [z]))).trans (hk b ob (fun z => hb (by simp [z])) (fun z => hb (by simp [z])) q)) hf (Nat.le_refl _) new
    refine ⟨.ref s.heap.objs.size, _, I1, rfl, ⟨_, x, rfl, I.hok.fresh (Nat.le_refl _), rfl, fun ys hy => by rw [I.tuple_inj hy hq]; exact hx⟩, ⟨⟨u', ?_⟩, st'.1.at fun o q => (sb.2 it (Ne.symm hne)).trans q, hne, hea, hai⟩, fun b hb => ?_⟩
    · have e1 : ((i + 1 : Nat) : Int) = (i : Int) + 1 := by omega
      rw [e1]; exact he'
    · have hb' : b < s.heap.objs.size := by
        rcases (show b = e ∨ b = it by simpa using hb) with z | z
        · rw [z]; exact hel
        · rw [z]; exact hil
      rw [upd_ne (Nat.ne_of_lt hb')]
      exact (hf b hb).1
  done := by
    intro X hP hw hK hc i pins s σ H E I hf st hg
    subst hP hw hK
    obtain ⟨⟨old, he⟩, hit, hne, hea, hai⟩ := st
    obtain ⟨xs, hq, hx⟩ := hg
    obtain ⟨its, rv, p, hz⟩ := I.tuple hq
    obtain ⟨f0, f1, f2, f3, f4, f5⟩ := hf it (by simp)
    have hl := rv.length
    show wpAny _ _ (pyNext (.ref e)) _ _ s
    have fin : ∀ h', Heap.ExtBut it s.heap h' → (none : Option Value) = none ∧ Inv X pins σ H { s with heap := h' } := fun h' eb => ⟨rfl, I.turned (t' := s.toks) (fun b o hb q => eb b o hb q) f0 f1 f3 f4 f5⟩
    have hT : s.TypeIs (.ref e) "enumerate" := ⟨_, he, rfl⟩
    unfold pyNext
    refine wpAny_bind (wpAny_attempt (wpAny_callSpecial?_slot (name := Str.ofString "__next__") hT F.slot_enumerate_next
      (wpAny_call_entry F.slot_enumerate_next hT F.entry_enumerate_next ?_ (F.args_enumerate_next_1 _))))
    show wpAny _ _ (field (.ref e) 2 >>= _) _ _ _
    refine wpAny_bind (wpAny_field he rfl (x := .ref it) rfl ?_)
    refine wpAny_bind (wpAny_nextOf_tuple_end (by exact I.ok.hd hc) hit (show s.heap.IsTuple a its.toArray from p) (by simp; omega) fun h' x he' hx' => ?_)
    obtain ⟨o, ho, hc'⟩ := hx'
    refine wpAny_bind (wpAny_isInstance (T := "StopIteration") (b := true) ⟨o, ho, hc'⟩ isSubtype_stop ?_)
    exact wpAny_pure (fin _ he')
  self := fun A i s Q E st h => let ⟨⟨_, he⟩, _⟩ := st; wpAny_pyIter_enum he h
def iEn (K : PySem.W.Frag) (ta : TA) : TI := fun σ H R => ta σ H fun vs H1 => ∃ a xs, vs = [.ref a] ∧ ((SqL K H1 a xs ∧ R (Ite K a) H1) ∨ (SqT K H1 a xs ∧ R (Itnt K a) H1))
section
variable {X : Cx} {W : Wx} {e e2 : Expr} {p pos tpos : Pos} {elts : List Expr} {kk : Nat} {tg : Expr}
theorem pi_en {ta : TA} (hg : Gl X "enumerate") (hm : X.mg "enumerate" = none) (ha : PA X [e] ta) (hs : starEach [e] X.env = [(false, eval e X.env)]) :
    PI X (.Tuple elts kk tpos) (.Call (.Name "enumerate" p) [e] [] pos) (iEn X.K ta) := by
  refine ⟨fun pins s σ H R I h => ?_⟩
  refine Call_ (ld_blt I hg hm boot_enumerate (PyProof.Rows.callWith_type1 (thn (ha.run pos pins s σ H _ I h) fun us s1 ⟨vs, H1, I1, r1, q1⟩ => ?_) hs rfl))
  obtain ⟨a, xs, ex, q⟩ := q1
  subst ex
  cases r1 with
  | cons r rr =>
    cases rr
    cases r
    have fp : ∀ b ∈ [s1.heap.objs.size + 1, s1.heap.objs.size], FpOk X pins H1 b := fun b hb => by
      have hle : s1.heap.objs.size ≤ b := by
        rcases (show b = s1.heap.objs.size + 1 ∨ b = s1.heap.objs.size by simpa using hb) with z | z
        · rw [z]; exact Nat.le_add_right _ _
        · rw [z]; exact Nat.le_refl _
      exact I1.fpOk hle (I1.hok.fresh hle)
    rcases q with ⟨hq, q⟩ | ⟨hq, q⟩
    · obtain ⟨its, rv, p', hz⟩ := I1.list hq
      refine call_enumerate_list p'.isList fun h' he hit hsz hk => wpAny_pyIter_enum he ?_
      exact ⟨s1.heap.objs.size + 1, [s1.heap.objs.size + 1, s1.heap.objs.size], _, _, H1, rfl, I1.kept (t' := s1.toks) hk, turn_enum a (s1.heap.objs.size + 1) s1.heap.objs.size, ⟨⟨.none, he⟩, hit, Nat.succ_ne_self _⟩, fp, q⟩
    · obtain ⟨its, rv, p', hz⟩ := I1.tuple hq
      have p2 : s1.heap.IsTuple a its.toArray := p'
      obtain ⟨oa, hoa, _⟩ := id p2
      have hal := Heap.lt_size hoa
      refine call_enum_tup p2 fun h' he hit hsz hk => wpAny_pyIter_enum he ?_
      exact ⟨s1.heap.objs.size + 1, [s1.heap.objs.size + 1, s1.heap.objs.size], _, _, H1, rfl, I1.kept (t' := s1.toks) hk, turn_enT a (s1.heap.objs.size + 1) s1.heap.objs.size, ⟨⟨.none, he⟩, hit, Nat.succ_ne_self _, Nat.ne_of_gt (Nat.lt_succ_of_lt hal), Nat.ne_of_lt hal⟩, fp, q⟩
def enumL : Nat → List D → List D
  | _, [] => []
  | k, d :: ds => .tup [.int (k : Nat), d] :: enumL (k + 1) ds
theorem enumL_get : ∀ (k : Nat) (ds : List D) (i : Nat), (enumL k ds)[i]? = (ds[i]?).map fun d => D.tup [.int ((k + i : Nat) : Int), d]
  | _, [], _ => rfl
  | k, d :: ds, 0 => rfl
  | k, d :: ds, i + 1 => by
    have := enumL_get (k + 1) ds i
    simp only [enumL, List.getElem?_cons_succ]
    rw [this]
    have e : k + 1 + i = k + (i + 1) := by omega
    rw [e]
theorem enumL_len : ∀ (k : Nat) (ds : List D), (enumL k ds).length = ds.length
  | _, [] => rfl
  | k, d :: ds => by simp only [enumL, List.length_cons]; rw [enumL_len]
theorem two_le : 2 ≤ sizeLine := by decide
theorem ylds_pair {K : PySem.W.Frag} {r' : Rm} {st' : Store} {H' H3 : Hp} {T : Addr} {x y : V} {d e : D} (S : Sr K r' st' H') (hT : H' T = none) (e3 : H3 = upd H' T (.tup [x, y])) (dx : DV K H' r' st'.length d x) (dy : DV K H' r' st'.length e y) :
    Fw r' r' st'.length st'.length H' H3 ∧ Sr K r' st' H3 ∧ DV K H3 r' st'.length (.tup [d, e]) (.ref T) := by
  subst e3
  have F : Fw r' r' st'.length st'.length H' (upd H' T (.tup [x, y])) := fw_new hT
  exact ⟨F, S.new hT, .tup (.of upd_same) two_le (.cons (dx.fw S F) (.cons (dy.fw S F) .nil))⟩
theorem ylds_el {K : PySem.W.Frag} {r : Rm} {st : Store} {H : Hp} {a : Addr} {ds : List D} {g : Gd}
    (h : ∀ r' st' H', Fq K r r' st.length st'.length H H' → Sr K r' st' H' → gdOk g st' → ∃ ys, SqL K H' a ys ∧ DVs K H' r' st'.length ds ys) : Ylds K (Ite K a) (enumL 0 ds) g r st H where
  go := fun i d r' st' H' e F S q => by
    obtain ⟨ys, h1, h2⟩ := h r' st' H' F S q
    rw [enumL_get] at e
    obtain ⟨d', e1, rfl⟩ := Option.map_eq_some_iff.mp e
    obtain ⟨v, h3, h4⟩ := h2.get e1
    refine ⟨⟨ys, v, h1, h3⟩, fun x H3 ⟨T, y, ex, hT, e3, h5⟩ => ?_⟩
    have e5 := h5 ys h1
    rw [h3] at e5
    cases e5
    subst ex
    rw [Nat.zero_add]
    exact ylds_pair S hT e3 (.int _) h4
  stop := fun r' st' H' F S q => by
    obtain ⟨ys, h1, h2⟩ := h r' st' H' F S q
    exact ⟨ys, h1, by rw [enumL_len, h2.length]; exact Nat.le_refl _⟩
theorem ylds_et {K : PySem.W.Frag} {r : Rm} {st : Store} {H : Hp} {a : Addr} {ds : List D} {g : Gd}
    (h : ∀ r' st' H', Fq K r r' st.length st'.length H H' → Sr K r' st' H' → gdOk g st' → ∃ ys, SqT K H' a ys ∧ DVs K H' r' st'.length ds ys) : Ylds K (Itnt K a) (enumL 0 ds) g r st H where
  go := fun i d r' st' H' e F S q => by
    obtain ⟨ys, h1, h2⟩ := h r' st' H' F S q
    rw [enumL_get] at e
    obtain ⟨d', e1, rfl⟩ := Option.map_eq_some_iff.mp e
    obtain ⟨v, h3, h4⟩ := h2.get e1
    refine ⟨⟨ys, v, h1, h3⟩, fun x H3 ⟨T, y, ex, hT, e3, h5⟩ => ?_⟩
    have e5 := h5 ys h1
    rw [h3] at e5
    cases e5
    subst ex
    rw [Nat.zero_add]
    exact ylds_pair S hT e3 (.int _) h4
  stop := fun r' st' H' F S q => by
    obtain ⟨ys, h1, h2⟩ := h r' st' H' F S q
    exact ⟨ys, h1, by rw [enumL_len, h2.length]; exact Nat.le_refl _⟩
def fEnum (a : Fe D) : Fe Src := fun env st => (a env st).bind fun x st1 => match srcOf st1 x with
  | some (ds, g) => .ok (enumL 0 ds, g) st1
  | none => .bad
theorem si_enum {fa : Fe D} (hg : Gl X "enumerate") (hm : X.mg "enumerate" = none) (ha : SE X W e fa) (hs : starEach [e] X.env = [(false, eval e X.env)]) :
    SI X W (.Tuple elts kk tpos) (.Call (.Name "enumerate" p) [e] [] pos) (fEnum fa) := by
  refine PI.imp (pi_en hg hm (pa_cons ha pa_nil hs) hs) fun σ H R ⟨r, env, st, wd, p⟩ => ?_
  refine tE_then wd p fun d r1 st1 H1 v w1 dv F1 p1 => ?_
  split at p1
  · rename_i ds g e
    obtain ⟨a, xs, rfl, hd, hh⟩ := dv.src w1.sr e
    have p2 := p1.here w1.sr
    rcases hh with ⟨h1, h2⟩ | ⟨h1, h2⟩
    · exact ⟨a, xs, rfl, .inr ⟨h1, p2 _ (ylds_et h2)⟩⟩
    · exact ⟨a, xs, rfl, .inl ⟨h1, p2 _ (ylds_el h2)⟩⟩
  · exact p1.elim

/-! ### zip -/
def gdAnd (g g' : Gd) (st : Store) : Prop := gdOk g st ∧ gdOk g' st
def zipL (xs ys : List D) : List D := List.zipWith (fun a b => D.tup [a, b]) xs ys
/-- both sources the same kind; one of them may be an object -/
def gdTwo : Gd → Gd → Option Gd
  | none, g => some g
  | g, none => some g
  | some a, some b => none
def fZip (a b : Fe D) : Fe Src := fun env st => (a env st).bind fun x st1 => (b env st1).bind fun y st2 => match tupOf x, tupOf y with
  | some xs, some ys => .ok (zipL xs ys, none) st2
  | none, none => (match srcOf st2 x, srcOf st2 y with
    | some (xs, g), some (ys, g') => (match gdTwo g g' with
      | some gg => .ok (zipL xs ys, gg) st2
      | none => .bad)
    | _, _ => .bad)
  | _, _ => .bad
theorem zipL_get {xs ys : List D} {i : Nat} {d : D} (e : (zipL xs ys)[i]? = some d) : ∃ a b, xs[i]? = some a ∧ ys[i]? = some b ∧ d = .tup [a, b] := by
  unfold zipL at e
  rw [List.getElem?_zipWith] at e
  cases h1 : xs[i]? with
  | none => rw [h1] at e; cases e
  | some a =>
    cases h2 : ys[i]? with
    | none => rw [h1, h2] at e; cases e
    | some b => rw [h1, h2] at e; cases e; exact ⟨a, b, rfl, rfl, rfl⟩
theorem gdTwo_ok {g g' gg : Gd} {st : Store} (e : gdTwo g g' = some gg) (h : gdOk gg st) : gdOk g st ∧ gdOk g' st := by
  cases g with
  | none => cases e; exact ⟨trivial, h⟩
  | some a =>
    cases g' with
    | none => cases e; exact ⟨h, trivial⟩
    | some b => cases e
theorem ylds_zt {K : PySem.W.Frag} {r : Rm} {st : Store} {H : Hp} {a b : Addr} {xs ys : List D} {g g' : Gd} {gg : Gd} (eg : gdTwo g g' = some gg)
    (h : ∀ r' st' H', Fq K r r' st.length st'.length H H' → Sr K r' st' H' → gdOk g st' → ∃ us, SqT K H' a us ∧ DVs K H' r' st'.length xs us)
    (h' : ∀ r' st' H', Fq K r r' st.length st'.length H H' → Sr K r' st' H' → gdOk g' st' → ∃ us, SqT K H' b us ∧ DVs K H' r' st'.length ys us) : Ylds K (RZ.ItzT K a b) (zipL xs ys) gg r st H where
  go := fun i d r' st' H' e F S q => by
    obtain ⟨us, h1, h2⟩ := h r' st' H' F S (gdTwo_ok eg q).1
    obtain ⟨ws, k1, k2⟩ := h' r' st' H' F S (gdTwo_ok eg q).2
    obtain ⟨x, y, ex, ey, rfl⟩ := zipL_get e
    obtain ⟨u, h3, h4⟩ := h2.get ex
    obtain ⟨w, k3, k4⟩ := k2.get ey
    refine ⟨⟨us, ws, u, w, h1, k1, h3, k3⟩, fun v H3 ⟨T, u', w', ev, hT, e3, f1, f2⟩ => ?_⟩
    have e5 := f1 us h1
    have e6 := f2 ws k1
    rw [h3] at e5
    rw [k3] at e6
    cases e5
    cases e6
    subst ev
    exact ylds_pair S hT e3 h4 k4
  stop := fun r' st' H' F S q => by
    obtain ⟨us, h1, h2⟩ := h r' st' H' F S (gdTwo_ok eg q).1
    obtain ⟨ws, k1, k2⟩ := h' r' st' H' F S (gdTwo_ok eg q).2
    refine ⟨us, ws, h1, k1, ?_⟩
    have l1 := h2.length
    have l2 := k2.length
    unfold zipL
    rw [List.length_zipWith]
    omega
theorem ylds_zl {K : PySem.W.Frag} {r : Rm} {st : Store} {H : Hp} {a b : Addr} {xs ys : List D} {g g' : Gd} {gg : Gd} (eg : gdTwo g g' = some gg)
    (h : ∀ r' st' H', Fq K r r' st.length st'.length H H' → Sr K r' st' H' → gdOk g st' → ∃ us, SqL K H' a us ∧ DVs K H' r' st'.length xs us)
    (h' : ∀ r' st' H', Fq K r r' st.length st'.length H H' → Sr K r' st' H' → gdOk g' st' → ∃ us, SqL K H' b us ∧ DVs K H' r' st'.length ys us) : Ylds K (Itz K a b) (zipL xs ys) gg r st H where
  go := fun i d r' st' H' e F S q => by
    obtain ⟨us, h1, h2⟩ := h r' st' H' F S (gdTwo_ok eg q).1
    obtain ⟨ws, k1, k2⟩ := h' r' st' H' F S (gdTwo_ok eg q).2
    obtain ⟨x, y, ex, ey, rfl⟩ := zipL_get e
    obtain ⟨u, h3, h4⟩ := h2.get ex
    obtain ⟨w, k3, k4⟩ := k2.get ey
    refine ⟨⟨us, ws, u, w, h1, k1, h3, k3⟩, fun v H3 ⟨T, u', w', ev, hT, e3, f1, f2⟩ => ?_⟩
    have e5 := f1 us h1
    have e6 := f2 ws k1
    rw [h3] at e5
    rw [k3] at e6
    cases e5
    cases e6
    subst ev
    exact ylds_pair S hT e3 h4 k4
  stop := fun r' st' H' F S q => by
    obtain ⟨us, h1, h2⟩ := h r' st' H' F S (gdTwo_ok eg q).1
    obtain ⟨ws, k1, k2⟩ := h' r' st' H' F S (gdTwo_ok eg q).2
    refine ⟨us, ws, h1, k1, ?_⟩
    have l1 := h2.length
    have l2 := k2.length
    unfold zipL
    rw [List.length_zipWith]
    omega
theorem DV.srcL {K : PySem.W.Frag} {r : Rm} {st : Store} {H : Hp} {d : D} {v : V} {ds : List D} {g : Gd} (h : DV K H r st.length d v) (S : Sr K r st H) (e : srcOf st d = some (ds, g)) (nt : G4.tupOf d = none) :
    ∃ a xs, v = .ref a ∧ SqL K H a xs ∧ ∀ r' st' H', Fq K r r' st.length st'.length H H' → Sr K r' st' H' → gdOk g st' → ∃ ys, SqL K H' a ys ∧ DVs K H' r' st'.length ds ys := by
  cases h with
  | tup h1 z t => cases nt
  | lst h1 na z t =>
    cases e
    exact ⟨_, _, rfl, .of h1, fun r' st' H' F S' _ => ⟨_, .of (F.kp _ _ h1 na.1 na.2 ntL), t.fq S F⟩⟩
  | fls h1 z t =>
    cases e
    exact ⟨_, _, rfl, h1.sq, fun r' st' H' F S' _ => ⟨_, (F.fzL S h1).sq, t.fq S F⟩⟩
  | loc hi =>
    rename_i i
    obtain ⟨ho, h1, o, h2, h3⟩ := S.at_ hi
    cases h3 with
    | lst z t =>
      simp only [srcOf, h2, Option.some.injEq, Prod.mk.injEq] at e
      obtain ⟨rfl, rfl⟩ := e
      refine ⟨_, _, rfl, .of h1, fun r' st' H' F S' q => ?_⟩
      have q : st'[i]? = some (.lst _) := q
      obtain ⟨ho', h1', h2'⟩ := S'.obj i _ q
      cases h2' with
      | lst z' t' =>
        have e2 : r' i = r i := F.ag i hi
        exact ⟨_, .of (by rw [← e2]; exact h1'), t'⟩
    | dic => simp [srcOf, h2] at e
  | _ => cases e
theorem src_tup {st : Store} {d : D} {ds : List D} (h : tupOf d = some ds) : srcOf st d = some (ds, none) := by
  cases d <;> cases h
  rfl
theorem si_zip {fa fb : Fe D} (hg : Gl X "zip") (hm : X.mg "zip" = none) (ha : SE X W e fa) (hb : SE X W e2 fb)
    (hs : starEach [e, e2] X.env = (false, eval e X.env) :: starEach [e2] X.env) (hs2 : starEach [e2] X.env = (false, eval e2 X.env) :: starEach [] X.env) (hpl : (backTo pos (starEach [e2] X.env)).any (·.1) = false) :
    SI X W (.Tuple elts kk tpos) (.Call (.Name "zip" p) [e, e2] [] pos) (fZip fa fb) := by
  refine PI.imp (RZ.pi_zipA hg hm (pa_cons ha (pa_cons hb pa_nil hs2) hs) hs hpl) fun σ H R ⟨r, env, st, wd, p⟩ => ?_
  refine tE_then wd p fun x r1 st1 H1 v w1 dx F1 p1 => tE_then w1 p1 fun y r2 st2 H2 u w2 dy F2 p2 => ?_
  have dx2 := dx.fw w1.sr F2
  split at p2
  · rename_i xs ys ex ey
    have p3 := p2.here w2.sr
    cases x <;> cases ex
    cases y <;> cases ey
    cases dx2 with
    | tup h1 z1 t1 =>
      cases dy with
      | tup h2 z2 t2 =>
        exact ⟨_, _, _, _, rfl, .inr ⟨h1, h2, p3 _ (ylds_zt (g := none) (g' := none) rfl (fun r' st' H' F S' _ => ⟨_, F.sqT w2.sr h1, t1.fq w2.sr F⟩) fun r' st' H' F S' _ => ⟨_, F.sqT w2.sr h2, t2.fq w2.sr F⟩)⟩⟩
  · rename_i ex ey
    split at p2
    · rename_i xs g ys g' e1 e2
      split at p2
      · rename_i gg eg
        have p3 := p2.here w2.sr
        obtain ⟨a, us, rfl, h1, h2⟩ := dx2.srcL w2.sr e1 ex
        obtain ⟨b, ws, rfl, k1, k2⟩ := dy.srcL w2.sr e2 ey
        exact ⟨_, _, _, _, rfl, .inl ⟨h1, k1, p3 _ (ylds_zl eg h2 k2)⟩⟩
      · exact p2.elim
    · exact p2.elim
  · exact p2.elim
end
end L2.G4

set_option maxHeartbeats 4000000
/-! GT: range as a source, list(range(..)). -/
namespace L2.G4
open PySem PySem.Spec PyProof.Rows
section
variable {X : Cx} {W : Wx} {e e2 : Expr} {p pos p2 pos2 : Pos} {tg : Expr} {fa fb : Fe D}
def rngL (lo : Int) (n : Nat) : List D := (List.range n).map fun i : Nat => D.int (lo + i)
/-- what a range may begin and end with -/
def inR (i : Int) : Prop := -(2 ^ 62) ≤ i ∧ i < 2 ^ 62
instance (i : Int) : Decidable (inR i) := inferInstanceAs (Decidable (_ ∧ _))
def fRng1 (a : Fe D) : Fe Src := fun env st => (a env st).bind fun x st1 => match x with
  | .int j => if inR j then .ok (rngL 0 j.toNat, none) st1 else .bad
  | _ => .bad
def fRng2 (a b : Fe D) : Fe Src := fun env st => (a env st).bind fun x st1 => (b env st1).bind fun y st2 => match x, y with
  | .int i, .int j => if inR i ∧ inR j then .ok (rngL i (j - i).toNat, none) st2 else .bad
  | _, _ => .bad
theorem si_rng1 (hg : Gl X "range") (hm : X.mg "range" = none) (ha : SE X W e fa) (hs : starEach [e] X.env = [(false, eval e X.env)]) :
    SI X W tg (.Call (.Name "range" p) [e] [] pos) (fRng1 fa) := by
  refine PI.imp (pi_range1 hg hm (pa_cons ha pa_nil hs) hs) fun σ H R ⟨r, env, st, wd, q⟩ => ?_
  refine tE_then wd q fun d r1 st1 H1 v w1 dv F1 p1 => ?_
  split at p1
  · rename_i j
    split at p1
    · rename_i hj
      cases dv
      exact ⟨j, rfl, hj.1, hj.2, p1.here w1.sr _ ylds_r⟩
    · exact p1.elim
  · exact p1.elim
theorem si_rng2 (hg : Gl X "range") (hm : X.mg "range" = none) (ha : SE X W e fa) (hb : SE X W e2 fb) (hs : starEach [e, e2] X.env = [(false, eval e X.env), (false, eval e2 X.env)]) (hs2 : starEach [e2] X.env = [(false, eval e2 X.env)]) :
    SI X W tg (.Call (.Name "range" p) [e, e2] [] pos) (fRng2 fa fb) := by
  refine PI.imp (pi_range2 hg hm (pa_cons ha (pa_cons hb pa_nil hs2) (by rw [hs, hs2])) hs hs2) fun σ H R ⟨r, env, st, wd, q⟩ => ?_
  refine tE_then wd q fun d r1 st1 H1 v w1 dv F1 p1 => tE_then w1 p1 fun d2 r2 st2 H2 u w2 du F2 p2 => ?_
  split at p2
  · rename_i i j
    split at p2
    · rename_i hj
      cases dv
      cases du
      exact ⟨i, j, rfl, ⟨hj.1.1, hj.1.2, hj.2.1, hj.2.2⟩, p2.here w2.sr _ ylds_r⟩
    · exact p2.elim
  · exact p2.elim

/-- list(range(n)) -/
def fLrng (kn : Bool) (a : Fe D) : Fe D := fun env st => (a env st).bind fun x st1 => match x with
  | .int j => if inR j ∧ j.toNat ≤ 1000 then lcEnd kn (rngL 0 j.toNat) st1 else .bad
  | _ => .bad
theorem vals_rng {n : Nat} {us : List Value} (hl : us.length = n) (h : ∀ (i : Nat) (v : Value), us[i]? = some v → ∃ t, v = .int i t) : Vals ((List.range n).map fun i : Nat => V.int i) us := by
  have : ∀ (us : List Value) (k : Nat), (∀ (i : Nat) (v : Value), us[i]? = some v → ∃ t, v = .int ((k + i : Nat) : Int) t) → Vals ((List.range' k us.length).map fun i : Nat => V.int i) us := by
    intro us
    induction us with
    | nil => intro k _; exact .nil
    | cons u us ih =>
      intro k h
      rw [List.length_cons, List.range'_succ, List.map_cons]
      refine .cons ?_ (ih (k + 1) fun i v e => ?_)
      · obtain ⟨t, rfl⟩ := h 0 u rfl
        exact ⟨t, rfl⟩
      · obtain ⟨t, rfl⟩ := h (i + 1) v e
        exact ⟨t, by congr 1; omega⟩
  subst hl
  rw [List.range_eq_range']
  exact this us 0 fun i v e => by simpa using h i v e
theorem dvs_rng {K : PySem.W.Frag} {H : Hp} {r : Rm} {n m : Nat} : DVs K H r n (rngL 0 m) ((List.range m).map fun i : Nat => V.int i) := by
  unfold rngL
  generalize List.range m = l
  induction l with
  | nil => exact .nil
  | cons a l ih =>
    refine .cons ?_ ih
    show DV K H r n (.int (0 + (a : Int))) (.int (a : Int))
    rw [Int.zero_add]
    exact .int _
theorem se_lrng (kn : Bool) (hc : X.calm = true) (hg : Gl X "range") (hm : X.mg "range" = none) (hgl : Gl X "list") (hml : X.mg "list" = none) (ha : SE X W e fa) (hs : starEach [e] X.env = [(false, eval e X.env)]) :
    SE X W (.Call (.Name "list" p2) [.Call (.Name "range" p) [e] [] pos] [] pos2) (fLrng kn fa) := by
  refine ⟨fun pins s σ H Q I ⟨r, env, st, wd, q⟩ => ?_⟩
  refine wpAny_Call_Name_kw (ld_blt I hgl hml (show bootBuiltins "list" = some (.type "list") by decide +kernel) ?_ (by decide) (by decide))
  refine PyProof.Rows.callWith_type1 ?_ rfl rfl
  show wpAny _ _ (spliced (backTo pos2 [(false, eval (.Call (.Name "range" p) [e] [] pos) X.env)])) _ _ s
  refine Calls.spliced_cons ?_
  refine wpAny_Call_Name_kw (ld_blt I hg hm boot_range ?_ (by decide) (by decide))
  have ht : tA X.K X.mg W (fCons fa fNil) σ H (fun vs H1 => ∃ (r1 : Rm) (st1 : Store) (j : Int), vs = [.int j] ∧ Sr X.K r1 st1 H1 ∧ inR j ∧ j.toNat ≤ 1000 ∧ Po X.K X.mg W r1 st1 H1 σ (Pv X.K Q) (lcEnd kn (rngL 0 j.toNat) st1)) := by
    refine ⟨r, env, st, wd, ?_⟩
    have q' : Po X.K X.mg W r st H σ (Pv X.K Q) ((fa env st).bind fun x st1 => match x with
      | .int j => if inR j ∧ j.toNat ≤ 1000 then lcEnd kn (rngL 0 j.toNat) st1 else .bad
      | _ => .bad) := q
    unfold fCons fNil
    cases e1 : fa env st with
    | bad => rw [e1] at q'; exact q'.elim
    | exc x s' => rw [e1] at q'; exact q'
    | ok d s' =>
      rw [e1] at q'
      intro r1 H1 F1 S1 vs hv
      have p1 := q'.fw (r' := r1) S1 F1
      cases hv with
      | cons hd hn =>
        cases hn
        simp only [Rz.bind_ok] at p1
        split at p1
        · rename_i j
          split at p1
          · rename_i hj
            cases hd
            exact ⟨r1, s', j, rfl, S1, hj.1, hj.2, p1⟩
          · exact p1.elim
        · exact p1.elim
  refine PyProof.Rows.callWith_type1 (thn ((sa_cons ha sa_nil (by rw [hs]; rfl)).run pos pins s σ H _ I ht) fun us s1 ⟨vs, H1, I1, r1, q1⟩ => ?_) (by rw [hs]; rfl) rfl
  obtain ⟨r2, st2, j, ev, S2, hj, hz, p1⟩ := q1
  subst ev
  cases r1 with
  | cons ru rn =>
    cases rn
    obtain ⟨t, rfl⟩ := ru
    refine call_range_1 ?_
    show wpAny _ _ (spliced []) _ _ _
    refine Calls.spliced_nil ?_
    have I2 : Inv X pins σ H1 { s1 with heap := s1.heap.push { cls := .type "range", data := .fields #[.int 0 s1.toks, .int j t, .int 1 (s1.toks + 1)] }, toks := s1.toks + 1 + 1 } := I1.kept fun b o e => Heap.get?_push_of_some _ e
    have hn : Builtin.Range.rangeSize 0 j 1 = j.toNat := by rw [rangeSize_one]; split <;> omega
    refine call_list_range (I2.ok.hd hc) (IsRange.new ..) (small_one (by omega) (by omega) hj.1 hj.2) hn (Nat.le_trans hz (by decide)) fun h' tk acc' c' hk hS hi => ?_
    generalize hs2 : ({ s1 with heap := s1.heap.push { cls := .type "range", data := .fields #[.int 0 s1.toks, .int j t, .int 1 (s1.toks + 1)] }, toks := s1.toks + 1 + 1 } : Shared) = s2 at I2 hk hS
    have sz : j.toNat ≤ sizeLine := Nat.le_trans hz (by decide)
    have hv : Vals ((List.range j.toNat).map fun i : Nat => V.int i) acc'.toList := vals_rng (by rw [Array.length_toList, hi.1]) fun i v e => by
      obtain ⟨t', e'⟩ := hi.2 i v (by rw [← Array.getElem?_toList]; exact e)
      exact ⟨t', by rw [e']; congr 1; omega⟩
    have I3 : Inv X pins σ (upd H1 s2.heap.objs.size (.lst ((List.range j.toNat).map fun i : Nat => V.int i))) { s2 with heap := h', toks := tk } :=
      I2.laid (t' := tk) hk (Nat.le_refl _) ⟨by simpa using sz, acc'.toList, c', hv, by simpa using hS⟩
    have hn0 : H1 s2.heap.objs.size = none := I2.hok.fresh (Nat.le_refl _)
    refine ⟨.ref s2.heap.objs.size, _, I3, rfl, ?_⟩
    unfold lcEnd at p1
    split at p1
    · exact po_new S2 p1 (.lst (by unfold rngL; simpa using sz) dvs_rng) _ hn0
    · exact po_lst S2 p1 (by unfold rngL; simpa using sz) dvs_rng _ hn0
end
end L2.G4

set_option maxHeartbeats 4000000
/-! GTa: [x] * n as an object of the store. -/
namespace L2.G4
open PySem PySem.Spec PyProof.Rows
/-- a list times an int, handed back as an object -/
def mulN (d e : D) (st : Store) : Rz D := match d, e with
  | .lst xs, .int k => if 0 ≤ k ∧ k < 1000000 ∧ xs.length * k.toNat ≤ sizeLine then .ok (.loc st.length) (st ++ [.lst (List.replicate k.toNat xs).flatten]) else .bad
  | _, _ => .bad
section
variable {X : Cx} {W : Wx} {a b : Expr} {pos : Pos}
theorem flat_len {A : Type} (m : Nat) (ys : List A) : ((List.replicate m ys).flatten).length = m * ys.length := by
  induction m with
  | zero => simp
  | succ m ih => rw [List.replicate_succ, List.flatten_cons, List.length_append, ih, Nat.succ_mul]; omega
theorem DVs.rep {K : PySem.W.Frag} {H : Hp} {r : Rm} {n : Nat} {ds : List D} {vs : List V} (t : DVs K H r n ds vs) (m : Nat) : DVs K H r n (List.replicate m ds).flatten (List.replicate m vs).flatten := by
  induction m with
  | zero => exact .nil
  | succ m ih =>
    rw [List.replicate_succ, List.replicate_succ, List.flatten_cons, List.flatten_cons]
    exact t.append ih
theorem op_mulN : OpR X (binaryOp .Mult) (rG X.K mulN) := by
  intro pins s σ H x y v u Q I rx ry h
  obtain ⟨mg, W, σ', r, st, d, e, S, hd, he, p⟩ := h
  unfold mulN at p
  split at p
  · cases hd with
    | lst h1 na z1 t1 =>
    cases he
    split at p
    · rename_i hc
      obtain ⟨c1, c2, c3⟩ := hc
      have l1 := t1.length
      exact op_rep pins s σ H _ _ v u Q I rx ry ⟨_, _, _, rfl, rfl, h1, by omega, by omega, by rw [← l1]; exact c3, po_new S p (.lst (by rw [flat_len, Nat.mul_comm]; exact c3) (t1.rep _))⟩
    · exact p.elim
  · exact p.elim
/-- a list and another one, handed back as an object -/
def addN (d e : D) (st : Store) : Rz D := match d, e with
  | .fls _, _ => .bad
  | _, .fls _ => .bad
  | d, e => match lstOf st d, lstOf st e with
    | some xs, some ys => if xs.length + ys.length ≤ sizeLine then .ok (.loc st.length) (st ++ [.lst (xs ++ ys)]) else .bad
    | _, _ => .bad
theorem op_addN : OpR X (binaryOp .Add) (rG X.K addN) := by
  intro pins s σ H x y v u Q I rx ry h
  obtain ⟨mg, W, σ', r, st, d, e, S, hd, he, p⟩ := h
  unfold addN at p
  split at p
  · exact p.elim
  · exact p.elim
  · rename_i n1 n2
    split at p
    · rename_i xs ys e1 e2
      split at p
      · rename_i hc
        obtain ⟨a, vs, rfl, h1, t1, z1⟩ := hd.lstH S e1 (by intro w e; exact n1 w e)
        obtain ⟨b, ws, rfl, h2, t2, z2⟩ := he.lstH S e2 (by intro w e; exact n2 w e)
        have l1 := t1.length
        have l2 := t2.length
        exact op_cat pins s σ H _ _ v u Q I rx ry ⟨_, _, _, _, rfl, rfl, h1, h2, by omega, po_new S p (.lst (by rw [List.length_append]; exact hc) (t1.append t2))⟩
      · exact p.elim
    · exact p.elim
def binN (op : Operator) (d e : D) (st : Store) : Rz D := match op with
  | .Mult => mulN d e st
  | .Add => addN d e st
  | _ => .bad
theorem op_binN (op : Operator) : OpR X (binaryOp op) (rG X.K (binN op)) := by
  cases op with
  | Mult => exact op_mulN
  | Add => exact op_addN
  | _ =>
    intro pins s σ H x y v u Q I rx ry h
    obtain ⟨mg, W, σ', r, st, d, e, S, hd, he, p⟩ := h
    exact p.elim
theorem se_binN (op : Operator) {fa fb : Fe D} (ha : SE X W a fa) (hb : SE X W b fb) : SE X W (.BinOp a op b pos) (fBin (binN op) fa fb) := by
  refine PE.imp (pe_op (op_binN op) ha hb) fun σ H Q ⟨r, env, st, wd, p⟩ => ?_
  refine tE_then wd p fun d r1 st1 H1 v w1 dv F1 p1 => tE_then w1 p1 fun d2 r2 st2 H2 v2 w2 dv2 F2 p2 => ?_
  exact ⟨_, W, σ, r2, st2, d, d2, w2.sr, dv.fw w1.sr F2, dv2, p2⟩
end
end L2.G4

set_option maxHeartbeats 4000000
/-! GTb: raise, try .. except .. as, the caught error's attribute; repr where an error is handled. -/
namespace L2.G4
open PySem PySem.Spec PyProof.Rows

/-- an own exception class with its __init__ -/
def ExI0 (P : Program) (w : World) (K : PySem.W.Frag) (mg : Str → Option Value) (base : Heap) (x f : Str) : Prop :=
  ∃ (B newId initId : String) (bmB : List Value) (C fI : Addr) (fd : FuncData) (y : Str), ExB B newId initId bmB ∧ ExC K C newId bmB ∧ PySem.W.findIn K (.ref C) "__init__" = some (some (.ref fI)) ∧ PySem.W.typeIn K (.ref fI) = some (.type "function") ∧
    FnOk P w K mg base (L2.CX P w) 1 fI fd ["self", y] (spInit K newId bmB f) ∧ PySem.W.findIn K (.ref C) f = some none ∧ Binds K fd ["self", y] [] ∧ mg x = some (.ref C) ∧
    PySem.W.exmOne K (.ref C) (.ref C) = some true ∧ PySem.W.findIn K (.ref C) "__getattribute__" = some (some (.builtin "BaseException.__getattribute__")) ∧ PySem.W.findIn K (.ref C) "__getattr__" = some none ∧ PySem.W.hasDictIn K C = true
structure ExI (X : Cx) (x : Str) (f : Str) : Prop where
  has : ExI0 X.prog X.w X.K X.mg X.base x f
def fRai (x f : Str) (a : Fe D) : Fs := fun env st => Fl.ofRz env (a env st) fun d st1 => .exc ⟨x, some (f, d)⟩ env st1
section
variable {X : Cx} {W : Wx} {e : Expr} {fa : Fe D} {x f n : Str} {p pos pos2 np pos' : Pos}
theorem ss_rai (hc : X.calm = true) (T : ExI X x f) (tk : Takes X W) (hr : Room 2 X.A) (hg : Gl X x) (hdb : (x == ("__debug__" : Str)) = false) (hs : starEach [e] X.env = (false, eval e X.env) :: starEach [] X.env) (ha : SE X W e fa) :
    SS X W (.Raise (some (.Call (.Name x p) [e] [] pos)) none pos2) (fRai x f fa) := by
  obtain ⟨B, newId, initId, bmB, C, fI, fd, y, E, T1, iC, tI, F1, hno, hb, hm, te, _⟩ := T.has
  refine PS.imp (ps_raise hc tk (pmkB E T1 iC tI F1 hno hr hb hg hm hdb hs ha)) fun De σ H ⟨r, env, st, w, q⟩ => ?_
  refine tE_pf w q fun d r1 st1 H1 v w1 dv p1 dx hdx => ?_
  have F : Fw r1 r1 st1.length st1.length H1 (upd H1 dx (.xd [(f, v)])) := fw_new hdx
  have S := w1.sr.new (o := .xd [(f, v)]) hdx
  exact p1 r1 σ _ _ _ F (w1.fw F S) ⟨hm, dx, v, rfl, upd_same, dv.fw w1.sr F⟩
/-- an own exception class made with a text -/
def ExT0 (K : PySem.W.Frag) (mg : Str → Option Value) (x : Str) : Prop :=
  ∃ (B newId initId : String) (bmB : List Value) (C : Addr), ExcBaseFacts B newId initId bmB ∧ PySem.W.excIn K C bmB newId = true ∧ mg x = some (.ref C) ∧ PySem.W.keepIn K (.ref C) = true ∧
    PySem.W.subIn K (.ref C) (.type "BaseException") = some true ∧ PySem.W.typeIn K (.ref C) = some (.type "type")
structure ExTx (X : Cx) (x : Str) : Prop where
  has : ExT0 X.K X.mg x
def fRais (x : Str) : Fs := fun env st => .exc ⟨x, none⟩ env st
theorem ss_rais {m : Str} {j : Nat} {p2 : Pos} (hc : X.calm = true) (T : ExTx X x) (tk : Takes X W) (hg : Gl X x) (hdb : (x == ("__debug__" : Str)) = false) :
    SS X W (.Raise (some (.Call (.Name x p) [.Constant (.str m) j p2] [] pos)) none pos2) (fRais x) := by
  obtain ⟨B, newId, initId, bmB, C, F, q, hm, hk, h1, h2⟩ := T.has
  exact PS.imp (ps_raise hc tk (pmk_own F q hm hk (raises_own h1 h2) hg hdb)) fun De σ H ⟨r, env, st, w, q⟩ => q r σ H _ _ (Fw.refl _ _ _) w ⟨hm, rfl⟩
def isExc (x : Str) (e : Ex) : Bool := decide (e.cls = x)
/-- an outcome with a name taken away -/
def Fl.clr (i : Nat) : Fl → Fl
  | .nx env st => .nx (env.set i none) st
  | .bk env st => .bk (env.set i none) st
  | .ct env st => .ct (env.set i none) st
  | y => y
open Classical in
/-- what does not hang on addresses -/
noncomputable def indep (F : Addr → Addr → Fl) : Fl := if ∀ a d, F a d = F 0 0 then F 0 0 else .bad
noncomputable def fTryA (x f : Str) (i : Nat) (body : Fs) (suite : Addr × Addr → Fs) : Fs := fun env st => match body env st with
  | .exc e env1 st1 => if e.cls = x then match e.at_ with
      | some (g, d) => if g = f then indep fun a dx => (suite (a, dx) (env1.set i (some (.exn a dx f d))) st1).clr i else .bad
      | none => .bad
    else .bad
  | y => y
theorem indep_of {F : Addr → Addr → Fl} {y : Fl} (h : ∀ a d, F a d = y) : indep F = y := by
  unfold indep
  rw [if_pos fun a d => (h a d).trans (h 0 0).symm]
  exact h 0 0
theorem Ev_.clr {K : PySem.W.Frag} {H : Hp} {r : Rm} {m : Nat} {env : Env} {σ : St} (e : Ev_ K H r m env σ) (i : Nat) : Ev_ K H r m (env.set i none) (σ.set i none) := by
  refine ⟨by rw [List.length_set, List.length_set, e.len], fun j d hj => ?_⟩
  by_cases hij : i = j
  · subst hij
    have hl : i < env.length := by
      obtain ⟨h1, _⟩ := List.getElem?_eq_some_iff.mp hj
      simpa using h1
    rw [List.getElem?_set_self hl] at hj
    cases hj
  · rw [List.getElem?_set_ne hij] at hj ⊢
    exact e.at_ j d hj
theorem Pf.clr {K : PySem.W.Frag} {mg : Str → Option Value} {W : Wx} {r : Rm} {m : Nat} {H : Hp} {De : Ends} {i : Nat} {y : Fl} (h : Pf K mg W r m H De (y.clr i)) (hne : ∀ e env st, y ≠ .exc e env st) :
    Pf K mg W0 r m H { nx := fun σ' H' => De.nx (σ'.set i none) H', rt := De.rt, bk := fun σ' H' => De.bk (σ'.set i none) H', ct := fun σ' H' => De.ct (σ'.set i none) H' } y := by
  cases y with
  | nx env st => exact fun r' σ' H' F w => h r' _ H' F ⟨w.sr, w.ev.clr i⟩
  | bk env st => exact fun r' σ' H' F w => h r' _ H' F ⟨w.sr, w.ev.clr i⟩
  | ct env st => exact fun r' σ' H' F w => h r' _ H' F ⟨w.sr, w.ev.clr i⟩
  | rt d st => exact h
  | exc e env st => exact absurd rfl (hne e env st)
  | bad => exact h
theorem PSs.given {X : Cx} {s : List Stmt} {t : TS} {A : Prop} (h : A → PSs X s t) : PSs X s (fun D σ H => A ∧ t D σ H) := ⟨fun pins s σ H D I q => (h q.1).run pins s σ H D I q.2⟩
open Classical in
/-- a suite's outcome that is no error -/
noncomputable def noExc (y : Fl) : Fl := if ∃ e env st, y = .exc e env st then .bad else y
theorem ss_tryA {i : Nat} {body : List Stmt} {b0 : Stmt} {suite : List Stmt} {fb : Fs} {fs : Addr × Addr → Fs} (hst : X.stack = X.env :: X.outer) (hfr : X.env.frame = some X.env.locals) (hN : X.N.Nodup) (hi : X.N[i]? = some n) (hln : X.env.scope.names.lookup n = some .local)
    (T : ExI X x f) (hg : Gl X x) (hdb : (x == ("__debug__" : Str)) = false) (tk : Takes X W)
    (hb : ∀ (W' : Wx) (pn : List (Addr × Obj)) (xe : Value → Shared → Prop), Takes (X.tr pn xe) W' → PassesOwn (model X.prog X.w) X.A X.env xe → SSs (X.tr pn xe) W' body fb)
    (hsu : ∀ (a dx C : Addr) (oe : Obj) (pn : List (Addr × Obj)), X.mg x = some (.ref C) → Zc (.ref C) (some dx) oe → (∃ vs, oe.data = .fields vs) → SSs (X.suite a ((a, oe) :: pn)) W0 (b0 :: suite) (fs (a, dx))) :
    SS X W (.Try body [.ExceptHandler (some (.Name x np)) (some n) (b0 :: suite) pos'] [] [] pos) (fTryA x f i fb fun q env st => noExc (fs q env st)) := by
  obtain ⟨B, newId, initId, bmB, C, fI, fd, y, E, T1, iC, tI, F1, hno, hbi, hm, te, _⟩ := T.has
  refine PS.imp (ps_try_as (c := .ref C) (i := i) (tb := fun W' => tS X.K X.mg W' fb) (ts := fun a cls d => fun D σ H => (cls = .ref C ∧ ∃ dx, d = some dx) ∧ tS X.K X.mg W0 (fs (a, d.getD 0)) D σ H) hst hfr hN hi hln ⟨hg, hdb, .inl hm⟩ tk (fun W' pn xe tk' po => hb W' pn xe tk' po)
    (fun a oe cls d pn hz hf => PSs.given fun ⟨ec, dx, ed⟩ => by
      subst ec ed
      exact hsu a dx C oe pn hm hz hf)) fun De σ H ⟨r, env, st, w, q⟩ => ?_
  refine ⟨r, env, st, w, ?_⟩
  unfold fTryA at q
  cases eb : fb env st with
  | nx env1 st1 => rw [eb] at q; exact q
  | bk env1 st1 => rw [eb] at q; exact q
  | ct env1 st1 => rw [eb] at q; exact q
  | rt d st1 => rw [eb] at q; exact q
  | bad => rw [eb] at q; exact q
  | exc e env1 st1 =>
    rw [eb] at q
    simp only at q
    intro r' σ' H' c dx F w1 hx
    split at q
    · rename_i ec
      obtain ⟨x1, x2⟩ := hx
      rw [ec, hm] at x1
      cases x1
      split at q
      · rename_i g d ea
        rw [ea] at x2
        obtain ⟨dxa, v, rfl, y2, y3⟩ := x2
        split at q
        · rename_i eg
          subst eg
          refine ⟨true, te, fun _ a ha => ⟨⟨rfl, dxa, rfl⟩, ?_⟩, fun z => by cases z⟩
          show tS X.K X.mg W0 (fs (a, dxa)) _ (σ'.set i (some (.ref a))) H'
          unfold indep at q
          split at q
          · rename_i hind
            rw [← hind a dxa] at q
            have na : (∀ j, j < st1.length → r' j ≠ dxa) ∧ ¬ r'.pv dxa := by
              refine ⟨fun j hj z => ?_, w1.sr.npv y2 fun xs z => by cases z⟩
              obtain ⟨ho, g1, o, _, g2⟩ := w1.sr.at_ hj
              rw [z, y2] at g1
              cases g1
              cases g2
            have dvx : DV X.K H' r' st1.length (.exn a dxa g d) (.ref a) := .exn y2 na y3
            refine ⟨r', env1.set i (some (.exn a dxa g d)), st1, ⟨w1.sr, w1.ev.set i dvx⟩, ?_⟩
            have q2 : Pf X.K X.mg W r' st1.length H' De ((noExc (fs (a, dxa) (env1.set i (some (.exn a dxa g d))) st1)).clr i) := Pf.fw w1.sr F q
            generalize fs (a, dxa) (env1.set i (some (.exn a dxa g d))) st1 = yy at q2
            unfold noExc at q2
            by_cases hex : ∃ e env st, yy = .exc e env st
            · rw [if_pos hex] at q2; exact False.elim q2
            · rw [if_neg hex] at q2
              exact Pf.clr q2 fun e env st z => hex ⟨e, env, st, z⟩
          · exact False.elim q
        · exact False.elim q
      · exact False.elim q
    · exact False.elim q
/-! ### the attribute -/
def fFld (q : Addr × Addr) (f : Str) (a : Fe D) : Fe D := fun env st => (a env st).bind fun x st1 => match x with
  | .exn a dx g d => if a = q.1 ∧ dx = q.2 ∧ g = f then .ok d st1 else .bad
  | _ => .bad
theorem se_fld {a dx C : Addr} {oe : Obj} {pn : List (Addr × Obj)} (T : ExI X x f) (hm : X.mg x = some (.ref C)) (hz : Zc (.ref C) (some dx) oe) (hf : ∃ vs, oe.data = .fields vs) (ha : SE (X.suite a ((a, oe) :: pn)) W e fa) (hb : attributeBase e f X.env (eval e X.env) = eval e X.env) :
    SE (X.suite a ((a, oe) :: pn)) W (.Attribute e f pos) (fFld (a, dx) f fa) := by
  obtain ⟨B, newId, initId, bmB, C', fI, fd, y, E, T1, iC, tI, F1, hno, hbi, hm', te, ga, gg, hd⟩ := T.has
  rw [hm] at hm'
  cases hm'
  refine ⟨fun pins s σ H Q I ⟨r, env, st, wd, p⟩ => ?_⟩
  have ht : tE X.K X.mg W fa σ H (fun u H1 => ∃ (v : V), u = .ref a ∧ H1 dx = some (.xd [(f, v)]) ∧ Q v H1) := by
    refine tE_then wd p fun d r1 st1 H1 u w1 du F1 p1 => ?_
    split at p1
    · rename_i a' dx' g d'
      split at p1
      · rename_i hq
        obtain ⟨rfl, rfl, rfl⟩ := hq
        cases du with
        | exn h1 na dv => exact ⟨_, rfl, h1, po_val w1.sr p1 dv⟩
      · exact p1.elim
    · exact p1.elim
  refine attr_of hb (thn (ha.run pins s σ H _ I ht) fun u s1 hh => ?_)
  obtain ⟨u', H1, I1, rx, v, rfl, ea, q⟩ := hh
  obtain rfl : u = Value.ref a := rx
  obtain ⟨hpin, _⟩ := I1.pin (a, oe) (List.mem_append_left _ List.mem_cons_self)
  obtain ⟨vs, hdt⟩ := hf
  obtain ⟨mA, hns, hrl⟩ := (show ObjOk X.prog X.w H1 s1.heap dx (.xd [(f, v)]) from I1.hok dx _ ea)
  obtain ⟨od, ho, hl⟩ := lookIn_ns hns
  have l : List.lookup f [(f, v)] = some v := by simp [List.lookup]
  obtain ⟨z, hu, ru⟩ := RelO.some_of (v := v) (o := mA f) (by rw [← l]; exact hrl f)
  have J : PySem.W.InstAt s1.heap a oe C (some od) := ⟨hpin, hz.1, by unfold PySem.W.notCls; rw [hdt] <;> rfl, by rw [hz.2]; exact ho⟩
  exact HandSPX.exc_get I1.kIn J ga gg T1.exC (PySem.W.findObj_own hd hno rfl (by rw [hl, hu])) (handed_of ru) ⟨v, H1, I1.tok _, ru, q⟩
end
/-! ### repr, where an error may be handled -/
section
variable {X : Cx} {W : Wx} {e : Expr} {es : List Expr} {pos p : Pos} {x : Str}
theorem call_reprG (hu : X.A.units + 70 < cLine) (hg : X.A.guards = some []) : CallR X Blt.repr.val (rGs X.K (bltD .repr)) := by
  intro pins s σ H xs us Q I rv h
  obtain ⟨mg, W, σ', r, st, ds, S, hds, p⟩ := h
  have key : ∀ d, ds = [d] → wpAny (model X.prog X.w) X.A (call Blt.repr.val us) (EP X pins σ Q) X.xe s := fun d e => by
    subst e
    obtain ⟨v, rfl, hd⟩ := hds.one
    obtain ⟨u, rfl, ru⟩ := vals1 rv
    have p : Po X.K mg W r st H σ' (Pv X.K Q) (match reprD d st with
      | some x => .ok (.str x) st
      | none => .bad) := p
    split at p
    · rename_i x hx
      exact repr_ok hu hg I ru S hd hx (po_val S p (.str _))
    · exact p.elim
  match ds, p, key with
  | [], p, _ => exact (show False from p).elim
  | [d], _, key => exact key d rfl
  | _ :: _ :: _, p, _ => exact (show False from p).elim
theorem se_repr {ft : Fe (List D)} (hu : X.A.units + 70 < cLine) (hgd : X.A.guards = some []) (hg : Gl X x) (hm : X.mg x = none) (hv : bootBuiltins x = some Blt.repr.val) (hn : x ≠ "__name__") (hdb : (x == ("__debug__" : Str)) = false)
    (ha : SA X W (e :: es) ft) (he : starEach (e :: es) X.env = (false, eval e X.env) :: starEach es X.env) (hpl : (backTo pos (starEach es X.env)).any (·.1) = false) : SE X W (.Call (.Name x p) (e :: es) [] pos) (fArgs (bltD .repr) ft) :=
  PE.imp (pe_callB (call_reprG hu hgd) hg hm hv ha hn hdb he hpl) fun σ H Q ⟨r, env, st, wd, p⟩ => tA_then wd p fun ds r1 st1 H1 vs w1 dvs F1 p1 => ⟨_, W, σ, r1, st1, ds, w1.sr, dvs, p1⟩
end
end L2.G4

set_option maxHeartbeats 4000000
/-! GTc: several except clauses, some of them with a name. -/
namespace L2.G4
open PySem PySem.Spec PyProof.Rows

abbrev Hnd := Value × Option Nat × (Addr → Value → Option Addr → TS)
/-- without the clause's own name -/
def offS (oi : Option Nat) (σ : St) : St := match oi with
  | some i => σ.set i none
  | none => σ
def onS (oi : Option Nat) (a : Addr) (σ : St) : St := match oi with
  | some i => σ.set i (some (.ref a))
  | none => σ
def offD (oi : Option Nat) (D : Ends) : Ends := { nx := fun σ H => D.nx (offS oi σ) H, rt := D.rt, bk := fun σ H => D.bk (offS oi σ) H, ct := fun σ H => D.ct (offS oi σ) H }
def wMix (K : PySem.W.Frag) (Wo : Wx) (D : Ends) : List Hnd → Wx
  | [] => Wo
  | (c, oi, ts) :: r => fun cls d σ H => ∃ b, PySem.W.exmOne K cls c = some b ∧ (b = true → ∀ a, H a = none → ts a cls d (offD oi D) (onS oi a σ) H) ∧ (b = false → wMix K Wo D r cls d σ H)
/-- a clause's name and its slot -/
def AsOk (X : Cx) (nm : Option Str) (oi : Option Nat) : Prop := match nm, oi with
  | none, none => True
  | some n, some i => X.N[i]? = some n ∧ X.env.scope.names.lookup n = some .local
  | _, _ => False
inductive HdM (X : Cx) : List ExceptHandler → List Hnd → Prop
  | nil : HdM X [] []
  | cons {x : Str} {nm : Option Str} {oi : Option Nat} {c : Value} {ts : Addr → Value → Option Addr → TS} {b0 : Stmt} {suite : List Stmt} {np pos : Pos} {hds : List ExceptHandler} {l : List Hnd} (hc : Names X x c) (ha : AsOk X nm oi)
      (hs : ∀ (a : Addr) (oe : Obj) (cls : Value) (d : Option Addr) (pn : List (Addr × Obj)), Zc cls d oe → (∃ vs, oe.data = .fields vs) → PSs (X.suite a ((a, oe) :: pn)) (b0 :: suite) (ts a cls d)) (r : HdM X hds l) :
      HdM X (.ExceptHandler (some (.Name x np)) nm (b0 :: suite) pos :: hds) ((c, oi, ts) :: l)
section
variable {X : Cx} {body : List Stmt} {h0 : ExceptHandler} {hds : List ExceptHandler} {l : List Hnd} {pos : Pos} {tb : Wx → TS} {Wo : Wx}
theorem ps_tryM (hst : X.stack = X.env :: X.outer) (hfm : X.env.frame = some X.env.locals) (hN : X.N.Nodup) (tk : Takes X Wo)
    (hb : ∀ (W : Wx) (pn : List (Addr × Obj)) (xe : Value → Shared → Prop), Takes (X.tr pn xe) W → PassesOwn (model X.prog X.w) X.A X.env xe → PSs (X.tr pn xe) body (tb W))
    (hh : HdM X (h0 :: hds) l) : PS X (.Try body (h0 :: hds) [] [] pos) (fun D σ H => tb (wMix X.K Wo D l) D σ H) := by
  refine ⟨fun pins s σ H D I q => ?_⟩
  have iok := I.ok
  have hfr : X.A.frames = some (X.env :: X.outer) := iok.frames.trans (congrArg some hst)
  refine wpAny_Try_except (wpAny_mono ((hb (wMix X.K Wo D l) (X.pn ++ pins) (fun e z => wpAny (model X.prog X.w) X.A (noteFrame e X.env) (fun _ z => wpAny (model X.prog X.w) X.A (setFlight e none)
    (fun _ z => wpAny (model X.prog X.w) X.A (handleBy e X.env (h0 :: hds)) (SP X pins D) X.xe z) X.xe z) X.xe z) (fun u s' xx => ?_) PassesOwn.looking).run [] s σ H D (I.toTry _) q) (fun fl z h => ?_) (fun _ _ h => h))
  · obtain ⟨a, B, sI, p2, τ, G, cls, d, rfl, I2, nb, up, sky, na, os, ag, w⟩ := xx
    have I3 : Inv X pins τ G sI := I2.ofTry iok
    show wpAny (model X.prog X.w) X.A (noteFrame (.ref a) X.env) _ _ _
    refine Sky.land Zc.steady hfr hfm (show Sky B (X.env :: X.outer) a (Zc cls d) X.env.locals s'.heap by rw [← hst]; exact sky) fun h3 f3 u3 => ?_
    have I4 : Inv X pins τ G { s' with heap := h3 } := I3.landed nb f3.1 (up.trans u3) os ag
    obtain ⟨o3, v3, g3, z3, d3⟩ := f3.there
    have nfr : a ∉ frs (X.env :: X.outer) := fun hm => by
      obtain ⟨_, o', e', hnf⟩ := f3.2.2.1.mem hm
      rw [g3] at e'
      cases e'
      exact hnf _ d3
    have nL : a ≠ X.env.locals := fun z => nfr (List.mem_filterMap.mpr ⟨X.env, List.mem_cons_self, by rw [hfm, z]⟩)
    have nF : a ∉ X.fs := fun hm => by
      obtain ⟨e, he, q⟩ := List.mem_filterMap.mp hm
      exact nfr (List.mem_filterMap.mpr ⟨e, List.mem_cons_of_mem _ he, q⟩)
    have T3 := I4.suite g3 d3 na nL nF
    have look : ∀ {ks : List ExceptHandler} {m : List Hnd}, HdM X ks m → wMix X.K Wo D m cls d τ G → wpAny (model X.prog X.w) X.A (handleBy (.ref a) X.env ks) (SP X pins D) X.xe { s' with heap := h3 } := by
      intro ks m hk
      induction hk with
      | nil =>
        intro w
        refine wpAny_handleBy_nil ?_
        obtain ⟨_, _, _, oe, vs, T, _, _, he, _, hd, h1, _⟩ := id f3
        unfold PySem.passOn
        refine wpAny_bind (wpAny_field he hd h1 ?_)
        rw [if_neg (show ¬ ((Value.ref T == Value.none) = true) from by simp)]
        have fin : wpAny (model X.prog X.w) X.A (setFlight (.ref a) X.env.frame) (fun _ z => wpAny (model X.prog X.w) X.A (throw (.ref a) : Sem Flow) (SP X pins D) X.xe z) X.xe { s' with heap := h3 } := by
          rw [hfm]
          exact HandSPX.setFlight_upZ f3 fun h4 hh4 u4 => wpAny_throw (tk _ _ ⟨a, B, sI, pins, τ, G, cls, d, rfl, I3, nb, (up.trans u3).trans u4, .inr (.inr (by rw [hst]; exact hh4)), na, os, ag, w⟩)
        first
          | exact wpAny_bind (wpAny_pure (wpAny_bind fin))
          | exact wpAny_bind fin
      | @cons x nm oi c ts b0 suite np pos' ks2 m2 hc hA hsu r ih =>
        rintro ⟨b, e1, yes, nay⟩
        refine wpAny_handleBy_cons (codeAny_handlers_test ?_) (by intro q; cases q)
        have test : ∀ {Q : Value → Shared → Prop} {E : Value → Shared → Prop}, Q c { s' with heap := h3 } → wpAny (model X.prog X.w) (X.A.mark (some (.ref a))) (eval (.Name x np) X.env) Q E { s' with heap := h3 } := fun {Q E} q => by
          obtain ⟨hg, hdb, hm | ⟨hm, hv, hnn⟩⟩ := hc
          · exact ld_glob (X := X.suite a ((a, o3) :: (X.pn ++ pins))) T3 hg hm q hdb
          · exact ld_blt (X := X.suite a ((a, o3) :: (X.pn ++ pins))) T3 hg hm hv q hnn hdb
        refine test ((PySem.W.exm_one (M := model X.prog X.w) (I4.kIn) (fun A Q E z k q => wpAny_typeOf_ref (k _ _ g3) (by rw [z3.1]; exact q)) e1).here ?_)
        cases b with
        | false =>
          show wpAny _ X.A (handleBy (.ref a) X.env ks2) _ _ _
          exact ih (nay rfl)
        | true =>
          have run := yes rfl a na
          cases nm with
          | none =>
            cases oi with
            | some i => exact hA.elim
            | none =>
              refine codeAny_handlers_suite (HandSPX.lands_againZ f3 fun h4 f4 u4 => ?_)
              have I5 : Inv X pins τ G { s' with heap := h4 } := I3.landed nb f4.1 ((up.trans u3).trans u4) os ag
              obtain ⟨o4, v4, g4, z4, d4⟩ := f4.there
              refine wpAny_mono ((hsu a o4 cls d (X.pn ++ pins) z4 ⟨_, d4⟩).run [] _ _ G _ (I5.suite g4 d4 na nL nF) run) (fun fl z hz => ?_) (fun _ _ z => z.elim)
              cases fl with
              | ret u => obtain ⟨v6, τ6, G6, T6, r6, q6⟩ := hz; exact ⟨_, _, _, T6.unsuite iok, r6, q6⟩
              | next => obtain ⟨τ6, G6, T6, q6⟩ := hz; exact ⟨_, _, T6.unsuite iok, q6⟩
              | brk => obtain ⟨τ6, G6, T6, q6⟩ := hz; exact ⟨_, _, T6.unsuite iok, q6⟩
              | cont => obtain ⟨τ6, G6, T6, q6⟩ := hz; exact ⟨_, _, T6.unsuite iok, q6⟩
          | some n =>
            cases oi with
            | none => exact hA.elim
            | some i =>
              obtain ⟨hi, hln⟩ := hA
              refine codeAny_handlers_suite_as (HandSPX.lands_againZ f3 fun h4 f4 u4 => ?_)
              have I5 : Inv X pins τ G { s' with heap := h4 } := I3.landed nb f4.1 ((up.trans u3).trans u4) os ag
              obtain ⟨o4, v4, g4, z4, d4⟩ := f4.there
              refine store_ok (X := X.suite a ((a, o4) :: (X.pn ++ pins))) (v := .ref a) (I5.suite g4 d4 na nL nF) hN hi (.inl hln) rfl (fun s5 S5 => ?_) (.inr hln)
              refine wpAny_mono ((hsu a o4 cls d (X.pn ++ pins) z4 ⟨_, d4⟩).run [] s5 _ G _ S5 run) (fun fl z hz => ?_) (fun _ _ z => z.elim)
              have gone : ∀ {τ6 : St} {G6 : Hp} {Q : Shared → Prop}, Inv (X.suite a ((a, o4) :: (X.pn ++ pins))) [] τ6 G6 z → (∀ z7, Inv X pins (τ6.set i none) G6 z7 → Q z7) →
                  wpAny (model X.prog X.w) X.A (do bindName X.env n .none; unbindBehindTheSuite X.env n pos') (fun _ z7 => Q z7) X.xe z := fun T6 hq => gone_ok (T6.unsuite iok) hN hi hln hq
              cases fl with
              | ret u => obtain ⟨v6, τ6, G6, T6, r6, q6⟩ := hz; exact gone T6 fun _ J7 => ⟨_, _, _, J7, r6, q6⟩
              | next => obtain ⟨τ6, G6, T6, q6⟩ := hz; exact gone T6 fun _ J7 => ⟨_, _, J7, q6⟩
              | brk => obtain ⟨τ6, G6, T6, q6⟩ := hz; exact gone T6 fun _ J7 => ⟨_, _, J7, q6⟩
              | cont => obtain ⟨τ6, G6, T6, q6⟩ := hz; exact gone T6 fun _ J7 => ⟨_, _, J7, q6⟩
    exact look hh w
  · cases fl with
    | ret u => obtain ⟨v, τ, G, J, r, q⟩ := h; exact ⟨v, τ, G, J.ofTry iok, r, q⟩
    | next => obtain ⟨τ, G, J, q⟩ := h; exact wpAny_execs_nil ⟨τ, G, J.ofTry iok, q⟩
    | brk => obtain ⟨τ, G, J, q⟩ := h; exact ⟨τ, G, J.ofTry iok, q⟩
    | cont => obtain ⟨τ, G, J, q⟩ := h; exact ⟨τ, G, J.ofTry iok, q⟩
end
/-! ### the rule -/
/-- a clause: the classes that it catches, those that it lets by; the field, the slot; the suite -/
structure Ha where
  yes : List Str
  no : List Str
  f : Str
  oi : Option Nat
  run : Addr × Addr → Fs
def blankE (n : Nat) : Env := List.replicate n none
noncomputable def hndGo : List Ha → Ex → Nat → Store → Fl
  | [], e, n, st => .exc e (blankE n) st
  | h :: r, e, n, st => if e.cls ∈ h.yes then (match h.oi with
      | none => noExc (h.run (0, 0) (blankE n) st)
      | some i => match e.at_ with
        | some (g, d) => if g = h.f then indep fun a dx => (noExc (h.run (a, dx) ((blankE n).set i (some (.exn a dx h.f d))) st)).clr i else .bad
        | none => .bad)
    else if e.cls ∈ h.no then hndGo r e n st else .bad
noncomputable def fTryM (body : Fs) (hs : List Ha) : Fs := fun env st => match body env st with
  | .exc e _ st1 => hndGo hs e env.length st1
  | y => y
def clo (W : Wx) : Wx := fun c d _ H => ∀ σ, W c d σ H
theorem Takes.weak {X : Cx} {W W' : Wx} (tk : Takes X W) (h : ∀ c d σ H, W' c d σ H → W c d σ H) : Takes X W' := fun u s' ⟨x1, x2, x3, x4, x5, x6, x7, x8, x9, x10, x11, x12, x13, x14, x15, x16, w⟩ => tk u s' ⟨x1, x2, x3, x4, x5, x6, x7, x8, x9, x10, x11, x12, x13, x14, x15, x16, h _ _ _ _ w⟩
inductive HaOk (X : Cx) : List ExceptHandler → List Ha → Prop
  | nil : HaOk X [] []
  | cons {x : Str} {nm : Option Str} {C : Addr} {h : Ha} {b0 : Stmt} {suite : List Stmt} {np pos : Pos} {ks : List ExceptHandler} {l : List Ha} (hc : Names X x (.ref C)) (ha : AsOk X nm h.oi)
      (hy : ∀ y ∈ h.yes, ∃ Cy, X.mg y = some (.ref Cy) ∧ PySem.W.exmOne X.K (.ref Cy) (.ref C) = some true) (hn : ∀ y ∈ h.no, ∃ Cy, X.mg y = some (.ref Cy) ∧ PySem.W.exmOne X.K (.ref Cy) (.ref C) = some false)
      (hs0 : h.oi = none → ∀ (a : Addr) (oe : Obj) (cls : Value) (d : Option Addr) (pn : List (Addr × Obj)), Zc cls d oe → (∃ vs, oe.data = .fields vs) → SSs (X.suite a ((a, oe) :: pn)) W0 (b0 :: suite) (h.run (0, 0)))
      (hs1 : h.oi ≠ none → ∀ y ∈ h.yes, ∀ (a dx Cy : Addr) (oe : Obj) (pn : List (Addr × Obj)), X.mg y = some (.ref Cy) → Zc (.ref Cy) (some dx) oe → (∃ vs, oe.data = .fields vs) → SSs (X.suite a ((a, oe) :: pn)) W0 (b0 :: suite) (h.run (a, dx)))
      (r : HaOk X ks l) : HaOk X (.ExceptHandler (some (.Name x np)) nm (b0 :: suite) pos :: ks) (h :: l)
theorem PSs.lenG {X : Cx} {s : List Stmt} {t : TS} (h : PSs X s t) : PSs X s (fun D σ H => σ.length = X.N.length → t D σ H) := ⟨fun pins s σ H D I q => h.run pins s σ H D I (q I.len)⟩
theorem PS.impL {X : Cx} {s : Stmt} {t t' : TS} (h : PS X s t) (i : ∀ D σ H, σ.length = X.N.length → t' D σ H → t D σ H) : PS X s t' := ⟨fun pins s σ H D I q => h.run pins s σ H D I (i D σ H I.len q)⟩
theorem Pf.noexc {K : PySem.W.Frag} {mg : Str → Option Value} {W : Wx} {r : Rm} {n : Nat} {H : Hp} {De : Ends} {y : Fl} (h : Pf K mg W r n H De (noExc y)) : Pf K mg W0 r n H De y := by
  unfold noExc at h
  by_cases hex : ∃ e env st, y = .exc e env st
  · rw [if_pos hex] at h; exact h.elim
  · rw [if_neg hex] at h
    cases y with
    | exc e env st => exact absurd ⟨e, env, st, rfl⟩ hex
    | _ => exact h
theorem Pf.noexcC {K : PySem.W.Frag} {mg : Str → Option Value} {W : Wx} {r : Rm} {n : Nat} {H : Hp} {De : Ends} {i : Nat} {y : Fl} (h : Pf K mg W r n H De ((noExc y).clr i)) : Pf K mg W0 r n H (offD (some i) De) y := by
  unfold noExc at h
  by_cases hex : ∃ e env st, y = .exc e env st
  · rw [if_pos hex] at h; exact (show False from h).elim
  · rw [if_neg hex] at h
    exact Pf.clr h fun e env st z => hex ⟨e, env, st, z⟩
theorem ev_blank {K : PySem.W.Frag} {H : Hp} {r : Rm} {m n : Nat} {σ : St} (h : n = σ.length) : Ev_ K H r m (blankE n) σ := ⟨by unfold blankE; rw [List.length_replicate]; exact h, fun i d e => by
  unfold blankE at e
  rw [List.getElem?_replicate] at e
  split at e <;> cases e⟩
section
variable {X : Cx} {W : Wx} {body : List Stmt} {h0 : ExceptHandler} {hds : List ExceptHandler} {l : List Ha} {pos : Pos} {fb : Fs}
/-- the HandS clauses of such clauses -/
theorem HaOk.mix (h : HaOk X hds l) : ∃ m : List Hnd, HdM X hds m ∧ ∀ (De : Ends) (r r' : Rm) (st0 : Store) (H H' : Hp) (e : Ex) (st : Store) (c : Value) (dx : Option Addr), (∀ c d σ σ' H, W c d σ H → W c d σ' H) → Fw r r' st0.length st.length H H' → Sr X.K r' st H' → ExR X.K X.mg H' r' st.length e c dx →
    Pf X.K X.mg W r st0.length H De (hndGo l e X.N.length st) → ∀ σ, wMix X.K W De m c dx σ H' := by
  induction h with
  | nil =>
    refine ⟨[], .nil, fun De r r' st0 H H' e st c dx hW F S hx p σ => ?_⟩
    exact hW _ _ _ _ _ (p r' (List.replicate X.N.length none) H' c dx F ⟨S, ev_blank (by rw [List.length_replicate])⟩ hx)
  | @cons x nm C h b0 suite np pos ks l hc ha hy hn hs0 hs1 _ ih =>
    obtain ⟨m, hm, ih⟩ := ih
    cases hoi : h.oi with
    | none =>
      refine ⟨(.ref C, none, fun a cls d => fun D σ H => σ.length = X.N.length → tS X.K X.mg W0 (h.run (0, 0)) D σ H) :: m, .cons hc (by rw [← hoi]; exact ha) (fun a oe cls d pn hz hf => PSs.lenG (X := X.suite a ((a, oe) :: pn)) (hs0 hoi a oe cls d pn hz hf)) hm, ?_⟩
      intro De r r' st0 H H' e st c dx hW F S hx p σ
      unfold hndGo at p
      split at p
      · rename_i hin
        obtain ⟨Cy, e1, e2⟩ := hy _ hin
        have e3 := hx.1
        rw [e1] at e3
        cases e3
        rw [hoi] at p
        have p : Pf X.K X.mg W r st0.length H De (noExc (h.run (0, 0) (blankE X.N.length) st)) := p
        exact ⟨true, e2, fun _ a _ hl => ⟨r', blankE X.N.length, st, ⟨S, ev_blank hl.symm⟩, (Pf.noexc p).fw S F⟩, fun z => by cases z⟩
      · split at p
        · rename_i hin
          obtain ⟨Cy, e1, e2⟩ := hn _ hin
          have e3 := hx.1
          rw [e1] at e3
          cases e3
          exact ⟨false, e2, (fun z => by cases z), fun _ => ih De r r' st0 H H' e st _ dx hW F S hx p σ⟩
        · exact p.elim
    | some i =>
      refine ⟨(.ref C, some i, fun a cls d => fun D σ H => (∃ y ∈ h.yes, ∃ Cy dx, X.mg y = some (.ref Cy) ∧ cls = .ref Cy ∧ d = some dx) ∧ (σ.length = X.N.length → tS X.K X.mg W0 (h.run (a, d.getD 0)) D σ H)) :: m, .cons hc (by rw [← hoi]; exact ha)
        (fun a oe cls d pn hz hf => PSs.given fun ⟨y, hin, Cy, dx, e1, e2, e3⟩ => by
          subst e2 e3
          exact PSs.lenG (X := X.suite a ((a, oe) :: pn)) (hs1 (by rw [hoi]; exact fun z => by cases z) y hin a dx Cy oe pn e1 hz hf)) hm, ?_⟩
      intro De r r' st0 H H' e st c dx hW F S hx p σ
      unfold hndGo at p
      split at p
      · rename_i hin
        obtain ⟨Cy, e1, e2⟩ := hy _ hin
        obtain ⟨e3, x2⟩ := hx
        rw [e1] at e3
        cases e3
        rw [hoi] at p
        simp only at p
        split at p
        · rename_i g d ea
          rw [ea] at x2
          obtain ⟨dxa, v, rfl, y2, y3⟩ := x2
          split at p
          · rename_i eg
            subst eg
            refine ⟨true, e2, fun _ a _ => ⟨⟨_, hin, Cy, dxa, e1, rfl, rfl⟩, fun hl => ?_⟩, fun z => by cases z⟩
            unfold indep at p
            split at p
            · rename_i hind
              rw [← hind a dxa] at p
              have na : (∀ j, j < st.length → r' j ≠ dxa) ∧ ¬ r'.pv dxa := by
                refine ⟨fun j hj z => ?_, S.npv y2 fun xs z => by cases z⟩
                obtain ⟨ho, g1, o, _, g2⟩ := S.at_ hj
                rw [z, y2] at g1
                cases g1
                cases g2
              have dvx : DV X.K H' r' st.length (.exn a dxa h.f d) (.ref a) := .exn y2 na y3
              have hl2 : X.N.length = σ.length := by
                have := hl
                simp only [onS, List.length_set] at this
                exact this.symm
              have p : Pf X.K X.mg W r st0.length H De ((noExc (h.run (a, dxa) ((blankE X.N.length).set i (some (.exn a dxa h.f d))) st)).clr i) := p
              exact ⟨r', (blankE X.N.length).set i (some (.exn a dxa h.f d)), st, ⟨S, (ev_blank hl2).set i dvx⟩, (Pf.noexcC p).fw S F⟩
            · exact (show False from p).elim
          · exact (show False from p).elim
        · exact (show False from p).elim
      · split at p
        · rename_i hin
          obtain ⟨Cy, e1, e2⟩ := hn _ hin
          have e3 := hx.1
          rw [e1] at e3
          cases e3
          exact ⟨false, e2, (fun z => by cases z), fun _ => ih De r r' st0 H H' e st _ dx hW F S hx p σ⟩
        · exact p.elim
theorem ss_tryM (hst : X.stack = X.env :: X.outer) (hfm : X.env.frame = some X.env.locals) (hN : X.N.Nodup) (tk : Takes X W) (hW : ∀ c d σ σ' H, W c d σ H → W c d σ' H)
    (hb : ∀ (W' : Wx) (pn : List (Addr × Obj)) (xe : Value → Shared → Prop), Takes (X.tr pn xe) W' → PassesOwn (model X.prog X.w) X.A X.env xe → SSs (X.tr pn xe) (clo W') body fb) (hh : HaOk X (h0 :: hds) l) :
    SS X W (.Try body (h0 :: hds) [] [] pos) (fTryM fb l) := by
  obtain ⟨m, hm, key⟩ := hh.mix (W := W)
  refine PS.impL (ps_tryM (tb := fun W' => tS X.K X.mg (clo W') fb) hst hfm hN tk hb hm) fun De σ H hl ⟨r, env, st, w, q⟩ => ?_
  refine ⟨r, env, st, w, ?_⟩
  unfold fTryM at q
  have he : env.length = X.N.length := w.ev.len.trans hl
  cases eb : fb env st with
  | nx env1 st1 => rw [eb] at q; exact q
  | bk env1 st1 => rw [eb] at q; exact q
  | ct env1 st1 => rw [eb] at q; exact q
  | rt d st1 => rw [eb] at q; exact q
  | bad => rw [eb] at q; exact q
  | exc e env1 st1 =>
    rw [eb] at q
    simp only [he] at q
    intro r' σ' H' c dx F w1 hx σ2
    exact key De r r' st H H' e st1 c dx hW F w1.sr hx q σ2
end
end L2.G4

set_option maxHeartbeats 4000000
/-! GTd: a lambda without parameters handed to a def that calls it. -/
namespace L2.G4
open PySem PySem.Spec PyProof.Rows

/-! ### names captured -/
def capt : Nat → Env → List (Nat × D)
  | _, [] => []
  | k, none :: e => capt (k + 1) e
  | k, some d :: e => (k, d) :: capt (k + 1) e
theorem capt_mem : ∀ (e : Env) (k i : Nat) (d : D), e[i]? = some (some d) → (k + i, d) ∈ capt k e
  | [], _, _, _, h => by simp at h
  | none :: e, k, 0, d, h => by simp at h
  | some x :: e, k, 0, d, h => by
    simp at h
    subst h
    exact List.mem_cons_self
  | none :: e, k, i + 1, d, h => by
    have := capt_mem e (k + 1) i d (by simpa using h)
    rw [Nat.add_right_comm] at this
    exact this
  | some x :: e, k, i + 1, d, h => by
    have := capt_mem e (k + 1) i d (by simpa using h)
    rw [Nat.add_right_comm] at this
    exact List.mem_cons_of_mem _ this
theorem capt_at : ∀ (e : Env) (k : Nat) (q : Nat × D), q ∈ capt k e → ∃ i, q.1 = k + i ∧ e[i]? = some (some q.2)
  | [], _, _, h => by cases h
  | none :: e, k, q, h => by
    obtain ⟨i, h1, h2⟩ := capt_at e (k + 1) q h
    exact ⟨i + 1, by omega, by simpa using h2⟩
  | some d :: e, k, q, h => by
    rcases List.mem_cons.mp h with rfl | h
    · exact ⟨0, rfl, rfl⟩
    · obtain ⟨i, h1, h2⟩ := capt_at e (k + 1) q h
      exact ⟨i + 1, by omega, by simpa using h2⟩
def Zp (sg : St) (js : List Nat) (vs : List V) : Prop := ∀ p ∈ js.zip vs, sg[p.1]? = some (some p.2)
section
variable {K : PySem.W.Frag} {H : Hp} {r : Rm} {n : Nat}
theorem capt_in {env : Env} {sg : St} (E : Ev_ K H r n env sg) : ∀ (cs : List (Nat × D)), (∀ q ∈ cs, env[q.1]? = some (some q.2)) → ∃ vs, DVs K H r n (cs.map (·.2)) vs ∧ Zp sg (cs.map (·.1)) vs
  | [], _ => ⟨[], .nil, fun p hp => by cases hp⟩
  | q :: cs, h => by
    obtain ⟨v, h1, h2⟩ := E.at_ q.1 q.2 (h q List.mem_cons_self)
    obtain ⟨vs, h3, h4⟩ := capt_in E cs fun x hx => h x (List.mem_cons_of_mem _ hx)
    refine ⟨v :: vs, .cons h2 h3, fun p hp => ?_⟩
    rw [List.map_cons, List.zip_cons_cons] at hp
    rcases List.mem_cons.mp hp with rfl | hp
    · exact h1
    · exact h4 p hp
theorem capt_pair : ∀ {cs : List (Nat × D)} {vs : List V} {q : Nat × D}, DVs K H r n (cs.map (·.2)) vs → q ∈ cs → ∃ v, (q.1, v) ∈ (cs.map (·.1)).zip vs ∧ DV K H r n q.2 v
  | [], _, _, _, h => by cases h
  | c :: cs, _, q, .cons a t, h => by
    rcases List.mem_cons.mp h with rfl | h
    · exact ⟨_, List.mem_cons_self, a⟩
    · obtain ⟨v, h1, h2⟩ := capt_pair t h
      exact ⟨v, List.mem_cons_of_mem _ h1, h2⟩
theorem capt_out {env : Env} {sg : St} {vs : List V} (hl : env.length = sg.length) (h : DVs K H r n ((capt 0 env).map (·.2)) vs) (z : Zp sg ((capt 0 env).map (·.1)) vs) : Ev_ K H r n env sg := by
  refine ⟨hl, fun i d e => ?_⟩
  have m := capt_mem env 0 i d e
  rw [Nat.zero_add] at m
  obtain ⟨v, h1, h2⟩ := capt_pair h m
  exact ⟨v, z _ h1, h2⟩
end
/-! ### the thunk, the callee -/
abbrev Thk := Store → Rz D
open Classical in
/-- what does not hang on the lambda's own object -/
noncomputable def indepC (G : D → Rz D) : Rz D := if ∀ f c q sg js ds, G (.fnv f c q sg js ds) = G (.fnv 0 0 "" [] [] []) then G (.fnv 0 0 "" [] [] []) else .bad
theorem indepC_of {G : D → Rz D} {y : Rz D} (h : ∀ f c q sg js ds, G (.fnv f c q sg js ds) = y) : indepC G = y := by
  unfold indepC
  rw [if_pos fun f c q sg js ds => (h f c q sg js ds).trans (h _ _ _ _ _ _).symm]
  exact h _ _ _ _ _ _
theorem indepC_po {K : PySem.W.Frag} {mg : Str → Option Value} {W : Wx} {r : Rm} {st : Store} {H : Hp} {σ : St} {Q : D → Rm → Store → Hp → Prop} {G : D → Rz D} (p : Po K mg W r st H σ Q (indepC G)) (f c : Addr) (q : Str) (sg : St) (js : List Nat) (ds : List D) : Po K mg W r st H σ Q (G (.fnv f c q sg js ds)) := by
  unfold indepC at p
  split at p
  · rename_i h
    rw [h f c q sg js ds]
    exact p
  · exact p.elim
open Classical in
noncomputable def fAct (lx : D) (th : Thk) : Fe D := fun env st => if env[0]? = some (some lx) then th st else .bad
noncomputable def runC (kn : Bool) (n : Nat) (g : D → Thk → Fs) (th : Thk) : Thk := fun st => (indepC fun lx => runFn kn 1 n (g lx th) [lx] st).noexc
def fLam (cl : Thk → Thk) (fb : Fe D) : Fe D := fun env st => cl (fb env) st
theorem Po.noex {K : PySem.W.Frag} {mg : Str → Option Value} {W W' : Wx} {r : Rm} {st : Store} {H : Hp} {σ σ' : St} {Q : D → Rm → Store → Hp → Prop} {x : Rz D} (p : Po K mg W r st H σ Q x.noexc) : Po K mg W' r st H σ' Q x := by
  cases x with
  | ok a s => exact p
  | exc e s => exact p.elim
  | bad => exact p.elim
theorem Sr.code {K : PySem.W.Frag} {r : Rm} {st : Store} {H : Hp} (S : Sr K r st H) {c : Addr} {q : Str} (h : H c = some (LamX.CodeO c q)) : (∀ i, i < st.length → r i ≠ c) ∧ ¬ r.pv c := by
  refine ⟨fun i hi z => ?_, fun z => ?_⟩
  · obtain ⟨ho, h1, _, _, h2⟩ := S.at_ hi
    rw [z, h] at h1
    cases h1
    exact h2.nc.2 c q rfl
  · obtain ⟨xs, e⟩ := S.pvA c z
    rw [h] at e
    exact ncL (c := c) (q := q) (xs := xs) (Option.some.inj e).symm
/-- the making of a lambda changes nothing that is told -/
theorem fw_lam {K : PySem.W.Frag} {r : Rm} {st : Store} {H H1 : Hp} (S : Sr K r st H) (eN : LamX.ExtN H H1) (T : LamX.Tabs (tbK K) H1) : Fw r r st.length st.length H H1 ∧ Sr K r st H1 := by
  have F : Fw r r st.length st.length H H1 := ⟨Nat.le_refl _, fun _ _ => rfl, fun i h1 h2 => absurd h2 (Nat.not_lt.mpr h1), fun a o e _ ho => eN a o e ho, rfl⟩
  refine ⟨F, S.inj, fun i o e => ?_, fun a ha => ?_, S.pvN, T⟩
  · obtain ⟨ho, h1, h2⟩ := S.obj i o e
    exact ⟨ho, eN _ _ h1 h2.nt, h2.fw S F⟩
  · obtain ⟨xs, e⟩ := S.pvA a ha
    exact ⟨xs, eN _ _ e ntL⟩
abbrev calX (X : Cx) (Ng : List Str) (x : Str) (sg : Scope) (g : Addr) (cdg : Value) (s : Shared) (H : Hp) : Cx := (cxOf C8.CX0 X.prog X.w X.K X.mg X.base Ng x sg g cdg X.A X.stack s H C8.E0).nox
/-- the parameter's call -/
def ActOk (X : Cx) (a : Str) (lx : D) (th : Thk) : Prop := ∀ (pn : List (Addr × Obj)) (xe : Value → Shared → Prop) (W' : Wx), Takes (X.tr pn xe) W' → ∀ p1 p2, SE (X.tr pn xe) (clo W') (.Call (.Name a p1) [] [] p2) (fAct lx th)
section
variable {X : Cx} {W : Wx}
theorem se_lam {x a : Str} {g c P : Addr} {k : Nat} {pg : Arguments} {bg : List Stmt} {sg : Scope} {dV kV doc pm cdv ct oc : Value} {an od : Option Addr} {osl : Array (Option Value)} {Ng : List Str} {kn : Bool} {gf : D → Thk → Fs} {fb : Fe D}
    {params : Arguments} {body : Expr} {scope : Scope} {p lpos pos : Pos} (hg : Gl X x) (hm : X.mg x = some (.ref g)) (hk : PySem.W.keepIn X.K (.ref g) = true)
    (lk : X.K.lookup g = some ⟨oc, od, .func (PySem.W.fnOf x x pg bg sg dV kV doc pm an cdv ct), osl⟩) (hcg : PySem.W.codeIn X.K cdv x = true) (hb : Binds X.K (PySem.W.fnOf x x pg bg sg dV kV doc pm an cdv ct) [a] []) (Sg : FnScope Ng [a] sg) (hNg : Ng[0]? = some a) (hva : Vis sg a)
    (hc : ∀ (s : Shared) (H : Hp) (lx : D) (th : Thk), ActOk (calX X Ng x sg g cdv s H) a lx th → SSs (calX X Ng x sg g cdv s H) W0 bg (gf lx th))
    (TB : LamX.TabB X.base X.mg c P) (hcode : X.env.code = .ref c) (hmT : (P, X.env.qual ++ "<lambda>") ∈ tbK X.K) (hu : ∀ p ∈ tbK X.K, p.1 = P → p.2 = X.env.qual ++ "<lambda>") (hr : Room (k + 2) X.A) (L : LamX.LamS X.env.scope scope) (hdef : defaultsOf params X.env = ([], []))
    (hbind : ∀ (q : Str) (cl : List (Str × Addr)) (pm cv ctv : Value), bindArgs (PySem.W.kla_fn "<lambda>" q params body scope cl pm cv ctv) ⟨[], []⟩ = pure [])
    (hl : ∀ (A : Around) (outer : List PySem.Env) (s : Shared) (H : Hp) (E : XK) (f c' : Addr), Room k (A.deeper (LamX.lamEnv X scope s.heap.objs.size f c')) → SE (LamX.lamCx X A outer s H E scope f c') (fun c dx _ H' => E c dx H') body fb)
    (hdb : (x == ("__debug__" : Str)) = false) (hd : (a == ("__debug__" : Str)) = false) (hcd : (a == ("__classdict__" : Str)) = false) :
    SE X W (.Call (.Name x p) [.Lambda params body scope lpos] [] pos) (fLam (runC kn Ng.length gf) fb) := by
  let TT : (XK → Hp → VK → Prop) → Hp → VK → Prop := fun tl H Q => ∃ (r : Rm) (st : Store) (th : Thk) (τ : St) (js : List Nat) (ds : List D) (vs : List V), Sr X.K r st H ∧ DVs X.K H r st.length ds vs ∧ js.length = ds.length ∧ Zp τ js vs ∧
    (∀ (E : XK) (H' : Hp) (Q' : VK) (r' : Rm) (st' : Store), Sr X.K r' st' H' → (∃ vs', DVs X.K H' r' st'.length ds vs' ∧ Zp τ js vs') → Po X.K X.mg (fun c dx _ H2 => E c dx H2) r' st' H' τ (Pv X.K Q') (th st') → tl E H' Q') ∧
    Po X.K X.mg W0 r st H [] (Pv X.K Q) (runC kn Ng.length gf th st)
  have hG : LamX.GivesTo X Ng x sg g cdv bg a (X.env.qual ++ "<lambda>") TT := by
    intro f c' s H Q tl act hco ⟨r, st, th, τ, js, ds, vs, S, dvs, hln, hz, link, p⟩
    have dl : DV X.K H r st.length (.fnv f c' (X.env.qual ++ "<lambda>") τ js ds) (.ref f) := .fnv hco (S.code hco) dvs hln hz
    generalize hlx : D.fnv f c' (X.env.qual ++ "<lambda>") τ js ds = lx at dl
    have hact : ActOk (calX X Ng x sg g cdv s H) a lx th := by
      intro pn xe W' tk p1 p2
      refine PE.imp (act W' pn xe (fun cls d H' => ∀ σ', W' cls d σ' H') p1 p2 tk fun cls d σ' H' h => h σ') fun σZ HZ QZ ⟨rz, env, sz, wd, pz⟩ => ?_
      unfold fAct at pz
      split at pz
      · rename_i he
        obtain ⟨v, e1, e2⟩ := wd.ev.at_ 0 lx he
        rw [← hlx] at e2
        cases e2 with
        | fnv h1 na dv2 l2 z2 =>
          refine ⟨e1, h1, link _ _ _ rz sz wd.sr ⟨_, dv2, z2⟩ ?_⟩
          cases e3 : th sz with
          | ok d s2 => rw [e3] at pz; exact pz
          | exc e s2 => rw [e3] at pz; exact pz
          | bad => rw [e3] at pz; exact pz
      · exact pz.elim
    refine ⟨_, hc s H lx th hact, r, startE Ng.length [lx], st, ⟨S, ev_start (.cons dl .nil)⟩, ?_⟩
    have p2 : Po X.K X.mg W0 r st H [] (Pv X.K Q) (runFn kn 1 Ng.length (gf lx th) [lx] st) := by
      have p1 : Po X.K X.mg W0 r st H [] (Pv X.K Q) (indepC fun lx => runFn kn 1 Ng.length (gf lx th) [lx] st) := Po.noex (W := W0) p
      have p3 := indepC_po p1 f c' (X.env.qual ++ "<lambda>") τ js ds
      rw [hlx] at p3
      exact p3
    unfold runFn at p2
    rw [if_pos (show [lx].length = 1 from rfl)] at p2
    exact Pf.of_res (E := fun _ _ _ => False) (gc_ok kn S p2)
  refine PE.imp (LamX.pe_lamcall (T := tbK X.K) (TT := TT) (t := fun E => tE X.K X.mg (fun c dx _ H' => E c dx H') fb) hg hm hk lk hcg hb Sg hNg hva hG TB hcode hmT hu hr L hdef hbind (fun A outer s H E f c' hr' => hl A outer s H E f c' hr') hdb hd hcd) fun σ H Q ⟨r, env, st, wd, p⟩ => ?_
  refine ⟨wd.sr.tab, fun H1 eN T1 => ?_⟩
  obtain ⟨F, S1⟩ := fw_lam wd.sr eN T1
  have w1 : Wd X.K r env st σ H1 := ⟨S1, wd.ev.fw wd.sr F⟩
  obtain ⟨vs, dvs, hz⟩ := capt_in w1.ev (capt 0 env) fun q hq => by
    obtain ⟨i, e1, e2⟩ := capt_at env 0 q hq
    rw [Nat.zero_add] at e1
    rw [e1]
    exact e2
  refine ⟨r, st, fb env, σ, (capt 0 env).map (·.1), (capt 0 env).map (·.2), vs, S1, dvs, by rw [List.length_map, List.length_map], hz, fun E H' Q' r' st' S' ⟨vs', d', z'⟩ p' => ⟨r', env, st', ⟨S', capt_out wd.ev.len d' z'⟩, ?_⟩, ?_⟩
  · exact p'
  · have p1 : Po X.K X.mg W r st H1 σ (Pv X.K Q) (runC kn Ng.length gf (fb env) st) := Po.fw S1 F p
    unfold runC at p1 ⊢
    cases e : (indepC fun lx => runFn kn 1 Ng.length (gf lx (fb env)) [lx] st) with
    | ok d s2 => rw [e] at p1; exact p1
    | exc e2 s2 => rw [e] at p1; exact p1.elim
    | bad => rw [e] at p1; exact p1.elim
end
end L2.G4

set_option maxHeartbeats 4000000
/-! GU: facts about the shape of written code, told by Bools. -/
namespace L2.G4
open PySem PySem.Spec PyProof.Rows

def nst : Expr → Bool
  | .Starred .. => false
  | _ => true
def nsl (es : List Expr) : Bool := es.all nst
theorem starE {e : Expr} (h : nst e = true) (es : List Expr) (env : PySem.Env) : starEach (e :: es) env = (false, eval e env) :: starEach es env := by
  cases e <;> first | rfl | cases h
theorem asgE {e : Expr} (h : nst e = true) (es : List Expr) (env : PySem.Env) : assignEach (e :: es) env = (false, assign e env) :: assignEach es env := by
  cases e <;> first | rfl | cases h
theorem nsl_cons {e : Expr} {es : List Expr} (h : nsl (e :: es) = true) : nst e = true ∧ nsl es = true := by
  unfold nsl at h ⊢
  simpa only [List.all_cons, Bool.and_eq_true] using h
theorem star_any {pos : Pos} {env : PySem.Env} : ∀ {es : List Expr}, nsl es = true → (backTo pos (starEach es env)).any (·.1) = false
  | [], _ => rfl
  | e :: es, h => by
    obtain ⟨h1, h2⟩ := nsl_cons h
    rw [starE h1]
    show (false || (backTo pos (starEach es env)).any (·.1)) = false
    rw [star_any h2]
    rfl
theorem star_all {pos : Pos} {env : PySem.Env} : ∀ {es : List Expr}, nsl es = true → ((backTo pos (starEach es env)).all fun x => !x.fst) = true
  | [], _ => rfl
  | e :: es, h => by
    obtain ⟨h1, h2⟩ := nsl_cons h
    rw [starE h1]
    show (true && ((backTo pos (starEach es env)).all fun x => !x.fst)) = true
    rw [star_all h2]
    rfl
theorem asg_len {env : PySem.Env} : ∀ {es : List Expr}, nsl es = true → (assignEach es env).length = es.length
  | [], _ => rfl
  | e :: es, h => by
    obtain ⟨h1, h2⟩ := nsl_cons h
    rw [asgE h1, List.length_cons, asg_len h2, List.length_cons]
theorem asg_idx {env : PySem.Env} : ∀ {es : List Expr}, nsl es = true → (assignEach es env).findIdx? (·.1) = none
  | [], _ => rfl
  | e :: es, h => by
    obtain ⟨h1, h2⟩ := nsl_cons h
    rw [asgE h1, List.findIdx?_cons, asg_idx h2]
    rfl
/-- no display of a set, no comprehension, no tuple, no slice, no call -/
def noSet : Expr → Bool
  | .Set .. => false
  | _ => true
def noCmp : Expr → Bool
  | .ListComp .. => false
  | .SetComp .. => false
  | .DictComp .. => false
  | _ => true
def noTup : Expr → Bool
  | .Tuple .. => false
  | _ => true
def noSl : Expr → Bool
  | .Slice .. => false
  | _ => true
def noCall : Expr → Bool
  | .Call .. => false
  | _ => true
theorem marks_no {op : CmpOp} {e : Expr} (h : noSet e = true) : behindInMarks op e = false := by cases e <;> first | rfl | cases h
theorem fold_no {e : Expr} (h : noSet e = true) (env : PySem.Env) (x : Value) : foldedSetIterable e env x = pure x := by cases e <;> first | rfl | cases h
theorem sw_no {e : Expr} (h : noCmp e = true) (t : Option Expr) (l : Nat) (env : PySem.Env) : swapsWith e t l env = pure false := by cases e <;> first | rfl | cases h
theorem sws_no {e t : Expr} (h : noCmp e = true) (l : Nat) (env : PySem.Env) : swapsWithSole [t] e l env = pure false := sw_no h _ l env
theorem plain_no {e : Expr} (h : noSl e = true) : PlainIx e := by
  intro o i
  cases e <;> first | rfl | cases h
theorem base_no {o : Expr} (h : noCall o = true) (m : Str) (env : PySem.Env) : attributeBase o m env (eval o env) = eval o env := by cases o <;> first | rfl | cases h
theorem sto_no {o i : Expr} {p : Pos} {env : PySem.Env} (h : noSl i = true) (v : Value) : assign (.Subscript o i p) env v = (do
      let ov ← holding [v] (eval o env)
      let iv ← holding [v, ov] (eval i env)
      standAt p
      holding [v, ov, iv] (setItem ov iv v)
      release [v, ov, iv] []) := by cases i <;> first | rfl | cases h
def notTL : Expr → Bool
  | .Tuple .. => false
  | .List .. => false
  | _ => true
theorem sto_none_v {t e : Expr} (h : noTup e = true) (env : PySem.Env) : swappedStores [t] e env = pure none := by
  cases e <;> first | (cases t <;> rfl) | cases h
theorem sto_none_t {t e : Expr} (h : notTL t = true) (env : PySem.Env) : swappedStores [t] e env = pure none := by
  cases t <;> first | (cases e <;> rfl) | cases h
/-- a test that is the value's truth -/
def plT : Expr → Bool
  | .UnaryOp .Not _ _ => false
  | .BoolOp .. => false
  | .IfExp .. => false
  | .Compare .. => false
  | _ => true
theorem plT_of {e : Expr} (h : plT e = true) (env : PySem.Env) (whole : Sem Value) : isTrue e env whole = (do let v ← whole; standAt e.pos; holding [v] (truthy v)) := by
  cases e with
  | UnaryOp op x p => cases op <;> first | rfl | cases h
  | _ => first | rfl | cases h
/-- the assignment of a comprehension stores in its own way -/
def swB (sc : Scope) (e : Expr) (t : Str) (tp : Pos) : Bool := match e with
  | .ListComp _ _ s _ => decide (sc.names.lookup t = some .local) && tp.line == e.pos.line && !(s.names.any fun (n, k) => n == t && (k == .local || k == .cell))
  | _ => false
theorem swB_lc {elt : Expr} {gs : List Comprehension} {s : Scope} {pos tp : Pos} {t : Str} {l : Nat} {env : PySem.Env} (hk : env.scope.kind = .function) :
    swapsWith (.ListComp elt gs s pos) (some (.Name t tp)) l env = pure (swB env.scope (.ListComp elt gs s pos) t tp) := by
  have hb : env.blockKind = .function := by
    unfold PySem.Env.blockKind
    rw [hk]; rfl
  have ky : env.kindOf t = env.scope.names.lookup t := rfl
  unfold swapsWith swB
  simp only [hb, ky]
  by_cases q : env.scope.names.lookup t = some .local
  · simp [q]
  · have q' : (env.scope.names.lookup t == some .local) = false := by simpa using q
    rw [q']
    simp [q]
/-! ### tuples stored item by item -/
/-- names local, on one line -/
def nmf (sc : Scope) (line : Nat) : Expr → Option Str
  | .Name id pos => if sc.names.lookup id == some .local && pos.line == line then some id else none
  | _ => none
def isSt : Expr → Bool
  | .Starred .. => true
  | _ => false
def lnOf (ts : List Expr) : Nat := (ts.head?.map (·.pos.line)).getD 0
def swN (sc : Scope) (ts : List Expr) (vs : List Expr) (names : List Str) : Bool :=
  (ts.length == 2 || ts.length == 3) && vs.length == ts.length && !(vs.any isSt) && decide (ts.filterMap (nmf sc (lnOf ts)) = names) && names.length == ts.length && names.eraseDups.length == names.length && !(vs.all (foldedForSure 8)) && !(vs.all (constantsAlone 8))
theorem swN_ok {ts vs : List Expr} {names : List Str} {k k2 : Nat} {p p2 : Pos} {env : PySem.Env} (hk : env.scope.kind = .function) (h : swN env.scope ts vs names = true) :
    swappedStores [.Tuple ts k p] (.Tuple vs k2 p2) env = pure (some names) := by
  have hb : env.blockKind = .function := by
    unfold PySem.Env.blockKind
    rw [hk]; rfl
  unfold swN at h
  simp only [Bool.and_eq_true, Bool.not_eq_true', beq_iff_eq, decide_eq_true_eq] at h
  obtain ⟨⟨⟨⟨⟨⟨⟨h1, h2⟩, h3⟩, h4⟩, h5⟩, h6⟩, h7⟩, h8⟩ := h
  have hs : swappedStores [.Tuple ts k p] (.Tuple vs k2 p2) env = (if (!(ts.length == 2 || ts.length == 3) || vs.length != ts.length || env.blockKind != .function) = true then pure none
      else if vs.any isSt = true then pure none
      else if ((ts.filterMap (nmf env.scope (lnOf ts))).length != ts.length || (ts.filterMap (nmf env.scope (lnOf ts))).eraseDups.length != (ts.filterMap (nmf env.scope (lnOf ts))).length) = true then pure none
      else if vs.all (foldedForSure 8) = true then pure none
      else if vs.all (constantsAlone 8) = true then (do
        unsupported "assign.tuple-of-constant-expressions:order-of-the-stores"
        pure (some (ts.filterMap (nmf env.scope (lnOf ts)))))
      else pure (some (ts.filterMap (nmf env.scope (lnOf ts))))) := rfl
  rw [hs, hb, h4, h7, h8]
  simp [h1, h2, h3, h5, h6]
def swF (sc : Scope) (ts vs : List Expr) : Bool :=
  !(ts.length == 2 || ts.length == 3) || vs.length != ts.length || vs.any isSt || (ts.filterMap (nmf sc (lnOf ts))).length != ts.length || vs.all (foldedForSure 8)
theorem swF_ok {ts vs : List Expr} {k k2 : Nat} {p p2 : Pos} {env : PySem.Env} (hk : env.scope.kind = .function) (h : swF env.scope ts vs = true) : swappedStores [.Tuple ts k p] (.Tuple vs k2 p2) env = pure none := by
  have hb : env.blockKind = .function := by
    unfold PySem.Env.blockKind
    rw [hk]; rfl
  have hs : swappedStores [.Tuple ts k p] (.Tuple vs k2 p2) env = (if (!(ts.length == 2 || ts.length == 3) || vs.length != ts.length || env.blockKind != .function) = true then pure none
      else if vs.any isSt = true then pure none
      else if ((ts.filterMap (nmf env.scope (lnOf ts))).length != ts.length || (ts.filterMap (nmf env.scope (lnOf ts))).eraseDups.length != (ts.filterMap (nmf env.scope (lnOf ts))).length) = true then pure none
      else if vs.all (foldedForSure 8) = true then pure none
      else if vs.all (constantsAlone 8) = true then (do
        unsupported "assign.tuple-of-constant-expressions:order-of-the-stores"
        pure (some (ts.filterMap (nmf env.scope (lnOf ts)))))
      else pure (some (ts.filterMap (nmf env.scope (lnOf ts))))) := rfl
  rw [hs]
  unfold swF at h
  by_cases a1 : (!(ts.length == 2 || ts.length == 3) || vs.length != ts.length || env.blockKind != .function) = true
  · rw [if_pos a1]
  rw [if_neg a1]
  by_cases a2 : vs.any isSt = true
  · rw [if_pos a2]
  rw [if_neg a2]
  by_cases a3 : ((ts.filterMap (nmf env.scope (lnOf ts))).length != ts.length || (ts.filterMap (nmf env.scope (lnOf ts))).eraseDups.length != (ts.filterMap (nmf env.scope (lnOf ts))).length) = true
  · rw [if_pos a3]
  rw [if_neg a3]
  by_cases a4 : vs.all (foldedForSure 8) = true
  · rw [if_pos a4]
  exfalso
  simp only [Bool.or_eq_true, not_or] at a1 a3 h
  rcases h with (((h | h) | h) | h) | h
  · exact a1.1.1 h
  · exact a1.1.2 h
  · exact a2 h
  · exact a3.1 h
  · exact a4 h
/-- a test that is a choice -/
def tIte (c a b : TT) : TT := fun σ H Q => c σ H fun k H1 => if k = true then a σ H1 Q else b σ H1 Q
theorem pt_ite {X : Cx} {c a b : Expr} {pos : Pos} {tc ta tb : TT} (hc : PT X c tc) (ha : PT X a ta) (hb : PT X b tb) : PT X (.IfExp c a b pos) (tIte tc ta tb) := by
  refine ⟨fun pins s σ H Q I h => ?_⟩
  show wpAny _ _ (isTrue c X.env (eval c X.env) >>= fun k => if k = true then isTrue a X.env (eval a X.env) else isTrue b X.env (eval b X.env)) _ _ s
  refine wpAny_bind (thn (hc.run pins s σ H _ I h) fun k s1 ⟨H1, I1, q1⟩ => ?_)
  cases k with
  | true => exact ha.run pins s1 σ H1 Q I1 q1
  | false => exact hb.run pins s1 σ H1 Q I1 q1
end L2.G4

set_option maxHeartbeats 4000000
/-! GV: a compact form of the code, what it means, and the check that it is the code. -/
namespace L2.G4
open PySem PySem.Spec PyProof.Rows

inductive CE where
  | bad | nil | cons (a t : CE)
  | var (i : Nat) | con (d : D) | gc (k : Nat)
  | bin (op : Operator) (a b : CE) | cmp (op : CmpOp) (a b : CE) | cmp2 (op op2 : CmpOp) (a b c : CE)
  | neg (a : CE) | not (a : CE) | one (a : CE) | and (a b : CE) | or (a b : CE) | ife (c a b : CE)
  | tup (t : CE) | lst (kn : Bool) (t : CE) | dic0 | dct0 | dsp1 (kn : Bool) (a b : CE) | rev (a : CE) | lof (t : CE) | opN (op : Operator) (a b : CE)
  | idx (a b : CE) | slc (a lo hi : CE)
  | blt (b : Blt) (t : CE) | isi (T : String) (a : CE) | mmd (mx : Bool) (a d : CE) | mth (m : Mth) (o t : CE) | call (i : Nat) (t : CE) | callD (i : Nat) (l : List Int) (t : CE) | lrng (kn : Bool) (a : CE)
  | lc (kn : Bool) (src tg c el : CE) (own : List (Str × Nat))
  | lc2 (kn : Bool) (src tg c src1 tg1 c1 el : CE) (own : List (Str × Nat)) (vs1 : List Nat)
  | rng1 (a : CE) | rng2 (a b : CE) | enum (a : CE) | zip (a b : CE)
  | skip | brk | cnt | retN | ret (a : CE) | drop (a : CE) | asg (t a : CE) | setlc (i : Nat) (kn : Bool) (src tg c el : CE) (own : List (Str × Nat))
  | par (i j : Nat) (t : CE) | par3 (i j l : Nat) (t : CE) | sto (o i a : CE) | aug (op : Operator) (i : Nat) (a : CE)
  | ifs (c s t : CE) | for_ (src t s : CE) | while_ (c s : CE)
  | fld (f : Str) (a : CE) | rai (x f : Str) (a : CE) | rais (x : Str) | tryA (x f : Str) (i : Nat) (b s : CE)
  | hnd (x : Str) (yes no : List Str) (f : Str) (oi : Option Nat) (s r : CE) | tryM (b hs : CE) | clam (i : Nat) (b : CE) | act

/-- what the defs compute, the module's constants, the turns allowed -/
structure Lm where
  cl : Nat → Thk → Thk := fun _ _ _ => .bad
  lf : Nat → PFn := fun _ _ _ => .bad
  th : Thk := fun _ => .bad
  lx : D := .non
structure Sm where
  fn : Nat → PFn
  cs : Nat → D
  wf : Nat
  sx : Addr × Addr := (0, 0)
  lm : Lm := {}

structure Dn where
  e : Fe D := fun _ _ => .bad
  a : Fe (List D) := fun _ _ => .bad
  i : Fe Src := fun _ _ => .bad
  o : Fe (Option Int) := fun _ _ => .bad
  t : Tg := fun _ _ => none
  ts : Tgs := fun _ _ => none
  c : Fe Bool := fun _ _ => .bad
  s : Fs := fun _ _ => .bad
  h : List Ha := []
def Dn.ex (f : Fe D) : Dn := { e := f, i := fSrc f, o := fPart f, c := fTru f }
def fNeg (a : Fe D) : Fe D := fUn (fun d st => match d with | .int i => .ok (.int (-i)) st | _ => .bad) a
def gdTupN (n : Nat) (t : Tgs) : Tg := fun d env => match d with
    | .tup ds => if ds.length = n then t ds env else none
    | _ => none
def clen : CE → Nat
  | .cons _ t => clen t + 1
  | _ => 0
noncomputable def den (S : Sm) : CE → Dn
  | .bad => {}
  | .nil => { a := fNil, o := fNoPart, ts := gdNil, c := fYes, s := fSkip }
  | .cons a t => { a := fCons (den S a).e (den S t).a, ts := gdCons (den S a).t (den S t).ts, s := fSeq (den S a).s (den S t).s }
  | .var i => { Dn.ex (fVar i) with t := gdName i }
  | .con d => .ex (fCon d)
  | .gc k => .ex (fCon (S.cs k))
  | .bin op a b => .ex (fBin (binD op) (den S a).e (den S b).e)
  | .cmp op a b => .ex (fBin (cmpD op) (den S a).e (den S b).e)
  | .cmp2 op op2 a b c => .ex (fCmp2 (cmpD op) (cmpD op2) (den S a).e (den S b).e (den S c).e)
  | .neg a => .ex (fNeg (den S a).e)
  | .not a => .ex (fNotV (den S a).e)
  | .one a => .ex (den S a).e
  | .and a b => .ex (fAndV (den S a).e (den S b).e)
  | .or a b => .ex (fOrV (den S a).e (den S b).e)
  | .ife c a b => .ex (fIf (fTru (den S c).e) (den S a).e (den S b).e)
  | .tup t => { Dn.ex (fTup (den S t).a) with t := gdTupN (clen t) (den S t).ts }
  | .lst kn t => .ex (if kn = true then fNew (den S t).a else fLst (den S t).a)
  | .dic0 => .ex fNewD
  | .dct0 => .ex fDct0
  | .dsp1 kn a b => .ex (if kn = true then fDsp1 (den S a).e (den S b).e else fDspD (den S a).e (den S b).e)
  | .rev a => .ex (fUn revD (den S a).e)
  | .lof t => .ex (fArgs lofD (den S t).a)
  | .opN op a b => .ex (fBin (binN op) (den S a).e (den S b).e)
  | .idx a b => .ex (fBin idxD (den S a).e (den S b).e)
  | .slc a lo hi => .ex (fSlc (den S a).e (den S lo).o (den S hi).o)
  | .blt b t => .ex (fArgs (bltD b) (den S t).a)
  | .isi T a => .ex (fUn (isiD T) (den S a).e)
  | .mmd mx a d => .ex (fMmD mx (den S a).e (den S d).e)
  | .mth m o t => .ex (fMth m (den S o).e (den S t).a)
  | .call i t => .ex (fArgs (S.fn i) (den S t).a)
  | .callD i l t => .ex (fArgs (fun ds st => S.fn i (ds ++ l.map D.int) st) (den S t).a)
  | .lrng kn a => .ex (fLrng kn (den S a).e)
  | .lc kn src tg c el own => .ex (fLc kn (den S src).i (den S tg).t (den S c).c (den S el).e (own.map (·.2)))
  | .lc2 kn src tg c src1 tg1 c1 el own vs1 => .ex (fLc2 kn (den S src).i (den S tg).t (den S c).c (den S src1).i (den S tg1).t (den S c1).c (den S el).e (own.map (·.2)) vs1)
  | .rng1 a => { i := fRng1 (den S a).e }
  | .rng2 a b => { i := fRng2 (den S a).e (den S b).e }
  | .enum a => { i := fEnum (den S a).e }
  | .zip a b => { i := fZip (den S a).e (den S b).e }
  | .skip => { s := fSkip }
  | .brk => { s := fBrk }
  | .cnt => { s := fCnt }
  | .retN => { s := fRetN }
  | .ret a => { s := fRet (den S a).e }
  | .drop a => { s := fDrop (den S a).e }
  | .asg t a => { s := fAsg (den S a).e (den S t).t }
  | .setlc i kn src tg c el own => { s := fAsg (fLc kn (den S src).i (den S tg).t (den S c).c (den S el).e (own.map (·.2))) (gdName i) }
  | .par i j t => { s := fPar i j (den S t).a }
  | .par3 i j l t => { s := fPar3 i j l (den S t).a }
  | .sto o i a => { s := fSto (den S o).e (den S i).e (den S a).e }
  | .aug op i a => { s := fAug op i (den S a).e }
  | .ifs c s t => { s := fIfS (fTru (den S c).e) (den S s).s (den S t).s }
  | .for_ src t s => { s := fFor (den S src).i (den S t).t (den S s).s }
  | .while_ c s => { s := whGo (fTru (den S c).e) (den S s).s S.wf }
  | .fld f a => .ex (fFld S.sx f (den S a).e)
  | .rai x f a => { s := fRai x f (den S a).e }
  | .rais x => { s := fRais x }
  | .tryA x f i b s => { s := fTryA x f i (den S b).s fun q env st => noExc ((den { S with sx := q } s).s env st) }
  | .hnd _ yes no f oi s r => { h := ⟨yes, no, f, oi, fun q => (den { S with sx := q } s).s⟩ :: (den S r).h }
  | .tryM b hs => { s := fTryM (den S b).s (den S hs).h }
  | .clam i b => .ex (fLam (S.lm.cl i) (den { S with fn := S.lm.lf, lm := {} } b).e)
  | .act => .ex (fAct S.lm.lx S.lm.th)

/-! ### the check -/
structure SC where
  N : List Str
  sc : Scope
  cl : List Str
  cm : Bool
  ef : Str
  gd : Bool := true
  tl : Bool := false
  ac : Nat := 0
  lq : Bool := false
  xa : Bool := false
structure Gx where
  fns : List (Nat × Str)
  cst : List (Nat × Str)
  bns : List Str
  exi : List (Str × Str) := []
  ext : List Str := []
  pl : List Nat := []
  clo : List (Nat × Str) := []
  exm : List (Str × Str × Bool) := []
  dfs : List (Nat × List Int) := []
def dfl (G : Gx) (i : Nat) : List D := ((G.dfs.lookup i).getD []).map D.int
structure Ck where
  e : SC → Expr → Bool := fun _ _ => false
  b : SC → Expr → Bool := fun _ _ => false
  w : SC → Expr → Bool := fun _ _ => false
  a : SC → List Expr → Bool := fun _ _ => false
  i : SC → Expr → Expr → Bool := fun _ _ _ => false
  o : SC → Option Expr → Bool := fun _ _ => false
  t : SC → Expr → Bool := fun _ _ => false
  ts : SC → List Expr → Bool := fun _ _ => false
  c : SC → List Expr → Bool := fun _ _ => false
  s : SC → Stmt → Bool := fun _ _ => false
  ss : SC → List Stmt → Bool := fun _ _ => false
  h : SC → List ExceptHandler → Bool := fun _ _ => false
def onSome (f : SC → Expr → Bool) : SC → Option Expr → Bool := fun C o => match o with
    | some e => f C e
    | none => false
def onOne {A : Type} (f : SC → A → Bool) : SC → List A → Bool := fun C es => match es with
    | [e] => f C e
    | _ => false
def onCons {A : Type} (f : SC → A → Bool) (g : SC → List A → Bool) : SC → List A → Bool := fun C es => match es with
    | e :: r => f C e && g C r
    | [] => false
def Ck.mk2 (f b : SC → Expr → Bool) : Ck := { e := f, b := b, i := fun C _ e => f C e, o := onSome f, c := onOne b }
def Ck.ex (f : SC → Expr → Bool) : Ck := .mk2 f fun C e => plT e && f C e
def visB (sc : Scope) (x : Str) : Bool := match sc.names.lookup x with
  | some .local => true
  | some .cell => true
  | some .free => true
  | _ => false
def locB (C : SC) (x : Str) : Bool := match C.sc.names.lookup x with
  | some .local => true
  | some .cell => C.cl.contains x
  | _ => false
def okN (x : Str) : Bool := !(x == ("__debug__" : Str)) && !(x == ("__classdict__" : Str)) && !(x == ("__name__" : Str))
def glB (C : SC) (x : Str) : Bool := decide (C.sc.names.lookup x = some .globalImplicit) && okN x
def bnB (G : Gx) (C : SC) (x : Str) : Bool := glB C x && G.bns.contains x
def bltNm : Blt → String
  | .len => "len" | .abs => "abs" | .max => "max" | .min => "min" | .int => "int" | .bool => "bool" | .str => "str"
  | .sum => "sum" | .sorted => "sorted" | .tuple => "tuple" | .list => "list" | .all => "all" | .any => "any" | .repr => "repr"
def tyNms : List String := ["int", "bool", "str", "tuple", "list", "dict", "bytes"]
def mthNm : Mth → String
  | .append => "append" | .extend => "extend" | .pop => "pop"
def conB (d : D) (c : Const) : Bool := match d, c with
  | .int i, .int j => i == j
  | .bl i, .bool j => i == j
  | .str x, .str y => decide (x = y)
  | .non, .none => true
  | _, _ => false
def SC.blk (C : SC) (scope : Scope) : SC := ⟨C.N, relS scope C.sc, C.N.filter fun x => scope.names.lookup x == some .cell, C.cm, C.ef, C.gd, false, 0, false, false⟩
def noPar (p : Arguments) : Bool := p.posonlyargs.isEmpty && p.args.isEmpty && p.vararg.isNone && p.kwonlyargs.isEmpty && p.kw_defaults.isEmpty && p.kwarg.isNone && p.defaults.isEmpty
def asB (C : SC) (nm : Option Str) (oi : Option Nat) : Bool := match nm, oi with
  | none, none => true
  | some n, some i => decide (C.N[i]? = some n) && decide (C.sc.names.lookup n = some .local)
  | _, _ => false
def tsl : CE → List Nat
  | .var i => [i]
  | .cons a t => tsl a ++ tsl t
  | .tup t => tsl t
  | _ => []
def fnB (C : SC) : Bool := decide (C.sc.kind = .function)
/-- the assignment stores in the plain way -/
def nsw (C : SC) (e : Expr) (x : Str) (xp : Pos) : Bool := noCmp e || (match e with
  | .ListComp .. => fnB C && !(swB C.sc e x xp)
  | _ => false)
def chk (G : Gx) : CE → Ck
  | .bad => { e := fun _ _ => true, s := fun _ _ => true, ss := fun _ _ => true }
  | .nil => { a := fun _ es => es.isEmpty, o := fun _ o => o.isNone, ts := fun _ es => es.isEmpty, c := fun _ es => es.isEmpty, ss := fun _ es => es.isEmpty, h := fun _ ks => ks.isEmpty }
  | .cons a t => { a := onCons (fun C e => nst e && (chk G a).e C e) (chk G t).a, ts := onCons (fun C e => nst e && (chk G a).t C e) (chk G t).ts, ss := onCons (chk G a).s (chk G t).ss }
  | .var i => { Ck.ex (fun C e => match e with
      | .Name x _ => decide (C.N[i]? = some x) && visB C.sc x && okN x
      | _ => false) with t := fun C e => match e with
      | .Name x _ => decide (C.N[i]? = some x) && locB C x
      | _ => false }
  | .con d => .ex fun C e => match e with
      | .Constant c _ _ => conB d c
      | _ => false
  | .gc k => .ex fun C e => match e with
      | .Name x _ => glB C x && decide (G.cst.lookup k = some x)
      | _ => false
  | .bin op a b => .ex fun C e => match e with
      | .BinOp x o y _ => decide (o = op) && (chk G a).e C x && (chk G b).e C y
      | _ => false
  | .cmp op a b => .mk2 (fun C e => match e with
      | .Compare x [o] [y] _ => decide (o = op) && (chk G a).e C x && (chk G b).e C y && noSet y
      | _ => false) (fun C e => match e with
      | .Compare x [o] [y] _ => decide (o = op) && (chk G a).e C x && (chk G b).e C y && noSet y
      | _ => false)
  | .cmp2 op op2 a b c => .mk2 (fun C e => match e with
      | .Compare x [o, o2] [y, z] _ => decide (o = op) && decide (o2 = op2) && (chk G a).e C x && (chk G b).e C y && (chk G c).e C z && noSet z
      | _ => false) (fun C e => match e with
      | .Compare x [o, o2] [y, z] _ => decide (o = op) && decide (o2 = op2) && (chk G a).e C x && (chk G b).e C y && (chk G c).e C z && noSet z
      | _ => false)
  | .neg a => .ex fun C e => match e with
      | .UnaryOp .USub x _ => (chk G a).e C x
      | _ => false
  | .not a => .mk2 (fun C e => match e with
      | .UnaryOp .Not x _ => (chk G a).e C x
      | _ => false) (fun C e => match e with
      | .UnaryOp .Not x _ => (chk G a).b C x
      | _ => false)
  | .one a => { Ck.mk2 (fun C e => match e with
      | .BoolOp _ [x] _ => (chk G a).e C x
      | _ => false) (fun C e => match e with
      | .BoolOp _ [x] _ => (chk G a).b C x
      | _ => false) with w := fun C e => match e with
      | .BoolOp _ [x] _ => (chk G a).b C x
      | _ => false }
  | .and a b => { Ck.mk2 (fun C e => match e with
      | .BoolOp .And (x :: y :: r) p => (chk G a).e C x && (chk G b).e C (.BoolOp .And (y :: r) p)
      | _ => false) (fun C e => match e with
      | .BoolOp .And (x :: y :: r) p => (chk G a).b C x && (chk G b).w C (.BoolOp .And (y :: r) p)
      | _ => false) with w := fun C e => match e with
      | .BoolOp .And (x :: y :: r) p => (chk G a).b C x && (chk G b).w C (.BoolOp .And (y :: r) p)
      | _ => false }
  | .or a b => { Ck.mk2 (fun C e => match e with
      | .BoolOp .Or (x :: y :: r) p => (chk G a).e C x && (chk G b).e C (.BoolOp .Or (y :: r) p)
      | _ => false) (fun C e => match e with
      | .BoolOp .Or (x :: y :: r) p => (chk G a).b C x && (chk G b).w C (.BoolOp .Or (y :: r) p)
      | _ => false) with w := fun C e => match e with
      | .BoolOp .Or (x :: y :: r) p => (chk G a).b C x && (chk G b).w C (.BoolOp .Or (y :: r) p)
      | _ => false }
  | .ife c a b => .mk2 (fun C e => match e with
      | .IfExp z x y _ => (chk G c).b C z && (chk G a).e C x && (chk G b).e C y
      | _ => false) (fun C e => match e with
      | .IfExp z x y _ => (chk G c).b C z && (chk G a).b C x && (chk G b).b C y
      | _ => false)
  | .tup t => { Ck.ex (fun C e => match e with
      | .Tuple es _ _ => (chk G t).a C es
      | _ => false) with t := fun C e => match e with
      | .Tuple es _ _ => C.cm && (nsl es && decide (es.length = clen t) && (chk G t).ts C es)
      | _ => false }
  | .lst kn t => .ex fun C e => match e with
      | .List es _ => (chk G t).a C es
      | _ => false
  | .dic0 => .ex fun C e => match e with
      | .Dict [] [] _ => true
      | _ => false
  | .dct0 => .ex fun C e => match e with
      | .Dict [] [] _ => true
      | _ => false
  | .dsp1 kn a b => .ex fun C e => match e with
      | .Dict [some x] [y] _ => (chk G a).e C x && (chk G b).e C y
      | _ => false
  | .rev a => .ex fun C e => match e with
      | .Subscript x (.Slice none none (some (.UnaryOp .USub (.Constant (.int i) _ _) _)) _) _ => decide (i = 1) && (chk G a).e C x
      | _ => false
  | .lof t => .ex fun C e => match e with
      | .Call (.Name x _) (y :: r) [] _ => bnB G C x && decide (x = Str.ofString "list") && nsl (y :: r) && (chk G t).a C (y :: r)
      | _ => false
  | .opN op a b => .ex fun C e => match e with
      | .BinOp x o y _ => decide (o = op) && ((chk G a).e C x && (chk G b).e C y)
      | _ => false
  | .idx a b => .ex fun C e => match e with
      | .Subscript x y _ => noSl y && (chk G a).e C x && (chk G b).e C y
      | _ => false
  | .slc a lo hi => .ex fun C e => match e with
      | .Subscript x (.Slice l h none _) _ => (chk G a).e C x && (chk G lo).o C l && (chk G hi).o C h
      | _ => false
  | .blt b t => .ex fun C e => match e with
      | .Call (.Name x _) (y :: r) [] _ => (C.cm || decide (b = .repr)) && (C.gd || !decide (b = .repr)) && (bnB G C x && decide (x = Str.ofString (bltNm b)) && nsl (y :: r) && (chk G t).a C (y :: r))
      | _ => false
  | .isi T a => .ex fun C e => match e with
      | .Call (.Name x _) [y, .Name z _] [] _ => bnB G C x && decide (x = Str.ofString "isinstance") && bnB G C z && decide (z = Str.ofString T) && tyNms.contains T && nst y && (chk G a).e C y
      | _ => false
  | .mmd mx a d => .ex fun C e => match e with
      | .Call (.Name x _) [y] [⟨some k, z, _⟩] _ => C.cm && (bnB G C x && decide (x = Str.ofString (if mx then "max" else "min")) && decide (k = Str.ofString "default") && nst y && (chk G a).e C y && (chk G d).e C z)
      | _ => false
  | .mth m o t => .ex fun C e => match e with
      | .Call (.Attribute x nm ap) (y :: r) [] cp => decide (nm = Str.ofString (mthNm m)) && noCall x && (ap.endLine == cp.line) && nsl (y :: r) && decide ((y :: r).length < 29) && (chk G o).e C x && (chk G t).a C (y :: r)
      | .Call (.Attribute x nm ap) [] [] cp => decide (nm = Str.ofString (mthNm m)) && noCall x && (ap.endLine == cp.line) && (chk G o).e C x && (match t with | .nil => true | _ => false)
      | _ => false
  | .call i t => .ex fun C e => match e with
      | .Call (.Name x _) (y :: r) [] _ => C.cm && (C.gd || G.pl.contains i) && (glB C x && decide (G.fns.lookup i = some x) && nsl (y :: r) && (chk G t).a C (y :: r) && (G.dfs.lookup i).isNone)
      | .Call (.Name x _) [] [] _ => C.cm && (C.gd || G.pl.contains i) && (glB C x && decide (G.fns.lookup i = some x) && (match t with | .nil => true | _ => false) && (G.dfs.lookup i).isNone)
      | _ => false
  | .callD i l t => .ex fun C e => match e with
      | .Call (.Name x _) (y :: r) [] _ => C.cm && (C.gd || G.pl.contains i) && (glB C x && decide (G.fns.lookup i = some x) && nsl (y :: r) && (chk G t).a C (y :: r) && decide (G.dfs.lookup i = some l))
      | _ => false
  | .lrng kn a => .ex fun C e => match e with
      | .Call (.Name x _) [.Call (.Name z _) [y] [] _] [] _ => C.cm && (bnB G C x && decide (x = Str.ofString "list") && bnB G C z && decide (z = Str.ofString "range") && nst y && (chk G a).e C y)
      | _ => false
  | .lc kn src tg c el own => .ex fun C e => match e with
      | .ListComp elt [⟨g, it, ifs, 0⟩] scope _ => C.cm && (blkC C.N C.sc scope own && noSet it && (chk G src).i C g it && (tsl tg).all (fun i => (own.map (·.2)).contains i) && (chk G tg).t (C.blk scope) g && (chk G c).c (C.blk scope) ifs && (chk G el).e (C.blk scope) elt)
      | _ => false
  | .lc2 kn src tg c src1 tg1 c1 el own vs1 => .ex fun C e => match e with
      | .ListComp elt [⟨g, it, ifs, 0⟩, ⟨g1, it1, ifs1, 0⟩] scope _ => C.cm && (blkC C.N C.sc scope own && noSet it && (chk G src).i C g it && (tsl tg).all (fun i => (own.map (·.2)).contains i) && (chk G tg).t (C.blk scope) g && (chk G c).c (C.blk scope) ifs && (chk G el).e (C.blk scope) elt &&
          (tsl tg1).all (fun i => vs1.contains i) && vs1.all (fun i => (own.map (·.2)).contains i) && noSet it1 && (chk G src1).i (C.blk scope) g1 it1 && (chk G tg1).t (C.blk scope) g1 && (chk G c1).c (C.blk scope) ifs1)
      | _ => false
  | .rng1 a => { i := fun C _ e => match e with
      | .Call (.Name x _) [y] [] _ => bnB G C x && decide (x = Str.ofString "range") && nst y && (chk G a).e C y
      | _ => false }
  | .rng2 a b => { i := fun C _ e => match e with
      | .Call (.Name x _) [y, z] [] _ => bnB G C x && decide (x = Str.ofString "range") && nst y && nst z && (chk G a).e C y && (chk G b).e C z
      | _ => false }
  | .enum a => { i := fun C tg e => match tg, e with
      | .Tuple _ _ _, .Call (.Name x _) [y] [] _ => bnB G C x && decide (x = Str.ofString "enumerate") && nst y && (chk G a).e C y
      | _, _ => false }
  | .zip a b => { i := fun C tg e => match tg, e with
      | .Tuple _ _ _, .Call (.Name x _) [y, z] [] _ => bnB G C x && decide (x = Str.ofString "zip") && nst y && nst z && (chk G a).e C y && (chk G b).e C z
      | _, _ => false }
  | .skip => { s := fun _ s => match s with
      | .Pass _ => true
      | _ => false }
  | .brk => { s := fun _ s => match s with
      | .Break _ => true
      | _ => false }
  | .cnt => { s := fun _ s => match s with
      | .Continue _ => true
      | _ => false }
  | .retN => { s := fun _ s => match s with
      | .Return none _ => true
      | _ => false }
  | .ret a => { s := fun C s => match s with
      | .Return (some e) _ => (chk G a).e C e
      | _ => false }
  | .drop a => { s := fun C s => match s with
      | .Expr e _ => noCmp e && (chk G a).e C e
      | _ => false }
  | .asg t a => { s := fun C s => match s with
      | .Assign [.Name x xp] e _ => (match t with
        | .var i => decide (C.N[i]? = some x) && locB C x && nsw C e x xp && (chk G a).e C e
        | _ => false)
      | .Assign [.Tuple ts k p] (.Tuple vs k2 p2) _ => fnB C && swF C.sc ts vs && (chk G t).t C (.Tuple ts k p) && (chk G a).e C (.Tuple vs k2 p2)
      | .Assign [.Tuple ts k p] e _ => noTup e && noCmp e && (chk G t).t C (.Tuple ts k p) && (chk G a).e C e
      | _ => false }
  | .setlc i kn src tg c el own => { s := fun C s => match s with
      | .Assign [.Name y yp] (.ListComp elt [⟨g, it, ifs, 0⟩] scope pos) _ => C.cm && (fnB C && swB C.sc (.ListComp elt [⟨g, it, ifs, 0⟩] scope pos) y yp && decide (C.N[i]? = some y) && decide (C.sc.names.lookup y = some .local) &&
          blkC C.N C.sc scope own && noSet it && (chk G src).i C g it && (tsl tg).all (fun i => (own.map (·.2)).contains i) && (chk G tg).t (C.blk scope) g && (chk G c).c (C.blk scope) ifs && (chk G el).e (C.blk scope) elt)
      | _ => false }
  | .par i j t => { s := fun C s => match s with
      | .Assign [.Tuple [.Name x px, .Name y py] k p] (.Tuple [u, v] k2 p2) _ => C.cm && (fnB C && swN C.sc [.Name x px, .Name y py] [u, v] [x, y] && decide (C.N[i]? = some x) && decide (C.N[j]? = some y) && decide (i ≠ j) &&
          decide (C.sc.names.lookup x = some .local) && decide (C.sc.names.lookup y = some .local) && (chk G t).a C [u, v])
      | _ => false }
  | .par3 i j l t => { s := fun C s => match s with
      | .Assign [.Tuple [.Name x px, .Name y py, .Name z pz] k p] (.Tuple [u, v, w] k2 p2) _ => C.cm && (fnB C && swN C.sc [.Name x px, .Name y py, .Name z pz] [u, v, w] [x, y, z] && decide (C.N[i]? = some x) && decide (C.N[j]? = some y) && decide (C.N[l]? = some z) &&
          decide (i ≠ j) && decide (i ≠ l) && decide (j ≠ l) &&
          decide (C.sc.names.lookup x = some .local) && decide (C.sc.names.lookup y = some .local) && decide (C.sc.names.lookup z = some .local) && (chk G t).a C [u, v, w])
      | _ => false }
  | .sto o i a => { s := fun C s => match s with
      | .Assign [.Subscript x y _] e _ => noSl y && noCmp e && (chk G o).e C x && (chk G i).e C y && (chk G a).e C e
      | _ => false }
  | .aug op i a => { s := fun C s => match s with
      | .AugAssign (.Name x _) o e _ => decide (o = op) && decide (C.N[i]? = some x) && locB C x && (chk G a).e C e
      | _ => false }
  | .ifs c s t => { s := fun C st => match st with
      | .If e p q _ => (chk G c).b C e && (chk G s).ss C p && (chk G t).ss C q
      | _ => false }
  | .for_ src t s => { s := fun C st => match st with
      | .For tg it p [] _ => C.cm && (noSet it && (chk G src).i C tg it && (chk G t).t C tg && (chk G s).ss C p)
      | _ => false }
  | .while_ c s => { s := fun C st => match st with
      | .While e p [] _ => C.cm && ((chk G c).b C e && (chk G s).ss C p)
      | _ => false }
  | .fld f a => .ex fun C e => match e with
      | .Attribute x g _ => decide (g = f) && decide (C.ef = f) && C.xa && noCall x && (chk G a).e C x
      | _ => false
  | .rai x f a => { s := fun C st => match st with
      | .Raise (some (.Call (.Name y _) [e] [] _)) none _ => C.cm && decide (y = x) && glB C x && nst e && G.exi.contains (x, f) && (chk G a).e C e
      | _ => false }
  | .rais x => { s := fun C st => match st with
      | .Raise (some (.Call (.Name y _) [.Constant (.str _) _ _] [] _)) none _ => C.cm && decide (y = x) && glB C x && G.ext.contains x
      | _ => false }
  | .tryA x f i b s => { s := fun C st => match st with
      | .Try body [.ExceptHandler (some (.Name y _)) (some n) (b0 :: ss) _] [] [] _ => C.cm && decide (y = x) && glB C x && G.exi.contains (x, f) && decide (C.N[i]? = some n) && decide (C.sc.names.lookup n = some .local) && (chk G b).ss { C with tl := false, ac := 0, lq := false, xa := false } body && (chk G s).ss { C with cm := false, ef := f, tl := false, ac := 0, lq := false, xa := true } (b0 :: ss)
      | _ => false }
  | .hnd x yes no f oi s r => { h := fun C ks => match ks with
      | .ExceptHandler (some (.Name y _)) nm (b0 :: ss) _ :: ks' => C.cm && (decide (y = x) && glB C x && asB C nm oi && (oi.isNone || yes.all fun y => G.exi.contains (y, f)) && (chk G s).ss { C with cm := false, ef := f, tl := false, ac := 0, lq := false, xa := oi.isSome } (b0 :: ss) && (chk G r).h C ks' && G.exm.any (fun q => decide (q.2.1 = x)) && (yes.all fun y => G.exm.contains (y, x, true)) && (no.all fun y => G.exm.contains (y, x, false)))
      | _ => false }
  | .tryM b hs => { s := fun C st => match st with
      | .Try body (h0 :: ks) [] [] _ => C.cm && C.tl && ((chk G b).ss { C with tl := false, ac := (if C.ac = 1 then 2 else 0), lq := false, xa := false } body && (chk G hs).h C (h0 :: ks))
      | _ => false }
  | .act => .ex fun C e => match e with
      | .Call (.Name x _) [] [] _ => decide (C.ac = 2) && decide (C.N[0]? = some x)
      | _ => false
  | .clam i b => .ex fun C e => match e with
      | .Call (.Name x _) [.Lambda params body scope _] [] _ => C.cm && (C.lq && glB C x && decide (G.clo.lookup i = some x) && LamX.lamSB C.sc scope && noPar params && (chk G b).e ⟨C.N, scope, [], true, "", false, false, 0, false, false⟩ body)
      | _ => false
end L2.G4

set_option maxHeartbeats 4000000
/-! GW: the check is sound. -/
namespace L2.G4
open PySem PySem.Spec PyProof.Rows

structure FnI (X : Cx) (x : Str) (F : PFn) (dl : List D) : Prop where
  has : ∃ (k : Nat) (f : Addr) (fd : FuncData) (ps : List Str) (gd : Bool), FnG X.prog X.w X.K X.mg X.base k f fd ps F gd ∧ (gd = true → X.A.guards = some []) ∧ Room k X.A ∧ X.mg x = some (.ref f) ∧ PySem.W.keepIn X.K (.ref f) = true ∧ ∃ (dvs : List V) (dus : List Value), Binds X.K fd ps dus ∧ Vals dvs dus ∧ ∀ H r n, DVs X.K H r n dl dvs
/-- what a def that holds lambdas asks: the callees, the defs that a lambda may call -/
def LamI (X : Cx) (G : Gx) (S : Sm) : Prop := ∃ k : Nat, 2 ≤ k ∧
  (∀ (i : Nat) (x : Str), G.clo.lookup i = some x → ∀ (W : Wx) (params : Arguments) (body : Expr) (scope : Scope) (p lpos pos : Pos) (fb : Fe D), Gl X x → (x == ("__debug__" : Str)) = false → LamX.LamS X.env.scope scope → defaultsOf params X.env = ([], []) →
    (∀ (q : Str) (cl : List (Str × Addr)) (pm cv ctv : Value), bindArgs (PySem.W.kla_fn "<lambda>" q params body scope cl pm cv ctv) ⟨[], []⟩ = pure []) →
    (∀ (A : Around) (outer : List PySem.Env) (s : Shared) (H : Hp) (E : XK) (f c' : Addr), Room k (A.deeper (LamX.lamEnv X scope s.heap.objs.size f c')) → SE (LamX.lamCx X A outer s H E scope f c') (fun c dx _ H' => E c dx H') body fb) →
    SE X W (.Call (.Name x p) [.Lambda params body scope lpos] [] pos) (fLam (S.lm.cl i) fb)) ∧
  (∀ (i : Nat) (x : Str), G.fns.lookup i = some x → G.pl.contains i = true → ∃ (k' : Nat) (f : Addr) (fd : FuncData) (ps : List Str), k' ≤ k ∧ FnG X.prog X.w X.K X.mg X.base k' f fd ps (S.lm.lf i) false ∧ X.mg x = some (.ref f) ∧ PySem.W.keepIn X.K (.ref f) = true ∧ ∃ (dvs : List V) (dus : List Value), Binds X.K fd ps dus ∧ Vals dvs dus ∧ ∀ H r n, DVs X.K H r n (dfl G i) dvs)
structure Ok (X : Cx) (W : Wx) (G : Gx) (S : Sm) (C : SC) : Prop where
  calm : C.cm = true → X.calm = true
  un : X.A.units + 70 < cLine
  gd : C.gd = true → X.A.guards = some []
  N : X.N = C.N
  nd : X.N.Nodup
  sc : X.env.scope = C.sc
  cl : ∀ x ∈ C.cl, X.fn x = true
  tk : Takes X W
  fns : C.cm = true → ∀ (i : Nat) (x : Str), G.fns.lookup i = some x → (C.gd || G.pl.contains i) = true → FnI X x (S.fn i) (dfl G i)
  cst : ∀ (k : Nat) (x : Str), G.cst.lookup k = some x → ∃ (u : Value) (v : V), X.mg x = some u ∧ RelV v u ∧ ∀ H r n, DV X.K H r n (S.cs k) v
  bns : ∀ x ∈ G.bns, X.mg x = none
  exi : C.cm = true → ∀ q ∈ G.exi, ExI X q.1 q.2 ∧ Room 2 X.A
  ext : C.cm = true → ∀ x ∈ G.ext, ExTx X x
  sx : C.xa = true → ∀ (W : Wx) (e : Expr) (fa : Fe D) (pos : Pos), SE X W e fa → attributeBase e C.ef X.env (eval e X.env) = eval e X.env → SE X W (.Attribute e C.ef pos) (fFld S.sx C.ef fa)
  exm : C.cm = true → ∀ q ∈ G.exm, ∃ C1 C2 : Addr, X.mg q.1 = some (.ref C1) ∧ X.mg q.2.1 = some (.ref C2) ∧ PySem.W.exmOne X.K (.ref C1) (.ref C2) = some q.2.2
  tl : C.tl = true → ∀ c d σ σ' H, W c d σ H → W c d σ' H
  act0 : C.ac = 1 → ∃ a, C.N[0]? = some a ∧ ActOk X a S.lm.lx S.lm.th
  act : C.ac = 2 → ∃ a, C.N[0]? = some a ∧ ∀ p1 p2, SE X W (.Call (.Name a p1) [] [] p2) (fAct S.lm.lx S.lm.th)
  lam : C.lq = true → LamI X G S
section
variable {X : Cx} {W : Wx} {G : Gx} {S : Sm} {C : SC}
theorem kind_fn {pins : List (Addr × Obj)} {σ : St} {H : Hp} {s : Shared} (I : Inv X pins σ H s) : X.env.scope.kind = .function := I.ok.kind
theorem okN_of {x : Str} (h : okN x = true) : (x == ("__debug__" : Str)) = false ∧ (x == ("__classdict__" : Str)) = false ∧ x ≠ "__name__" := by
  unfold okN at h
  simp only [Bool.and_eq_true, Bool.not_eq_true'] at h
  exact ⟨h.1.1, h.1.2, by simpa using h.2⟩
theorem Ok.vis (ok : Ok X W G S C) {x : Str} (h : visB C.sc x = true) : Vis X.env.scope x := by
  rw [ok.sc]
  unfold visB at h
  split at h <;> first | (exact .inl (by assumption)) | (exact .inr (.inl (by assumption))) | (exact .inr (.inr (by assumption))) | cases h
theorem Ok.loc (ok : Ok X W G S C) {x : Str} (h : locB C x = true) : Loc X.env.scope x ∧ (X.fn x = true ∨ X.env.scope.names.lookup x = some .local) := by
  rw [ok.sc]
  unfold locB at h
  split at h
  · rename_i e
    exact ⟨.inl e, .inr e⟩
  · rename_i e
    exact ⟨.inr e, .inl (ok.cl x (by simpa using h))⟩
  · cases h
theorem Ok.gl (ok : Ok X W G S C) {x : Str} (h : glB C x = true) : Gl X x ∧ okN x = true := by
  unfold glB at h
  simp only [Bool.and_eq_true, decide_eq_true_eq] at h
  exact ⟨(show X.env.scope.names.lookup x = _ by rw [ok.sc]; exact h.1), h.2⟩
theorem Ok.bn (ok : Ok X W G S C) {x : Str} (h : bnB G C x = true) : Gl X x ∧ okN x = true ∧ X.mg x = none := by
  unfold bnB at h
  simp only [Bool.and_eq_true] at h
  exact ⟨(ok.gl h.1).1, (ok.gl h.1).2, ok.bns x (by simpa using h.2)⟩
theorem Ok.blk (ok : Ok X W G S C) (hcm : C.cm = true) (s : Shared) (H : Hp) (scope : Scope) (cl : List (Str × Addr)) (A : Addr) (fp : List Addr) : Ok (X.blk s H scope (compEnvC scope cl A X.env) fp) W0 G S (C.blk scope) where
  calm := ok.calm
  un := ok.un
  gd := ok.gd
  N := ok.N
  nd := ok.nd
  sc := by
    show relS scope X.env.scope = relS scope C.sc
    rw [ok.sc]
  cl := fun x hx => (List.mem_filter.mp hx).2
  tk := takes0
  fns := fun hc i x e hp => ⟨(ok.fns hc i x e hp).has⟩
  cst := ok.cst
  bns := ok.bns
  exi := fun hc q hq => ⟨⟨(ok.exi hc q hq).1.has⟩, (ok.exi hc q hq).2⟩
  ext := fun hc q hq => ⟨(ok.ext hc q hq).has⟩
  sx := fun h => nomatch h
  exm := ok.exm
  tl := fun h => nomatch h
  act0 := fun h => absurd (show (0 : Nat) = 1 from h) (by decide)
  act := fun h => absurd (show (0 : Nat) = 2 from h) (by decide)
  lam := fun h => nomatch h
theorem boot_blt : ∀ b : Blt, bootBuiltins (Str.ofString (bltNm b)) = some b.val := by
  intro b
  cases b <;> decide +kernel
theorem boot_tys : ∀ T ∈ tyNms, bootBuiltins (Str.ofString T) = some (.type T) := by
  unfold tyNms
  simp only [List.mem_cons, List.not_mem_nil, or_false, forall_eq_or_imp, forall_eq]
  decide +kernel
theorem slot_mth : ∀ m : Mth, Slot "list" (Str.ofString (mthNm m)) m.id
  | .append => PySem.F.slot_list_append
  | .extend => PySem.F.slot_list_extend
  | .pop => PySem.F.slot_list_pop

/-! ### equal meanings of a test -/
theorem bindTru {x : Rz D} {f : D → Store → Rz D} : (x.bind f).bind (fun y st1 => match truD y st1 with
    | some b => Rz.ok b st1
    | none => .bad) = x.bind fun a st => (f a st).bind fun y st1 => match truD y st1 with
    | some b => Rz.ok b st1
    | none => .bad := Rz.bind_bind ..
theorem tru_bl (b : Bool) (st : Store) : truD (.bl b) st = some b := rfl
theorem fTru_not (a : Fe D) : fTru (fNotV a) = fNotT (fTru a) := by
  funext env st
  unfold fNotV fNotT
  show (((fTru a env st).bind _).bind _) = _
  rw [Rz.bind_bind]
  rfl
theorem fTru_and (a b : Fe D) : fTru (fAndV a b) = fAndT (fTru a) (fTru b) := by
  funext env st
  unfold fAndV fAndT fTru
  rw [Rz.bind_bind, Rz.bind_bind]
  congr 1
  funext x st1
  cases e : truD x st1 with
  | none => rfl
  | some k =>
    cases k with
    | true => rfl
    | false =>
      show (match truD x st1 with | some b => Rz.ok b st1 | none => .bad) = _
      rw [e]
      rfl
theorem fTru_or (a b : Fe D) : fTru (fOrV a b) = fOrT (fTru a) (fTru b) := by
  funext env st
  unfold fOrV fOrT fTru
  rw [Rz.bind_bind, Rz.bind_bind]
  congr 1
  funext x st1
  cases e : truD x st1 with
  | none => rfl
  | some k =>
    cases k with
    | false => rfl
    | true =>
      show (match truD x st1 with | some b => Rz.ok b st1 | none => .bad) = _
      rw [e]
      rfl
theorem fTru_ife (c : Fe Bool) (a b : Fe D) : fTru (fIf c a b) = fIf c (fTru a) (fTru b) := by
  funext env st
  unfold fIf fTru
  rw [Rz.bind_bind]
  congr 1
  funext k st1
  cases k <;> rfl
theorem fTru_bl {f : Fe D} (h : ∀ env st x st', f env st = .ok x st' → ∃ k, x = .bl k) : fTru f = fBoolT f := by
  funext env st
  unfold fTru fBoolT
  cases e : f env st with
  | bad => rfl
  | exc => rfl
  | ok x st' =>
    obtain ⟨k, rfl⟩ := h env st x st' e
    rfl
theorem fTru_cmp (op : CmpOp) (a b : Fe D) : fTru (fBin (cmpD op) a b) = fCmpT op a b := by
  refine fTru_bl fun env st x st' e => ?_
  unfold fBin at e
  cases e1 : a env st with
  | bad => rw [e1] at e; cases e
  | exc => rw [e1] at e; cases e
  | ok y st1 =>
    rw [e1] at e
    cases e2 : b env st1 with
    | bad => simp only [Rz.bind_ok, e2, Rz.bind_bad] at e; cases e
    | exc => simp only [Rz.bind_ok, e2, Rz.bind_exc] at e; cases e
    | ok z st2 =>
      simp only [Rz.bind_ok, e2] at e
      exact (cmpD_bl e).1
theorem fTru_cmp2 (op op2 : CmpOp) (a b c : Fe D) : fTru (fCmp2 (cmpD op) (cmpD op2) a b c) = fBoolT (fCmp2 (cmpD op) (cmpD op2) a b c) := by
  refine fTru_bl fun env st x st' e => ?_
  unfold fCmp2 at e
  cases e1 : a env st with
  | bad => rw [e1] at e; cases e
  | exc => rw [e1] at e; cases e
  | ok y st1 =>
    rw [e1] at e
    cases e2 : b env st1 with
    | bad => simp only [Rz.bind_ok, e2, Rz.bind_bad] at e; cases e
    | exc => simp only [Rz.bind_ok, e2, Rz.bind_exc] at e; cases e
    | ok z st2 =>
      simp only [Rz.bind_ok, e2] at e
      cases e3 : cmpD op y z st2 with
      | bad => rw [e3] at e; cases e
      | exc => rw [e3] at e; cases e
      | ok k st3 =>
        obtain ⟨⟨k, rfl⟩, _⟩ := cmpD_bl e3
        rw [e3] at e
        simp only [Rz.bind_ok] at e
        cases k with
        | false => cases e; exact ⟨_, rfl⟩
        | true =>
          simp only [if_true] at e
          cases e4 : c env st3 with
          | bad => rw [e4] at e; cases e
          | exc => rw [e4] at e; cases e
          | ok w st4 =>
            rw [e4] at e
            exact (cmpD_bl e).1

/-! ### soundness -/
def FO (X : Cx) : Prop := PassesOwn (model X.prog X.w) X.A X.env X.xe ∧ X.stack = X.env :: X.outer ∧ X.env.frame = some X.env.locals
structure Snd (k : Ck) (d : Dn) (sl : List Nat) (X : Cx) (W : Wx) (C : SC) : Prop where
  e : ∀ e, k.e C e = true → SE X W e d.e
  b : ∀ e, k.b C e = true → ST X W e (fTru d.e)
  w : ∀ e, k.w C e = true → SW X W e (fTru d.e)
  a : ∀ es, k.a C es = true → SA X W es d.a
  i : ∀ tg e, k.i C tg e = true → SI X W tg e d.i
  o : ∀ o, k.o C o = true → SO X W o d.o
  t : ∀ e, k.t C e = true → SG X e d.t sl
  ts : ∀ es, k.ts C es = true → SGs X es d.ts sl
  c : ∀ es, k.c C es = true → STs X W es d.c
  s : ∀ s, (C.cm = true → FO X) → k.s C s = true → SS X W s d.s
  ss : ∀ s, (C.cm = true → FO X) → k.ss C s = true → SSs X W s d.s
  h : ∀ ks, k.h C ks = true → HaOk X ks d.h
theorem no {P : Prop} (h : false = true) : P := by cases h
/-- an expression -/
theorem Snd.ex2 {f b : SC → Expr → Bool} {fe : Fe D} {sl : List Nat} (he : ∀ e, f C e = true → SE X W e fe) (hb : ∀ e, b C e = true → ST X W e (fTru fe)) : Snd (Ck.mk2 f b) (Dn.ex fe) sl X W C where
  e := he
  b := hb
  w := fun _ h => no h
  a := fun _ h => no h
  i := fun _ e h => si_sq (he e h)
  o := fun o h => by
    cases o with
    | none => exact no h
    | some e => exact so_some (he e h)
  t := fun _ h => no h
  ts := fun _ h => no h
  c := fun es h => by
    cases es with
    | nil => exact no h
    | cons e r =>
      cases r with
      | nil => exact sts_one (hb e h)
      | cons => exact no h
  s := fun _ _ h => no h
  ss := fun _ _ h => no h
  h := fun _ h => no h
theorem Snd.ex {f : SC → Expr → Bool} {fe : Fe D} {sl : List Nat} (he : ∀ e, f C e = true → SE X W e fe) : Snd (Ck.ex f) (Dn.ex fe) sl X W C :=
  .ex2 he fun e h => by
    rw [Bool.and_eq_true] at h
    exact st_tru (he e h.2) (plT_of h.1 _)
/-- a source alone -/
theorem Snd.src {f : SC → Expr → Expr → Bool} {fi : Fe Src} {sl : List Nat} (hi : ∀ tg e, f C tg e = true → SI X W tg e fi) : Snd { i := f } { i := fi } sl X W C :=
  ⟨fun _ h => no h, fun _ h => no h, fun _ h => no h, fun _ h => no h, hi, fun _ h => no h, fun _ h => no h, fun _ h => no h, fun _ h => no h, fun _ _ h => no h, fun _ _ h => no h, fun _ h => no h⟩
theorem Snd.stm {f : SC → Stmt → Bool} {fs : Fs} {sl : List Nat} (hs : ∀ s, (C.cm = true → FO X) → f C s = true → SS X W s fs) : Snd { s := f } { s := fs } sl X W C :=
  ⟨fun _ h => no h, fun _ h => no h, fun _ h => no h, fun _ h => no h, fun _ _ h => no h, fun _ h => no h, fun _ h => no h, fun _ h => no h, fun _ h => no h, hs, fun _ _ h => no h, fun _ h => no h⟩
end
end L2.G4

set_option maxHeartbeats 4000000
/-! GX: the check is sound: the theorem. -/
namespace L2.G4
open PySem PySem.Spec PyProof.Rows
section
variable {G : Gx} {S : Sm}
theorem and2 {a b : Bool} (h : (a && b) = true) : a = true ∧ b = true := by rwa [Bool.and_eq_true] at h
def SndAll (G : Gx) (S : Sm) (c : CE) : Prop := ∀ X W C, Ok X W G S C → Snd (chk G c) (den S c) (tsl c) X W C
theorem se_bad {X : Cx} {W : Wx} {e : Expr} : SE X W e (fun _ _ => .bad) := ⟨fun _ _ _ _ _ _ ⟨_, _, _, _, p⟩ => p.elim⟩
theorem ss_bad {X : Cx} {W : Wx} {s : Stmt} : SS X W s (fun _ _ => .bad) := ⟨fun _ _ _ _ _ _ ⟨_, _, _, _, p⟩ => p.elim⟩
theorem sss_bad {X : Cx} {W : Wx} {s : List Stmt} : SSs X W s (fun _ _ => .bad) := ⟨fun _ _ _ _ _ _ ⟨_, _, _, _, p⟩ => p.elim⟩
/-- a fact about an expression under which its scope is a def's -/
theorem PE.kd {X : Cx} {e : Expr} {t : TE} (h : X.env.scope.kind = .function → PE X e t) : PE X e t := ⟨fun pins s σ H Q I => (h I.ok.kind).run pins s σ H Q I⟩
theorem PS.kd {X : Cx} {e : Stmt} {t : TS} (h : X.env.scope.kind = .function → PS X e t) : PS X e t := ⟨fun pins s σ H Q I => (h I.ok.kind).run pins s σ H Q I⟩

theorem snd_bad : SndAll G S .bad := fun X W C ok =>
  ⟨fun _ _ => se_bad, fun _ h => no h, fun _ h => no h, fun _ h => no h, fun _ _ h => no h, fun _ h => no h, fun _ h => no h, fun _ h => no h, fun _ h => no h, fun _ _ _ => ss_bad, fun _ _ _ => sss_bad, fun _ h => no h⟩
theorem snd_nil : SndAll G S .nil := fun X W C ok =>
  ⟨fun _ h => no h, fun _ h => no h, fun _ h => no h, fun es h => by cases es with | nil => exact sa_nil | cons => exact no h, fun _ _ h => no h,
    fun o h => by cases o with | none => exact so_none | some => exact no h, fun _ h => no h, fun es h => by cases es with | nil => exact sgs_nil | cons => exact no h,
    fun es h => by cases es with | nil => exact sts_nil | cons => exact no h, fun _ _ h => no h, fun es _ h => by cases es with | nil => exact ss_nil | cons => exact no h, fun ks h => by cases ks with | nil => exact .nil | cons => exact no h⟩
theorem snd_cons {a t : CE} (ha : SndAll G S a) (ht : SndAll G S t) : SndAll G S (.cons a t) := fun X W C ok => by
  have A := ha X W C ok
  have T := ht X W C ok
  refine ⟨fun _ h => no h, fun _ h => no h, fun _ h => no h, fun es h => ?_, fun _ _ h => no h, fun _ h => no h, fun _ h => no h, fun es h => ?_, fun _ h => no h, fun _ _ h => no h, fun es fo h => ?_, fun _ h => no h⟩
  · cases es with
    | nil => exact no h
    | cons e r =>
      have h : ((nst e && (chk G a).e C e) && (chk G t).a C r) = true := h
      simp only [Bool.and_eq_true] at h
      exact sa_cons (A.e e h.1.2) (T.a r h.2) (starE h.1.1 _ _)
  · cases es with
    | nil => exact no h
    | cons e r =>
      have h : ((nst e && (chk G a).t C e) && (chk G t).ts C r) = true := h
      simp only [Bool.and_eq_true] at h
      exact sgs_cons (A.t e h.1.2) (T.ts r h.2) (by rw [asgE h.1.1]; rfl)
  · cases es with
    | nil => exact no h
    | cons e r =>
      have h : ((chk G a).s C e && (chk G t).ss C r) = true := h
      simp only [Bool.and_eq_true] at h
      exact ss_cons (A.s e fo h.1) (T.ss r fo h.2)
theorem snd_var (i : Nat) : SndAll G S (.var i) := fun X W C ok => by
  have B : Snd (Ck.ex (fun C e => match e with
      | .Name x _ => decide (C.N[i]? = some x) && visB C.sc x && okN x
      | _ => false)) (Dn.ex (fVar i)) [i] X W C := .ex fun e h => by
    split at h
    · simp only [Bool.and_eq_true, decide_eq_true_eq] at h
      exact se_var (by rw [ok.N]; exact h.1.1) (ok.vis h.1.2) (okN_of h.2).1 (okN_of h.2).2.1
    · exact no h
  refine ⟨B.e, B.b, B.w, B.a, B.i, B.o, fun e h => ?_, B.ts, B.c, B.s, B.ss, B.h⟩
  have h : (match (generalizing := false) e with
      | .Name x _ => decide (C.N[i]? = some x) && locB C x
      | _ => false) = true := h
  split at h
  · simp only [Bool.and_eq_true, decide_eq_true_eq] at h
    exact sg_name ok.nd (by rw [ok.N]; exact h.1) (ok.loc h.2).1 (ok.loc h.2).2
  · exact no h
theorem snd_con (d : D) : SndAll G S (.con d) := fun X W C ok => .ex fun e h => by
  split at h
  · unfold conB at h
    split at h
    · rw [beq_iff_eq] at h; subst h
      exact se_con pe_int fun _ _ _ => .int _
    · rw [beq_iff_eq] at h; subst h
      exact se_con pe_bl fun _ _ _ => .bl _
    · rw [decide_eq_true_eq] at h; subst h
      exact se_con pe_str fun _ _ _ => .str _
    · exact se_con pe_non fun _ _ _ => .non
    · exact no h
  · exact no h
theorem snd_gc (k : Nat) : SndAll G S (.gc k) := fun X W C ok => .ex fun e h => by
  split at h
  · simp only [Bool.and_eq_true, decide_eq_true_eq] at h
    obtain ⟨u, v, h1, h2, h3⟩ := ok.cst k _ h.2
    exact se_con (pe_glob (ok.gl h.1).1 h1 h2 (okN_of (ok.gl h.1).2).1) h3
  · exact no h
section
variable {a b c d t el src tg s o lo hi : CE}
theorem snd_bin (op : Operator) (ha : SndAll G S a) (hb : SndAll G S b) : SndAll G S (.bin op a b) := fun X W C ok => .ex fun e h => by
  split at h
  · simp only [Bool.and_eq_true, decide_eq_true_eq] at h
    obtain ⟨⟨h1, h2⟩, h3⟩ := h
    subst h1
    exact se_bin ((ha X W C ok).e _ h2) ((hb X W C ok).e _ h3)
  · exact no h
theorem un65 {X : Cx} {W : Wx} {C : SC} (ok : Ok X W G S C) : X.A.units + 65 < cLine := by have := ok.un; omega
theorem snd_cmp (op : CmpOp) (ha : SndAll G S a) (hb : SndAll G S b) : SndAll G S (.cmp op a b) := fun X W C ok => .ex2 (fun e h => by
  split at h
  · simp only [Bool.and_eq_true, decide_eq_true_eq] at h
    obtain ⟨⟨⟨h1, h2⟩, h3⟩, h4⟩ := h
    subst h1
    exact se_cmp (un65 ok) ((ha X W C ok).e _ h2) ((hb X W C ok).e _ h3) (marks_no h4)
  · exact no h) fun e h => by
  split at h
  · simp only [Bool.and_eq_true, decide_eq_true_eq] at h
    obtain ⟨⟨⟨h1, h2⟩, h3⟩, h4⟩ := h
    subst h1
    rw [fTru_cmp]
    exact st_cmp (un65 ok) ((ha X W C ok).e _ h2) ((hb X W C ok).e _ h3) (marks_no h4)
  · exact no h
theorem snd_cmp2 (op op2 : CmpOp) (ha : SndAll G S a) (hb : SndAll G S b) (hc : SndAll G S c) : SndAll G S (.cmp2 op op2 a b c) := fun X W C ok => .ex2 (fun e h => by
  split at h
  · simp only [Bool.and_eq_true, decide_eq_true_eq] at h
    obtain ⟨⟨⟨⟨⟨h1, h0⟩, h2⟩, h3⟩, h4⟩, h5⟩ := h
    subst h1 h0
    exact se_cmp2 (un65 ok) ((ha X W C ok).e _ h2) ((hb X W C ok).e _ h3) ((hc X W C ok).e _ h4) (marks_no h5)
  · exact no h) fun e h => by
  split at h
  · simp only [Bool.and_eq_true, decide_eq_true_eq] at h
    obtain ⟨⟨⟨⟨⟨h1, h0⟩, h2⟩, h3⟩, h4⟩, h5⟩ := h
    subst h1 h0
    rw [fTru_cmp2]
    exact st_cmp2 (un65 ok) ((ha X W C ok).e _ h2) ((hb X W C ok).e _ h3) ((hc X W C ok).e _ h4) (marks_no h5)
  · exact no h
theorem snd_neg (ha : SndAll G S a) : SndAll G S (.neg a) := fun X W C ok => .ex fun e h => by
  split at h
  · exact se_neg ((ha X W C ok).e _ h)
  · exact no h
theorem snd_not (ha : SndAll G S a) : SndAll G S (.not a) := fun X W C ok => .ex2 (fun e h => by
  split at h
  · exact se_not ((ha X W C ok).e _ h)
  · exact no h) fun e h => by
  split at h
  · rw [fTru_not]
    exact st_not ((ha X W C ok).b _ h)
  · exact no h
theorem snd_one (ha : SndAll G S a) : SndAll G S (.one a) := fun X W C ok => by
  have wt : ∀ e, (match e with
      | .BoolOp _ [x] _ => (chk G a).b C x
      | _ => false) = true → SW X W e (fTru (den S a).e) := fun e h => by
    split at h
    · rename_i op x p
      cases op with
      | And => exact sw_and1 ((ha X W C ok).b _ h)
      | Or => exact sw_or1 ((ha X W C ok).b _ h)
    · exact no h
  have B : Snd (Ck.mk2 (fun C e => match e with
      | .BoolOp _ [x] _ => (chk G a).e C x
      | _ => false) (fun C e => match e with
      | .BoolOp _ [x] _ => (chk G a).b C x
      | _ => false)) (Dn.ex (den S a).e) [] X W C := .ex2 (fun e h => by
    split at h
    · exact se_one ((ha X W C ok).e _ h)
    · exact no h) fun e h => (wt e h).pt
  exact ⟨B.e, B.b, wt, B.a, B.i, B.o, B.t, B.ts, B.c, B.s, B.ss, B.h⟩
theorem snd_and (ha : SndAll G S a) (hb : SndAll G S b) : SndAll G S (.and a b) := fun X W C ok => by
  have wt : ∀ e, (match e with
      | .BoolOp .And (x :: y :: r) p => (chk G a).b C x && (chk G b).w C (.BoolOp .And (y :: r) p)
      | _ => false) = true → SW X W e (fTru (fAndV (den S a).e (den S b).e)) := fun e h => by
    split at h
    · simp only [Bool.and_eq_true] at h
      rw [fTru_and]
      exact sw_and ((ha X W C ok).b _ h.1) ((hb X W C ok).w _ h.2)
    · exact no h
  have B : Snd (Ck.mk2 (fun C e => match e with
      | .BoolOp .And (x :: y :: r) p => (chk G a).e C x && (chk G b).e C (.BoolOp .And (y :: r) p)
      | _ => false) (fun C e => match e with
      | .BoolOp .And (x :: y :: r) p => (chk G a).b C x && (chk G b).w C (.BoolOp .And (y :: r) p)
      | _ => false)) (Dn.ex (fAndV (den S a).e (den S b).e)) [] X W C := .ex2 (fun e h => by
    split at h
    · simp only [Bool.and_eq_true] at h
      exact se_and ((ha X W C ok).e _ h.1) ((hb X W C ok).e _ h.2)
    · exact no h) fun e h => (wt e h).pt
  exact ⟨B.e, B.b, wt, B.a, B.i, B.o, B.t, B.ts, B.c, B.s, B.ss, B.h⟩
theorem snd_or (ha : SndAll G S a) (hb : SndAll G S b) : SndAll G S (.or a b) := fun X W C ok => by
  have wt : ∀ e, (match e with
      | .BoolOp .Or (x :: y :: r) p => (chk G a).b C x && (chk G b).w C (.BoolOp .Or (y :: r) p)
      | _ => false) = true → SW X W e (fTru (fOrV (den S a).e (den S b).e)) := fun e h => by
    split at h
    · simp only [Bool.and_eq_true] at h
      rw [fTru_or]
      exact sw_or ((ha X W C ok).b _ h.1) ((hb X W C ok).w _ h.2)
    · exact no h
  have B : Snd (Ck.mk2 (fun C e => match e with
      | .BoolOp .Or (x :: y :: r) p => (chk G a).e C x && (chk G b).e C (.BoolOp .Or (y :: r) p)
      | _ => false) (fun C e => match e with
      | .BoolOp .Or (x :: y :: r) p => (chk G a).b C x && (chk G b).w C (.BoolOp .Or (y :: r) p)
      | _ => false)) (Dn.ex (fOrV (den S a).e (den S b).e)) [] X W C := .ex2 (fun e h => by
    split at h
    · simp only [Bool.and_eq_true] at h
      exact se_or ((ha X W C ok).e _ h.1) ((hb X W C ok).e _ h.2)
    · exact no h) fun e h => (wt e h).pt
  exact ⟨B.e, B.b, wt, B.a, B.i, B.o, B.t, B.ts, B.c, B.s, B.ss, B.h⟩
theorem st_ite {X : Cx} {W : Wx} {z x y : Expr} {p : Pos} {fc fa fb : Fe Bool} (hc : ST X W z fc) (ha : ST X W x fa) (hb : ST X W y fb) : ST X W (.IfExp z x y p) (fIf fc fa fb) :=
  PT.imp (pt_ite hc ha hb) fun σ H Q ⟨r, env, st, wd, q⟩ => tT_then wd q fun k r1 st1 H1 w1 F1 p1 => by
    cases k with
    | true => exact ⟨r1, env, st1, w1, p1⟩
    | false => exact ⟨r1, env, st1, w1, p1⟩
theorem snd_ife (hc : SndAll G S c) (ha : SndAll G S a) (hb : SndAll G S b) : SndAll G S (.ife c a b) := fun X W C ok => .ex2 (fun e h => by
  split at h
  · simp only [Bool.and_eq_true] at h
    exact se_ife ((hc X W C ok).b _ h.1.1) ((ha X W C ok).e _ h.1.2) ((hb X W C ok).e _ h.2)
  · exact no h) fun e h => by
  split at h
  · simp only [Bool.and_eq_true] at h
    rw [fTru_ife]
    exact st_ite ((hc X W C ok).b _ h.1.1) ((ha X W C ok).b _ h.1.2) ((hb X W C ok).b _ h.2)
  · exact no h
theorem snd_tup (ht : SndAll G S t) : SndAll G S (.tup t) := fun X W C ok => by
  have B : Snd (Ck.ex (fun C e => match e with
      | .Tuple es _ _ => (chk G t).a C es
      | _ => false)) (Dn.ex (fTup (den S t).a)) (tsl t) X W C := .ex fun e h => by
    split at h
    · exact se_tup ((ht X W C ok).a _ h)
    · exact no h
  refine ⟨B.e, B.b, B.w, B.a, B.i, B.o, fun e h => ?_, B.ts, B.c, B.s, B.ss, B.h⟩
  have h : (match (generalizing := false) e with
      | .Tuple es _ _ => C.cm && (nsl es && decide (es.length = clen t) && (chk G t).ts C es)
      | _ => false) = true := h
  split at h
  · obtain ⟨hc, h⟩ := and2 h
    simp only [Bool.and_eq_true, decide_eq_true_eq] at h
    exact sg_tup (ok.calm hc) ((ht X W C ok).ts _ h.2) (by rw [asg_len h.1.1, h.1.2]) (asg_idx h.1.1)
  · exact no h
theorem snd_lst (kn : Bool) (ht : SndAll G S t) : SndAll G S (.lst kn t) := fun X W C ok => .ex fun e h => by
  split at h
  · cases kn with
    | true => exact se_new ((ht X W C ok).a _ h)
    | false => exact se_lst ((ht X W C ok).a _ h)
  · exact no h
theorem snd_dic0 : SndAll G S .dic0 := fun X W C ok => .ex fun e h => by
  split at h
  · exact se_newD
  · exact no h
theorem snd_idx (ha : SndAll G S a) (hb : SndAll G S b) : SndAll G S (.idx a b) := fun X W C ok => .ex fun e h => by
  split at h
  · simp only [Bool.and_eq_true] at h
    exact se_idx (by have := ok.un; omega) ((ha X W C ok).e _ h.1.2) ((hb X W C ok).e _ h.2) (plain_no h.1.1)
  · exact no h
theorem snd_slc (ha : SndAll G S a) (hl : SndAll G S lo) (hh : SndAll G S hi) : SndAll G S (.slc a lo hi) := fun X W C ok => .ex fun e h => by
  split at h
  · simp only [Bool.and_eq_true] at h
    exact se_slc ((ha X W C ok).e _ h.1.1) ((hl X W C ok).o _ h.1.2) ((hh X W C ok).o _ h.2)
  · exact no h
theorem snd_dct0 : SndAll G S .dct0 := fun X W C ok => .ex fun e h => by
  split at h
  · exact se_dct0
  · exact no h
theorem snd_dsp1 (kn : Bool) (ha : SndAll G S a) (hb : SndAll G S b) : SndAll G S (.dsp1 kn a b) := fun X W C ok => .ex fun e h => by
  split at h
  · simp only [Bool.and_eq_true] at h
    cases kn with
    | true => exact se_dsp1 ((ha X W C ok).e _ h.1) ((hb X W C ok).e _ h.2)
    | false => exact se_dspD ((ha X W C ok).e _ h.1) ((hb X W C ok).e _ h.2)
  · exact no h
theorem snd_rev (ha : SndAll G S a) : SndAll G S (.rev a) := fun X W C ok => .ex fun e h => by
  split at h
  · simp only [Bool.and_eq_true, decide_eq_true_eq] at h
    obtain ⟨h1, h2⟩ := h
    subst h1
    exact se_rev ((ha X W C ok).e _ h2)
  · exact no h
theorem snd_lof (ht : SndAll G S t) : SndAll G S (.lof t) := fun X W C ok => .ex fun e h => by
  split at h
  · simp only [Bool.and_eq_true, decide_eq_true_eq] at h
    obtain ⟨⟨⟨h1, h2⟩, h3⟩, h4⟩ := h
    subst h2
    obtain ⟨g1, g2, g3⟩ := ok.bn h1
    exact se_lof g1 g3 (boot_blt .list) (okN_of g2).2.2 (okN_of g2).1 ((ht X W C ok).a _ h4) (starE (nsl_cons h3).1 _ _) (star_any (nsl_cons h3).2)
  · exact no h
theorem snd_opN (op : Operator) (ha : SndAll G S a) (hb : SndAll G S b) : SndAll G S (.opN op a b) := fun X W C ok => .ex fun e h => by
  split at h
  · simp only [Bool.and_eq_true, decide_eq_true_eq] at h
    obtain ⟨rfl, h1, h2⟩ := h
    exact se_binN _ ((ha X W C ok).e _ h1) ((hb X W C ok).e _ h2)
  · exact no h
theorem snd_blt (bt : Blt) (ht : SndAll G S t) : SndAll G S (.blt bt t) := fun X W C ok => .ex fun e h => by
  split at h
  · obtain ⟨hc, h⟩ := and2 h
    obtain ⟨hc, hgq⟩ := and2 hc
    have hgd : bt = .repr → X.A.guards = some [] := fun e => ok.gd (by subst e; simpa using hgq)
    simp only [Bool.and_eq_true, decide_eq_true_eq] at h
    obtain ⟨⟨⟨h1, h2⟩, h3⟩, h4⟩ := h
    subst h2
    obtain ⟨g1, g2, g3⟩ := ok.bn h1
    by_cases hcm : C.cm = true
    case neg =>
      have hb : bt = .repr := by simpa [hcm] using hc
      subst hb
      exact se_repr ok.un (hgd rfl) g1 g3 (boot_blt .repr) (okN_of g2).2.2 (okN_of g2).1 ((ht X W C ok).a _ h4) (starE (nsl_cons h3).1 _ _) (star_any (nsl_cons h3).2)
    exact se_blt bt (ok.calm hcm) ok.un hgd g1 g3 (boot_blt bt) (okN_of g2).2.2 (okN_of g2).1 ((ht X W C ok).a _ h4) (starE (nsl_cons h3).1 _ _) (star_any (nsl_cons h3).2)
  · exact no h
theorem snd_isi (T : String) (ha : SndAll G S a) : SndAll G S (.isi T a) := fun X W C ok => .ex fun e h => by
  split at h
  · simp only [Bool.and_eq_true, decide_eq_true_eq] at h
    obtain ⟨⟨⟨⟨⟨⟨h1, h2⟩, h3⟩, h4⟩, h5⟩, h6⟩, h7⟩ := h
    subst h2 h4
    obtain ⟨g1, g2, g3⟩ := ok.bn h1
    obtain ⟨k1, k2, k3⟩ := ok.bn h3
    exact se_isi g1 g3 k1 k3 (boot_tys T (by simpa using h5)) (okN_of k2).2.2 (okN_of k2).1 ((ha X W C ok).e _ h7) (starE h6 _ _)
  · exact no h
theorem snd_mmd (mx : Bool) (ha : SndAll G S a) (hd : SndAll G S d) : SndAll G S (.mmd mx a d) := fun X W C ok => .ex fun e h => by
  split at h
  · obtain ⟨hc, h⟩ := and2 h
    simp only [Bool.and_eq_true, decide_eq_true_eq] at h
    obtain ⟨⟨⟨⟨⟨h1, h2⟩, h3⟩, h4⟩, h5⟩, h6⟩ := h
    obtain ⟨g1, g2, g3⟩ := ok.bn h1
    subst h3
    exact se_mmd mx (ok.calm hc) h2 g1 g3 ((ha X W C ok).e _ h5) ((hd X W C ok).e _ h6) (starE h4 _ _)
  · exact no h
theorem snd_mth (m : Mth) (ho : SndAll G S o) (ht : SndAll G S t) : SndAll G S (.mth m o t) := fun X W C ok => .ex fun e h => by
  split at h
  · simp only [Bool.and_eq_true, decide_eq_true_eq] at h
    obtain ⟨⟨⟨⟨⟨⟨h1, h2⟩, h3⟩, h4⟩, h5⟩, h6⟩, h7⟩ := h
    subst h1
    refine se_mth m (slot_mth m) ((ho X W C ok).e _ h6) ((ht X W C ok).a _ h7) (base_no h2 _ _) ?_ h3 (starE (nsl_cons h4).1 _ _) (star_any (nsl_cons h4).2)
    rw [star_all h4]
    simp only [Bool.true_and, Bool.and_eq_true, decide_eq_true_eq]
    refine ⟨rfl, ?_⟩
    simp only [List.length_cons] at h5 ⊢
    simp
    omega
  · simp only [Bool.and_eq_true, decide_eq_true_eq] at h
    obtain ⟨⟨⟨⟨h1, h2⟩, h3⟩, h4⟩, h5⟩ := h
    subst h1
    split at h5
    · exact se_mth0 m (slot_mth m) ((ho X W C ok).e _ h4) (base_no h2 _ _) h3
    · exact no h5
  · exact no h
theorem dfl_none {i : Nat} (h : (G.dfs.lookup i).isNone = true) : dfl G i = [] := by
  unfold dfl
  rw [Option.isNone_iff_eq_none.mp h]
  rfl
theorem dfl_some {i : Nat} {l : List Int} (h : G.dfs.lookup i = some l) : dfl G i = l.map D.int := by
  unfold dfl
  rw [h]
  rfl
theorem snd_call (i : Nat) (ht : SndAll G S t) : SndAll G S (.call i t) := fun X W C ok => .ex fun e h => by
  have fix : ∀ ft : Fe (List D), fArgs (fun ds st => S.fn i (ds ++ []) st) ft = fArgs (S.fn i) ft := fun ft => by simp only [List.append_nil]
  split at h
  · obtain ⟨hc, h⟩ := and2 h
    obtain ⟨hc, hpl⟩ := and2 hc
    simp only [Bool.and_eq_true, decide_eq_true_eq] at h
    obtain ⟨⟨⟨⟨h1, h2⟩, h3⟩, h4⟩, h5⟩ := h
    obtain ⟨k, f, fd, ps, gd, F, hgd, hr, hm, hk, dvs, dus, hb, hv, hd⟩ := (ok.fns hc i _ h2 hpl).has
    rw [dfl_none h5] at hd
    have q := fun p pos => se_call (p := p) (pos := pos) F hr hgd (ok.gl h1).1 hm hk hb hv hd ok.tk ((ht X W C ok).a _ h4) (okN_of (ok.gl h1).2).1 (starE (nsl_cons h3).1 _ _) (star_any (nsl_cons h3).2)
    rw [fix] at q
    exact q _ _
  · obtain ⟨hc, h⟩ := and2 h
    obtain ⟨hc, hpl⟩ := and2 hc
    simp only [Bool.and_eq_true, decide_eq_true_eq] at h
    obtain ⟨⟨⟨h1, h2⟩, h3⟩, h5⟩ := h
    obtain ⟨k, f, fd, ps, gd, F, hgd, hr, hm, hk, dvs, dus, hb, hv, hd⟩ := (ok.fns hc i _ h2 hpl).has
    rw [dfl_none h5] at hd
    split at h3
    · have q := fun p pos => se_call0 (p := p) (pos := pos) F hr hgd (ok.gl h1).1 hm hk hb hv hd ok.tk (okN_of (ok.gl h1).2).1
      rw [fix] at q
      exact q _ _
    · exact no h3
  · exact no h
theorem snd_callD (i : Nat) (l : List Int) (ht : SndAll G S t) : SndAll G S (.callD i l t) := fun X W C ok => .ex fun e h => by
  split at h
  · obtain ⟨hc, h⟩ := and2 h
    obtain ⟨hc, hpl⟩ := and2 hc
    simp only [Bool.and_eq_true, decide_eq_true_eq] at h
    obtain ⟨⟨⟨⟨h1, h2⟩, h3⟩, h4⟩, h5⟩ := h
    obtain ⟨k, f, fd, ps, gd, F, hgd, hr, hm, hk, dvs, dus, hb, hv, hd⟩ := (ok.fns hc i _ h2 hpl).has
    rw [dfl_some h5] at hd
    exact se_call F hr hgd (ok.gl h1).1 hm hk hb hv hd ok.tk ((ht X W C ok).a _ h4) (okN_of (ok.gl h1).2).1 (starE (nsl_cons h3).1 _ _) (star_any (nsl_cons h3).2)
  · exact no h
theorem snd_lrng (kn : Bool) (ha : SndAll G S a) : SndAll G S (.lrng kn a) := fun X W C ok => .ex fun e h => by
  split at h
  · obtain ⟨hc, h⟩ := and2 h
    simp only [Bool.and_eq_true, decide_eq_true_eq] at h
    obtain ⟨⟨⟨⟨⟨h1, h2⟩, h3⟩, h4⟩, h5⟩, h6⟩ := h
    subst h2 h4
    obtain ⟨g1, g2, g3⟩ := ok.bn h1
    obtain ⟨k1, k2, k3⟩ := ok.bn h3
    exact se_lrng kn (ok.calm hc) k1 k3 g1 g3 ((ha X W C ok).e _ h6) (starE h5 _ _)
  · exact no h
end
end
end L2.G4

set_option maxHeartbeats 4000000
/-! GY: soundness: comprehensions, sources, statements; all together. -/
namespace L2.G4
open PySem PySem.Spec PyProof.Rows
section
variable {G : Gx} {S : Sm} {a b c d t el src tg s o lo hi : CE}
theorem sub_of {sl : List Nat} {own : List (Str × Nat)} (h : sl.all (fun i => (own.map (·.2)).contains i) = true) : ∀ i ∈ sl, i ∈ own.map (·.2) := fun i hi => by
  have := List.all_eq_true.mp h i hi
  simpa using this
theorem blk_of {X : Cx} {W : Wx} {C : SC} (ok : Ok X W G S C) {scope : Scope} {own : List (Str × Nat)} (h : blkC C.N C.sc scope own = true) : BlkOk X.N X.env.scope scope own := by
  rw [ok.N, ok.sc]
  exact blkOk_by h
theorem snd_lc (kn : Bool) (own : List (Str × Nat)) (hs : SndAll G S src) (hg : SndAll G S tg) (hc : SndAll G S c) (he : SndAll G S el) : SndAll G S (.lc kn src tg c el own) := fun X W C ok => .ex fun e h => by
  split at h
  · obtain ⟨hcm, h⟩ := and2 h
    simp only [Bool.and_eq_true] at h
    obtain ⟨⟨⟨⟨⟨⟨h1, h2⟩, h3⟩, h4⟩, h5⟩, h6⟩, h7⟩ := h
    exact se_lc kn (ok.calm hcm) ok.nd ((hs X W C ok).i _ _ h3) (blk_of ok h1) (sub_of h4) (fun s H A cl fp => (hg _ _ _ (ok.blk hcm s H _ cl A fp)).t _ h5) (fun s H A cl fp => (hc _ _ _ (ok.blk hcm s H _ cl A fp)).c _ h6)
      (fun s H A cl fp => (he _ _ _ (ok.blk hcm s H _ cl A fp)).e _ h7) (fold_no h2 _)
  · exact no h
theorem sub_of2 {sl vs : List Nat} (h : sl.all (fun i => vs.contains i) = true) : ∀ i ∈ sl, i ∈ vs := fun i hi => by
  have := List.all_eq_true.mp h i hi
  simpa using this
theorem snd_lc2 {src1 tg1 c1 : CE} (kn : Bool) (own : List (Str × Nat)) (vs1 : List Nat) (hs : SndAll G S src) (hg : SndAll G S tg) (hc : SndAll G S c) (hs1 : SndAll G S src1) (hg1 : SndAll G S tg1) (hc1 : SndAll G S c1) (he : SndAll G S el) :
    SndAll G S (.lc2 kn src tg c src1 tg1 c1 el own vs1) := fun X W C ok => .ex fun e h => by
  split at h
  · obtain ⟨hcm, h⟩ := and2 h
    simp only [Bool.and_eq_true] at h
    obtain ⟨⟨⟨⟨⟨⟨⟨⟨⟨⟨⟨⟨h1, h2⟩, h3⟩, h4⟩, h5⟩, h6⟩, h7⟩, k1⟩, k2⟩, k3⟩, k4⟩, k5⟩, k6⟩ := h
    exact se_lc2 kn (ok.calm hcm) ok.nd ((hs X W C ok).i _ _ h3) (blk_of ok h1) (sub_of h4) (sub_of2 k1) (sub_of k2) (fun s H A cl fp => (hg _ _ _ (ok.blk hcm s H _ cl A fp)).t _ h5) (fun s H A cl fp => (hc _ _ _ (ok.blk hcm s H _ cl A fp)).c _ h6)
      (fun s H A cl fp => (he _ _ _ (ok.blk hcm s H _ cl A fp)).e _ h7) (fold_no h2 _) (fun s H A cl fp => (hs1 _ _ _ (ok.blk hcm s H _ cl A fp)).i _ _ k4) (fun s H A cl fp => (hg1 _ _ _ (ok.blk hcm s H _ cl A fp)).t _ k5)
      (fun s H A cl fp => (hc1 _ _ _ (ok.blk hcm s H _ cl A fp)).c _ k6) (fun env => fold_no k3 env)
  · exact no h
theorem snd_rng1 (ha : SndAll G S a) : SndAll G S (.rng1 a) := fun X W C ok => .src fun tg e h => by
  split at h
  · simp only [Bool.and_eq_true, decide_eq_true_eq] at h
    obtain ⟨⟨⟨h1, h2⟩, h3⟩, h4⟩ := h
    subst h2
    obtain ⟨g1, g2, g3⟩ := ok.bn h1
    exact si_rng1 g1 g3 ((ha X W C ok).e _ h4) (starE h3 _ _)
  · exact no h
theorem snd_rng2 (ha : SndAll G S a) (hb : SndAll G S b) : SndAll G S (.rng2 a b) := fun X W C ok => .src fun tg e h => by
  split at h
  · simp only [Bool.and_eq_true, decide_eq_true_eq] at h
    obtain ⟨⟨⟨⟨⟨h1, h2⟩, h3⟩, h0⟩, h4⟩, h5⟩ := h
    subst h2
    obtain ⟨g1, g2, g3⟩ := ok.bn h1
    exact si_rng2 g1 g3 ((ha X W C ok).e _ h4) ((hb X W C ok).e _ h5) (by rw [starE h3, starE h0]; rfl) (starE h0 _ _)
  · exact no h
theorem snd_enum (ha : SndAll G S a) : SndAll G S (.enum a) := fun X W C ok => .src fun tg e h => by
  split at h
  · simp only [Bool.and_eq_true, decide_eq_true_eq] at h
    obtain ⟨⟨⟨h1, h2⟩, h3⟩, h4⟩ := h
    subst h2
    obtain ⟨g1, g2, g3⟩ := ok.bn h1
    exact si_enum g1 g3 ((ha X W C ok).e _ h4) (starE h3 _ _)
  · exact no h
theorem snd_zip (ha : SndAll G S a) (hb : SndAll G S b) : SndAll G S (.zip a b) := fun X W C ok => .src fun tg e h => by
  split at h
  · simp only [Bool.and_eq_true, decide_eq_true_eq] at h
    obtain ⟨⟨⟨⟨⟨h1, h2⟩, h3⟩, h0⟩, h4⟩, h5⟩ := h
    subst h2
    obtain ⟨g1, g2, g3⟩ := ok.bn h1
    exact si_zip g1 g3 ((ha X W C ok).e _ h4) ((hb X W C ok).e _ h5) (starE h3 _ _) (starE h0 _ _) (by rw [starE h0]; rfl)
  · exact no h
theorem snd_skip : SndAll G S .skip := fun X W C ok => .stm fun s fo h => by
  split at h
  · exact ss_pass
  · exact no h
theorem snd_brk : SndAll G S .brk := fun X W C ok => .stm fun s fo h => by
  split at h
  · exact ss_break
  · exact no h
theorem snd_cnt : SndAll G S .cnt := fun X W C ok => .stm fun s fo h => by
  split at h
  · exact ss_continue
  · exact no h
theorem snd_retN : SndAll G S .retN := fun X W C ok => .stm fun s fo h => by
  split at h
  · exact ss_retN
  · exact no h
theorem snd_ret (ha : SndAll G S a) : SndAll G S (.ret a) := fun X W C ok => .stm fun s fo h => by
  split at h
  · exact ss_ret ((ha X W C ok).e _ h)
  · exact no h
theorem snd_drop (ha : SndAll G S a) : SndAll G S (.drop a) := fun X W C ok => .stm fun s fo h => by
  split at h
  · simp only [Bool.and_eq_true] at h
    exact ss_expr ((ha X W C ok).e _ h.2) (sw_no h.1 _ _ _)
  · exact no h
theorem nsw_of {X : Cx} {W : Wx} {C : SC} (ok : Ok X W G S C) (hk : X.env.scope.kind = .function) {e : Expr} {x : Str} {xp : Pos} {l : Nat} (h : nsw C e x xp = true) : swapsWith e (some (.Name x xp)) l X.env = pure false := by
  unfold nsw at h
  rw [Bool.or_eq_true] at h
  rcases h with h | h
  · exact sw_no h _ _ _
  · split at h
    · simp only [Bool.and_eq_true, Bool.not_eq_true'] at h
      rw [swB_lc hk, ok.sc, h.2]
    · exact no h
theorem snd_asg (ht : SndAll G S t) (ha : SndAll G S a) : SndAll G S (.asg t a) := fun X W C ok => .stm fun s fo h => by
  split at h
  · split at h
    · rename_i i
      simp only [Bool.and_eq_true, decide_eq_true_eq] at h
      obtain ⟨⟨⟨h1, h2⟩, h3⟩, h4⟩ := h
      exact PS.kd fun hk => ss_set ok.nd (by rw [ok.N]; exact h1) (ok.loc h2).1 (ok.loc h2).2 ((ha X W C ok).e _ h4) (nsw_of ok hk h3)
    · exact no h
  · simp only [Bool.and_eq_true] at h
    obtain ⟨⟨⟨h1, h2⟩, h3⟩, h4⟩ := h
    exact PS.kd fun hk => ss_asg ((ha X W C ok).e _ h4) ((ht X W C ok).t _ h3) (sws_no rfl _ _) (swF_ok hk (by rw [ok.sc]; exact h2)) rfl
  · simp only [Bool.and_eq_true] at h
    obtain ⟨⟨⟨h1, h2⟩, h3⟩, h4⟩ := h
    exact ss_asg ((ha X W C ok).e _ h4) ((ht X W C ok).t _ h3) (sws_no h2 _ _) (sto_none_v h1 _) rfl
  · exact no h
theorem snd_setlc (i : Nat) (kn : Bool) (own : List (Str × Nat)) (hs : SndAll G S src) (hg : SndAll G S tg) (hc : SndAll G S c) (he : SndAll G S el) : SndAll G S (.setlc i kn src tg c el own) := fun X W C ok => .stm fun s fo h => by
  split at h
  · obtain ⟨hcm, h⟩ := and2 h
    simp only [Bool.and_eq_true, decide_eq_true_eq] at h
    obtain ⟨⟨⟨⟨⟨⟨⟨⟨⟨⟨k1, k2⟩, k3⟩, k4⟩, h1⟩, h2⟩, h3⟩, h4⟩, h5⟩, h6⟩, h7⟩ := h
    exact PS.kd fun hk => ss_setLc kn (ok.calm hcm) ok.nd (by rw [ok.N]; exact k3) (by rw [ok.sc]; exact k4) (by rw [swB_lc hk, ok.sc, k2]) ((hs X W C ok).i _ _ h3) (blk_of ok h1) (sub_of h4) (fun s H A cl fp => (hg _ _ _ (ok.blk hcm s H _ cl A fp)).t _ h5)
      (fun s H A cl fp => (hc _ _ _ (ok.blk hcm s H _ cl A fp)).c _ h6) (fun s H A cl fp => (he _ _ _ (ok.blk hcm s H _ cl A fp)).e _ h7) (fold_no h2 _)
  · exact no h
theorem snd_par (i j : Nat) (ht : SndAll G S t) : SndAll G S (.par i j t) := fun X W C ok => .stm fun s fo h => by
  split at h
  · obtain ⟨hcm, h⟩ := and2 h
    simp only [Bool.and_eq_true, decide_eq_true_eq] at h
    obtain ⟨⟨⟨⟨⟨⟨⟨k1, k2⟩, h1⟩, h2⟩, h3⟩, h4⟩, h5⟩, h6⟩ := h
    exact PS.kd fun hk => ss_par (ok.calm hcm) ok.nd (by rw [ok.N]; exact h1) (by rw [ok.N]; exact h2) h3 (by rw [ok.sc]; exact h4) (by rw [ok.sc]; exact h5) ((ht X W C ok).a _ h6) (swN_ok hk (by rw [ok.sc]; exact k2)) (sws_no rfl _ _)
  · exact no h
theorem snd_par3 (i j l : Nat) (ht : SndAll G S t) : SndAll G S (.par3 i j l t) := fun X W C ok => .stm fun s fo h => by
  split at h
  · obtain ⟨hcm, h⟩ := and2 h
    simp only [Bool.and_eq_true, decide_eq_true_eq] at h
    obtain ⟨⟨⟨⟨⟨⟨⟨⟨⟨⟨⟨k1, k2⟩, h1⟩, h2⟩, h3⟩, h4⟩, h5⟩, h6⟩, h7⟩, h8⟩, h9⟩, h0⟩ := h
    exact PS.kd fun hk => ss_par3 (ok.calm hcm) ok.nd (by rw [ok.N]; exact h1) (by rw [ok.N]; exact h2) (by rw [ok.N]; exact h3) h4 h5 h6 (by rw [ok.sc]; exact h7) (by rw [ok.sc]; exact h8) (by rw [ok.sc]; exact h9) ((ht X W C ok).a _ h0) (swN_ok hk (by rw [ok.sc]; exact k2)) (sws_no rfl _ _)
  · exact no h
theorem snd_sto (ho : SndAll G S o) (hi : SndAll G S lo) (ha : SndAll G S a) : SndAll G S (.sto o lo a) := fun X W C ok => .stm fun s fo h => by
  split at h
  · simp only [Bool.and_eq_true] at h
    obtain ⟨⟨⟨⟨h1, h2⟩, h3⟩, h4⟩, h5⟩ := h
    exact ss_sto (by have := ok.un; omega) ((ha X W C ok).e _ h5) ((ho X W C ok).e _ h3) ((hi X W C ok).e _ h4) (sws_no h2 _ _) (sto_none_t rfl _) (fun v => sto_no h1 v) rfl
  · exact no h
theorem snd_aug (op : Operator) (i : Nat) (ha : SndAll G S a) : SndAll G S (.aug op i a) := fun X W C ok => .stm fun s fo h => by
  split at h
  · simp only [Bool.and_eq_true, decide_eq_true_eq] at h
    obtain ⟨⟨⟨h1, h2⟩, h3⟩, h4⟩ := h
    subst h1
    exact ss_aug ok.nd (by rw [ok.N]; exact h2) (ok.loc h3).1 (ok.loc h3).2 ((ha X W C ok).e _ h4)
  · exact no h
theorem snd_ifs (hc : SndAll G S c) (hs : SndAll G S s) (ht : SndAll G S t) : SndAll G S (.ifs c s t) := fun X W C ok => .stm fun st fo h => by
  split at h
  · simp only [Bool.and_eq_true] at h
    exact ss_if ((hc X W C ok).b _ h.1.1) ((hs X W C ok).ss _ fo h.1.2) ((ht X W C ok).ss _ fo h.2)
  · exact no h
theorem snd_for (hi : SndAll G S src) (ht : SndAll G S t) (hs : SndAll G S s) : SndAll G S (.for_ src t s) := fun X W C ok => .stm fun st fo h => by
  split at h
  · obtain ⟨hcm, h⟩ := and2 h
    simp only [Bool.and_eq_true] at h
    obtain ⟨⟨⟨h1, h2⟩, h3⟩, h4⟩ := h
    exact ss_for (fo hcm).1 (ok.calm hcm) ((hi X W C ok).i _ _ h2) ((ht X W C ok).t _ h3) ((hs X W C ok).ss _ fo h4) (fold_no h1 _)
  · exact no h
theorem snd_while (hc : SndAll G S c) (hs : SndAll G S s) : SndAll G S (.while_ c s) := fun X W C ok => .stm fun st fo h => by
  split at h
  · obtain ⟨hcm, h⟩ := and2 h
    simp only [Bool.and_eq_true] at h
    exact ss_while S.wf (fo hcm).1 ((hc X W C ok).b _ h.1) ((hs X W C ok).ss _ fo h.2)
  · exact no h
theorem snd_fld (f : Str) (ha : SndAll G S a) : SndAll G S (.fld f a) := fun X W C ok => .ex fun e h => by
  split at h
  · simp only [Bool.and_eq_true, decide_eq_true_eq, Bool.not_eq_true'] at h
    obtain ⟨⟨⟨⟨h1, h2⟩, h3⟩, h4⟩, h5⟩ := h
    subst h1
    have q := ok.sx h3 W _ _ (by assumption) ((ha X W C ok).e _ h5) (base_no h4 _ _)
    rw [h2] at q
    exact q
  · exact no h
theorem snd_rai (x f : Str) (ha : SndAll G S a) : SndAll G S (.rai x f a) := fun X W C ok => .stm fun s fo h => by
  split at h
  · simp only [Bool.and_eq_true, decide_eq_true_eq] at h
    obtain ⟨⟨⟨⟨⟨h1, h2⟩, h3⟩, h4⟩, h5⟩, h6⟩ := h
    subst h2
    obtain ⟨T, hr⟩ := ok.exi h1 _ (by simpa using h5)
    exact ss_rai (ok.calm h1) T ok.tk hr (ok.gl h3).1 (okN_of (ok.gl h3).2).1 (starE h4 _ _) ((ha X W C ok).e _ h6)
  · exact no h
theorem snd_rais (x : Str) : SndAll G S (.rais x) := fun X W C ok => .stm fun s fo h => by
  split at h
  · simp only [Bool.and_eq_true, decide_eq_true_eq] at h
    obtain ⟨⟨⟨h1, h2⟩, h3⟩, h4⟩ := h
    subst h2
    exact ss_rais (ok.calm h1) (ok.ext h1 _ (by simpa using h4)) ok.tk (ok.gl h3).1 (okN_of (ok.gl h3).2).1
  · exact no h
theorem Ok.tr {X : Cx} {W W' : Wx} {C : SC} (ok : Ok X W G S C) {pn : List (Addr × Obj)} {xe : Value → Shared → Prop} (tk : Takes (X.tr pn xe) W') (n : Nat) (hn : n ≠ 1)
    (ha : n = 2 → ∃ a, C.N[0]? = some a ∧ ∀ p1 p2, SE (X.tr pn xe) W' (.Call (.Name a p1) [] [] p2) (fAct S.lm.lx S.lm.th)) : Ok (X.tr pn xe) W' G S { C with tl := false, ac := n, lq := false, xa := false } where
  calm := ok.calm
  un := ok.un
  gd := ok.gd
  N := ok.N
  nd := ok.nd
  sc := ok.sc
  cl := ok.cl
  tk := tk
  fns := fun hc i x e hp => ⟨(ok.fns hc i x e hp).has⟩
  cst := ok.cst
  bns := ok.bns
  exi := fun hc q hq => ⟨⟨(ok.exi hc q hq).1.has⟩, (ok.exi hc q hq).2⟩
  ext := fun hc q hq => ⟨(ok.ext hc q hq).has⟩
  sx := fun h => nomatch h
  exm := ok.exm
  tl := fun h => nomatch h
  act0 := fun h => absurd h hn
  act := ha
  lam := fun h => nomatch h
theorem Ok.suite {X : Cx} {W : Wx} {C : SC} (ok : Ok X W G S C) {f : Str} {a : Addr} {oe : Obj} {pn : List (Addr × Obj)} (q : Addr × Addr) (b : Bool)
    (hs : b = true → ∀ (W : Wx) (e : Expr) (fa : Fe D) (pos : Pos), SE (X.suite a ((a, oe) :: pn)) W e fa → attributeBase e f X.env (eval e X.env) = eval e X.env → SE (X.suite a ((a, oe) :: pn)) W (.Attribute e f pos) (fFld q f fa)) :
    Ok (X.suite a ((a, oe) :: pn)) W0 G { S with sx := q } { C with cm := false, ef := f, tl := false, ac := 0, lq := false, xa := b } where
  calm := fun h => nomatch h
  un := ok.un
  gd := ok.gd
  N := ok.N
  nd := ok.nd
  sc := ok.sc
  cl := ok.cl
  tk := takes0
  fns := fun h => nomatch h
  cst := ok.cst
  bns := ok.bns
  exi := fun h => nomatch h
  ext := fun h => nomatch h
  sx := hs
  exm := fun h => nomatch h
  tl := fun h => nomatch h
  act0 := fun h => absurd (show (0 : Nat) = 1 from h) (by decide)
  act := fun h => absurd (show (0 : Nat) = 2 from h) (by decide)
  lam := fun h => nomatch h
theorem snd_tryA (x f : Str) (i : Nat) (hb : SndAll G S b) (hs : ∀ S' : Sm, SndAll G S' s) : SndAll G S (.tryA x f i b s) := fun X W C ok => .stm fun st fo h => by
  split at h
  · simp only [Bool.and_eq_true, decide_eq_true_eq] at h
    obtain ⟨⟨⟨⟨⟨⟨⟨h1, h2⟩, h3⟩, h4⟩, h5⟩, h6⟩, h7⟩, h8⟩ := h
    subst h2
    obtain ⟨T, hr⟩ := ok.exi h1 _ (by simpa using h4)
    obtain ⟨fo1, fo2, fo3⟩ := fo h1
    exact ss_tryA fo2 fo3 ok.nd (by rw [ok.N]; exact h5) (by rw [ok.sc]; exact h6) T (ok.gl h3).1 (okN_of (ok.gl h3).2).1 ok.tk
      (fun W' pn xe tk po => (hb _ _ _ (ok.tr tk 0 (by decide) (fun z => absurd z (by decide)))).ss _ (fun _ => ⟨po, fo2, fo3⟩) h7)
      (fun a dx C0 oe pn hm hz hf => (hs _ _ _ _ (ok.suite (a, dx) true fun _ W e fa pos he hb => se_fld T hm hz hf he hb)).ss _ (fun z => nomatch z) h8)
  · exact no h
theorem asB_of {X : Cx} {W : Wx} {C : SC} (ok : Ok X W G S C) {nm : Option Str} {oi : Option Nat} (h : asB C nm oi = true) : AsOk X nm oi := by
  unfold asB at h
  split at h
  · trivial
  · simp only [Bool.and_eq_true, decide_eq_true_eq] at h
    exact ⟨by rw [ok.N]; exact h.1, by rw [ok.sc]; exact h.2⟩
  · cases h
theorem snd_hnd (x : Str) (yes no : List Str) (f : Str) (oi : Option Nat) (hs : ∀ S' : Sm, SndAll G S' s) (hr : SndAll G S t) : SndAll G S (.hnd x yes no f oi s t) := fun X W C ok =>
  ⟨fun _ h => G4.no h, fun _ h => G4.no h, fun _ h => G4.no h, fun _ h => G4.no h, fun _ _ h => G4.no h, fun _ h => G4.no h, fun _ h => G4.no h, fun _ h => G4.no h, fun _ h => G4.no h, fun _ _ h => G4.no h, fun _ _ h => G4.no h, fun ks h => by
    cases ks with
    | nil => exact G4.no h
    | cons k ks =>
      cases k with
      | ExceptHandler ty nm bd pos =>
        cases ty with
        | none => exact G4.no h
        | some ty =>
          cases bd with
          | nil => cases ty <;> exact G4.no h
          | cons b0 bs =>
            cases ty with
            | Name y np =>
              have h : (C.cm && (decide (y = x) && glB C x && asB C nm oi && (oi.isNone || yes.all fun y => G.exi.contains (y, f)) && (chk G s).ss { C with cm := false, ef := f, tl := false, ac := 0, lq := false, xa := oi.isSome } (b0 :: bs) && (chk G t).h C ks && G.exm.any (fun q => decide (q.2.1 = x)) && (yes.all fun y => G.exm.contains (y, x, true)) && (no.all fun y => G.exm.contains (y, x, false)))) = true := h
              simp only [Bool.and_eq_true, decide_eq_true_eq] at h
              obtain ⟨hc, ⟨⟨⟨⟨⟨⟨⟨h1, h2⟩, h3⟩, h4⟩, h5⟩, h6⟩, h7⟩, h8⟩, h9⟩ := h
              subst h1
              obtain ⟨q0, hq0, eq0⟩ := List.any_eq_true.mp h7
              obtain ⟨_, C2, _, m2, _⟩ := ok.exm hc q0 hq0
              rw [of_decide_eq_true eq0] at m2
              have hA := asB_of ok h3
              refine .cons (C := C2) ⟨(ok.gl h2).1, (okN_of (ok.gl h2).2).1, .inl m2⟩ hA (fun z hz => ?_) (fun z hz => ?_) (fun hn a oe cls d pn hzc hf => ?_) (fun hn z hz a dx Cy oe pn hm hzc hf => ?_) ((hr X W C ok).h ks h6)
              · obtain ⟨C1, C3, g1, g2, g3⟩ := ok.exm hc _ (by simpa using List.all_eq_true.mp h8 z hz)
                simp only at g2
                rw [m2] at g2
                cases g2
                exact ⟨C1, g1, g3⟩
              · obtain ⟨C1, C3, g1, g2, g3⟩ := ok.exm hc _ (by simpa using List.all_eq_true.mp h9 z hz)
                simp only at g2
                rw [m2] at g2
                cases g2
                exact ⟨C1, g1, g3⟩
              · have hn : oi = none := hn
                subst hn
                exact (hs { S with sx := (0, 0) } _ _ _ (ok.suite (0, 0) false fun z => nomatch z)).ss _ (fun z => nomatch z) h5
              · have hn : oi ≠ none := hn
                have hsome : oi.isSome = true := by cases oi with | none => exact absurd rfl hn | some _ => rfl
                have hnone : oi.isNone = false := by cases oi with | none => exact absurd rfl hn | some _ => rfl
                rw [hnone, Bool.false_or] at h4
                rw [hsome] at h5
                obtain ⟨T, _⟩ := ok.exi hc (z, f) (by simpa using List.all_eq_true.mp h4 z hz)
                exact (hs { S with sx := (a, dx) } _ _ _ (ok.suite (a, dx) true fun _ W e fa pos he hb => se_fld T hm hzc hf he hb)).ss _ (fun z => nomatch z) h5
            | _ => exact G4.no h⟩
theorem snd_tryM (hb : SndAll G S b) (hh : SndAll G S t) : SndAll G S (.tryM b t) := fun X W C ok => .stm fun st fo h => by
  split at h
  · simp only [Bool.and_eq_true] at h
    obtain ⟨⟨h1, h2⟩, h3, h4⟩ := h
    obtain ⟨fo1, fo2, fo3⟩ := fo h1
    refine ss_tryM fo2 fo3 ok.nd ok.tk (ok.tl h2) (fun W' pn xe tk po => ?_) ((hh X W C ok).h _ h4)
    have tk2 : Takes (X.tr pn xe) (clo W') := Takes.weak tk fun c d σ H z => z σ
    refine (hb _ _ _ (ok.tr tk2 (if C.ac = 1 then 2 else 0) (by split <;> decide) fun z => ?_)).ss _ (fun _ => ⟨po, fo2, fo3⟩) h3
    by_cases hac : C.ac = 1
    · obtain ⟨a, e, A⟩ := ok.act0 hac
      exact ⟨a, e, fun p1 p2 => A pn xe W' tk p1 p2⟩
    · rw [if_neg hac] at z
      exact absurd z (by decide)
  · exact no h
theorem snd_act : SndAll G S .act := fun X W C ok => .ex fun e h => by
  split at h
  · simp only [Bool.and_eq_true, decide_eq_true_eq] at h
    obtain ⟨a, e, A⟩ := ok.act h.1
    rw [h.2] at e
    cases e
    exact A _ _
  · exact no h
theorem noPar_of {p : Arguments} (h : noPar p = true) : p = ⟨[], [], none, [], [], none, []⟩ := by
  obtain ⟨a, b, c, d, e, f, g⟩ := p
  unfold noPar at h
  simp only [Bool.and_eq_true, List.isEmpty_iff, Option.isNone_iff_eq_none] at h
  obtain ⟨⟨⟨⟨⟨⟨rfl, rfl⟩, rfl⟩, rfl⟩, rfl⟩, rfl⟩, rfl⟩ := h
  rfl
theorem snd_clam (i : Nat) (hb : ∀ S' : Sm, SndAll G S' b) : SndAll G S (.clam i b) := fun X W C ok => .ex fun e h => by
  split at h
  · obtain ⟨hc, h⟩ := and2 h
    simp only [Bool.and_eq_true, decide_eq_true_eq] at h
    obtain ⟨⟨⟨⟨⟨h1, h2⟩, h3⟩, h4⟩, h5⟩, h6⟩ := h
    obtain ⟨k, hk2, hcl, hlf⟩ := ok.lam h1
    have hp := noPar_of h5
    subst hp
    refine hcl i _ h3 W _ _ _ _ _ _ _ (ok.gl h2).1 (okN_of (ok.gl h2).2).1 (LamX.lamS_by (by rw [ok.sc]; exact h4)) rfl (fun _ _ _ _ _ => rfl) fun A outer s H E f c' hr => ?_
    refine (hb _ _ _ _ ?_).e _ h6
    exact {
      calm := fun _ => rfl
      un := by
        have := hr.un
        show (A.deeper _).units + 70 < cLine
        omega
      gd := fun z => nomatch z
      N := ok.N
      nd := ok.nd
      sc := rfl
      cl := fun x hx => absurd hx (by simp)
      tk := takes_of rfl rfl rfl rfl
      fns := fun _ j x ej hpl => by
        obtain ⟨k', f', fd, ps, le, F, g2, g3, g4⟩ := hlf j x ej (by simpa using hpl)
        exact ⟨k', f', fd, ps, false, F, (fun z => nomatch z), hr.mono le, g2, g3, g4⟩
      cst := ok.cst
      bns := ok.bns
      exi := fun _ q hq => ⟨⟨(ok.exi hc q hq).1.has⟩, hr.mono hk2⟩
      ext := fun _ q hq => ⟨(ok.ext hc q hq).has⟩
      sx := fun z => nomatch z
      exm := fun _ => ok.exm hc
      tl := fun z => nomatch z
      act0 := fun h => absurd (show (0 : Nat) = 1 from h) (by decide)
      act := fun h => absurd (show (0 : Nat) = 2 from h) (by decide)
      lam := fun z => nomatch z }
  · exact no h
theorem snd_all (G : Gx) (c : CE) : ∀ S : Sm, SndAll G S c := by
  induction c with
  | bad => intro S; exact snd_bad 
  | nil => intro S; exact snd_nil 
  | cons a t ha ht => intro S; exact snd_cons (ha S) (ht S)
  | var i => intro S; exact snd_var i
  | con d => intro S; exact snd_con d
  | gc k => intro S; exact snd_gc k
  | bin op a b ha hb => intro S; exact snd_bin op (ha S) (hb S)
  | cmp op a b ha hb => intro S; exact snd_cmp op (ha S) (hb S)
  | cmp2 op op2 a b c ha hb hc => intro S; exact snd_cmp2 op op2 (ha S) (hb S) (hc S)
  | neg a ha => intro S; exact snd_neg (ha S)
  | not a ha => intro S; exact snd_not (ha S)
  | one a ha => intro S; exact snd_one (ha S)
  | and a b ha hb => intro S; exact snd_and (ha S) (hb S)
  | or a b ha hb => intro S; exact snd_or (ha S) (hb S)
  | ife c a b hc ha hb => intro S; exact snd_ife (hc S) (ha S) (hb S)
  | tup t ht => intro S; exact snd_tup (ht S)
  | lst kn t ht => intro S; exact snd_lst kn (ht S)
  | dic0 => intro S; exact snd_dic0 
  | dct0 => intro S; exact snd_dct0 
  | dsp1 kn a b ha hb => intro S; exact snd_dsp1 kn (ha S) (hb S)
  | rev a ha => intro S; exact snd_rev (ha S)
  | lof t ht => intro S; exact snd_lof (ht S)
  | opN op a b ha hb => intro S; exact snd_opN op (ha S) (hb S)
  | idx a b ha hb => intro S; exact snd_idx (ha S) (hb S)
  | slc a lo hi ha hl hh => intro S; exact snd_slc (ha S) (hl S) (hh S)
  | blt b t ht => intro S; exact snd_blt b (ht S)
  | isi T a ha => intro S; exact snd_isi T (ha S)
  | mmd mx a d ha hd => intro S; exact snd_mmd mx (ha S) (hd S)
  | mth m o t ho ht => intro S; exact snd_mth m (ho S) (ht S)
  | call i t ht => intro S; exact snd_call i (ht S)
  | callD i l t ht => intro S; exact snd_callD i l (ht S)
  | lrng kn a ha => intro S; exact snd_lrng kn (ha S)
  | lc kn src tg c el own hs hg hc he => intro S; exact snd_lc kn own (hs S) (hg S) (hc S) (he S)
  | lc2 kn src tg c src1 tg1 c1 el own vs1 hs hg hc hs1 hg1 hc1 he => intro S; exact snd_lc2 kn own vs1 (hs S) (hg S) (hc S) (hs1 S) (hg1 S) (hc1 S) (he S)
  | rng1 a ha => intro S; exact snd_rng1 (ha S)
  | rng2 a b ha hb => intro S; exact snd_rng2 (ha S) (hb S)
  | enum a ha => intro S; exact snd_enum (ha S)
  | zip a b ha hb => intro S; exact snd_zip (ha S) (hb S)
  | skip => intro S; exact snd_skip 
  | brk => intro S; exact snd_brk 
  | cnt => intro S; exact snd_cnt 
  | retN => intro S; exact snd_retN 
  | ret a ha => intro S; exact snd_ret (ha S)
  | drop a ha => intro S; exact snd_drop (ha S)
  | asg t a ht ha => intro S; exact snd_asg (ht S) (ha S)
  | setlc i kn src tg c el own hs hg hc he => intro S; exact snd_setlc i kn own (hs S) (hg S) (hc S) (he S)
  | par i j t ht => intro S; exact snd_par i j (ht S)
  | par3 i j l t ht => intro S; exact snd_par3 i j l (ht S)
  | sto o i a ho hi ha => intro S; exact snd_sto (ho S) (hi S) (ha S)
  | aug op i a ha => intro S; exact snd_aug op i (ha S)
  | ifs c s t hc hs ht => intro S; exact snd_ifs (hc S) (hs S) (ht S)
  | for_ src t s hi ht hs => intro S; exact snd_for (hi S) (ht S) (hs S)
  | while_ c s hc hs => intro S; exact snd_while (hc S) (hs S)
  | fld f a ha => intro S; exact snd_fld f (ha S)
  | rai x f a ha => intro S; exact snd_rai x f (ha S)
  | rais x => intro S; exact snd_rais x
  | tryA x f i b s hb hs => intro S; exact snd_tryA x f i (hb S) hs
  | hnd x yes no f oi s r hs hr => intro S; exact snd_hnd x yes no f oi hs (hr S)
  | tryM b t hb ht => intro S; exact snd_tryM (hb S) (ht S)
  | clam i b hb => intro S; exact snd_clam i hb
  | act => intro S; exact snd_act
end
end L2.G4

set_option maxHeartbeats 4000000
/-! GZ: the program's defs together; the law's own head. -/
namespace L2.G4
open PySem PySem.Spec PyProof.Rows

/-- what a def computes: parameters, names, code, whether a fresh list is handed back as an object -/
structure FnS where
  m : Nat
  n : Nat
  body : CE
  kn : Bool := false
abbrev Tab := List (Nat × FnS)
/-- a def of the text: its number, its name, its statement, its parameters, its names -/
structure FnD where
  i : Nat
  name : Str
  st : Stmt
  ps : List Str
  N : List Str
  df : List Int := []
noncomputable def stepF (T : Tab) (i : Nat) (S : Sm) : PFn := match T.lookup i with
  | some d => runFn d.kn d.m d.n (den S d.body).s
  | none => fun _ _ => .bad
/-- what the defs that get a lambda make of it -/
noncomputable def clAt (T : Tab) (cs : Nat → D) (wf : Nat) : Nat → Thk → Thk := fun i => match T.lookup i with
  | some d => runC d.kn d.n fun lx th => (den ⟨fun _ _ _ => .bad, cs, wf, (0, 0), { th := th, lx := lx }⟩ d.body).s
  | none => fun _ _ => .bad
noncomputable def fnAt (T : Tab) (cs : Nat → D) (wf : Nat) : Nat → Nat → PFn
  | 0 => fun _ _ _ => .bad
  | 1 => fun i => stepF T i ⟨fnAt T cs wf 0, cs, wf, (0, 0), {}⟩
  | 2 => fun i => stepF T i ⟨fnAt T cs wf 1, cs, wf, (0, 0), {}⟩
  | n + 3 => fun i => stepF T i ⟨fnAt T cs wf (n + 2), cs, wf, (0, 0), { cl := clAt T cs wf, lf := fnAt T cs wf n }⟩
noncomputable def lmAt (T : Tab) (cs : Nat → D) (wf : Nat) : Nat → Lm
  | n + 2 => { cl := clAt T cs wf, lf := fnAt T cs wf n }
  | _ => {}
theorem fnAt_of {T : Tab} {i : Nat} {d : FnS} (h : T.lookup i = some d) (cs : Nat → D) (wf n : Nat) : fnAt T cs wf (n + 1) i = runFn d.kn d.m d.n (den ⟨fnAt T cs wf n, cs, wf, (0, 0), lmAt T cs wf n⟩ d.body).s := by
  have key : ∀ S, stepF T i S = runFn d.kn d.m d.n (den S d.body).s := fun S => by
    unfold stepF
    rw [h]
  match n with
  | 0 => exact key _
  | 1 => exact key _
  | n + 2 => exact key _
theorem clAt_of {T : Tab} {i : Nat} {d : FnS} (h : T.lookup i = some d) (cs : Nat → D) (wf : Nat) : clAt T cs wf i = runC d.kn d.n fun lx th => (den ⟨fun _ _ _ => .bad, cs, wf, (0, 0), { th := th, lx := lx }⟩ d.body).s := by
  unfold clAt
  rw [h]
def scpB (N ps : List Str) (sc : Scope) : Bool :=
  decide (sc.kind = .function) && !sc.isCoroutine && !sc.isGenerator && decide N.Nodup && decide (N.take ps.length = ps) && (ps.all fun x => decide (sc.names.lookup x = some .local) || decide (sc.names.lookup x = some .cell)) && (sc.names.all fun y => decide (y.2 ≠ .free))
theorem scpB_of {N ps : List Str} {sc : Scope} (h : scpB N ps sc = true) : FnScope N ps sc := by
  unfold scpB at h
  simp only [Bool.and_eq_true, decide_eq_true_eq, Bool.not_eq_true', List.all_eq_true, Bool.or_eq_true] at h
  obtain ⟨⟨⟨⟨⟨⟨h1, h2⟩, h3⟩, h4⟩, h5⟩, h6⟩, h7⟩ := h
  exact ⟨h1, h2, h3, h4, h5, h6, h7⟩
def fnOkB (G : Gx) (T : Tab) (d : FnD) : Bool := match T.lookup d.i with
  | some s => scpB d.N d.ps (defScope d.st) && (chk G s.body).ss ⟨d.N, defScope d.st, d.N, true, "", !(G.pl.contains d.i), true, 0, lamNs.contains d.name, false⟩ (defBody d.st) && s.m == d.ps.length && s.n == d.N.length && (!(lamNs.contains d.name) || !(G.pl.contains d.i)) && ((G.dfs.lookup d.i).getD [] == d.df)
  | none => false
def cloOkB (G : Gx) (T : Tab) (d : FnD) : Bool := match T.lookup d.i, d.ps with
  | some s, [a] => scpB d.N [a] (defScope d.st) && decide (d.N[0]? = some a) && visB (defScope d.st) a && okN a && (chk { G with fns := [], clo := [] } s.body).ss ⟨d.N, defScope d.st, d.N, true, "", true, true, 1, false, false⟩ (defBody d.st) && s.n == d.N.length && d.df.isEmpty
  | _, _ => false
theorem lookup_map {P : List FnD} {i : Nat} {x : Str} (h : (P.map fun d => (d.i, d.name)).lookup i = some x) : ∃ d ∈ P, d.i = i ∧ d.name = x := by
  induction P with
  | nil => cases h
  | cons d P ih =>
    rw [List.map_cons, List.lookup_cons] at h
    split at h
    · rename_i e
      cases h
      exact ⟨d, List.mem_cons_self, (beq_iff_eq.mp e).symm, rfl⟩
    · obtain ⟨d', h1, h2⟩ := ih h
      exact ⟨d', List.mem_cons_of_mem _ h1, h2⟩
def r0 : Rm := ⟨fun _ => 0, fun _ => False⟩
def Hp0 : Hp := fun _ => none
/-- what stands behind the top of each def -/
def Fact (K : PySem.W.Frag) (mg : Str → Option Value) (d : FnD) : Prop := ∃ (f : Addr) (fd : FuncData), Fun K d.name d.name d.st f fd ∧ mg d.name = some (.ref f) ∧ ∃ (dvs : List V) (dus : List Value), Binds K fd d.ps dus ∧ Vals dvs dus ∧ ∀ H r n, DVs K H r n (d.df.map D.int) dvs

/-- a def that holds lambdas: its code object and the table of it -/
def LamF (K : PySem.W.Frag) (mg : Str → Option Value) (base : Heap) (d : FnD) : Prop := ∀ (f : Addr) (fd : FuncData), Fun K d.name d.name d.st f fd → mg d.name = some (.ref f) →
  ∃ c Pt, fd.code = .ref c ∧ LamX.TabB base mg c Pt ∧ (Pt, lamQ d.name) ∈ tbK K ∧ ∀ p ∈ tbK K, p.1 = Pt → p.2 = lamQ d.name
theorem vis_of {sc : Scope} {x : Str} (h : visB sc x = true) : Vis sc x := by
  unfold visB at h
  split at h <;> first | (exact .inl (by assumption)) | (exact .inr (.inl (by assumption))) | (exact .inr (.inr (by assumption))) | cases h
section
variable {Pr : Program} {w : World} {K : PySem.W.Frag} {mg : Str → Option Value} {base : Heap} {P Pc : List FnD} {T : Tab} {cs : Nat → D} {wf : Nat} {G : Gx}
theorem fnBad {k : Nat} {f : Addr} {fd : FuncData} {ps : List Str} {gd : Bool} : FnG Pr w K mg base k f fd ps (fun _ _ => .bad) gd := ⟨fun _ _ _ => rfl, fun _ _ _ _ _ _ _ _ _ _ _ _ _ _ _ _ _ _ _ p => p.elim⟩
/-- what a def that gets a lambda makes of it -/
theorem clo_ok {X : Cx} {k : Nat} (hXp : X.prog = Pr) (hXw : X.w = w) (hXK : X.K = K) (hXm : X.mg = mg) (hXb : X.base = base) (hr : Room (k + 2) X.A) (hk2 : 2 ≤ k) (hgd : X.A.guards = some []) {q : Str} (hqn : X.env.qual ++ "<lambda>" = q) {c Pt : Addr} (hcode : X.env.code = .ref c)
    (TB : LamX.TabB base mg c Pt) (hmT : (Pt, q) ∈ tbK K) (hu : ∀ p ∈ tbK K, p.1 = Pt → p.2 = q)
    (hcs : ∀ (k : Nat) (x : Str), G.cst.lookup k = some x → ∃ (u : Value) (v : V), mg x = some u ∧ RelV v u ∧ ∀ H r n, DV K H r n (cs k) v) (hbn : ∀ x ∈ G.bns, mg x = none) (hexi : ∀ q ∈ G.exi, ExI0 Pr w K mg base q.1 q.2) (hext : ∀ x ∈ G.ext, ExT0 K mg x)
    (hexm : ∀ q ∈ G.exm, ∃ C1 C2 : Addr, mg q.1 = some (.ref C1) ∧ mg q.2.1 = some (.ref C2) ∧ PySem.W.exmOne K (.ref C1) (.ref C2) = some q.2.2)
    {d : FnD} (hok : cloOkB G T d = true) (hF : Fact K mg d) (W : Wx) (params : Arguments) (body : Expr) (scope : Scope) (p lpos pos : Pos) (fb : Fe D) (hg : Gl X d.name) (hdb : (d.name == ("__debug__" : Str)) = false) (L : LamX.LamS X.env.scope scope) (hdef : defaultsOf params X.env = ([], []))
    (hbind : ∀ (q : Str) (cl : List (Str × Addr)) (pm cv ctv : Value), bindArgs (PySem.W.kla_fn "<lambda>" q params body scope cl pm cv ctv) ⟨[], []⟩ = pure [])
    (hl : ∀ (A : Around) (outer : List PySem.Env) (s : Shared) (H : Hp) (E : XK) (f c' : Addr), Room k (A.deeper (LamX.lamEnv X scope s.heap.objs.size f c')) → SE (LamX.lamCx X A outer s H E scope f c') (fun c dx _ H' => E c dx H') body fb) :
    SE X W (.Call (.Name d.name p) [.Lambda params body scope lpos] [] pos) (fLam (clAt T cs wf d.i) fb) := by
  subst hXp hXw hXK hXm hXb hqn
  unfold cloOkB at hok
  split at hok
  · rename_i s a es ea
    simp only [Bool.and_eq_true, beq_iff_eq, decide_eq_true_eq] at hok
    obtain ⟨⟨⟨⟨⟨⟨k1, k2⟩, k3⟩, k4⟩, k5⟩, k6⟩, k7⟩ := hok
    obtain ⟨g, fd, F, hm, dvs, dus, hb, hv, hd⟩ := hF
    rw [List.isEmpty_iff.mp k7] at hd
    have hd0 : DVs X.K Hp0 r0 0 [] dvs := hd _ _ _
    cases hd0
    cases hv
    rw [ea] at hb
    obtain ⟨oc, od, kV, doc, pm, an, cdv, ct, osl, rfl, lk, hcd⟩ := F.ex
    rw [clAt_of es, k6]
    refine se_lam (kn := s.kn) (gf := fun lx th => (den ⟨fun _ _ _ => .bad, cs, wf, (0, 0), { th := th, lx := lx }⟩ s.body).s) hg hm F.kp lk hcd hb (scpB_of k1) k2 (vis_of k3) (fun s' H lx th hact => ?_) TB hcode hmT hu hr L hdef hbind hl hdb (okN_of k4).1 (okN_of k4).2.1
    have hr1 : Room (k + 1) (X.A.deeper (envOfC d.name (defScope d.st) s'.heap.objs.size g cdv)) := hr.deeper _
    have ok : Ok (calX X d.N d.name (defScope d.st) g cdv s' H) W0 { G with fns := [], clo := [] } ⟨fun _ _ _ => .bad, cs, wf, (0, 0), { th := th, lx := lx }⟩ ⟨d.N, defScope d.st, d.N, true, "", true, true, 1, false, false⟩ := {
      calm := fun _ => rfl
      un := by
        have := hr1.un
        show (X.A.deeper _).units + 70 < cLine
        omega
      gd := fun _ => hgd
      N := rfl
      nd := (scpB_of k1).nd
      sc := rfl
      cl := fun _ _ => rfl
      tk := takes0
      fns := fun _ j x ej => by cases ej
      cst := hcs
      bns := hbn
      exi := fun _ q hq => ⟨⟨hexi q hq⟩, hr1.mono (by omega)⟩
      ext := fun _ q hq => ⟨hext q hq⟩
      sx := fun h => nomatch h
      exm := fun _ => hexm
      tl := fun _ _ _ _ _ _ h => h
      act0 := fun _ => ⟨a, k2, hact⟩
      act := fun h => absurd (show (1 : Nat) = 2 from h) (by decide)
      lam := fun h => nomatch h }
    exact (snd_all _ s.body _ _ _ _ ok).ss _ (fun _ => ⟨PassesOwn.never, rfl, rfl⟩) k5
  · cases hok
theorem lamI_of {X : Cx} {n : Nat} (hXp : X.prog = Pr) (hXw : X.w = w) (hXK : X.K = K) (hXm : X.mg = mg) (hXb : X.base = base) (hr : Room (n + 2) X.A) (hgd : X.A.guards = some []) {q : Str} (hqn : X.env.qual ++ "<lambda>" = q) {c Pt : Addr} (hcode : X.env.code = .ref c)
    (TB : LamX.TabB base mg c Pt) (hmT : (Pt, q) ∈ tbK K) (hu : ∀ p ∈ tbK K, p.1 = Pt → p.2 = q)
    (hcs : ∀ (k : Nat) (x : Str), G.cst.lookup k = some x → ∃ (u : Value) (v : V), mg x = some u ∧ RelV v u ∧ ∀ H r n, DV K H r n (cs k) v) (hbn : ∀ x ∈ G.bns, mg x = none) (hexi : ∀ q ∈ G.exi, ExI0 Pr w K mg base q.1 q.2) (hext : ∀ x ∈ G.ext, ExT0 K mg x)
    (hexm : ∀ q ∈ G.exm, ∃ C1 C2 : Addr, mg q.1 = some (.ref C1) ∧ mg q.2.1 = some (.ref C2) ∧ PySem.W.exmOne K (.ref C1) (.ref C2) = some q.2.2)
    (hG : G.fns = P.map fun d => (d.i, d.name)) (hGc : G.clo = Pc.map fun d => (d.i, d.name)) (hPc : ∀ d ∈ Pc, cloOkB G T d = true) (hF : ∀ d ∈ P, Fact K mg d) (hFc : ∀ d ∈ Pc, Fact K mg d) (hDf : ∀ d ∈ P, dfl G d.i = d.df.map D.int)
    (IH : ∀ m < n, ∀ d ∈ P, ∃ (f : Addr) (fd : FuncData), FnG Pr w K mg base (m + 2) f fd d.ps (fnAt T cs wf m d.i) (!(G.pl.contains d.i)) ∧ mg d.name = some (.ref f) ∧ PySem.W.keepIn K (.ref f) = true ∧ (∃ (dvs : List V) (dus : List Value), Binds K fd d.ps dus ∧ Vals dvs dus ∧ ∀ H r n, DVs K H r n (dfl G d.i) dvs) ∧ Fun K d.name d.name d.st f fd) :
    LamI X G ⟨fnAt T cs wf n, cs, wf, (0, 0), lmAt T cs wf n⟩ := by
  have small : ∀ k : Nat, (∀ i th st, (lmAt T cs wf n).cl i th st = .bad) → (∀ i ds st, (lmAt T cs wf n).lf i ds st = .bad) → LamI X G ⟨fnAt T cs wf n, cs, wf, (0, 0), lmAt T cs wf n⟩ := fun k h1 h2 => by
    refine ⟨2, Nat.le_refl _, fun i x ej W params body scope p lpos pos fb hg hdb L hdef hbind hl => ?_, fun j x ej _ => ?_⟩
    · have e : fLam ((lmAt T cs wf n).cl i) fb = fun _ _ => .bad := by
        funext env st
        exact h1 _ _ _
      show SE X W _ (fLam ((lmAt T cs wf n).cl i) fb)
      rw [e]
      exact se_bad
    · rw [hG] at ej
      obtain ⟨d', e', rfl, rfl⟩ := lookup_map ej
      obtain ⟨f', fd', F', hm', hb'⟩ := hF d' e'
      subst hXp hXw hXK hXm hXb
      have e : (lmAt T cs wf n).lf d'.i = fun _ _ => .bad := by
        funext ds st
        exact h2 _ _ _
      rw [← hDf d' e'] at hb'
      refine ⟨0, f', fd', d'.ps, by omega, ?_, hm', F'.kp, hb'⟩
      show FnG _ _ _ _ _ _ _ _ _ ((lmAt T cs wf n).lf d'.i) _
      rw [e]
      exact fnBad
  match n, hr, IH, small with
  | 0, _, _, small => exact small 0 (fun _ _ _ => rfl) fun _ _ _ => rfl
  | 1, _, _, small => exact small 0 (fun _ _ _ => rfl) fun _ _ _ => rfl
  | m + 2, hr, IH, _ =>
    refine ⟨m + 2, by omega, fun j x ej W params body scope p lpos pos fb hg hdb L hdef hbind hl => ?_, fun j x ej hpl => ?_⟩
    · rw [hGc] at ej
      obtain ⟨d', e', rfl, rfl⟩ := lookup_map ej
      exact clo_ok (X := X) (k := m + 2) (wf := wf) hXp hXw hXK hXm hXb hr (by omega) hgd hqn hcode TB hmT hu hcs hbn hexi hext hexm (hPc d' e') (hFc d' e') W params body scope p lpos pos fb hg hdb L hdef hbind hl
    · rw [hG] at ej
      obtain ⟨d', e', rfl, rfl⟩ := lookup_map ej
      obtain ⟨f', fd', g1, g2, g3, g4, _⟩ := IH m (by omega) d' e'
      rw [hpl] at g1
      subst hXp hXw hXK hXm hXb
      exact ⟨m + 2, f', fd', d'.ps, Nat.le_refl _, g1, g2, g3, g4⟩
theorem fns_ok (hG : G.fns = P.map fun d => (d.i, d.name)) (hGc : G.clo = Pc.map fun d => (d.i, d.name)) (hP : ∀ d ∈ P, fnOkB G T d = true) (hPc : ∀ d ∈ Pc, cloOkB G T d = true) (hF : ∀ d ∈ P, Fact K mg d) (hFc : ∀ d ∈ Pc, Fact K mg d) (hlam : ∀ d ∈ P, lamNs.contains d.name = true → LamF K mg base d)
    (hcs : ∀ (k : Nat) (x : Str), G.cst.lookup k = some x → ∃ (u : Value) (v : V), mg x = some u ∧ RelV v u ∧ ∀ H r n, DV K H r n (cs k) v) (hbn : ∀ x ∈ G.bns, mg x = none) (hexi : ∀ q ∈ G.exi, ExI0 Pr w K mg base q.1 q.2) (hext : ∀ x ∈ G.ext, ExT0 K mg x)
    (hexm : ∀ q ∈ G.exm, ∃ C1 C2 : Addr, mg q.1 = some (.ref C1) ∧ mg q.2.1 = some (.ref C2) ∧ PySem.W.exmOne K (.ref C1) (.ref C2) = some q.2.2) :
    ∀ (n : Nat) (d : FnD), d ∈ P → ∃ (f : Addr) (fd : FuncData), FnG Pr w K mg base (n + 2) f fd d.ps (fnAt T cs wf n d.i) (!(G.pl.contains d.i)) ∧ mg d.name = some (.ref f) ∧ PySem.W.keepIn K (.ref f) = true ∧ (∃ (dvs : List V) (dus : List Value), Binds K fd d.ps dus ∧ Vals dvs dus ∧ ∀ H r n, DVs K H r n (dfl G d.i) dvs) ∧ Fun K d.name d.name d.st f fd := by
  have hDf : ∀ d ∈ P, dfl G d.i = d.df.map D.int := fun d hd => by
    have hok := hP d hd
    unfold fnOkB at hok
    split at hok
    · simp only [Bool.and_eq_true, beq_iff_eq] at hok
      unfold dfl
      rw [hok.2]
    · cases hok
  intro n
  induction n using Nat.strongRecOn with
  | _ n IH =>
  cases n with
  | zero =>
    intro d hd
    obtain ⟨f, fd, F, hm, hb⟩ := hF d hd
    exact ⟨f, fd, fnBad, hm, F.kp, by rw [hDf d hd]; exact hb, F⟩
  | succ n =>
    intro d hd
    have ih := IH n (Nat.lt_succ_self n)
    obtain ⟨f, fd, F, hm, hb⟩ := hF d hd
    refine ⟨f, fd, ?_, hm, F.kp, by rw [hDf d hd]; exact hb, F⟩
    have hok := hP d hd
    unfold fnOkB at hok
    split at hok
    · rename_i s es
      simp only [Bool.and_eq_true, beq_iff_eq] at hok
      obtain ⟨⟨⟨⟨⟨k1, k2⟩, k3⟩, k4⟩, k5⟩, _⟩ := hok
      rw [fnAt_of es, k3, k4]
      have hlm := hlam d hd
      have F2 := F
      obtain ⟨oc, od, kV, doc, pm, an, cdv, ct, osl, rfl, lk, hcd⟩ := F.ex
      refine fnG_of lk hcd (scpB_of k1) fun A outer s' H E hr hgd => ?_
      have ok : Ok (cxOf (L2.CX Pr w) Pr w K mg base d.N d.name (defScope d.st) f cdv A outer s' H E) (fun c dx _ H' => E c dx H') G ⟨fnAt T cs wf n, cs, wf, (0, 0), lmAt T cs wf n⟩ ⟨d.N, defScope d.st, d.N, true, "", !(G.pl.contains d.i), true, 0, lamNs.contains d.name, false⟩ := {
        calm := fun _ => rfl
        un := by
          have := hr.un
          show (A.deeper _).units + 70 < cLine
          omega
        gd := hgd
        N := rfl
        nd := (scpB_of k1).nd
        sc := rfl
        cl := fun _ _ => rfl
        tk := takes_of rfl rfl rfl rfl
        fns := fun _ j x ej hpl => by
          rw [hG] at ej
          obtain ⟨d', e', rfl, rfl⟩ := lookup_map ej
          obtain ⟨f', fd', g1, g2, g3, g4, _⟩ := ih d' e'
          refine ⟨n + 2, f', fd', d'.ps, _, g1, fun z => ?_, hr, g2, g3, g4⟩
          have hpl : (!(G.pl.contains d.i) || G.pl.contains d'.i) = true := hpl
          have z : (!(G.pl.contains d'.i)) = true := z
          rw [Bool.not_eq_true'] at z
          rw [z, Bool.or_false] at hpl
          exact hgd hpl
        cst := hcs
        bns := hbn
        exi := fun _ q hq => ⟨⟨hexi q hq⟩, hr.mono (by omega)⟩
        ext := fun _ q hq => ⟨hext q hq⟩
        sx := fun h => nomatch h
        exm := fun _ => hexm
        tl := fun _ _ _ _ _ _ h => h
        act0 := fun h => absurd (show (0 : Nat) = 1 from h) (by decide)
        act := fun h => absurd (show (0 : Nat) = 2 from h) (by decide)
        lam := fun hq => by
          have hq : lamNs.contains d.name = true := hq
          have hnp : (!(G.pl.contains d.i)) = true := by
            rw [hq] at k5
            simpa only [Bool.not_true, Bool.false_or] using k5
          obtain ⟨c, Pt, e1, TB, hmT, hu⟩ := hlm hq f _ F2 hm
          exact lamI_of (X := cxOf (L2.CX Pr w) Pr w K mg base d.N d.name (defScope d.st) f cdv A outer s' H E) rfl rfl rfl rfl rfl hr (hgd hnp) (q := lamQ d.name) rfl e1 TB hmT hu hcs hbn hexi hext hexm hG hGc hPc hF hFc hDf fun m hm => IH m (Nat.lt_succ_of_lt hm) }
      exact (snd_all G s.body _ _ _ _ ok).ss _ (fun _ => ⟨passes_of rfl, rfl, rfl⟩) k2
    · cases hok
end

/-! ### the head -/
theorem fls_of {K : PySem.W.Frag} {H : Hp} {a : Addr} {xs : List V} (hO : H a = none ∨ ∃ o ys, H a = some (.frz o (.lst ys))) (h : SqL K H a xs) : FzL K H a xs := by
  rcases h with (h | ⟨o, h⟩) | h
  · rcases hO with z | ⟨o, ys, z⟩
    · rw [h] at z; cases z
    · rw [h] at z; cases z
  · exact .inl ⟨o, h⟩
  · exact .inr (.inr h)
theorem dvs_of_ints {K : PySem.W.Frag} {H : Hp} {r : Rm} {n : Nat} : ∀ ns : List Int, DVs K H r n (ns.map D.int) (ns.map V.int)
  | [] => .nil
  | i :: ns => .cons (.int i) (dvs_of_ints ns)
theorem sr0 {K : PySem.W.Frag} {H : Hp} (h : ∀ p ∈ tbK K, H p.1 = some (.tbl #[])) : Sr K r0 [] H := ⟨fun i j hi => absurd hi (Nat.not_lt_zero _), fun i o e => by simp at e, fun a h => h.elim, fun i hi => absurd hi (Nat.not_lt_zero _), fun p hp => LamX.TabS.nil (h p hp)⟩
/-- the law's call; ts: the code objects and tables of the defs that hold lambdas -/
theorem lawG {P : Program} {w : World} {K : PySem.W.Frag} {mg mb : Str → Option Value} {k : Nat} {fa a : Addr} {fd : FuncData} {x : Str} {F : Nat → PFn} {gd : Bool} {s1 : Shared} {vs : List Value} {ns : List Int} {ts : List (Addr × Addr)}
    (KX : K.In s1.heap) (hns : s1.heap.Ns mainGlobals mg) (hb : s1.heap.Ns builtinsNs mb) (hbb : ∀ x : Str, x ≠ "__name__" → mb x = bootBuiltins x) (hlim : s1.heap.NoLimit) (hg : s1.gens = #[])
    (hT : ∀ p ∈ ts, s1.heap.get? p.2 = some (PySem.W.tabObj #[])) (nT : ∀ p ∈ ts, K.lookup p.2 = none) (cT : ∀ p ∈ ts, PySem.W.CodeHd s1.heap p.1 p.2) (hTK : ∀ p ∈ tbK K, p.1 ∈ ts.map (·.2))
    (hbm : ∃ (bm : Addr) (ob : Obj), mg "__builtins__" = some (.ref bm) ∧ bm ≠ builtinsNs ∧ s1.heap.get? bm = some ob ∧ ob.cls = .type "module" ∧ ob.dict = some builtinsNs ∧ ob.data = .plain)
    (ha : s1.heap.get? a = some { cls := .type "list", data := .seq vs.toArray }) (hi : IntsAre vs ns) (hl : ns.length ≤ sizeLine) (hr : Room k callerA) (hgu : callerA.guards = some [])
    (hF : ∀ base : Heap, K.In base → base.Ns mainGlobals mg → (∀ p ∈ ts, LamX.TabB base mg p.1 p.2) → ∀ wf, FnG P w K mg base k fa fd [x] (F wf) gd) (hbind : ∀ (s : Shared) (u : Value), BindsTo s fd ⟨[u], []⟩ [(x, u)])
    (hsp : ∃ wf st', F wf [.fls (ns.map D.int)] [] = .ok (.bl true) st') :
    codeAny (model P w) callerA (.call (.ref fa) ⟨[.ref a], []⟩) (fun res s' => res = .ok (.ret (.bool true)) ∧ OldK s1.heap s'.heap ∧ s'.os = s1.os ∧ AllBare s'.gens) s1 := by
  have rv := vals_ints hi
  have lenV := hi.length
  have lz : (ns.map V.int).length ≤ sizeLine := by rw [List.length_map]; exact hl
  obtain ⟨wf, st', hev⟩ := hsp
  obtain ⟨tl, htl⟩ : ∃ tl : List Addr, tl = ts.map (·.2) := ⟨_, rfl⟩
  have tObj : ∀ b ∈ tl, s1.heap.get? b = some (PySem.W.tabObj #[]) := fun b hb => by
    rw [htl] at hb
    obtain ⟨p, hp, rfl⟩ := List.mem_map.mp hb
    exact hT p hp
  have tK : ∀ b ∈ tl, K.lookup b = none := fun b hb => by
    rw [htl] at hb
    obtain ⟨p, hp, rfl⟩ := List.mem_map.mp hb
    exact nT p hp
  have aT : a ∉ tl := fun z => by
    have q := tObj a z
    rw [ha] at q
    cases q
  have main : ∀ H : Hp, (∀ b ∈ tl, H b = some (.tbl #[])) → (H a = none ∨ ∃ o xs, H a = some (.frz o (.lst xs))) → (∀ b, b ≠ a → b ∉ tl → H b = none) → SqL K H a (ns.map V.int) → HOk P w H s1.heap → (H a ≠ none → K.lookup a = none) →
      codeAny (model P w) callerA (.call (.ref fa) ⟨[.ref a], []⟩) (fun res s' => res = .ok (.ret (.bool true)) ∧ OldK s1.heap s'.heap ∧ s'.os = s1.os ∧ AllBare s'.gens) s1 := by
    intro H hH hO hA hS hok hK
    -- what is neither the script nor a table is not told
    have free : ∀ {b : Addr} {o : Obj}, s1.heap.get? b = some o → (∀ xs n, o.data ≠ .seq xs n) → o.data ≠ .fields #[] → H b = none := fun {b o} e h1 h2 => by
      by_cases e1 : b = a
      · subst e1
        rw [ha] at e
        cases e
        exact absurd rfl (h1 _ _)
      · by_cases e2 : b ∈ tl
        · rw [tObj b e2] at e
          cases e
          exact absurd rfl h2
        · exact hA b e1 e2
    have freeD : ∀ {b : Addr} {o : Obj} {es : Array DictEntry} {ep : Nat}, s1.heap.get? b = some o → o.data = .dict es ep → H b = none := fun e d => free e (fun xs n z => by rw [d] at z; cases z) fun z => by rw [d] at z; cases z
    have nsB : ∀ {b : Addr} {m : Str → Option Value}, s1.heap.Ns b m → (hidT s1.heap H).Ns b m := fun ⟨o, es, ep, e, d, q⟩ => ⟨o, es, ep, hidT_get e (freeD e d), d, q⟩
    have kB : K.In (hidT s1.heap H) := fun b o e => hidT_get (KX b o e) (by
      by_cases e1 : b = a
      · subst e1
        cases q : H b with
        | none => rfl
        | some u =>
          have z := hK (by rw [q]; simp)
          rw [e] at z
          cases z
      · by_cases e2 : b ∈ tl
        · have z := tK b e2
          rw [e] at z
          cases z
        · exact hA b e1 e2)
    have modB : Mod K mg (hidT s1.heap H) := by
      obtain ⟨mc, l1, l2⟩ := hlim
      exact ⟨kB, nsB hns, ⟨mb, nsB hb, hbb⟩, ⟨mc, nsB l1, l2⟩⟩
    have tabs : ∀ p ∈ ts, LamX.TabB (hidT s1.heap H) mg p.1 p.2 := fun p hp => by
      have hTp := hT p hp
      refine ⟨?_, ?_, fun z => ?_⟩
      · obtain ⟨o, us, file, tf, flags, tg, inF, text, tt, e1, r1, r2, r3, r⟩ := cT p hp
        refine ⟨o, us, file, tf, flags, tg, inF, text, tt, hidT_get e1 (free e1 (fun xs n z => ?_) fun z => ?_), r1, r2, r3, r⟩
        · rw [r2] at z; cases z
        · rw [r2] at z
          cases z
          simp at r3
      · obtain ⟨bm, ob, b1, b2, b3, b4, b5, b6⟩ := hbm
        refine ⟨bm, ob, b1, b2, fun q => ?_, fun q => ?_, hidT_get b3 (free b3 (fun xs n z => ?_) fun z => ?_), b4, b5, b6⟩
        · obtain ⟨o, es, ep, e, hd, _⟩ := hns
          rw [q, e] at b3
          cases b3
          rw [hd] at b6
          cases b6
        · rw [q, hTp] at b3
          cases b3
          cases b6
        · rw [b6] at z; cases z
        · rw [b6] at z; cases z
      · obtain ⟨o, es, ep, e, hd, _⟩ := hns
        rw [z, hTp] at e
        cases e
        cases hd
    have e0 : Env0 P w K mg (hidT s1.heap H) callerA [] s1 H :=
      { frames := rfl, mod := modB, bs := fun b o e => of_hidT e, bsz := Nat.le_of_eq (hidT_size _ _), funs := trivial, frf := fun b hb => absurd (show b ∈ ([] : List Addr) from hb) (by simp), hok := hok, bare := .of_eq hg }
    have dv : DVs K H r0 0 [.fls (ns.map D.int)] [.ref a] := .cons (.fls (fls_of hO hS) (by rw [List.length_map]; exact hl) (dvs_of_ints ns)) .nil
    have po : Po K mg (fun _ _ _ _ => False) r0 [] H [] (Pv K fun v _ => v = .bl true) (F wf [.fls (ns.map D.int)] []) := by
      rw [hev]
      intro r' H' _ _ v hv
      cases hv
      rfl
    have s0 : Sr K r0 [] H := sr0 fun p hp => hH _ (by rw [htl]; exact hTK p hp)
    refine codeAny_mono ((hF _ kB (nsB hns) tabs wf).run callerA [] s1 H ⟨[.ref a], []⟩ [.ref a] [.ref a] r0 [] [.fls (ns.map D.int)] (fun v _ => v = .bl true) (fun _ _ _ => False) hr (fun _ => hgu) e0 (hbind s1 (.ref a)) (.cons rfl .nil) s0 dv po) fun res s' h => ?_
    cases res with
    | error e =>
      obtain ⟨_, _, _, _, _, _, _, _, _, _, _, _, z⟩ := h
      exact z.elim
    | ok fl =>
      cases fl with
      | ret u =>
        obtain ⟨v, H', os, bare, un, hok', rr, q⟩ := h
        have q' : v = .bl true := q
        subst q'
        obtain rfl : u = Value.bool true := rr
        have same : ∀ b o, b ∉ tl → s1.heap.get? b = some o → s'.heap.get? b = some o := fun b o hb e => by
          cases hq : H b with
          | none => exact un.keep b o e hq (fun q => absurd (show b ∈ ([] : List Addr) from q) (by simp)) (by simp)
          | some u =>
            have eb : b = a := Classical.byContradiction fun z => by rw [hA b z hb] at hq; cases hq
            subst eb
            rcases hO with z | ⟨ob, xs, z⟩
            · rw [hq] at z; cases z
            · have z2 := un.frzs b ob _ z
              have c1 := (hok b _ z).1
              have c2 := (hok' b _ z2).1
              rw [e] at c1
              cases c1
              exact c2
        have grow : ∀ p ∈ ts, ∃ more : Array Value, s'.heap.get? p.2 = some (PySem.W.tabObj more) := fun p hp => by
          obtain ⟨more, z⟩ := un.tbls p.2 #[] (hH p.2 (by rw [htl]; exact List.mem_map.mpr ⟨p, hp, rfl⟩))
          exact ⟨_, hok' p.2 _ z⟩
        refine ⟨rfl, ⟨fun b o e => ?_, fun b o e => ?_⟩, os, bare⟩
        · by_cases hb : b ∈ tl
          · have hb2 := hb
            rw [htl] at hb2
            obtain ⟨p, hp, rfl⟩ := List.mem_map.mp hb2
            obtain ⟨more, hm⟩ := grow p hp
            rw [hT p hp] at e
            cases e
            exact .inr (.inl ⟨((cT p hp).tab (hT p hp)).isCodeTable, rfl, #[], more, rfl, by rw [Array.empty_append]; exact hm⟩)
          · exact .inl (same b o hb e)
        · by_cases hb : b ∈ tl
          · rw [htl] at hb
            obtain ⟨p, hp, rfl⟩ := List.mem_map.mp hb
            obtain ⟨more, hm⟩ := grow p hp
            exact ⟨_, hm⟩
          · exact ⟨o, same b o hb e⟩
      | next => exact False.elim h
      | brk => exact False.elim h
      | cont => exact False.elim h
  cases hk : K.lookup a with
  | some o =>
    have e := KX a o hk
    rw [ha] at e
    cases e
    have na : (fun b => if b ∈ tl then some (HO.tbl #[]) else none : Hp) a = none := if_neg aT
    refine main (fun b => if b ∈ tl then some (.tbl #[]) else none) (fun b hb => if_pos hb) (.inl na) (fun b _ hb => if_neg hb) (.inr ⟨_, vs.toArray, _, hk, rfl, rfl, rfl, by rw [List.size_toArray, lenV]; exact hl, by simpa using rv⟩) (fun b u z => ?_) fun z => absurd na z
    by_cases hb : b ∈ tl
    · have z' := (if_pos hb).symm.trans z
      cases z'
      exact tObj b hb
    · have z' := (if_neg hb).symm.trans z
      cases z'
  | none =>
    have at_ : (fun b => if b = a then some (HO.frz { cls := .type "list", data := .seq vs.toArray } (.lst (ns.map V.int))) else if b ∈ tl then some (.tbl #[]) else none : Hp) a = some (HO.frz { cls := .type "list", data := .seq vs.toArray } (.lst (ns.map V.int))) := if_pos rfl
    refine main (fun b => if b = a then some (.frz { cls := .type "list", data := .seq vs.toArray } (.lst (ns.map V.int))) else if b ∈ tl then some (.tbl #[]) else none) (fun b hb => (if_neg (fun z => aT (by rw [← z]; exact hb))).trans (if_pos hb)) (.inr ⟨_, _, at_⟩) (fun b h1 h2 => (if_neg h1).trans (if_neg h2)) (.inl (.inr ⟨_, at_⟩)) (fun b u z => ?_) fun _ => hk
    by_cases hb : b = a
    · subst hb
      have z' := at_.symm.trans z
      cases z'
      exact ⟨ha, lz, vs, _, rv, ha⟩
    · have z1 := (if_neg hb).symm.trans z
      by_cases h2 : b ∈ tl
      · have z' := (if_pos h2).symm.trans z1
        cases z'
        exact tObj b h2
      · have z' := (if_neg h2).symm.trans z1
        cases z'
/-- the code objects and tables of the defs that hold lambdas -/
def tsK (K : PySem.W.Frag) : List (Addr × Addr) := lamNs.filterMap (PySem.W.tabIn K)
def tsB (K : PySem.W.Frag) (tl : List Addr) : Bool := (lamNs.all fun x => (PySem.W.tabIn K x).isSome) && ((tsK K).all fun p => tl.contains p.2 && (K.lookup p.2).isNone && PySem.W.codeHdIn K p.1 p.2) &&
  (lamNs.all fun x => lamNs.all fun y => match PySem.W.tabIn K x, PySem.W.tabIn K y with
    | some p, some q => !(p.2 == q.2) || decide (x = y)
    | _, _ => true)
theorem tsB_tab {K : PySem.W.Frag} {tl : List Addr} (h : tsB K tl = true) {p : Addr × Addr} (hp : p ∈ tsK K) : p.2 ∈ tl ∧ K.lookup p.2 = none ∧ PySem.W.codeHdIn K p.1 p.2 = true := by
  unfold tsB at h
  simp only [Bool.and_eq_true, List.all_eq_true] at h
  obtain ⟨⟨h1, h2⟩, h3⟩ := h.1.2 p hp
  exact ⟨by simpa using h1, by simpa using h2, h3⟩
theorem lamF_of {K : PySem.W.Frag} {mg : Str → Option Value} {base h : Heap} {tl : List Addr} (X : K.In h) (HG : h.Ns mainGlobals mg) (hB : tsB K tl = true) (TB : ∀ p ∈ tsK K, LamX.TabB base mg p.1 p.2) (d : FnD) (hd : lamNs.contains d.name = true) : LamF K mg base d := by
  have hd : d.name ∈ lamNs := by simpa using hd
  have hB2 := hB
  unfold tsB at hB2
  simp only [Bool.and_eq_true, List.all_eq_true] at hB2
  obtain ⟨⟨h1, _⟩, h3⟩ := hB2
  obtain ⟨⟨c, Pt⟩, ht⟩ := Option.isSome_iff_exists.mp (h1 _ hd)
  intro f fd F hm
  obtain ⟨oc, od, kV, doc, pm, an, cdv, ct, osl, rfl, lk, hcd⟩ := F.ex
  refine ⟨c, Pt, PySem.W.law_code X HG ht hm (X _ _ lk) rfl, TB _ (List.mem_filterMap.mpr ⟨_, hd, ht⟩), List.mem_filterMap.mpr ⟨_, hd, by rw [ht]; rfl⟩, fun p hp e => ?_⟩
  obtain ⟨y, hy, ey⟩ := List.mem_filterMap.mp hp
  cases hq : PySem.W.tabIn K y with
  | none => rw [hq] at ey; cases ey
  | some q =>
    rw [hq] at ey
    cases ey
    have k := h3 _ hd y hy
    rw [ht, hq] at k
    have e : q.2 = Pt := e
    simp only [e, Bool.or_eq_true, Bool.not_eq_true', beq_self_eq_true, decide_eq_true_eq] at k
    rcases k with k | k
    · cases k
    · show lamQ y = lamQ d.name
      rw [k]
theorem walkG {l : PySem.W.OpenLaw} {n k : Nat} {q : Program} {loose : List Str} {XP : (Str → Option Value) → Heap → Prop} {YP : World → Heap → Prop} {d : DefRec} {K : Params → PySem.W.Frag} {x : Str} {F : Nat → PFn} {gd : Bool} {tl : List Addr}
    (hn : l.most = some n) (hn2 : n ≤ sizeLine) (hdf : d.params.defaults = []) (hr : Room k callerA) (hgu : callerA.guards = some []) (hY : ∀ (w : World) (h : Heap), YP w h → (K w.params).In h)
    (hY2 : ∀ (w : World) (h : Heap), YP w h → ∀ P ∈ tl, h.get? P = some (PySem.W.tabObj #[])) (hB : ∀ w : World, tsB (K w.params) tl = true)
    (hF : ∀ (w : World) (mg : Str → Option Value) (fa : Addr) (h : Heap), (K w.params).In h → h.Ns mainGlobals mg → mg d.name = some (.ref fa) → tsB (K w.params) tl = true →
      ∃ fd : FuncData, (∀ (s : Shared) (u : Value), BindsTo s fd ⟨[u], []⟩ [(x, u)]) ∧ ∀ base : Heap, (K w.params).In base → base.Ns mainGlobals mg → (∀ p ∈ tsK (K w.params), LamX.TabB base mg p.1 p.2) → ∀ wf, FnG l.prog w (K w.params) mg base k fa fd [x] (F wf) gd)
    (hsp : ∀ ns : List Int, ns.length ≤ n → ∃ wf st', F wf [.fls (ns.map D.int)] [] = .ok (.bl true) st') :
    PySem.W.WalkO q loose XP YP l.row.toRowW d [] (fun f vs => PySem.call f vs) := by
  refine Att.attach_call hn hdf fun w s0 s1 mg mb fa o pm cd doc a vs ns G Y ho hd hcd hmg hobj hints hlen hg => ?_
  have KX := hY w _ Y
  obtain ⟨fd, hb, hF⟩ := hF w mg fa _ KX G.T.g hmg (hB w)
  exact lawG (ts := tsK (K w.params)) KX G.T.g G.T.b G.T.builtins G.T.nolimit hg (fun p hp => hY2 w _ Y _ (tsB_tab (hB w) hp).1) (fun p hp => (tsB_tab (hB w) hp).2.1) (fun p hp => PySem.W.codeHd_of_K KX (tsB_tab (hB w) hp).2.2)
    (fun p hp => by
      obtain ⟨y, hy, ey⟩ := List.mem_filterMap.mp hp
      cases hq : PySem.W.tabIn (K w.params) y with
      | none => rw [hq] at ey; cases ey
      | some r =>
        rw [hq] at ey
        cases ey
        exact List.mem_map.mpr ⟨r, List.mem_filterMap.mpr ⟨y, hy, hq⟩, rfl⟩) G.T.bmain hobj hints (Nat.le_trans hlen hn2) hr hgu hF hb (hsp ns hlen)
end L2.G4

set_option maxHeartbeats 4000000
namespace L2.G4
open PySem PySem.Spec PyProof.Rows
def c_is_integer : CE := .cons (.ret (.and (.isi "int" (.var 0)) (.one (.not (.isi "bool" (.var 0)))))) (.nil)
def s_is_integer : FnS := ⟨1, 1, c_is_integer, false⟩
def c_is_between : CE := .cons (.ret (.and (.call 1 (.cons (.var 0) (.nil))) (.one (.cmp2 .LtE .LtE (.var 1) (.var 0) (.var 2))))) (.nil)
def s_is_between : FnS := ⟨3, 3, c_is_between, false⟩
def c_is_delay : CE := .cons (.ret (.call 2 (.cons (.var 0) (.cons (.bin .Sub (.con (.int 0)) (.gc 2)) (.cons (.bin .Sub (.gc 2) (.con (.int 1))) (.nil)))))) (.nil)
def s_is_delay : FnS := ⟨1, 1, c_is_delay, false⟩
def c_u_law_source : CE := .cons (.asg (.var 2) (.ife (.cmp .Lt (.var 1) (.blt .len (.cons (.var 0) (.nil)))) (.idx (.var 0) (.var 1)) (.bin .Add (.bin .Mult (.con (.int 5)) (.var 1)) (.con (.int 4))))) (.cons (.asg (.var 3) (.bin .Mod (.blt .abs (.cons (.var 2) (.nil))) (.bin .Pow (.bin .Pow (.con (.int 10)) (.con (.int 60))) (.con (.int 11))))) (.cons (.asg (.var 4) (.bin .Mod (.bin .Add (.bin .Add (.bin .Mult (.var 3) (.con (.int 6364136223846793005))) (.bin .Mult (.con (.int 1181783497)) (.var 1))) (.blt .int (.cons (.cmp .Lt (.var 2) (.con (.int 0))) (.nil)))) (.con (.int 9007199254740881)))) (.cons (.ret (.lst true (.cons (.blt .max (.cons (.con (.int 0)) (.cons (.bin .Add (.bin .Sub (.var 3) (.bin .Pow (.con (.int 10)) (.con (.int 18)))) (.con (.int 1))) (.nil)))) (.cons (.var 4) (.cons (.con (.int 0)) (.nil)))))) (.nil))))
def s_u_law_source : FnS := ⟨2, 5, c_u_law_source, true⟩
def c_u_law_draw : CE := .cons (.ifs (.cmp .Gt (.idx (.var 0) (.con (.int 0))) (.con (.int 0))) (.cons (.asg (.var 4) (.bin .Mod (.blt .int (.cons (.idx (.var 0) (.con (.int 0))) (.nil))) (.var 1))) (.cons (.sto (.var 0) (.con (.int 0)) (.bin .FloorDiv (.idx (.var 0) (.con (.int 0))) (.var 1))) (.cons (.ret (.var 4)) (.nil)))) (.nil)) (.cons (.sto (.var 0) (.con (.int 2)) (.bin .Add (.idx (.var 0) (.con (.int 2))) (.con (.int 1)))) (.cons (.asg (.var 2) (.bin .Mod (.blt .int (.cons (.bin .Add (.idx (.var 0) (.con (.int 1))) (.bin .Mult (.con (.int 2654435769)) (.idx (.var 0) (.con (.int 2))))) (.nil))) (.con (.int 4503599627370449)))) (.cons (.asg (.var 3) (.bin .Mult (.bin .Mod (.blt .int (.cons (.bin .Mult (.var 2) (.var 2)) (.nil))) (.con (.int 2251799813685119))) (.var 2))) (.cons (.asg (.var 3) (.bin .Add (.bin .Add (.var 3) (.bin .Mult (.con (.int 40503)) (.idx (.var 0) (.con (.int 2))))) (.bin .Mod (.blt .int (.cons (.idx (.var 0) (.con (.int 1))) (.nil))) (.con (.int 32749))))) (.cons (.ret (.bin .Mod (.bin .FloorDiv (.bin .Mod (.blt .int (.cons (.bin .Mult (.var 3) (.var 3)) (.nil))) (.con (.int 1125899906842589))) (.con (.int 1024))) (.var 1))) (.nil))))))
def s_u_law_draw : FnS := ⟨2, 5, c_u_law_draw, false⟩
def c_is_pair : CE := .cons (.ret (.and (.isi "tuple" (.var 0)) (.one (.cmp .Eq (.blt .len (.cons (.var 0) (.nil))) (.con (.int 2)))))) (.nil)
def s_is_pair : FnS := ⟨1, 1, c_is_pair, false⟩
def c_u_law_delay_v1 : CE := .cons (.asg (.var 2) (.call 13 (.cons (.var 0) (.cons (.con (.int 16)) (.nil))))) (.cons (.ifs (.cmp .Lt (.var 2) (.con (.int 11))) (.cons (.ret (.bin .Sub (.call 13 (.cons (.var 0) (.cons (.con (.int 7)) (.nil)))) (.con (.int 3)))) (.nil)) (.nil)) (.cons (.ifs (.or (.cmp .Lt (.var 2) (.con (.int 15))) (.one (.cmp .Lt (.var 1) (.con (.int 59))))) (.cons (.ret (.bin .Sub (.call 13 (.cons (.var 0) (.cons (.bin .Add (.bin .Mult (.con (.int 2)) (.var 1)) (.con (.int 1))) (.nil)))) (.var 1))) (.nil)) (.nil)) (.cons (.ret (.idx (.lst false (.cons (.neg (.con (.int 60))) (.cons (.con (.int 59)) (.cons (.neg (.con (.int 59))) (.cons (.con (.int 58)) (.nil)))))) (.call 13 (.cons (.var 0) (.cons (.con (.int 4)) (.nil)))))) (.nil))))
def s_u_law_delay_v1 : FnS := ⟨2, 3, c_u_law_delay_v1, false⟩
def c_are_terms : CE := .cons (.ifs (.or (.not (.isi "tuple" (.var 1))) (.one (.not (.blt .all (.cons (.lc false (.var 1) (.var 4) (.nil) (.call 4 (.cons (.var 4) (.nil))) [("term", 4)]) (.nil)))))) (.cons (.ret (.con (.bl false))) (.nil)) (.nil)) (.cons (.ifs (.not (.blt .all (.cons (.lc false (.var 1) (.tup (.cons (.var 5) (.cons (.var 6) (.nil)))) (.nil) (.and (.call 2 (.cons (.var 5) (.cons (.con (.int 0)) (.cons (.bin .Sub (.var 0) (.con (.int 1))) (.nil))))) (.one (.call 1 (.cons (.var 6) (.nil))))) [("variable", 5), ("delay", 6)]) (.nil)))) (.cons (.ret (.con (.bl false))) (.nil)) (.nil)) (.cons (.ret (.blt .all (.cons (.lc false (.zip (.var 1) (.slc (.var 1) (.con (.int 1)) (.nil))) (.tup (.cons (.var 2) (.cons (.var 3) (.nil)))) (.nil) (.cmp .Lt (.idx (.var 2) (.con (.int 0))) (.idx (.var 3) (.con (.int 0)))) [("one", 2), ("other", 3)]) (.nil)))) (.nil)))
def s_are_terms : FnS := ⟨2, 7, c_are_terms, false⟩
def c_is_loose_rule : CE := .cons (.ret (.and (.call 4 (.cons (.var 1) (.nil))) (.and (.call 2 (.cons (.idx (.var 1) (.con (.int 0))) (.cons (.con (.int 0)) (.cons (.bin .Sub (.var 0) (.con (.int 1))) (.nil))))) (.one (.call 5 (.cons (.var 0) (.cons (.idx (.var 1) (.con (.int 1))) (.nil)))))))) (.nil)
def s_is_loose_rule : FnS := ⟨2, 2, c_is_loose_rule, false⟩
def c_is_loose_rules : CE := .cons (.ifs (.or (.not (.call 4 (.cons (.var 0) (.nil)))) (.or (.not (.call 2 (.cons (.idx (.var 0) (.con (.int 0))) (.cons (.con (.int 1)) (.cons (.gc 0) (.nil)))))) (.one (.not (.isi "tuple" (.idx (.var 0) (.con (.int 1)))))))) (.cons (.ret (.con (.bl false))) (.nil)) (.nil)) (.cons (.ret (.blt .all (.cons (.lc false (.idx (.var 0) (.con (.int 1))) (.var 1) (.nil) (.call 6 (.cons (.idx (.var 0) (.con (.int 0))) (.cons (.var 1) (.nil)))) [("rule", 1)]) (.nil)))) (.nil))
def s_is_loose_rules : FnS := ⟨1, 2, c_is_loose_rules, false⟩
def c_is_rule_by : CE := .cons (.ret (.and (.call 6 (.cons (.var 0) (.cons (.var 1) (.nil)))) (.one (.blt .all (.cons (.lc false (.idx (.var 1) (.con (.int 1))) (.tup (.cons (.var 2) (.cons (.var 3) (.nil)))) (.nil) (.call 3 (.cons (.var 3) (.nil))) [("variable", 2), ("delay", 3)]) (.nil)))))) (.nil)
def s_is_rule_by : FnS := ⟨2, 4, c_is_rule_by, false⟩
def c_is_rule_set : CE := .cons (.ifs (.or (.not (.call 7 (.cons (.var 0) (.nil)))) (.one (.cmp .Gt (.blt .len (.cons (.idx (.var 0) (.con (.int 1))) (.nil))) (.gc 1)))) (.cons (.ret (.con (.bl false))) (.nil)) (.nil)) (.cons (.ret (.blt .all (.cons (.lc false (.idx (.var 0) (.con (.int 1))) (.var 1) (.nil) (.call 8 (.cons (.idx (.var 0) (.con (.int 0))) (.cons (.var 1) (.nil)))) [("rule", 1)]) (.nil)))) (.nil))
def s_is_rule_set : FnS := ⟨1, 2, c_is_rule_set, false⟩
def c_check_rules : CE := .cons (.ifs (.not (.call 11 (.cons (.var 0) (.nil)))) (.cons (.bad) (.nil)) (.nil)) (.nil)
def s_check_rules : FnS := ⟨1, 1, c_check_rules, false⟩
def c_u_law_ring : CE := .cons (.asg (.tup (.cons (.var 5) (.cons (.var 6) (.nil)))) (.tup (.cons (.lrng true (.var 1)) (.cons (.lst true (.nil)) (.nil))))) (.cons (.for_ (.rng1 (.bin .Add (.con (.int 1)) (.call 13 (.cons (.var 0) (.cons (.var 1) (.nil)))))) (.var 3) (.cons (.drop (.mth .append (.var 6) (.cons (.mth .pop (.var 5) (.cons (.call 13 (.cons (.var 0) (.cons (.blt .len (.cons (.var 5) (.nil))) (.nil)))) (.nil))) (.nil)))) (.nil))) (.cons (.asg (.var 4) (.lc true (.var 6) (.var 3) (.nil) (.bin .Sub (.call 13 (.cons (.var 0) (.cons (.con (.int 7)) (.nil)))) (.con (.int 3))) [("turn", 3)])) (.cons (.sto (.var 4) (.con (.int 0)) (.bin .Sub (.var 2) (.blt .sum (.cons (.slc (.var 4) (.con (.int 1)) (.nil)) (.nil))))) (.cons (.ret (.lc false (.enum (.var 6)) (.tup (.cons (.var 7) (.cons (.var 8) (.nil)))) (.nil) (.tup (.cons (.var 8) (.cons (.tup (.cons (.tup (.cons (.idx (.var 6) (.bin .Sub (.var 7) (.con (.int 1)))) (.cons (.idx (.var 4) (.var 7)) (.nil)))) (.nil))) (.nil)))) [("at", 7), ("one", 8)])) (.nil)))))
def s_u_law_ring : FnS := ⟨3, 9, c_u_law_ring, false⟩
def c_u_law_terms_v1 : CE := .cons (.asg (.var 4) (.dic0)) (.cons (.for_ (.rng1 (.var 2)) (.var 5) (.cons (.sto (.var 4) (.call 13 (.cons (.var 0) (.cons (.var 1) (.nil)))) (.call 50 (.cons (.var 0) (.cons (.var 3) (.nil))))) (.nil))) (.cons (.ret (.blt .tuple (.cons (.lc false (.blt .sorted (.cons (.var 4) (.nil))) (.var 6) (.nil) (.tup (.cons (.var 6) (.cons (.idx (.var 4) (.var 6)) (.nil)))) [("variable", 6)]) (.nil)))) (.nil)))
def s_u_law_terms_v1 : FnS := ⟨4, 7, c_u_law_terms_v1, false⟩
def c_u_law_widened_v1 : CE := .cons (.asg (.tup (.cons (.var 5) (.cons (.var 6) (.nil)))) (.var 2)) (.cons (.asg (.var 4) (.call 13 (.cons (.var 0) (.cons (.var 1) (.nil))))) (.cons (.ifs (.or (.cmp .In (.var 4) (.lc false (.var 6) (.tup (.cons (.var 7) (.cons (.var 8) (.nil)))) (.nil) (.var 7) [("one", 7), ("delay", 8)])) (.one (.cmp .Gt (.call 13 (.cons (.var 0) (.cons (.con (.int 3)) (.nil)))) (.con (.int 0))))) (.cons (.ret (.var 2)) (.nil)) (.nil)) (.cons (.ret (.tup (.cons (.var 5) (.cons (.blt .tuple (.cons (.blt .sorted (.cons (.bin .Add (.var 6) (.tup (.cons (.tup (.cons (.var 4) (.cons (.call 50 (.cons (.var 0) (.cons (.var 3) (.nil)))) (.nil)))) (.nil)))) (.nil))) (.nil))) (.nil))))) (.nil))))
def s_u_law_widened_v1 : FnS := ⟨4, 9, c_u_law_widened_v1, false⟩
def c_u_law_rules_v1 : CE := .cons (.asg (.var 3) (.lst true (.nil))) (.cons (.for_ (.rng1 (.idx (.lst false (.cons (.con (.int 0)) (.cons (.con (.int 1)) (.cons (.con (.int 1)) (.cons (.con (.int 2)) (.nil)))))) (.call 13 (.cons (.var 0) (.cons (.con (.int 4)) (.nil)))))) (.var 4) (.cons (.asg (.var 6) (.call 16 (.cons (.var 0) (.cons (.var 1) (.cons (.idx (.lst false (.cons (.neg (.con (.int 1))) (.cons (.neg (.con (.int 1))) (.cons (.con (.int 0)) (.cons (.con (.int 1)) (.nil)))))) (.call 13 (.cons (.var 0) (.cons (.con (.int 4)) (.nil))))) (.nil)))))) (.cons (.asg (.var 7) (.call 13 (.cons (.var 0) (.cons (.con (.int 2)) (.nil))))) (.cons (.drop (.mth .extend (.var 3) (.cons (.lc false (.var 6) (.var 9) (.nil) (.ife (.cmp .Eq (.var 7) (.con (.int 1))) (.call 52 (.cons (.var 0) (.cons (.var 1) (.cons (.var 9) (.cons (.var 2) (.nil)))))) (.var 9)) [("row", 9)]) (.nil)))) (.nil))))) (.cons (.for_ (.rng1 (.call 13 (.cons (.var 0) (.cons (.bin .Add (.bin .Mult (.con (.int 2)) (.var 1)) (.con (.int 2))) (.nil))))) (.var 4) (.cons (.asg (.var 8) (.idx (.lst false (.cons (.con (.int 1)) (.cons (.con (.int 1)) (.cons (.con (.int 2)) (.cons (.con (.int 2)) (.cons (.con (.int 3)) (.cons (.var 1) (.cons (.con (.int 0)) (.nil))))))))) (.call 13 (.cons (.var 0) (.cons (.con (.int 7)) (.nil)))))) (.cons (.ifs (.or (.cmp .Gt (.var 8) (.con (.int 0))) (.one (.cmp .Eq (.call 13 (.cons (.var 0) (.cons (.con (.int 6)) (.nil)))) (.con (.int 0))))) (.cons (.drop (.mth .append (.var 3) (.cons (.tup (.cons (.call 13 (.cons (.var 0) (.cons (.var 1) (.nil)))) (.cons (.call 51 (.cons (.var 0) (.cons (.var 1) (.cons (.var 8) (.cons (.var 2) (.nil)))))) (.nil)))) (.nil)))) (.nil)) (.nil)) (.nil)))) (.cons (.asg (.var 5) (.lst true (.nil))) (.cons (.while_ (.cmp .NotEq (.var 3) (.lst false (.nil))) (.cons (.drop (.mth .append (.var 5) (.cons (.mth .pop (.var 3) (.cons (.call 13 (.cons (.var 0) (.cons (.blt .len (.cons (.var 3) (.nil))) (.nil)))) (.nil))) (.nil)))) (.nil))) (.cons (.ret (.tup (.cons (.var 1) (.cons (.blt .tuple (.cons (.slc (.var 5) (.nil) (.con (.int 24))) (.nil))) (.nil))))) (.nil))))))
def s_u_law_rules_v1 : FnS := ⟨3, 10, c_u_law_rules_v1, false⟩
def c_is_times_by : CE := .cons (.ret (.and (.isi "tuple" (.var 1)) (.and (.cmp .Eq (.blt .len (.cons (.var 1) (.nil))) (.var 0)) (.one (.blt .all (.cons (.lc false (.var 1) (.var 2) (.nil) (.call 1 (.cons (.var 2) (.nil))) [("time", 2)]) (.nil))))))) (.nil)
def s_is_times_by : FnS := ⟨2, 3, c_is_times_by, false⟩
def c_right_by : CE := .cons (.ret (.mmd true (.lc false (.idx (.var 0) (.con (.int 1))) (.tup (.cons (.var 2) (.cons (.var 3) (.nil)))) (.nil) (.bin .Add (.idx (.var 1) (.var 2)) (.var 3)) [("variable", 2), ("delay", 3)]) (.con .non))) (.nil)
def s_right_by : FnS := ⟨2, 4, c_right_by, false⟩
def c_holds_by : CE := .cons (.asg (.var 2) (.call 68 (.cons (.var 0) (.cons (.var 1) (.nil))))) (.cons (.ret (.and (.cmp .IsNot (.var 2) (.con .non)) (.one (.cmp .LtE (.idx (.var 1) (.idx (.var 0) (.con (.int 0)))) (.var 2))))) (.nil))
def s_holds_by : FnS := ⟨2, 3, c_holds_by, false⟩
def c_is_solution_by : CE := .cons (.ret (.and (.call 67 (.cons (.var 0) (.cons (.var 2) (.nil)))) (.one (.blt .all (.cons (.lc false (.var 1) (.var 3) (.nil) (.call 69 (.cons (.var 3) (.cons (.var 2) (.nil)))) [("rule", 3)]) (.nil)))))) (.nil)
def s_is_solution_by : FnS := ⟨3, 4, c_is_solution_by, false⟩
def c_u_law_side : CE := .cons (.setlc 2 false (.idx (.var 0) (.con (.int 1))) (.tup (.cons (.var 3) (.cons (.var 4) (.nil)))) (.cmp .IsNot (.idx (.var 1) (.var 3)) (.con .non)) (.bin .Add (.idx (.var 1) (.var 3)) (.var 4)) [("variable", 3), ("delay", 4)]) (.cons (.ret (.mmd true (.var 2) (.con .non))) (.nil))
def s_u_law_side : FnS := ⟨2, 5, c_u_law_side, false⟩
def c_u_law_holds : CE := .cons (.ifs (.cmp .Is (.idx (.var 1) (.idx (.var 0) (.con (.int 0)))) (.con .non)) (.cons (.ret (.con (.bl true))) (.nil)) (.nil)) (.cons (.asg (.var 2) (.call 55 (.cons (.var 0) (.cons (.var 1) (.nil))))) (.cons (.ret (.and (.cmp .IsNot (.var 2) (.con .non)) (.one (.cmp .LtE (.idx (.var 1) (.idx (.var 0) (.con (.int 0)))) (.var 2))))) (.nil)))
def s_u_law_holds : FnS := ⟨2, 3, c_u_law_holds, false⟩
def c_u_law_whole : CE := .cons (.ret (.and (.isi "int" (.var 0)) (.one (.not (.isi "bool" (.var 0)))))) (.nil)
def s_u_law_whole : FnS := ⟨1, 1, c_u_law_whole, false⟩
def c_u_law_odd : CE := .cons (.asg (.var 1) (.lst false (.cons (.con .non) (.cons (.con (.bl true)) (.cons (.con (.bl false)) (.cons (.neg (.con (.int 1))) (.cons (.con (.int 0)) (.cons (.con (.int 1)) (.cons (.con (.int 8)) (.cons (.bin .Pow (.con (.int 10)) (.con (.int 40))) (.cons (.bin .Sub (.con (.int 1)) (.bin .Pow (.con (.int 10)) (.con (.int 41)))) (.cons (.con (.str "")) (.cons (.con (.str "a")) (.cons (.con (.str "0")) (.cons (.tup (.nil)) (.cons (.tup (.cons (.con (.int 0)) (.nil))) (.cons (.tup (.cons (.con (.int 0)) (.cons (.con (.int 0)) (.nil)))) (.cons (.lst false (.nil)) (.cons (.lst false (.cons (.con (.int 0)) (.nil))) (.cons (.dct0) (.nil))))))))))))))))))))) (.cons (.ret (.idx (.bin .Add (.var 1) (.lst false (.cons (.tup (.cons (.con .non) (.nil))) (.cons (.tup (.cons (.tup (.nil)) (.nil))) (.cons (.tup (.cons (.tup (.cons (.con (.int 0)) (.cons (.con (.int 0)) (.nil)))) (.nil))) (.cons (.tup (.cons (.con (.int 0)) (.cons (.tup (.cons (.tup (.cons (.con (.int 0)) (.cons (.con (.int 0)) (.nil)))) (.nil))) (.nil)))) (.cons (.tup (.cons (.con (.int 1)) (.cons (.tup (.nil)) (.nil)))) (.cons (.tup (.cons (.con (.int 9)) (.cons (.tup (.nil)) (.nil)))) (.cons (.dsp1 false (.con (.int 0)) (.con (.int 0))) (.nil)))))))))) (.call 13 (.cons (.var 0) (.cons (.con (.int 25)) (.nil)))))) (.nil))
def s_u_law_odd : FnS := ⟨1, 2, c_u_law_odd, false⟩
def c_u_law_bent : CE := .cons (.ifs (.and (.isi "tuple" (.var 1)) (.and (.cmp .NotEq (.var 1) (.tup (.nil))) (.and (.cmp .Gt (.var 2) (.con (.int 0))) (.one (.cmp .Gt (.call 13 (.cons (.var 0) (.cons (.con (.int 4)) (.nil)))) (.con (.int 0))))))) (.cons (.asg (.var 3) (.call 13 (.cons (.var 0) (.cons (.blt .len (.cons (.var 1) (.nil))) (.nil))))) (.cons (.ret (.bin .Add (.bin .Add (.slc (.var 1) (.nil) (.var 3)) (.tup (.cons (.call 21 (.cons (.var 0) (.cons (.idx (.var 1) (.var 3)) (.cons (.bin .Sub (.var 2) (.con (.int 1))) (.nil))))) (.nil)))) (.slc (.var 1) (.bin .Add (.var 3) (.con (.int 1))) (.nil)))) (.nil))) (.nil)) (.cons (.ifs (.isi "tuple" (.var 1)) (.cons (.asg (.var 3) (.call 13 (.cons (.var 0) (.cons (.bin .Add (.blt .len (.cons (.var 1) (.nil))) (.con (.int 1))) (.nil))))) (.cons (.asg (.var 4) (.lst false (.cons (.blt .list (.cons (.var 1) (.nil))) (.cons (.bin .Add (.slc (.var 1) (.nil) (.var 3)) (.slc (.var 1) (.bin .Add (.var 3) (.con (.int 1))) (.nil))) (.cons (.bin .Add (.bin .Add (.slc (.var 1) (.nil) (.var 3)) (.tup (.cons (.con (.int 0)) (.nil)))) (.slc (.var 1) (.var 3) (.nil))) (.cons (.rev (.var 1)) (.nil))))))) (.cons (.ret (.idx (.bin .Add (.var 4) (.lst false (.cons (.bin .Add (.var 1) (.slc (.var 1) (.neg (.con (.int 1))) (.nil))) (.cons (.tup (.cons (.var 1) (.nil))) (.cons (.tup (.nil)) (.nil)))))) (.call 13 (.cons (.var 0) (.cons (.con (.int 7)) (.nil)))))) (.nil)))) (.nil)) (.cons (.ifs (.call 19 (.cons (.var 1) (.nil))) (.cons (.ret (.idx (.lst false (.cons (.bin .Add (.var 1) (.con (.int 1))) (.cons (.bin .Sub (.var 1) (.con (.int 1))) (.cons (.bin .Sub (.con (.int 0)) (.var 1)) (.cons (.blt .str (.cons (.var 1) (.nil))) (.cons (.cmp .Eq (.var 1) (.con (.int 1))) (.cons (.tup (.cons (.var 1) (.nil))) (.cons (.con .non) (.nil))))))))) (.call 13 (.cons (.var 0) (.cons (.con (.int 7)) (.nil)))))) (.nil)) (.nil)) (.cons (.ret (.call 20 (.cons (.var 0) (.nil)))) (.nil))))
def s_u_law_bent : FnS := ⟨3, 5, c_u_law_bent, false⟩
def c_u_law_solves : CE := .cons (.ret (.cmp .Eq (.lc false (.idx (.var 0) (.con (.int 1))) (.var 2) (.not (.call 56 (.cons (.var 2) (.cons (.var 1) (.nil))))) (.var 2) [("row", 2)]) (.lst false (.nil)))) (.nil)
def s_u_law_solves : FnS := ⟨2, 3, c_u_law_solves, false⟩
def c_u_law_times : CE := .cons (.asg (.var 2) (.idx (.lst false (.cons (.con (.int 0)) (.cons (.con (.int 0)) (.cons (.con (.int 0)) (.cons (.neg (.con (.int 1000))) (.cons (.bin .Pow (.con (.int 10)) (.con (.int 30))) (.cons (.bin .Sub (.con (.int 1)) (.bin .Pow (.con (.int 10)) (.con (.int 39)))) (.nil)))))))) (.call 13 (.cons (.var 0) (.cons (.con (.int 6)) (.nil)))))) (.cons (.asg (.var 3) (.idx (.lst false (.cons (.con (.int 1)) (.cons (.con (.int 4)) (.cons (.con (.int 9)) (.cons (.con (.int 60)) (.nil)))))) (.call 13 (.cons (.var 0) (.cons (.con (.int 4)) (.nil)))))) (.cons (.ret (.blt .tuple (.cons (.lc false (.rng1 (.var 1)) (.var 4) (.nil) (.bin .Add (.var 2) (.call 13 (.cons (.var 0) (.cons (.var 3) (.nil))))) [("turn", 4)]) (.nil)))) (.nil)))
def s_u_law_times : FnS := ⟨2, 5, c_u_law_times, false⟩
def c_check_size : CE := .cons (.ifs (.not (.call 2 (.cons (.var 0) (.cons (.con (.int 1)) (.cons (.gc 0) (.nil)))))) (.cons (.bad) (.nil)) (.nil)) (.nil)
def s_check_size : FnS := ⟨1, 1, c_check_size, false⟩
def c_check_times : CE := .cons (.ifs (.not (.call 67 (.cons (.var 0) (.cons (.var 1) (.nil))))) (.cons (.bad) (.nil)) (.nil)) (.nil)
def s_check_times : FnS := ⟨2, 2, c_check_times, false⟩
def c_is_solution : CE := .cons (.drop (.call 29 (.cons (.var 0) (.nil)))) (.cons (.ret (.call 70 (.cons (.idx (.var 0) (.con (.int 0))) (.cons (.idx (.var 0) (.con (.int 1))) (.cons (.var 1) (.nil)))))) (.nil))
def s_is_solution : FnS := ⟨2, 2, c_is_solution, false⟩
def c_u_law_span : CE := .cons (.asg (.var 1) (.con (.int 1))) (.cons (.for_ (.idx (.var 0) (.con (.int 1))) (.tup (.cons (.var 2) (.cons (.var 3) (.nil)))) (.cons (.asg (.var 1) (.blt .max (.cons (.bin .Add (.lst false (.cons (.var 1) (.nil))) (.lc false (.var 3) (.tup (.cons (.var 4) (.cons (.var 5) (.nil)))) (.nil) (.bin .Add (.blt .abs (.cons (.var 5) (.nil))) (.con (.int 1))) [("other", 4), ("delay", 5)])) (.nil)))) (.nil))) (.cons (.ret (.var 1)) (.nil)))
def s_u_law_span : FnS := ⟨1, 6, c_u_law_span, false⟩
def c_u_law_latest : CE := .cons (.asg (.var 2) (.idx (.var 0) (.con (.int 0)))) (.cons (.asg (.var 3) (.bin .Sub (.blt .min (.cons (.var 1) (.nil))) (.bin .Mult (.bin .Sub (.var 2) (.con (.int 1))) (.call 184 (.cons (.var 0) (.nil)))))) (.cons (.par 4 5 (.cons (.lof (.cons (.var 1) (.nil))) (.cons (.con (.bl false)) (.nil)))) (.cons (.while_ (.not (.var 5)) (.cons (.asg (.var 5) (.con (.bl true))) (.cons (.for_ (.idx (.var 0) (.con (.int 1))) (.var 6) (.cons (.asg (.var 7) (.idx (.var 4) (.idx (.var 6) (.con (.int 0))))) (.cons (.ifs (.and (.cmp .IsNot (.var 7) (.con .non)) (.one (.not (.call 56 (.cons (.var 6) (.cons (.var 4) (.nil))))))) (.cons (.asg (.var 8) (.call 55 (.cons (.var 6) (.cons (.var 4) (.nil))))) (.cons (.sto (.var 4) (.idx (.var 6) (.con (.int 0))) (.ife (.and (.cmp .IsNot (.var 8) (.con .non)) (.one (.cmp .GtE (.var 8) (.var 3)))) (.var 8) (.con .non))) (.cons (.asg (.var 5) (.con (.bl false))) (.nil)))) (.nil)) (.nil)))) (.nil)))) (.cons (.ret (.blt .tuple (.cons (.var 4) (.nil)))) (.nil)))))
def s_u_law_latest : FnS := ⟨2, 9, c_u_law_latest, false⟩
def c_is_times : CE := .cons (.drop (.call 9 (.cons (.var 0) (.nil)))) (.cons (.ret (.call 67 (.cons (.var 0) (.cons (.var 1) (.nil))))) (.nil))
def s_is_times : FnS := ⟨2, 2, c_is_times, false⟩
def c_negation_by : CE := .cons (.asg (.tup (.cons (.var 1) (.cons (.var 2) (.nil)))) (.var 0)) (.cons (.ret (.blt .tuple (.cons (.lc false (.var 2) (.tup (.cons (.var 3) (.cons (.var 4) (.nil)))) (.nil) (.tup (.cons (.var 3) (.cons (.tup (.cons (.tup (.cons (.var 1) (.cons (.bin .Sub (.bin .Sub (.con (.int 0)) (.var 4)) (.con (.int 1))) (.nil)))) (.nil))) (.nil)))) [("variable", 3), ("delay", 4)]) (.nil)))) (.nil))
def s_negation_by : FnS := ⟨1, 5, c_negation_by, false⟩
def c_check_rule : CE := .cons (.ifs (.not (.call 8 (.cons (.var 0) (.cons (.var 1) (.nil))))) (.cons (.bad) (.nil)) (.nil)) (.nil)
def s_check_rule : FnS := ⟨2, 2, c_check_rule, false⟩
def c_u_law_no_rules : CE := .cons (.asg (.tup (.cons (.var 5) (.cons (.var 6) (.nil)))) (.var 1)) (.cons (.asg (.var 2) (.tup (.cons (.con (.int 0)) (.cons (.tup (.cons (.tup (.cons (.con (.int 0)) (.cons (.con (.int 1)) (.nil)))) (.nil))) (.nil))))) (.cons (.asg (.var 3) (.lst true (.cons (.con .non) (.cons (.tup (.nil)) (.cons (.con (.int 3)) (.cons (.con (.str "rules")) (.cons (.dct0) (.cons (.blt .list (.cons (.var 1) (.nil))) (.cons (.slc (.var 1) (.nil) (.con (.int 1))) (.cons (.bin .Add (.var 1) (.tup (.cons (.con (.int 0)) (.nil)))) (.cons (.tup (.cons (.con (.int 0)) (.cons (.var 6) (.nil)))) (.cons (.tup (.cons (.con (.int 9)) (.cons (.tup (.nil)) (.nil)))) (.cons (.tup (.cons (.con (.bl true)) (.cons (.tup (.nil)) (.nil)))) (.nil)))))))))))))) (.cons (.asg (.var 3) (.opN .Add (.var 3) (.lst false (.cons (.tup (.cons (.var 5) (.cons (.blt .list (.cons (.var 6) (.nil))) (.nil)))) (.cons (.tup (.cons (.var 5) (.cons (.bin .Mult (.tup (.cons (.var 2) (.nil))) (.con (.int 25))) (.nil)))) (.cons (.tup (.cons (.var 5) (.cons (.tup (.cons (.tup (.cons (.var 5) (.cons (.tup (.nil)) (.nil)))) (.nil))) (.nil)))) (.cons (.tup (.cons (.var 5) (.cons (.tup (.cons (.tup (.cons (.neg (.con (.int 1))) (.cons (.tup (.nil)) (.nil)))) (.nil))) (.nil)))) (.cons (.tup (.cons (.var 5) (.cons (.tup (.cons (.con .non) (.nil))) (.nil)))) (.nil))))))))) (.cons (.for_ (.lst false (.cons (.tup (.cons (.con (.int 0)) (.cons (.lst false (.cons (.tup (.cons (.con (.int 0)) (.cons (.con (.int 1)) (.nil)))) (.nil))) (.nil)))) (.cons (.tup (.cons (.con (.int 0)) (.cons (.tup (.cons (.tup (.cons (.con (.int 0)) (.cons (.con (.int 60)) (.nil)))) (.nil))) (.nil)))) (.cons (.tup (.cons (.con (.int 0)) (.cons (.tup (.cons (.tup (.cons (.con (.int 0)) (.cons (.neg (.con (.int 61))) (.nil)))) (.nil))) (.nil)))) (.cons (.tup (.cons (.con (.int 0)) (.cons (.tup (.cons (.tup (.cons (.var 5) (.cons (.con (.int 0)) (.nil)))) (.nil))) (.nil)))) (.cons (.tup (.cons (.con (.int 0)) (.nil))) (.cons (.tup (.cons (.con (.int 0)) (.cons (.tup (.cons (.tup (.cons (.con (.int 0)) (.cons (.con (.int 1)) (.nil)))) (.cons (.tup (.cons (.con (.int 0)) (.cons (.con (.int 2)) (.nil)))) (.nil)))) (.nil)))) (.nil)))))))) (.var 4) (.cons (.drop (.mth .append (.var 3) (.cons (.tup (.cons (.var 5) (.cons (.tup (.cons (.var 4) (.nil))) (.nil)))) (.nil)))) (.nil))) (.cons (.for_ (.lst false (.cons (.tup (.cons (.con (.int 0)) (.cons (.tup (.cons (.tup (.cons (.con (.int 0)) (.cons (.con (.bl true)) (.nil)))) (.nil))) (.nil)))) (.cons (.tup (.cons (.con (.bl false)) (.cons (.tup (.nil)) (.nil)))) (.cons (.tup (.cons (.lst false (.nil)) (.cons (.tup (.nil)) (.nil)))) (.nil))))) (.var 4) (.cons (.drop (.mth .append (.var 3) (.cons (.tup (.cons (.var 5) (.cons (.bin .Add (.slc (.var 6) (.nil) (.con (.int 23))) (.tup (.cons (.var 4) (.nil)))) (.nil)))) (.nil)))) (.nil))) (.cons (.ret (.idx (.var 3) (.call 13 (.cons (.var 0) (.cons (.con (.int 25)) (.nil)))))) (.nil)))))))
def s_u_law_no_rules : FnS := ⟨2, 7, c_u_law_no_rules, false⟩
def csg : Nat → D
  | 0 => .int 8
  | 1 => .int 24
  | 2 => .int 60
  | 5 => .int 200
  | 9 => .int 6
  | 10 => .int 6
  | 11 => .int 60
  | 12 => .int 8
  | 13 => .int 2
  | 17 => .int 59
  | 18 => .int 6
  | 23 => .int 3
  | 25 => .int 60
  | 27 => .int 2
  | 28 => .int 5
  | 31 => .int 2
  | 35 => .int 200
  | 36 => .int 20000
  | 37 => .int 200
  | 42 => .int 1000
  | 46 => .int 12
  | 49 => .int 840
  | 50 => .int 12
  | 51 => .int 2
  | 58 => .int 256
  | _ => .non
/-- the numbers of the shared defs -/
abbrev i_is_integer : Nat := 1
abbrev i_is_between : Nat := 2
abbrev i_is_delay : Nat := 3
abbrev i_u_law_source : Nat := 12
abbrev i_u_law_draw : Nat := 13
abbrev i_is_pair : Nat := 4
abbrev i_u_law_delay_v1 : Nat := 50
abbrev i_are_terms : Nat := 5
abbrev i_is_loose_rule : Nat := 6
abbrev i_is_loose_rules : Nat := 7
abbrev i_is_rule_by : Nat := 8
abbrev i_is_rule_set : Nat := 11
abbrev i_check_rules : Nat := 29
abbrev i_u_law_ring : Nat := 16
abbrev i_u_law_terms_v1 : Nat := 51
abbrev i_u_law_widened_v1 : Nat := 52
abbrev i_u_law_rules_v1 : Nat := 53
abbrev i_is_times_by : Nat := 67
abbrev i_right_by : Nat := 68
abbrev i_holds_by : Nat := 69
abbrev i_is_solution_by : Nat := 70
abbrev i_u_law_side : Nat := 55
abbrev i_u_law_holds : Nat := 56
abbrev i_u_law_whole : Nat := 19
abbrev i_u_law_odd : Nat := 20
abbrev i_u_law_bent : Nat := 21
abbrev i_u_law_solves : Nat := 57
abbrev i_u_law_times : Nat := 54
abbrev i_check_size : Nat := 9
abbrev i_check_times : Nat := 79
abbrev i_is_solution : Nat := 71
abbrev i_u_law_span : Nat := 184
abbrev i_u_law_latest : Nat := 185
abbrev i_is_times : Nat := 182
abbrev i_negation_by : Nat := 46
abbrev i_check_rule : Nat := 45
abbrev i_u_law_no_rules : Nat := 22
end L2.G4

set_option maxHeartbeats 4000000
/-! MB: reckoning: the forms' equations (printed by gen_mb.py). -/
namespace L2.G4
open PySem PySem.Spec PyProof.Rows
section
variable (S : Sm) (a b c d t el src tg s o lo hi : CE) (env : Env) (st : Store)
@[simp] theorem dn_e_var (i : Nat) : (den S (.var i)).e = fVar i := rfl
@[simp] theorem dn_i_var (i : Nat) : (den S (.var i)).i = fSrc (den S (.var i)).e := rfl
@[simp] theorem dn_o_var (i : Nat) : (den S (.var i)).o = fPart (den S (.var i)).e := rfl
@[simp] theorem dn_c_var (i : Nat) : (den S (.var i)).c = fTru (den S (.var i)).e := rfl
@[simp] theorem dn_e_con (x : D) : (den S (.con x)).e = fCon x := rfl
@[simp] theorem dn_i_con (x : D) : (den S (.con x)).i = fSrc (den S (.con x)).e := rfl
@[simp] theorem dn_o_con (x : D) : (den S (.con x)).o = fPart (den S (.con x)).e := rfl
@[simp] theorem dn_c_con (x : D) : (den S (.con x)).c = fTru (den S (.con x)).e := rfl
@[simp] theorem dn_e_gc (k : Nat) : (den S (.gc k)).e = fCon (S.cs k) := rfl
@[simp] theorem dn_i_gc (k : Nat) : (den S (.gc k)).i = fSrc (den S (.gc k)).e := rfl
@[simp] theorem dn_o_gc (k : Nat) : (den S (.gc k)).o = fPart (den S (.gc k)).e := rfl
@[simp] theorem dn_c_gc (k : Nat) : (den S (.gc k)).c = fTru (den S (.gc k)).e := rfl
@[simp] theorem dn_e_bin (op : Operator) : (den S (.bin op a b)).e = fBin (binD op) (den S a).e (den S b).e := rfl
@[simp] theorem dn_i_bin (op : Operator) : (den S (.bin op a b)).i = fSrc (den S (.bin op a b)).e := rfl
@[simp] theorem dn_o_bin (op : Operator) : (den S (.bin op a b)).o = fPart (den S (.bin op a b)).e := rfl
@[simp] theorem dn_c_bin (op : Operator) : (den S (.bin op a b)).c = fTru (den S (.bin op a b)).e := rfl
@[simp] theorem dn_e_cmp (op : CmpOp) : (den S (.cmp op a b)).e = fBin (cmpD op) (den S a).e (den S b).e := rfl
@[simp] theorem dn_i_cmp (op : CmpOp) : (den S (.cmp op a b)).i = fSrc (den S (.cmp op a b)).e := rfl
@[simp] theorem dn_o_cmp (op : CmpOp) : (den S (.cmp op a b)).o = fPart (den S (.cmp op a b)).e := rfl
@[simp] theorem dn_c_cmp (op : CmpOp) : (den S (.cmp op a b)).c = fTru (den S (.cmp op a b)).e := rfl
@[simp] theorem dn_e_cmp2 (op op2 : CmpOp) : (den S (.cmp2 op op2 a b c)).e = fCmp2 (cmpD op) (cmpD op2) (den S a).e (den S b).e (den S c).e := rfl
@[simp] theorem dn_i_cmp2 (op op2 : CmpOp) : (den S (.cmp2 op op2 a b c)).i = fSrc (den S (.cmp2 op op2 a b c)).e := rfl
@[simp] theorem dn_o_cmp2 (op op2 : CmpOp) : (den S (.cmp2 op op2 a b c)).o = fPart (den S (.cmp2 op op2 a b c)).e := rfl
@[simp] theorem dn_c_cmp2 (op op2 : CmpOp) : (den S (.cmp2 op op2 a b c)).c = fTru (den S (.cmp2 op op2 a b c)).e := rfl
@[simp] theorem dn_e_neg : (den S (.neg a)).e = fNeg (den S a).e := rfl
@[simp] theorem dn_i_neg : (den S (.neg a)).i = fSrc (den S (.neg a)).e := rfl
@[simp] theorem dn_o_neg : (den S (.neg a)).o = fPart (den S (.neg a)).e := rfl
@[simp] theorem dn_c_neg : (den S (.neg a)).c = fTru (den S (.neg a)).e := rfl
@[simp] theorem dn_e_not : (den S (.not a)).e = fNotV (den S a).e := rfl
@[simp] theorem dn_i_not : (den S (.not a)).i = fSrc (den S (.not a)).e := rfl
@[simp] theorem dn_o_not : (den S (.not a)).o = fPart (den S (.not a)).e := rfl
@[simp] theorem dn_c_not : (den S (.not a)).c = fTru (den S (.not a)).e := rfl
@[simp] theorem dn_e_one : (den S (.one a)).e = (den S a).e := rfl
@[simp] theorem dn_i_one : (den S (.one a)).i = fSrc (den S (.one a)).e := rfl
@[simp] theorem dn_o_one : (den S (.one a)).o = fPart (den S (.one a)).e := rfl
@[simp] theorem dn_c_one : (den S (.one a)).c = fTru (den S (.one a)).e := rfl
@[simp] theorem dn_e_and : (den S (.and a b)).e = fAndV (den S a).e (den S b).e := rfl
@[simp] theorem dn_i_and : (den S (.and a b)).i = fSrc (den S (.and a b)).e := rfl
@[simp] theorem dn_o_and : (den S (.and a b)).o = fPart (den S (.and a b)).e := rfl
@[simp] theorem dn_c_and : (den S (.and a b)).c = fTru (den S (.and a b)).e := rfl
@[simp] theorem dn_e_or : (den S (.or a b)).e = fOrV (den S a).e (den S b).e := rfl
@[simp] theorem dn_i_or : (den S (.or a b)).i = fSrc (den S (.or a b)).e := rfl
@[simp] theorem dn_o_or : (den S (.or a b)).o = fPart (den S (.or a b)).e := rfl
@[simp] theorem dn_c_or : (den S (.or a b)).c = fTru (den S (.or a b)).e := rfl
@[simp] theorem dn_e_ife : (den S (.ife c a b)).e = fIf (fTru (den S c).e) (den S a).e (den S b).e := rfl
@[simp] theorem dn_i_ife : (den S (.ife c a b)).i = fSrc (den S (.ife c a b)).e := rfl
@[simp] theorem dn_o_ife : (den S (.ife c a b)).o = fPart (den S (.ife c a b)).e := rfl
@[simp] theorem dn_c_ife : (den S (.ife c a b)).c = fTru (den S (.ife c a b)).e := rfl
@[simp] theorem dn_e_tup : (den S (.tup t)).e = fTup (den S t).a := rfl
@[simp] theorem dn_i_tup : (den S (.tup t)).i = fSrc (den S (.tup t)).e := rfl
@[simp] theorem dn_o_tup : (den S (.tup t)).o = fPart (den S (.tup t)).e := rfl
@[simp] theorem dn_c_tup : (den S (.tup t)).c = fTru (den S (.tup t)).e := rfl
@[simp] theorem dn_e_lstT : (den S (.lst true t)).e = fNew (den S t).a := rfl
@[simp] theorem dn_i_lstT : (den S (.lst true t)).i = fSrc (den S (.lst true t)).e := rfl
@[simp] theorem dn_o_lstT : (den S (.lst true t)).o = fPart (den S (.lst true t)).e := rfl
@[simp] theorem dn_c_lstT : (den S (.lst true t)).c = fTru (den S (.lst true t)).e := rfl
@[simp] theorem dn_e_lstF : (den S (.lst false t)).e = fLst (den S t).a := rfl
@[simp] theorem dn_i_lstF : (den S (.lst false t)).i = fSrc (den S (.lst false t)).e := rfl
@[simp] theorem dn_o_lstF : (den S (.lst false t)).o = fPart (den S (.lst false t)).e := rfl
@[simp] theorem dn_c_lstF : (den S (.lst false t)).c = fTru (den S (.lst false t)).e := rfl
@[simp] theorem dn_e_dic0 : (den S (.dic0)).e = fNewD := rfl
@[simp] theorem dn_i_dic0 : (den S (.dic0)).i = fSrc (den S (.dic0)).e := rfl
@[simp] theorem dn_o_dic0 : (den S (.dic0)).o = fPart (den S (.dic0)).e := rfl
@[simp] theorem dn_c_dic0 : (den S (.dic0)).c = fTru (den S (.dic0)).e := rfl
@[simp] theorem dn_e_dct0 : (den S (.dct0)).e = fDct0 := rfl
@[simp] theorem dn_i_dct0 : (den S (.dct0)).i = fSrc (den S (.dct0)).e := rfl
@[simp] theorem dn_o_dct0 : (den S (.dct0)).o = fPart (den S (.dct0)).e := rfl
@[simp] theorem dn_c_dct0 : (den S (.dct0)).c = fTru (den S (.dct0)).e := rfl
@[simp] theorem dn_e_dsp1T : (den S (.dsp1 true a b)).e = fDsp1 (den S a).e (den S b).e := rfl
@[simp] theorem dn_i_dsp1T : (den S (.dsp1 true a b)).i = fSrc (den S (.dsp1 true a b)).e := rfl
@[simp] theorem dn_o_dsp1T : (den S (.dsp1 true a b)).o = fPart (den S (.dsp1 true a b)).e := rfl
@[simp] theorem dn_c_dsp1T : (den S (.dsp1 true a b)).c = fTru (den S (.dsp1 true a b)).e := rfl
@[simp] theorem dn_e_dsp1F : (den S (.dsp1 false a b)).e = fDspD (den S a).e (den S b).e := rfl
@[simp] theorem dn_i_dsp1F : (den S (.dsp1 false a b)).i = fSrc (den S (.dsp1 false a b)).e := rfl
@[simp] theorem dn_o_dsp1F : (den S (.dsp1 false a b)).o = fPart (den S (.dsp1 false a b)).e := rfl
@[simp] theorem dn_c_dsp1F : (den S (.dsp1 false a b)).c = fTru (den S (.dsp1 false a b)).e := rfl
@[simp] theorem dn_e_rev : (den S (.rev a)).e = fUn revD (den S a).e := rfl
@[simp] theorem dn_i_rev : (den S (.rev a)).i = fSrc (den S (.rev a)).e := rfl
@[simp] theorem dn_o_rev : (den S (.rev a)).o = fPart (den S (.rev a)).e := rfl
@[simp] theorem dn_c_rev : (den S (.rev a)).c = fTru (den S (.rev a)).e := rfl
@[simp] theorem dn_e_lof : (den S (.lof t)).e = fArgs lofD (den S t).a := rfl
@[simp] theorem dn_i_lof : (den S (.lof t)).i = fSrc (den S (.lof t)).e := rfl
@[simp] theorem dn_o_lof : (den S (.lof t)).o = fPart (den S (.lof t)).e := rfl
@[simp] theorem dn_c_lof : (den S (.lof t)).c = fTru (den S (.lof t)).e := rfl
@[simp] theorem dn_e_opN (op : Operator) : (den S (.opN op a b)).e = fBin (binN op) (den S a).e (den S b).e := rfl
@[simp] theorem dn_i_opN (op : Operator) : (den S (.opN op a b)).i = fSrc (den S (.opN op a b)).e := rfl
@[simp] theorem dn_o_opN (op : Operator) : (den S (.opN op a b)).o = fPart (den S (.opN op a b)).e := rfl
@[simp] theorem dn_c_opN (op : Operator) : (den S (.opN op a b)).c = fTru (den S (.opN op a b)).e := rfl
@[simp] theorem dn_e_idx : (den S (.idx a b)).e = fBin idxD (den S a).e (den S b).e := rfl
@[simp] theorem dn_i_idx : (den S (.idx a b)).i = fSrc (den S (.idx a b)).e := rfl
@[simp] theorem dn_o_idx : (den S (.idx a b)).o = fPart (den S (.idx a b)).e := rfl
@[simp] theorem dn_c_idx : (den S (.idx a b)).c = fTru (den S (.idx a b)).e := rfl
@[simp] theorem dn_e_slc : (den S (.slc a lo hi)).e = fSlc (den S a).e (den S lo).o (den S hi).o := rfl
@[simp] theorem dn_i_slc : (den S (.slc a lo hi)).i = fSrc (den S (.slc a lo hi)).e := rfl
@[simp] theorem dn_o_slc : (den S (.slc a lo hi)).o = fPart (den S (.slc a lo hi)).e := rfl
@[simp] theorem dn_c_slc : (den S (.slc a lo hi)).c = fTru (den S (.slc a lo hi)).e := rfl
@[simp] theorem dn_e_blt (bb : Blt) : (den S (.blt bb t)).e = fArgs (bltD bb) (den S t).a := rfl
@[simp] theorem dn_i_blt (bb : Blt) : (den S (.blt bb t)).i = fSrc (den S (.blt bb t)).e := rfl
@[simp] theorem dn_o_blt (bb : Blt) : (den S (.blt bb t)).o = fPart (den S (.blt bb t)).e := rfl
@[simp] theorem dn_c_blt (bb : Blt) : (den S (.blt bb t)).c = fTru (den S (.blt bb t)).e := rfl
@[simp] theorem dn_e_isi (T : String) : (den S (.isi T a)).e = fUn (isiD T) (den S a).e := rfl
@[simp] theorem dn_i_isi (T : String) : (den S (.isi T a)).i = fSrc (den S (.isi T a)).e := rfl
@[simp] theorem dn_o_isi (T : String) : (den S (.isi T a)).o = fPart (den S (.isi T a)).e := rfl
@[simp] theorem dn_c_isi (T : String) : (den S (.isi T a)).c = fTru (den S (.isi T a)).e := rfl
@[simp] theorem dn_e_mmd (mx : Bool) : (den S (.mmd mx a d)).e = fMmD mx (den S a).e (den S d).e := rfl
@[simp] theorem dn_i_mmd (mx : Bool) : (den S (.mmd mx a d)).i = fSrc (den S (.mmd mx a d)).e := rfl
@[simp] theorem dn_o_mmd (mx : Bool) : (den S (.mmd mx a d)).o = fPart (den S (.mmd mx a d)).e := rfl
@[simp] theorem dn_c_mmd (mx : Bool) : (den S (.mmd mx a d)).c = fTru (den S (.mmd mx a d)).e := rfl
@[simp] theorem dn_e_mth (m : Mth) : (den S (.mth m o t)).e = fMth m (den S o).e (den S t).a := rfl
@[simp] theorem dn_i_mth (m : Mth) : (den S (.mth m o t)).i = fSrc (den S (.mth m o t)).e := rfl
@[simp] theorem dn_o_mth (m : Mth) : (den S (.mth m o t)).o = fPart (den S (.mth m o t)).e := rfl
@[simp] theorem dn_c_mth (m : Mth) : (den S (.mth m o t)).c = fTru (den S (.mth m o t)).e := rfl
@[simp] theorem dn_e_call (i : Nat) : (den S (.call i t)).e = fArgs (S.fn i) (den S t).a := rfl
@[simp] theorem dn_i_call (i : Nat) : (den S (.call i t)).i = fSrc (den S (.call i t)).e := rfl
@[simp] theorem dn_o_call (i : Nat) : (den S (.call i t)).o = fPart (den S (.call i t)).e := rfl
@[simp] theorem dn_c_call (i : Nat) : (den S (.call i t)).c = fTru (den S (.call i t)).e := rfl
@[simp] theorem dn_e_lrng (kn : Bool) : (den S (.lrng kn a)).e = fLrng kn (den S a).e := rfl
@[simp] theorem dn_i_lrng (kn : Bool) : (den S (.lrng kn a)).i = fSrc (den S (.lrng kn a)).e := rfl
@[simp] theorem dn_o_lrng (kn : Bool) : (den S (.lrng kn a)).o = fPart (den S (.lrng kn a)).e := rfl
@[simp] theorem dn_c_lrng (kn : Bool) : (den S (.lrng kn a)).c = fTru (den S (.lrng kn a)).e := rfl
@[simp] theorem dn_e_callD (i : Nat) (l : List Int) : (den S (.callD i l t)).e = fArgs (fun ds st => S.fn i (ds ++ l.map D.int) st) (den S t).a := rfl
@[simp] theorem dn_i_callD (i : Nat) (l : List Int) : (den S (.callD i l t)).i = fSrc (den S (.callD i l t)).e := rfl
@[simp] theorem dn_o_callD (i : Nat) (l : List Int) : (den S (.callD i l t)).o = fPart (den S (.callD i l t)).e := rfl
@[simp] theorem dn_c_callD (i : Nat) (l : List Int) : (den S (.callD i l t)).c = fTru (den S (.callD i l t)).e := rfl
@[simp] theorem dn_e_lc2 (kn : Bool) (src1 tg1 c1 : CE) (own : List (Str × Nat)) (vs1 : List Nat) : (den S (.lc2 kn src tg c src1 tg1 c1 el own vs1)).e = fLc2 kn (den S src).i (den S tg).t (den S c).c (den S src1).i (den S tg1).t (den S c1).c (den S el).e (own.map (·.2)) vs1 := rfl
@[simp] theorem dn_i_lc2 (kn : Bool) (src1 tg1 c1 : CE) (own : List (Str × Nat)) (vs1 : List Nat) : (den S (.lc2 kn src tg c src1 tg1 c1 el own vs1)).i = fSrc (den S (.lc2 kn src tg c src1 tg1 c1 el own vs1)).e := rfl
@[simp] theorem dn_o_lc2 (kn : Bool) (src1 tg1 c1 : CE) (own : List (Str × Nat)) (vs1 : List Nat) : (den S (.lc2 kn src tg c src1 tg1 c1 el own vs1)).o = fPart (den S (.lc2 kn src tg c src1 tg1 c1 el own vs1)).e := rfl
@[simp] theorem dn_c_lc2 (kn : Bool) (src1 tg1 c1 : CE) (own : List (Str × Nat)) (vs1 : List Nat) : (den S (.lc2 kn src tg c src1 tg1 c1 el own vs1)).c = fTru (den S (.lc2 kn src tg c src1 tg1 c1 el own vs1)).e := rfl
@[simp] theorem dn_e_clam (i : Nat) : (den S (.clam i b)).e = fLam (S.lm.cl i) (den { S with fn := S.lm.lf, lm := {} } b).e := rfl
@[simp] theorem dn_i_clam (i : Nat) : (den S (.clam i b)).i = fSrc (den S (.clam i b)).e := rfl
@[simp] theorem dn_o_clam (i : Nat) : (den S (.clam i b)).o = fPart (den S (.clam i b)).e := rfl
@[simp] theorem dn_c_clam (i : Nat) : (den S (.clam i b)).c = fTru (den S (.clam i b)).e := rfl
@[simp] theorem dn_e_act : (den S (.act)).e = fAct S.lm.lx S.lm.th := rfl
@[simp] theorem dn_i_act : (den S (.act)).i = fSrc (den S (.act)).e := rfl
@[simp] theorem dn_o_act : (den S (.act)).o = fPart (den S (.act)).e := rfl
@[simp] theorem dn_c_act : (den S (.act)).c = fTru (den S (.act)).e := rfl
@[simp] theorem dn_e_fld (ff : Str) : (den S (.fld ff a)).e = fFld S.sx ff (den S a).e := rfl
@[simp] theorem dn_i_fld (ff : Str) : (den S (.fld ff a)).i = fSrc (den S (.fld ff a)).e := rfl
@[simp] theorem dn_o_fld (ff : Str) : (den S (.fld ff a)).o = fPart (den S (.fld ff a)).e := rfl
@[simp] theorem dn_c_fld (ff : Str) : (den S (.fld ff a)).c = fTru (den S (.fld ff a)).e := rfl
@[simp] theorem dn_e_lc (kn : Bool) (own : List (Str × Nat)) : (den S (.lc kn src tg c el own)).e = fLc kn (den S src).i (den S tg).t (den S c).c (den S el).e (own.map (·.2)) := rfl
@[simp] theorem dn_i_lc (kn : Bool) (own : List (Str × Nat)) : (den S (.lc kn src tg c el own)).i = fSrc (den S (.lc kn src tg c el own)).e := rfl
@[simp] theorem dn_o_lc (kn : Bool) (own : List (Str × Nat)) : (den S (.lc kn src tg c el own)).o = fPart (den S (.lc kn src tg c el own)).e := rfl
@[simp] theorem dn_c_lc (kn : Bool) (own : List (Str × Nat)) : (den S (.lc kn src tg c el own)).c = fTru (den S (.lc kn src tg c el own)).e := rfl
@[simp] theorem dn_nil_a : (den S (.nil)).a = fNil := rfl
@[simp] theorem dn_nil_o : (den S (.nil)).o = fNoPart := rfl
@[simp] theorem dn_nil_ts : (den S (.nil)).ts = gdNil := rfl
@[simp] theorem dn_nil_c : (den S (.nil)).c = fYes := rfl
@[simp] theorem dn_nil_s : (den S (.nil)).s = fSkip := rfl
@[simp] theorem dn_cons_a : (den S (.cons a t)).a = fCons (den S a).e (den S t).a := rfl
@[simp] theorem dn_cons_ts : (den S (.cons a t)).ts = gdCons (den S a).t (den S t).ts := rfl
@[simp] theorem dn_cons_s : (den S (.cons a t)).s = fSeq (den S a).s (den S t).s := rfl
@[simp] theorem dn_tup_t : (den S (.tup t)).t = gdTupN (clen t) (den S t).ts := rfl
@[simp] theorem dn_rng1_i : (den S (.rng1 a)).i = fRng1 (den S a).e := rfl
@[simp] theorem dn_rng2_i : (den S (.rng2 a b)).i = fRng2 (den S a).e (den S b).e := rfl
@[simp] theorem dn_enum_i : (den S (.enum a)).i = fEnum (den S a).e := rfl
@[simp] theorem dn_zip_i : (den S (.zip a b)).i = fZip (den S a).e (den S b).e := rfl
@[simp] theorem dn_skip_s : (den S (.skip)).s = fSkip := rfl
@[simp] theorem dn_brk_s : (den S (.brk)).s = fBrk := rfl
@[simp] theorem dn_cnt_s : (den S (.cnt)).s = fCnt := rfl
@[simp] theorem dn_retN_s : (den S (.retN)).s = fRetN := rfl
@[simp] theorem dn_ret_s : (den S (.ret a)).s = fRet (den S a).e := rfl
@[simp] theorem dn_drop_s : (den S (.drop a)).s = fDrop (den S a).e := rfl
@[simp] theorem dn_asg_s : (den S (.asg t a)).s = fAsg (den S a).e (den S t).t := rfl
@[simp] theorem dn_sto_s : (den S (.sto o lo a)).s = fSto (den S o).e (den S lo).e (den S a).e := rfl
@[simp] theorem dn_ifs_s : (den S (.ifs c s t)).s = fIfS (fTru (den S c).e) (den S s).s (den S t).s := rfl
@[simp] theorem dn_for_s : (den S (.for_ src t s)).s = fFor (den S src).i (den S t).t (den S s).s := rfl
@[simp] theorem dn_while_s : (den S (.while_ c s)).s = whGo (fTru (den S c).e) (den S s).s S.wf := rfl
@[simp] theorem dn_bad_s : (den S (.bad)).s = (fun _ _ => Fl.bad) := rfl
@[simp] theorem dn_bad_e : (den S (.bad)).e = (fun _ _ => Rz.bad) := rfl
@[simp] theorem dn_var_t (i : Nat) : (den S (.var i)).t = gdName i := rfl
@[simp] theorem dn_setlc_s (i : Nat) (kn : Bool) (own : List (Str × Nat)) : (den S (.setlc i kn src tg c el own)).s = fAsg (fLc kn (den S src).i (den S tg).t (den S c).c (den S el).e (own.map (·.2))) (gdName i) := rfl
@[simp] theorem dn_par_s (i j : Nat) : (den S (.par i j t)).s = fPar i j (den S t).a := rfl
@[simp] theorem dn_par3_s (i j l : Nat) : (den S (.par3 i j l t)).s = fPar3 i j l (den S t).a := rfl
@[simp] theorem dn_aug_s (op : Operator) (i : Nat) : (den S (.aug op i a)).s = fAug op i (den S a).e := rfl
@[simp] theorem dn_rai_s (x f : Str) : (den S (.rai x f a)).s = fRai x f (den S a).e := rfl
@[simp] theorem dn_rais_s (x : Str) : (den S (.rais x)).s = fRais x := rfl
@[simp] theorem dn_tryA_s (x f : Str) (i : Nat) : (den S (.tryA x f i b s)).s = fTryA x f i (den S b).s fun q env st => noExc ((den { S with sx := q } s).s env st) := rfl
@[simp] theorem dn_nil_h : (den S .nil).h = [] := rfl
@[simp] theorem dn_hnd_h (x : Str) (yes no : List Str) (ff : Str) (oi : Option Nat) : (den S (.hnd x yes no ff oi a b)).h = ⟨yes, no, ff, oi, fun q => (den { S with sx := q } a).s⟩ :: (den S b).h := rfl
@[simp] theorem dn_tryM_s : (den S (.tryM a b)).s = fTryM (den S a).s (den S b).h := rfl
@[simp] theorem clen_nil : clen .nil = 0 := rfl
@[simp] theorem clen_cons : clen (.cons a t) = clen t + 1 := rfl
end
section
variable (env : Env) (st : Store)
@[simp] theorem x_seq (f g : Fs) : fSeq f g env st = (f env st).andThen g := rfl
@[simp] theorem x_skip : fSkip env st = .nx env st := rfl
@[simp] theorem x_brk : fBrk env st = .bk env st := rfl
@[simp] theorem x_cnt : fCnt env st = .ct env st := rfl
@[simp] theorem x_retN : fRetN env st = .rt .non st := rfl
@[simp] theorem x_ret (a : Fe D) : fRet a env st = Fl.ofRz env (a env st) fun d st1 => .rt d st1 := rfl
@[simp] theorem x_drop (a : Fe D) : fDrop a env st = Fl.ofRz env (a env st) fun _ st1 => .nx env st1 := rfl
@[simp] theorem x_asg (a : Fe D) (t : Tg) : fAsg a t env st = Fl.ofRz env (a env st) fun d st1 => match t d env with
  | some env' => .nx env' st1
  | none => .bad := rfl
@[simp] theorem x_name (i : Nat) (d : D) : gdName i d env = some (env.set i (some d)) := rfl
@[simp] theorem x_tgnil : gdNil [] env = some env := rfl
@[simp] theorem x_tgcons (a : Tg) (t : Tgs) (d : D) (r : List D) : gdCons a t (d :: r) env = (a d env).bind (t r) := rfl
@[simp] theorem x_tgtup (n : Nat) (t : Tgs) (ds : List D) : gdTupN n t (.tup ds) env = if ds.length = n then t ds env else none := rfl
@[simp] theorem x_ifs (c : Fe Bool) (f g : Fs) : fIfS c f g env st = Fl.ofRz env (c env st) fun k st1 => if k = true then f env st1 else g env st1 := rfl
@[simp] theorem x_var (i : Nat) : fVar i env st = match env[i]? with
  | some (some d) => .ok d st
  | _ => .bad := rfl
@[simp] theorem x_con (d : D) : fCon d env st = .ok d st := rfl
@[simp] theorem x_bin (f : D → D → Store → Rz D) (a b : Fe D) : fBin f a b env st = (a env st).bind fun x st1 => (b env st1).bind fun y st2 => f x y st2 := rfl
@[simp] theorem x_un (f : D → Store → Rz D) (a : Fe D) : fUn f a env st = (a env st).bind f := rfl
@[simp] theorem x_neg (a : Fe D) : fNeg a env st = (a env st).bind fun d st => match d with | .int i => .ok (.int (-i)) st | _ => .bad := rfl
@[simp] theorem x_tru (a : Fe D) : fTru a env st = (a env st).bind fun x st1 => match truD x st1 with
  | some b => .ok b st1
  | none => .bad := rfl
@[simp] theorem x_if {A : Type} (t : Fe Bool) (a b : Fe A) : fIf t a b env st = (t env st).bind fun k st1 => if k = true then a env st1 else b env st1 := rfl
@[simp] theorem x_notV (a : Fe D) : fNotV a env st = (fTru a env st).bind fun k st1 => .ok (.bl (!k)) st1 := rfl
@[simp] theorem x_andV (a b : Fe D) : fAndV a b env st = (a env st).bind fun x st1 => match truD x st1 with
  | some k => if k = true then b env st1 else .ok x st1
  | none => .bad := rfl
@[simp] theorem x_orV (a b : Fe D) : fOrV a b env st = (a env st).bind fun x st1 => match truD x st1 with
  | some k => if k = true then .ok x st1 else b env st1
  | none => .bad := rfl
@[simp] theorem x_nil : fNil env st = .ok [] st := rfl
@[simp] theorem x_cons (a : Fe D) (t : Fe (List D)) : fCons a t env st = (a env st).bind fun x st1 => (t env st1).bind fun xs st2 => .ok (x :: xs) st2 := rfl
@[simp] theorem x_tup (t : Fe (List D)) : fTup t env st = (t env st).bind fun xs st1 => if xs.length ≤ sizeLine then .ok (.tup xs) st1 else .bad := rfl
@[simp] theorem x_lst (t : Fe (List D)) : fLst t env st = (t env st).bind fun xs st1 => if xs.length ≤ sizeLine then .ok (.lst xs) st1 else .bad := rfl
@[simp] theorem x_new (t : Fe (List D)) : fNew t env st = (t env st).bind fun xs st1 => if xs.length ≤ sizeLine then .ok (.loc st1.length) (st1 ++ [.lst xs]) else .bad := rfl
@[simp] theorem x_newD : fNewD env st = .ok (.loc st.length) (st ++ [.dic []]) := rfl
@[simp] theorem x_dct0 : fDct0 env st = .ok (.dct [] []) st := rfl
@[simp] theorem x_dsp1 (a b : Fe D) : fDsp1 a b env st = (a env (st ++ [.dic []])).bind fun x st1 => (b env st1).bind fun y st2 => dsp1 x y st.length st2 := rfl
@[simp] theorem x_dspD (a b : Fe D) : fDspD a b env st = gcR false st (fDsp1 a b env st) := rfl
@[simp] theorem d_dsp1 (i : Int) (y : D) : dsp1 (.int i) y st.length (st ++ [.dic []]) = .ok (.loc st.length) (st ++ [.dic [(.inl i, y)]]) := by
  unfold dsp1
  have e : (st ++ [O.dic []])[st.length]? = some (.dic []) := by rw [List.getElem?_append_right (Nat.le_refl _), Nat.sub_self]; rfl
  simp only [keyOf, e]
  rw [List.set_append_right _ _ (Nat.le_refl _), Nat.sub_self]
  rfl
@[simp] theorem r_tup (ds : List D) : revD (.tup ds) st = .ok (.tup ds.reverse) st := rfl
@[simp] theorem r_lst (ds : List D) : revD (.lst ds) st = .ok (.lst ds.reverse) st := rfl
@[simp] theorem l_lofT (ds : List D) : lofD [.tup ds] st = .ok (.loc st.length) (st ++ [.lst ds]) := rfl
@[simp] theorem l_lofL (ds : List D) : lofD [.lst ds] st = .ok (.loc st.length) (st ++ [.lst ds]) := rfl
@[simp] theorem x_rai (x f : Str) (a : Fe D) : fRai x f a env st = Fl.ofRz env (a env st) fun d st1 => .exc ⟨x, some (f, d)⟩ env st1 := rfl
@[simp] theorem x_rais (x : Str) : fRais x env st = .exc ⟨x, none⟩ env st := rfl
@[simp] theorem x_fld (q : Addr × Addr) (f : Str) (a : Fe D) : fFld q f a env st = (a env st).bind fun x st1 => match x with
  | .exn a dx g d => if a = q.1 ∧ dx = q.2 ∧ g = f then .ok d st1 else .bad
  | _ => .bad := rfl
theorem try_nx {x f : Str} {i : Nat} {b : Fs} {s : Addr × Addr → Fs} {e1 : Env} {s1 : Store} (h : b env st = .nx e1 s1) : fTryA x f i b s env st = .nx e1 s1 := by unfold fTryA; rw [h]
theorem try_rt {x f : Str} {i : Nat} {b : Fs} {s : Addr × Addr → Fs} {d : D} {s1 : Store} (h : b env st = .rt d s1) : fTryA x f i b s env st = .rt d s1 := by unfold fTryA; rw [h]
theorem try_exc {x f : Str} {i : Nat} {b : Fs} {s : Addr × Addr → Fs} {d : D} {e1 : Env} {s1 : Store} {y : Fl} (h : b env st = .exc ⟨x, some (f, d)⟩ e1 s1) (hs : ∀ a dx, (s (a, dx) (e1.set i (some (.exn a dx f d))) s1).clr i = y) : fTryA x f i b s env st = y := by
  unfold fTryA
  rw [h]
  simp only [if_true]
  exact indep_of hs
@[simp] theorem x_lam (cl : Thk → Thk) (fb : Fe D) : fLam cl fb env st = cl (fb env) st := rfl
theorem act_here (lx : D) (th : Thk) : fAct lx th (some lx :: env) st = th st := by
  unfold fAct
  exact if_pos rfl
theorem tm_nx {b : Fs} {h : List Ha} {e1 : Env} {s1 : Store} (q : b env st = .nx e1 s1) : fTryM b h env st = .nx e1 s1 := by unfold fTryM; rw [q]
theorem tm_rt {b : Fs} {h : List Ha} {d : D} {s1 : Store} (q : b env st = .rt d s1) : fTryM b h env st = .rt d s1 := by unfold fTryM; rw [q]
theorem tm_exc {b : Fs} {h : List Ha} {e : Ex} {e1 : Env} {s1 : Store} (q : b env st = .exc e e1 s1) : fTryM b h env st = hndGo h e env.length s1 := by unfold fTryM; rw [q]
@[simp] theorem noExc_rt (d : D) : noExc (.rt d st) = .rt d st := if_neg fun ⟨_, _, _, z⟩ => nomatch z
@[simp] theorem noExc_nx : noExc (.nx env st) = .nx env st := if_neg fun ⟨_, _, _, z⟩ => nomatch z
@[simp] theorem clr_rt (i : Nat) (d : D) : (Fl.rt d st).clr i = .rt d st := rfl
@[simp] theorem clr_nx (i : Nat) : (Fl.nx env st).clr i = .nx (env.set i none) st := rfl
@[simp] theorem x_cmp2 (f g : D → D → Store → Rz D) (a b c : Fe D) : fCmp2 f g a b c env st = (a env st).bind fun x st1 => (b env st1).bind fun y st2 => (f x y st2).bind fun z st3 => match z with
  | .bl k => if k = true then (c env st3).bind fun w st4 => g y w st4 else .ok (.bl false) st3
  | _ => .bad := rfl
@[simp] theorem x_args {A : Type} (f : List D → Store → Rz A) (t : Fe (List D)) : fArgs f t env st = (t env st).bind f := rfl
@[simp] theorem x_part (a : Fe D) : fPart a env st = (a env st).bind fun x st1 => match x with
  | .int i => .ok (some i) st1
  | _ => .bad := rfl
@[simp] theorem x_noPart : fNoPart env st = .ok none st := rfl
@[simp] theorem x_slc (a : Fe D) (lo hi : Fe (Option Int)) : fSlc a lo hi env st = (a env st).bind fun x st1 => (lo env st1).bind fun l st2 => (hi env st2).bind fun h st3 => slcD x l h st3 := rfl
@[simp] theorem x_mmd (mx : Bool) (a d : Fe D) : fMmD mx a d env st = (a env st).bind fun x st1 => (d env st1).bind fun y st2 => mmD mx x (some y) st2 := rfl
@[simp] theorem x_mth (m : Mth) (o : Fe D) (t : Fe (List D)) : fMth m o t env st = (o env st).bind fun x st1 => match lstOf st1 x with
  | some _ => (t env st1).bind fun xs st2 => mthD m x xs st2
  | none => .bad := rfl
@[simp] theorem x_src (a : Fe D) : fSrc a env st = (a env st).bind fun x st1 => match srcOf st1 x with
  | some q => .ok q st1
  | none => .bad := rfl
@[simp] theorem x_enum (a : Fe D) : fEnum a env st = (a env st).bind fun x st1 => match srcOf st1 x with
  | some (ds, g) => .ok (enumL 0 ds, g) st1
  | none => .bad := rfl
@[simp] theorem x_rng1 (a : Fe D) : fRng1 a env st = (a env st).bind fun x st1 => match x with
  | .int j => if inR j then .ok (rngL 0 j.toNat, none) st1 else .bad
  | _ => .bad := rfl
@[simp] theorem x_rng2 (a b : Fe D) : fRng2 a b env st = (a env st).bind fun x st1 => (b env st1).bind fun y st2 => match x, y with
  | .int i, .int j => if inR i ∧ inR j then .ok (rngL i (j - i).toNat, none) st2 else .bad
  | _, _ => .bad := rfl
@[simp] theorem x_lrng (kn : Bool) (a : Fe D) : fLrng kn a env st = (a env st).bind fun x st1 => match x with
  | .int j => if inR j ∧ j.toNat ≤ 1000 then lcEnd kn (rngL 0 j.toNat) st1 else .bad
  | _ => .bad := rfl
@[simp] theorem x_endT (ds : List D) : lcEnd true ds st = .ok (.loc st.length) (st ++ [.lst ds]) := rfl
@[simp] theorem x_endF (ds : List D) : lcEnd false ds st = .ok (.lst ds) st := rfl
@[simp] theorem x_lc (kn : Bool) (src : Fe Src) (t : Tg) (c : Fe Bool) (el : Fe D) (own : List Nat) : fLc kn src t c el own env st = (src env st).bind fun q st1 => (lcGo t q.2 c el (wipeE env own) q.1 [] st1).bind (lcEnd kn) := rfl
@[simp] theorem x_lc2 (kn : Bool) (src : Fe Src) (t : Tg) (c : Fe Bool) (src1 : Fe Src) (t1 : Tg) (c1 : Fe Bool) (el : Fe D) (own vs1 : List Nat) : fLc2 kn src t c src1 t1 c1 el own vs1 env st = (src env st).bind fun q st1 => (lc2Go t q.2 c src1 t1 c1 el vs1 (wipeE env own) q.1 [] st1).bind (lcEnd kn) := rfl
@[simp] theorem x_wipe0 : wipeE env [] = env := rfl
@[simp] theorem x_wipe1 (v : Nat) (vs : List Nat) : wipeE env (v :: vs) = (wipeE env vs).set v none := rfl
@[simp] theorem x_for (src : Fe Src) (t : Tg) (body : Fs) : fFor src t body env st = Fl.ofRz env (src env st) fun q st1 => forGo t q.2 body q.1 env st1 := rfl
@[simp] theorem x_yes : fYes env st = .ok true st := rfl
@[simp] theorem x_sto (o i a : Fe D) : fSto o i a env st = Fl.ofRz env (a env st) fun x st1 => Fl.ofRz env (o env st1) fun d st2 => Fl.ofRz env (i env st2) fun k st3 => match setD d k x st3 with
  | some st4 => .nx env st4
  | none => .bad := rfl
@[simp] theorem x_par (i j : Nat) (t : Fe (List D)) : fPar i j t env st = Fl.ofRz env (t env st) fun ds st1 => match ds with
  | [d, e] => .nx ((env.set i (some d)).set j (some e)) st1
  | _ => .bad := rfl
@[simp] theorem x_res_nx : (Fl.nx env st).res = .ok .non st := rfl
@[simp] theorem x_res_rt (d : D) : (Fl.rt d st).res = .ok d st := rfl
@[simp] theorem x_res_exc (e : Ex) : (Fl.exc e env st).res = .exc e st := rfl
@[simp] theorem x_res_bad : Fl.bad.res = .bad := rfl
@[simp] theorem b_add (i j : Int) : binD .Add (.int i) (.int j) st = .ok (.int (i + j)) st := rfl
@[simp] theorem b_sub (i j : Int) : binD .Sub (.int i) (.int j) st = .ok (.int (i - j)) st := rfl
/-- a product that is small enough -/
def mulB (i j : Int) : Prop := i.natAbs.log2 + j.natAbs.log2 < 1000000
theorem b_mul {i j : Int} (h : mulB i j) : binD .Mult (.int i) (.int j) st = .ok (.int (i * j)) st := by
  show (if i.natAbs.log2 + j.natAbs.log2 < 1000000 then Rz.ok (D.int (i * j)) st else .bad) = _
  exact if_pos h
/-- a divisor that is not too great -/
def divB (j : Int) : Prop := 0 < j ∧ j.natAbs.log2 < 9000
theorem b_fdiv {i j : Int} (h : divB j) : binD .FloorDiv (.int i) (.int j) st = .ok (.int (i / j)) st := by
  show (if 0 < j ∧ j.natAbs.log2 < 9000 then Rz.ok (D.int (i / j)) st else .bad) = _
  exact if_pos h
@[simp] theorem b_mod (i j : Int) : binD .Mod (.int i) (.int j) st = if 0 < j then .ok (.int (i % j)) st else .bad := rfl
@[simp] theorem b_addT (x y : List D) : binD .Add (.tup x) (.tup y) st = if x.length + y.length ≤ sizeLine then .ok (.tup (x ++ y)) st else .bad := rfl
@[simp] theorem c_lt (i j : Int) : cmpD .Lt (.int i) (.int j) st = .ok (.bl (decide (i < j))) st := rfl
@[simp] theorem c_le (i j : Int) : cmpD .LtE (.int i) (.int j) st = .ok (.bl (decide (i ≤ j))) st := rfl
@[simp] theorem c_gt (i j : Int) : cmpD .Gt (.int i) (.int j) st = .ok (.bl (decide (j < i))) st := rfl
@[simp] theorem c_ge (i j : Int) : cmpD .GtE (.int i) (.int j) st = .ok (.bl (decide (j ≤ i))) st := rfl
@[simp] theorem c_eq (i j : Int) : cmpD .Eq (.int i) (.int j) st = .ok (.bl (decide (i = j))) st := rfl
@[simp] theorem c_ne (i j : Int) : cmpD .NotEq (.int i) (.int j) st = .ok (.bl (!decide (i = j))) st := rfl
@[simp] theorem c_eqS (i j : Str) : cmpD .Eq (.str i) (.str j) st = .ok (.bl (decide (i = j))) st := rfl
@[simp] theorem c_neS (i j : Str) : cmpD .NotEq (.str i) (.str j) st = .ok (.bl (!decide (i = j))) st := rfl
@[simp] theorem c_isN (i : D) : cmpD .Is i .non st = .ok (.bl (isNonD i)) st := rfl
@[simp] theorem c_notN (i : D) : cmpD .IsNot i .non st = .ok (.bl (!isNonD i)) st := rfl
@[simp] theorem c_in (d e : D) : cmpD .In d e st = match inD d e st with
  | some b => .ok (.bl b) st
  | none => .bad := rfl
@[simp] theorem n_int (i : Int) : isNonD (.int i) = false := rfl
@[simp] theorem n_non : isNonD .non = true := rfl
@[simp] theorem t_bl (b : Bool) : truD (.bl b) st = some b := rfl
@[simp] theorem t_int (i : Int) : truD (.int i) st = some (i != 0) := rfl
@[simp] theorem t_non : truD .non st = some false := rfl
@[simp] theorem b_addL (x y : List D) : binD .Add (.lst x) (.lst y) st = if x.length + y.length ≤ sizeLine then .ok (.lst (x ++ y)) st else .bad := rfl
@[simp] theorem l_abs (i : Int) : bltD .abs [.int i] st = .ok (.int (if i < 0 then -i else i)) st := rfl
@[simp] theorem l_max (i j : Int) : bltD .max [.int i, .int j] st = .ok (.int (if j > i then j else i)) st := rfl
@[simp] theorem l_min (i j : Int) : bltD .min [.int i, .int j] st = .ok (.int (if j < i then j else i)) st := rfl
@[simp] theorem l_int (i : Int) : bltD .int [.int i] st = .ok (.int i) st := rfl
@[simp] theorem l_intB (k : Bool) : bltD .int [.bl k] st = .ok (.int (if k then 1 else 0)) st := rfl
@[simp] theorem l_lenT (ds : List D) : bltD .len [.tup ds] st = .ok (.int (ds.length : Int)) st := rfl
@[simp] theorem l_lenL (ds : List D) : bltD .len [.lst ds] st = .ok (.int (ds.length : Int)) st := rfl
@[simp] theorem l_lenF (ds : List D) : bltD .len [.fls ds] st = .ok (.int (ds.length : Int)) st := rfl
@[simp] theorem l_tupT (ds : List D) : bltD .tuple [.tup ds] st = .ok (.tup ds) st := rfl
@[simp] theorem l_tupL (ds : List D) : bltD .tuple [.lst ds] st = .ok (.tup ds) st := rfl
@[simp] theorem l_all (ds : List D) : bltD .all [.lst ds] st = match allOf blOf ds with
  | some bs => .ok (.bl (bs.all id)) st
  | none => .bad := rfl
@[simp] theorem s_tup (ds : List D) : srcOf st (.tup ds) = some (ds, none) := rfl
@[simp] theorem s_lst (ds : List D) : srcOf st (.lst ds) = some (ds, none) := rfl
@[simp] theorem s_fls (ds : List D) : srcOf st (.fls ds) = some (ds, none) := rfl
@[simp] theorem i_tup (ds : List D) (i : Int) : idxD (.tup ds) (.int i) st = match L2.atI ds i with
  | some x => .ok x st
  | none => .bad := rfl
@[simp] theorem i_lst (ds : List D) (i : Int) : idxD (.lst ds) (.int i) st = match L2.atI ds i with
  | some x => .ok x st
  | none => .bad := rfl
@[simp] theorem i_fls (ds : List D) (i : Int) : idxD (.fls ds) (.int i) st = match L2.atI ds i with
  | some x => .ok x st
  | none => .bad := rfl
theorem i_loc {k : Nat} {ds : List D} (h : st[k]? = some (.lst ds)) (i : Int) : idxD (.loc k) (.int i) st = match L2.atI ds i with
  | some x => .ok x st
  | none => .bad := by
  unfold idxD
  simp only [dicOf, seqOf, tupOf, lstOf, h, Option.or]
  all_goals rfl
theorem set_loc {k : Nat} {ds : List D} (h : st[k]? = some (.lst ds)) (i : Int) (v : D) : setD (.loc k) (.int i) v st = (L2.ixN ds.length i).map fun j => st.set k (.lst (ds.set j v)) := by
  unfold setD
  simp only [h]
@[simp] theorem at0 {A : Type} (x : A) (xs : List A) : L2.atI (x :: xs) 0 = some x := by
  have := L2.atI_nat (xs := x :: xs) (j := 0) rfl
  simpa using this
@[simp] theorem at1 {A : Type} (x y : A) (xs : List A) : L2.atI (x :: y :: xs) 1 = some y := by
  have := L2.atI_nat (xs := x :: y :: xs) (j := 1) rfl
  simpa using this
@[simp] theorem at2 {A : Type} (x y z : A) (xs : List A) : L2.atI (x :: y :: z :: xs) 2 = some z := by
  have := L2.atI_nat (xs := x :: y :: z :: xs) (j := 2) rfl
  simpa using this
@[simp] theorem ix0 (n : Nat) : L2.ixN (n + 1) 0 = some 0 := by
  unfold L2.ixN; rw [if_pos (by omega), if_pos (by omega)]; rfl
@[simp] theorem ix2 (n : Nat) : L2.ixN (n + 3) 2 = some 2 := by
  unfold L2.ixN; rw [if_pos (by omega), if_pos (by omega)]; rfl
end
end L2.G4

set_option maxHeartbeats 4000000
/-! MA: reckoning with what defs compute; the law's draws. -/
namespace L2.G4
open PySem PySem.Spec PyProof.Rows

theorem gcR_same (kn : Bool) (d : D) {st st' : Store} (h : st'.length = st.length) : gcR kn st (.ok d st') = .ok d st' := by
  show gcD kn st d st' = _
  unfold gcD
  split
  · rw [List.take_of_length_le (Nat.le_of_eq h)]
  · split
    · split
      · rename_i k _ _ ds e
        split
        · rename_i hc
          have := (List.getElem?_eq_some_iff.mp e).1
          omega
        · rfl
      · rename_i k _ _ ds e
        split
        · rename_i hc
          have := (List.getElem?_eq_some_iff.mp e).1
          omega
        · rfl
      · rfl
    · rfl
theorem gcE_same (kn : Bool) (e : Ex) {st st' : Store} (h : st'.length = st.length) : gcR kn st (.exc e st') = .exc e st' := by
  show gcE st e st' = _
  unfold gcE
  split
  · rw [List.take_of_length_le (Nat.le_of_eq h)]
  · rfl
@[simp] theorem gcE_id (kn : Bool) (e : Ex) (st : Store) : gcR kn st (.exc e st) = .exc e st := gcE_same kn e rfl
@[simp] theorem gcR_id (kn : Bool) (d : D) (st : Store) : gcR kn st (.ok d st) = .ok d st := gcR_same kn d rfl
@[simp] theorem gcR_set (kn : Bool) (d : D) (st : Store) (k : Nat) (o : O) : gcR kn st (.ok d (st.set k o)) = .ok d (st.set k o) := gcR_same kn d List.length_set
theorem gcR_drop (kn : Bool) {d : D} {st st1 new : Store} (h : st1.length = st.length) (hb : blw st.length d = true) (ho : ∀ i o, i < st.length → st1[i]? = some o → st[i]? = some o ∨ blwO st.length o = true) : gcR kn st (.ok d (st1 ++ new)) = .ok d st1 := by
  show gcD kn st d (st1 ++ new) = _
  unfold gcD
  have hk : gcOk st (st1 ++ new) := ⟨by rw [List.length_append]; omega, fun i o hi e => by
    rw [List.getElem?_append_left (by omega)] at e
    exact ho i o hi e⟩
  rw [if_pos ⟨hk, hb⟩, List.take_append_of_le_length (by omega), List.take_of_length_le (by omega)]
theorem gcR_dic {kvs : List (Key × D)} {st : Store} (hb : blws st.length (kvs.map (·.2)) = true) : gcR false st (.ok (.loc st.length) (st ++ [.dic kvs])) = .ok (.dct (kvs.map (·.1)) (kvs.map (·.2))) st := by
  show gcD false st (.loc st.length) (st ++ [.dic kvs]) = _
  unfold gcD
  have hk : gcOk st (st ++ [.dic kvs]) := ⟨by rw [List.length_append]; omega, fun i o hi e => by
    rw [List.getElem?_append_left (by omega)] at e
    exact .inl e⟩
  have e : (st ++ [O.dic kvs])[st.length]? = some (.dic kvs) := by rw [List.getElem?_append_right (Nat.le_refl _), Nat.sub_self]; rfl
  rw [if_neg (by intro z; have := z.2; simp [blw] at this)]
  simp only [e]
  rw [if_pos ⟨hk, Nat.le_refl _, hb⟩]
  rw [if_neg (by decide), List.take_append_of_le_length (by omega), List.take_of_length_le (by omega)]
theorem gcR_new {ds : List D} {st st1 new : Store} (h : st1.length = st.length) (hb : blws st.length ds = true) (ho : ∀ i o, i < st.length → st1[i]? = some o → st[i]? = some o ∨ blwO st.length o = true) {k : Nat} (hk : st.length ≤ k) (e : (st1 ++ new)[k]? = some (.lst ds)) :
    gcR true st (.ok (.loc k) (st1 ++ new)) = .ok (.loc st.length) (st1 ++ [.lst ds]) := by
  show gcD true st (.loc k) (st1 ++ new) = _
  unfold gcD
  have hk' : gcOk st (st1 ++ new) := ⟨by rw [List.length_append]; omega, fun i o hi e => by
    rw [List.getElem?_append_left (by omega)] at e
    exact ho i o hi e⟩
  rw [if_neg (by intro z; have := z.2; simp [blw] at this; omega)]
  simp only [e]
  rw [if_pos ⟨hk', hk, hb⟩]
  simp only [if_true]
  rw [List.take_append_of_le_length (by omega), List.take_of_length_le (by omega)]
/-- the source of the law's draws: the object k, its third part at most b -/
def Sv (k : Nat) (b : Int) (st : Store) : Prop := ∃ s0 s1 s2 : Int, st[k]? = some (.lst [.int s0, .int s1, .int s2]) ∧ 0 ≤ s0 ∧ 0 ≤ s1 ∧ s1 < 2 ^ 53 ∧ 0 ≤ s2 ∧ s2 ≤ b
theorem log_lt {i : Int} {n : Nat} (h0 : 0 ≤ i) (h : i < 2 ^ n) : i.natAbs.log2 ≤ n := by
  by_cases e : i.natAbs = 0
  · rw [e]; simp
  · have h2 : i.natAbs < 2 ^ n := by
      have e2 : ((i.natAbs : Nat) : Int) = i := by omega
      have : ((i.natAbs : Nat) : Int) < ((2 ^ n : Nat) : Int) := by rw [e2]; push_cast; exact h
      exact_mod_cast this
    exact Nat.le_of_lt ((Nat.log2_lt e).mpr h2)
theorem mulB_of {i j : Int} {n m : Nat} (h0 : 0 ≤ i) (h1 : i < 2 ^ n) (h2 : 0 ≤ j) (h3 : j < 2 ^ m) (h : n + m < 1000000) : mulB i j := by
  have := log_lt h0 h1
  have := log_lt h2 h3
  unfold mulB
  omega
theorem divB_of {j : Int} {n : Nat} (h0 : 0 < j) (h1 : j < 2 ^ n) (h : n < 9000) : divB j := ⟨h0, Nat.lt_of_le_of_lt (log_lt (by omega) h1) h⟩
section
variable {T : Tab} {wf : Nat}
theorem draw_ok (hT : T.lookup i_u_law_draw = some s_u_law_draw) {k : Nat} {b many : Int} {st : Store} (hs : Sv k b st) (hb : b ≤ 2 ^ 60) (h0 : 0 < many) (h1 : many < 2 ^ 60) (n : Nat) :
    ∃ (v : Int) (o : O), fnAt T csg wf (n + 1) 13 [.loc k, .int many] st = .ok (.int v) (st.set k o) ∧ Sv k (b + 1) (st.set k o) ∧ 0 ≤ v ∧ v < many := by
  obtain ⟨s0, s1, s2, e, h2, h3, h4, h5, h6⟩ := hs
  have hk : k < st.length := (List.getElem?_eq_some_iff.mp e).1
  have hl : divB many := divB_of (n := 60) h0 h1 (by omega)
  have m6 : divB 1024 := divB_of (n := 60) (by omega) (by omega) (by omega)
  have g1 : ∀ o, (st.set k o)[k]? = some o := fun o => List.getElem?_set_self hk
  rw [fnAt_of hT]
  by_cases hp : 0 < s0
  · refine ⟨s0 % many, .lst [.int (s0 / many), .int s1, .int s2], ?_, ⟨s0 / many, s1, s2, g1 _, Int.ediv_nonneg h2 (by omega), h3, h4, h5, by omega⟩, Int.emod_nonneg _ (by omega), Int.emod_lt_of_pos _ h0⟩
    simp [s_u_law_draw, c_u_law_draw, runFn, startE, i_loc st e, hp, h0, b_fdiv, hl, set_loc st e]
  · have a0 : 0 ≤ (s1 + 2654435769 * (s2 + 1)) % 4503599627370449 := Int.emod_nonneg _ (by omega)
    have a1 : (s1 + 2654435769 * (s2 + 1)) % 4503599627370449 < 4503599627370449 := Int.emod_lt_of_pos _ (by omega)
    generalize ho : (s1 + 2654435769 * (s2 + 1)) % 4503599627370449 = one at a0 a1
    have c0 : 0 ≤ (one * one) % 2251799813685119 := Int.emod_nonneg _ (by omega)
    have c1 : (one * one) % 2251799813685119 < 2251799813685119 := Int.emod_lt_of_pos _ (by omega)
    generalize hq : (one * one) % 2251799813685119 = q at c0 c1
    have d0 : 0 ≤ s1 % 32749 := Int.emod_nonneg _ (by omega)
    have d1 : s1 % 32749 < 32749 := Int.emod_lt_of_pos _ (by omega)
    have e0 : 0 ≤ q * one := Int.mul_nonneg c0 a0
    have e1 : q * one ≤ 2251799813685119 * 4503599627370449 := Int.mul_le_mul (by omega) (by omega) a0 (by omega)
    have m1 : mulB 2654435769 (s2 + 1) := mulB_of (n := 40) (m := 62) (by omega) (by omega) (by omega) (by omega) (by omega)
    have m2 : mulB one one := mulB_of (n := 53) (m := 53) a0 (by omega) a0 (by omega) (by omega)
    have m3 : mulB q one := mulB_of (n := 53) (m := 53) c0 (by omega) a0 (by omega) (by omega)
    have m4 : mulB 40503 (s2 + 1) := mulB_of (n := 40) (m := 62) (by omega) (by omega) (by omega) (by omega) (by omega)
    generalize ht : q * one + 40503 * (s2 + 1) + s1 % 32749 = two
    have m5 : mulB two two := mulB_of (n := 110) (m := 110) (by omega) (by omega) (by omega) (by omega) (by omega)
    refine ⟨two * two % 1125899906842589 / 1024 % many, .lst [.int s0, .int s1, .int (s2 + 1)], ?_, ⟨s0, s1, s2 + 1, g1 _, h2, h3, h4, by omega, by omega⟩, Int.emod_nonneg _ (by omega), Int.emod_lt_of_pos _ h0⟩
    simp [s_u_law_draw, c_u_law_draw, runFn, startE, i_loc st e, hp, h0, hl, set_loc st e, i_loc _ (g1 _), b_mul, b_fdiv, m1, m2, m3, m4, m5, m6, ho, hq, ht]
end
end L2.G4

set_option maxHeartbeats 4000000
/-! MC: loops and comprehensions by what they keep; delays, terms. -/
namespace L2.G4
open PySem PySem.Spec PyProof.Rows

theorem forGo_by {t : Tg} {g : Gd} {body : Fs} {I : Nat → Env → Store → Prop} : ∀ (ds : List D) (j : Nat) (env : Env) (st : Store), (∀ i env st, I i env st → gdOk g st) →
    (∀ i d env st, ds[i]? = some d → I (j + i) env st → ∃ env1 e s, t d env = some env1 ∧ body env1 st = .nx e s ∧ I (j + i + 1) e s) → I j env st → ∃ e s, forGo t g body ds env st = .nx e s ∧ I (j + ds.length) e s
  | [], j, env, st, hg, step, h => by
    refine ⟨env, st, ?_, h⟩
    unfold forGo
    rw [if_pos (hg _ _ _ h)]
  | d :: ds, j, env, st, hg, step, h => by
    obtain ⟨env1, e, s, h1, h2, h3⟩ := step 0 d env st rfl h
    obtain ⟨e', s', h4, h5⟩ := forGo_by (t := t) (g := g) (body := body) (I := I) ds (j + 1) e s hg (fun i d' env' st' e1 h' => by
      have q := step (i + 1) d' env' st' (by simpa using e1) (by rw [← Nat.add_assoc, Nat.add_right_comm]; exact h')
      rw [← Nat.add_assoc, Nat.add_right_comm j i 1] at q
      exact q) h3
    refine ⟨e', s', ?_, by rw [List.length_cons, Nat.add_comm ds.length 1, ← Nat.add_assoc]; exact h5⟩
    unfold forGo
    rw [if_pos (hg _ _ _ h), h1]
    simp only [h2, Fl.turn_nx]
    exact h4
/-- a loop that may hand back: either it goes through, or it hands back -/
theorem lcGo_by {t : Tg} {g : Gd} {c : Fe Bool} {el : Fe D} {env : Env} {I : Nat → List D → Store → Prop} : ∀ (ds : List D) (j : Nat) (acc : List D) (st : Store), (∀ i acc st, I i acc st → gdOk g st) → acc.length + ds.length ≤ sizeLine →
    (∀ i d acc st, ds[i]? = some d → I (j + i) acc st → ∃ env1 k st1, t d env = some env1 ∧ c env1 st = .ok k st1 ∧ ((k = true ∧ ∃ y st2, el env1 st1 = .ok y st2 ∧ I (j + i + 1) (acc ++ [y]) st2) ∨ (k = false ∧ I (j + i + 1) acc st1))) →
    I j acc st → ∃ acc' st', lcGo t g c el env ds acc st = .ok acc' st' ∧ I (j + ds.length) acc' st'
  | [], j, acc, st, hg, hz, step, h => by
    refine ⟨acc, st, ?_, h⟩
    unfold lcGo
    rw [if_pos (hg _ _ _ h)]
  | d :: ds, j, acc, st, hg, hz, step, h => by
    rw [List.length_cons] at hz
    obtain ⟨env1, k, st1, h1, h2, h3⟩ := step 0 d acc st rfl h
    have step' : ∀ i d' acc st, ds[i]? = some d' → I (j + 1 + i) acc st → ∃ env1 k st1, t d' env = some env1 ∧ c env1 st = .ok k st1 ∧ ((k = true ∧ ∃ y st2, el env1 st1 = .ok y st2 ∧ I (j + 1 + i + 1) (acc ++ [y]) st2) ∨ (k = false ∧ I (j + 1 + i + 1) acc st1)) := fun i d' acc' st' e1 h' => by
      have q := step (i + 1) d' acc' st' (by simpa using e1) (by rw [← Nat.add_assoc, Nat.add_right_comm]; exact h')
      rw [← Nat.add_assoc, Nat.add_right_comm j i 1] at q
      exact q
    have fin : j + 1 + ds.length = j + (d :: ds).length := by rw [List.length_cons]; omega
    rcases h3 with ⟨rfl, y, st2, h4, h5⟩ | ⟨rfl, h5⟩
    · obtain ⟨acc', st', h6, h7⟩ := lcGo_by (t := t) (g := g) (c := c) (el := el) (env := env) (I := I) ds (j + 1) (acc ++ [y]) st2 hg (by rw [List.length_append, List.length_singleton]; omega) step' h5
      refine ⟨acc', st', ?_, by rw [← fin]; exact h7⟩
      unfold lcGo
      rw [if_pos (hg _ _ _ h), h1]
      simp only [h2, h4, Rz.noexc_ok, Rz.bind_ok, if_true]
      rw [if_pos (by omega)]
      exact h6
    · obtain ⟨acc', st', h6, h7⟩ := lcGo_by (t := t) (g := g) (c := c) (el := el) (env := env) (I := I) ds (j + 1) acc st1 hg (by omega) step' h5
      refine ⟨acc', st', ?_, by rw [← fin]; exact h7⟩
      unfold lcGo
      rw [if_pos (hg _ _ _ h), h1]
      simp only [h2, Rz.noexc_ok, Rz.bind_ok, Bool.false_eq_true, if_false]
      exact h6
/-- a comprehension that changes nothing -/
theorem lcGo_pure {t : Tg} {g : Gd} {c : Fe Bool} {el : Fe D} {env : Env} {st : Store} {A : Type} (enc : A → D) (p : A → Bool) (f : A → D) (hg : gdOk g st) : ∀ (xs : List A) (acc : List D), acc.length + xs.length ≤ sizeLine →
    (∀ x ∈ xs, ∃ env1, t (enc x) env = some env1 ∧ c env1 st = .ok (p x) st ∧ (p x = true → el env1 st = .ok (f x) st)) → lcGo t g c el env (xs.map enc) acc st = .ok (acc ++ (xs.filter p).map f) st
  | [], acc, hz, h => by
    rw [List.map_nil]
    unfold lcGo
    rw [if_pos hg]
    simp
  | x :: xs, acc, hz, h => by
    rw [List.length_cons] at hz
    obtain ⟨env1, h1, h2, h3⟩ := h x List.mem_cons_self
    rw [List.map_cons]
    unfold lcGo
    rw [if_pos hg, h1]
    simp only [h2, Rz.noexc_ok, Rz.bind_ok]
    cases hp : p x with
    | true =>
      simp only [h3 hp, Rz.noexc_ok, Rz.bind_ok, if_true]
      rw [if_pos (by omega), lcGo_pure enc p f hg xs _ (by rw [List.length_append, List.length_singleton]; omega) fun y hy => h y (List.mem_cons_of_mem _ hy), List.filter_cons_of_pos hp]
      simp
    | false =>
      simp only [Bool.false_eq_true, if_false]
      rw [lcGo_pure enc p f hg xs _ (by omega) fun y hy => h y (List.mem_cons_of_mem _ hy), List.filter_cons_of_neg (by rw [hp]; exact Bool.false_ne_true)]

theorem lcGo_map {t : Tg} {g : Gd} {c : Fe Bool} {el : Fe D} {env : Env} {st : Store} {A : Type} (enc : A → D) (f : A → D) (hg : gdOk g st) (xs : List A) (hz : xs.length ≤ sizeLine)
    (h : ∀ x ∈ xs, ∃ env1, t (enc x) env = some env1 ∧ c env1 st = .ok true st ∧ el env1 st = .ok (f x) st) : lcGo t g c el env (xs.map enc) [] st = .ok (xs.map f) st := by
  have q := lcGo_pure (t := t) (g := g) (c := c) (el := el) (env := env) (st := st) enc (fun _ => true) f hg xs [] (by simpa using hz) fun x hx => let ⟨e, h1, h2, h3⟩ := h x hx; ⟨e, h1, h2, fun _ => h3⟩
  rw [q, List.filter_eq_self.mpr fun _ _ => rfl]
  rfl
theorem Sv.mono {k : Nat} {b b' : Int} {st : Store} (h : Sv k b st) (le : b ≤ b') : Sv k b' st := by
  obtain ⟨s0, s1, s2, e, h2, h3, h4, h5, h6⟩ := h
  exact ⟨s0, s1, s2, e, h2, h3, h4, h5, by omega⟩
theorem Sv.lt {k : Nat} {b : Int} {st : Store} (h : Sv k b st) : k < st.length := by
  obtain ⟨s0, s1, s2, e, _⟩ := h
  exact (List.getElem?_eq_some_iff.mp e).1
theorem Sv.app {k : Nat} {b : Int} {st : Store} (h : Sv k b st) (new : Store) : Sv k b (st ++ new) := by
  have hl := h.lt
  obtain ⟨s0, s1, s2, e, q⟩ := h
  exact ⟨s0, s1, s2, by rw [List.getElem?_append_left hl]; exact e, q⟩
theorem set_app {k : Nat} {st new : Store} {o : O} (h : k < st.length) : (st ++ new).set k o = st.set k o ++ new := List.set_append_left _ _ h
section
variable {T : Tab} {wf : Nat}
/-- what stands under the shared numbers -/
structure Lb (T : Tab) : Prop where
  draw : T.lookup 13 = some s_u_law_draw
  delay : T.lookup 50 = some s_u_law_delay_v1
  terms : T.lookup 51 = some s_u_law_terms_v1
  ring : T.lookup 16 = some s_u_law_ring
  wide : T.lookup 52 = some s_u_law_widened_v1
  rules : T.lookup 53 = some s_u_law_rules_v1
  source : T.lookup 12 = some s_u_law_source
theorem delay_ok (L : Lb T) {k : Nat} {b reach : Int} {st : Store} (hs : Sv k b st) (hb : b + 2 ≤ 2 ^ 60) (h0 : 3 ≤ reach) (h1 : reach ≤ 59) (n : Nat) :
    ∃ (v : Int) (o : O), fnAt T csg wf (n + 2) 50 [.loc k, .int reach] st = .ok (.int v) (st.set k o) ∧ Sv k (b + 2) (st.set k o) ∧ -60 ≤ v ∧ v ≤ 59 := by
  obtain ⟨way, o1, e1, S1, w0, w1⟩ := draw_ok (wf := wf) L.draw (many := 16) hs (by omega) (by omega) (by omega) n
  obtain ⟨v2, o2, e2, S2, a0, a1⟩ := draw_ok (wf := wf) L.draw (many := 7) S1 (by omega) (by omega) (by omega) n
  obtain ⟨v3, o3, e3, S3, b0, b1⟩ := draw_ok (wf := wf) L.draw (many := 2 * reach + 1) S1 (by omega) (by omega) (by omega) n
  obtain ⟨v4, o4, e4, S4, c0, c1⟩ := draw_ok (wf := wf) L.draw (many := 4) S1 (by omega) (by omega) (by omega) n
  rw [List.set_set] at e2 e3 e4 S2 S3 S4
  have m1 : mulB 2 reach := mulB_of (n := 40) (m := 40) (by omega) (by omega) (by omega) (by omega) (by omega)
  have eb : b + 1 + 1 = b + 2 := by omega
  rw [eb] at S2 S3 S4
  rw [fnAt_of L.delay]
  by_cases q1 : way < 11
  · refine ⟨v2 - 3, o2, ?_, S2, by omega, by omega⟩
    simp [s_u_law_delay_v1, c_u_law_delay_v1, runFn, startE, e1, e2, q1]
  · by_cases q2 : way < 15 ∨ reach < 59
    · refine ⟨v3 - reach, o3, ?_, S3, by omega, by omega⟩
      rcases q2 with q2 | q2
      · simp [s_u_law_delay_v1, c_u_law_delay_v1, runFn, startE, e1, e3, q1, q2, b_mul, m1]
      · by_cases q3 : way < 15
        · simp [s_u_law_delay_v1, c_u_law_delay_v1, runFn, startE, e1, e3, q1, q3, b_mul, m1]
        · simp [s_u_law_delay_v1, c_u_law_delay_v1, runFn, startE, e1, e3, q1, q2, q3, b_mul, m1]
    · have q3 : ¬ way < 15 := fun z => q2 (.inl z)
      have q4 : ¬ reach < 59 := fun z => q2 (.inr z)
      have hv : v4 = 0 ∨ v4 = 1 ∨ v4 = 2 ∨ v4 = 3 := by omega
      have hz : 4 ≤ sizeLine := by decide
      rcases hv with rfl | rfl | rfl | rfl
      · exact ⟨-60, o4, by simp [s_u_law_delay_v1, c_u_law_delay_v1, runFn, startE, e1, e4, q1, q3, q4, hz], S4, by omega, by omega⟩
      · exact ⟨59, o4, by simp [s_u_law_delay_v1, c_u_law_delay_v1, runFn, startE, e1, e4, q1, q3, q4, hz], S4, by omega, by omega⟩
      · exact ⟨-59, o4, by simp [s_u_law_delay_v1, c_u_law_delay_v1, runFn, startE, e1, e4, q1, q3, q4, hz], S4, by omega, by omega⟩
      · exact ⟨58, o4, by simp [s_u_law_delay_v1, c_u_law_delay_v1, runFn, startE, e1, e4, q1, q3, q4, hz, L2.atI, L2.ixN], S4, by omega, by omega⟩
end
end L2.G4

set_option maxHeartbeats 4000000
/-! MD: the law's terms. -/
namespace L2.G4
open PySem PySem.Spec PyProof.Rows

/-- the object at k alone has changed -/
def Up (k : Nat) (st st' : Store) : Prop := ∃ o, st' = st.set k o
theorem set_id {k : Nat} {st : Store} {o : O} (h : st[k]? = some o) : st.set k o = st := by
  apply List.ext_getElem?
  intro i
  by_cases e : k = i
  · subst e
    rw [List.getElem?_set_self (List.getElem?_eq_some_iff.mp h).1, h]
  · rw [List.getElem?_set_ne e]
theorem Up.refl {k : Nat} {b : Int} {st : Store} (h : Sv k b st) : Up k st st := by
  obtain ⟨s0, s1, s2, e, _⟩ := h
  exact ⟨_, (set_id e).symm⟩
theorem Up.set {k : Nat} {st st' : Store} (h : Up k st st') (o : O) : Up k st (st'.set k o) := by
  obtain ⟨o', rfl⟩ := h
  exact ⟨o, List.set_set ..⟩
theorem Up.trans {k : Nat} {st st' st2 : Store} (h : Up k st st') (h' : Up k st' st2) : Up k st st2 := by
  obtain ⟨o', rfl⟩ := h'
  exact h.set o'
theorem Up.len {k : Nat} {st st' : Store} (h : Up k st st') : st'.length = st.length := by
  obtain ⟨o', rfl⟩ := h
  exact List.length_set
/-- what a def hands back whose source is at k -/
theorem gc_up {k : Nat} {b : Int} {st st1 new : Store} (hs : Sv k b st1) (h : Up k st st1) (kn : Bool) {d : D} (hb : blw st.length d = true) : gcR kn st (.ok d (st1 ++ new)) = .ok d st1 := by
  refine gcR_drop kn h.len hb fun i o hi e => ?_
  obtain ⟨s0, s1, s2, e1, _⟩ := hs
  obtain ⟨o', rfl⟩ := h
  by_cases q : k = i
  · subst q
    rw [e1] at e
    cases e
    exact .inr rfl
  · rw [List.getElem?_set_ne q] at e
    exact .inl e

/-! ### tables of ints -/
def encK (ps : List (Int × Int)) : List (Key × D) := ps.map fun p => (.inl p.1, .int p.2)
def pput (ps : List (Int × Int)) (v d : Int) : List (Int × Int) := if (ps.any fun p => decide (p.1 = v)) = true then ps.map (fun p => if p.1 = v then (p.1, d) else p) else ps ++ [(v, d)]
theorem any_enc (ps : List (Int × Int)) (v : Int) : ((encK ps).any fun kv => decide (kv.1 = (.inl v : Key))) = ps.any fun p => decide (p.1 = v) := by
  unfold encK
  rw [List.any_map]
  congr 1
  funext p
  simp
theorem dput_enc (ps : List (Int × Int)) (v d : Int) : dput (encK ps) (.inl v) (.int d) = encK (pput ps v d) := by
  unfold dput pput
  rw [any_enc]
  split
  · unfold encK
    rw [List.map_map, List.map_map]
    congr 1
    funext p
    by_cases e : p.1 = v
    · simp [e]
    · simp [e]
  · unfold encK
    rw [List.map_append]
    rfl
theorem pput_keys (ps : List (Int × Int)) (v d : Int) : ((pput ps v d).map (·.1)) = if (ps.any fun p => decide (p.1 = v)) = true then ps.map (·.1) else ps.map (·.1) ++ [v] := by
  unfold pput
  split
  · rw [List.map_map]
    congr 1
    funext p
    by_cases e : p.1 = v
    · simp [e]
    · simp [e]
  · rw [List.map_append]
    rfl
/-- a table of terms: keys apart, below size, values delays -/
def Kv (size : Int) (ps : List (Int × Int)) : Prop := (ps.map (·.1)).Nodup ∧ ∀ p ∈ ps, (0 ≤ p.1 ∧ p.1 < size) ∧ -60 ≤ p.2 ∧ p.2 ≤ 59
theorem Kv.put {size : Int} {ps : List (Int × Int)} (h : Kv size ps) {v d : Int} (h0 : 0 ≤ v) (h1 : v < size) (h2 : -60 ≤ d) (h3 : d ≤ 59) : Kv size (pput ps v d) := by
  refine ⟨?_, fun p hp => ?_⟩
  · rw [pput_keys]
    split
    · exact h.1
    · rename_i q
      rw [List.nodup_append]
      refine ⟨h.1, by simp, fun a ha b hb e => ?_⟩
      rw [List.mem_singleton] at hb
      subst hb
      subst e
      obtain ⟨p, hp, e⟩ := List.mem_map.mp ha
      exact q (List.any_eq_true.mpr ⟨p, hp, by simpa using e⟩)
  · unfold pput at hp
    split at hp
    · obtain ⟨q, hq, rfl⟩ := List.mem_map.mp hp
      split
      · exact ⟨(h.2 q hq).1, h2, h3⟩
      · exact h.2 q hq
    · rcases List.mem_append.mp hp with hp | hp
      · exact h.2 p hp
      · rw [List.mem_singleton] at hp
        subst hp
        exact ⟨⟨h0, h1⟩, h2, h3⟩
theorem pput_len (ps : List (Int × Int)) (v d : Int) : (pput ps v d).length ≤ ps.length + 1 := by
  unfold pput
  split
  · simp
  · simp
def pval (ps : List (Int × Int)) (v : Int) : Int := ((ps.find? fun p => decide (p.1 = v)).map (·.2)).getD 0
theorem dval_enc {ps : List (Int × Int)} {v : Int} (h : v ∈ ps.map (·.1)) : dval (encK ps) (.inl v) = some (.int (pval ps v)) ∧ (v, pval ps v) ∈ ps := by
  induction ps with
  | nil => simp at h
  | cons p ps ih =>
    unfold dval encK pval at *
    by_cases e : p.1 = v
    · subst e
      simp
    · rw [List.map_cons, List.mem_cons] at h
      have h' : v ∈ ps.map (·.1) := h.resolve_left fun z => e z.symm
      obtain ⟨i1, i2⟩ := ih h'
      have e' : ¬ (decide (p.1 = v) = true) := by simpa using e
      simp only [List.map_cons, List.find?_cons, e, decide_false, Sum.inl.injEq]
      exact ⟨i1, List.mem_cons_of_mem _ i2⟩
theorem keysI_enc (ps : List (Int × Int)) : keysI (encK ps) = some (ps.map (·.1)) := by
  unfold keysI encK
  rw [List.map_map]
  exact allOf_map intOf _ _ (fun p => rfl) ps
/-- terms: variables ascending -/
def Tm (size : Int) (ts : List (Int × Int)) : Prop := ts.Pairwise (fun x y => x.1 < y.1) ∧ ∀ p ∈ ts, (0 ≤ p.1 ∧ p.1 < size) ∧ -60 ≤ p.2 ∧ p.2 ≤ 59
def encP (p : Int × Int) : D := .tup [.int p.1, .int p.2]
def encT (ts : List (Int × Int)) : D := .tup (ts.map encP)
theorem sortI_perm (ns : List Int) : (sortI ns).Perm ns := isort_perm leI ns
theorem sortI_lt {ns : List Int} (h : ns.Nodup) : (sortI ns).Pairwise (· < ·) := by
  have h1 : (sortI ns).Pairwise (fun a b => leI a b = true) := isort_sorted leI (fun a b c h1 h2 => by rw [leI_iff] at *; omega) (fun a b => by rw [leI_iff, leI_iff]; omega) ns
  have h2 : (sortI ns).Nodup := (sortI_perm ns).nodup_iff.mpr h
  refine (h1.and h2).imp fun {a b} q => ?_
  have := leI_iff.mp q.1
  have := q.2
  omega
section
variable {T : Tab} {wf : Nat}
theorem terms_ok (L : Lb T) {k : Nat} {b size many reach : Int} {st : Store} (hs : Sv k b st) (hb : b + 3 * many ≤ 2 ^ 60) (hs0 : 0 < size) (hs1 : size ≤ 1000) (hm0 : 0 ≤ many) (hm1 : many ≤ 20) (h0 : 3 ≤ reach) (h1 : reach ≤ 59) (n : Nat) :
    ∃ (ts : List (Int × Int)) (st' : Store), fnAt T csg wf (n + 3) 51 [.loc k, .int size, .int many, .int reach] st = .ok (encT ts) st' ∧ Up k st st' ∧ Sv k (b + 3 * many) st' ∧ Tm size ts ∧ ts.length ≤ many.toNat := by
  rw [fnAt_of L.terms]
  have hR : inR many := by unfold inR; omega
  obtain ⟨env2, st2, e2, ps, st0, v5, rfl, rfl, hU, hS, hK, hl⟩ := forGo_by (t := gdName 5) (g := none) (body := (den ⟨fnAt T csg wf (n + 2), csg, wf, (0, 0), lmAt T csg wf (n + 2)⟩ (.cons (.sto (.var 4) (.call 13 (.cons (.var 0) (.cons (.var 1) (.nil)))) (.call 50 (.cons (.var 0) (.cons (.var 3) (.nil))))) (.nil))).s)
    (I := fun i env st' => ∃ (ps : List (Int × Int)) (st0 : Store) (v5 : Option D), env = [some (.loc k), some (.int size), some (.int many), some (.int reach), some (.loc st.length), v5, none] ∧ st' = st0 ++ [.dic (encK ps)] ∧ Up k st st0 ∧ Sv k (b + 3 * i) st0 ∧ Kv size ps ∧ ps.length ≤ i)
    (rngL 0 many.toNat) 0 [some (.loc k), some (.int size), some (.int many), some (.int reach), some (.loc st.length), none, none] (st ++ [.dic []]) (fun _ _ _ _ => trivial)
    (fun i d env st' e ⟨ps, st0, v5, he, hst, hU, hS, hK, hl⟩ => by
      subst he hst
      have hi : i < many.toNat := by
        have := (List.getElem?_eq_some_iff.mp e).1
        unfold rngL at this
        simpa using this
      have hi2 : (i : Int) < many := by omega
      rw [Nat.zero_add] at hS hl ⊢
      have hlen := hU.len
      obtain ⟨v, o1, f1, S1, a0, a1⟩ := delay_ok (wf := wf) L (reach := reach) (hS.app [.dic (encK ps)]) (by omega) h0 h1 n
      rw [set_app hS.lt] at f1 S1
      obtain ⟨x, o2, f2, S2, c0, c1⟩ := draw_ok (wf := wf) L.draw (many := size) S1 (by omega) hs0 (by omega) (n + 1)
      rw [set_app (by rw [List.length_set]; exact hS.lt), List.set_set] at f2 S2
      have g4 : (st0.set k o2 ++ [O.dic (encK ps)])[st.length]? = some (.dic (encK ps)) := by
        rw [List.getElem?_append_right (by rw [List.length_set, hlen]; exact Nat.le_refl _), List.length_set, hlen, Nat.sub_self]
        rfl
      have hz : (encK ps).length < sizeLine := by
        unfold encK
        rw [List.length_map]
        exact Nat.lt_of_le_of_lt (show ps.length ≤ 20 by omega) (by decide)
      have hset : setD (.loc st.length) (.int x) (.int v) (st0.set k o2 ++ [O.dic (encK ps)]) = some (st0.set k o2 ++ [O.dic (encK (pput ps x v))]) := by
        unfold setD
        simp only [g4, keyOf]
        rw [if_pos hz, dput_enc, List.set_append_right _ _ (by rw [List.length_set, hlen]; exact Nat.le_refl _), List.length_set, hlen, Nat.sub_self]
        rfl
      refine ⟨_, _, _, rfl, ?_, pput ps x v, st0.set k o2, some d, rfl, rfl, hU.set o2, ?_, hK.put c0 c1 a0 a1, Nat.le_trans (pput_len ps x v) (by omega)⟩
      · simp [f1, f2, hset]
      · obtain ⟨s0, s1, s2, q, rest⟩ := S2
        have hk2 : k < (st0.set k o2).length := by rw [List.length_set]; exact hS.lt
        rw [List.getElem?_append_left hk2] at q
        exact Sv.mono ⟨s0, s1, s2, q, rest⟩ (by push_cast; omega))
    ⟨[], st, none, rfl, rfl, .refl hs, hs.mono (by omega), ⟨List.nodup_nil, fun p hp => by cases hp⟩, Nat.le_refl _⟩
  have hlen := hU.len
  have hlm : (rngL 0 many.toNat).length = many.toNat := by unfold rngL; simp
  rw [Nat.zero_add, hlm] at hl hS
  have g4 : (st0 ++ [O.dic (encK ps)])[st.length]? = some (.dic (encK ps)) := by
    rw [List.getElem?_append_right (by rw [hlen]; exact Nat.le_refl _), hlen, Nat.sub_self]
    rfl
  have hsort : bltD .sorted [.loc st.length] (st0 ++ [O.dic (encK ps)]) = .ok (.lst ((sortI (ps.map (·.1))).map D.int)) (st0 ++ [O.dic (encK ps)]) := by
    simp only [bltD, seqOf, tupOf, lstOf, dicOf, g4, Option.or, keysI_enc]
    rw [if_pos (by rw [List.length_map]; omega)]
  have hmem : ∀ v ∈ sortI (ps.map (·.1)), v ∈ ps.map (·.1) := fun v hv => (sortI_perm _).mem_iff.mp hv
  have hln : (sortI (ps.map (·.1))).length = ps.length := by rw [(sortI_perm _).length_eq, List.length_map]
  have hlc := lcGo_map (t := gdName 6) (g := none) (c := fYes) (el := fTup (fCons (fVar 6) (fCons (fBin idxD (fVar 4) (fVar 6)) fNil))) (env := [some (.loc k), some (.int size), some (.int many), some (.int reach), some (.loc st.length), v5, none]) (st := st0 ++ [O.dic (encK ps)])
    D.int (fun v => encP (v, pval ps v)) trivial (sortI (ps.map (·.1))) (by rw [hln]; exact Nat.le_trans (show ps.length ≤ 20 by omega) (by decide)) (fun v hv => by
      refine ⟨_, rfl, rfl, ?_⟩
      have q := (dval_enc (hmem v hv)).1
      have hi : idxD (.loc st.length) (.int v) (st0 ++ [O.dic (encK ps)]) = .ok (.int (pval ps v)) (st0 ++ [O.dic (encK ps)]) := by
        simp only [idxD, dicOf, g4, keyOf, q]
      have hz2 : 2 ≤ sizeLine := two_le
      simp [hi, hz2, encP])
  simp at e2 hlc
  refine ⟨(sortI (ps.map (·.1))).map fun v => (v, pval ps v), st0, ?_, hU, hS.mono (by omega), ⟨?_, fun p hp => ?_⟩, by rw [List.length_map, hln]; exact hl⟩
  · have e : encT ((sortI (ps.map (·.1))).map fun v => (v, pval ps v)) = .tup ((sortI (ps.map (·.1))).map fun v => encP (v, pval ps v)) := by
      unfold encT
      rw [List.map_map]
      rfl
    have fin := gc_up (new := [O.dic (encK ps)]) hS hU false (d := .tup ((sortI (ps.map (·.1))).map fun v => encP (v, pval ps v))) (by
      simp only [blw]
      generalize sortI (ps.map (·.1)) = l
      induction l with
      | nil => rfl
      | cons v l ih => simp only [List.map_cons, blws, encP, blw, Bool.and_true, Bool.true_and]; exact ih)
    rw [e]
    simp [s_u_law_terms_v1, c_u_law_terms_v1, runFn, startE, hR, e2, hsort, hlc, fin]
  · rw [List.pairwise_map]
    exact (sortI_lt hK.1).imp fun h => h
  · obtain ⟨v, hv, rfl⟩ := List.mem_map.mp hp
    exact hK.2 _ (dval_enc (hmem v hv)).2
end
end L2.G4

set_option maxHeartbeats 4000000
/-! ME: the law's rings. -/
namespace L2.G4
open PySem PySem.Spec PyProof.Rows

theorem get_new {st0 new : Store} {L : Nat} (j : Nat) (h : st0.length = L) : (st0 ++ new)[L + j]? = new[j]? := by
  rw [List.getElem?_append_right (by omega), h, Nat.add_sub_cancel_left]
theorem set_new {st0 new : Store} {L : Nat} (j : Nat) (o : O) (h : st0.length = L) : (st0 ++ new).set (L + j) o = st0 ++ new.set j o := by
  rw [List.set_append_right _ _ (by omega), h, Nat.add_sub_cancel_left]
theorem get_new0 {st0 new : Store} {L : Nat} (h : st0.length = L) : (st0 ++ new)[L]? = new[0]? := get_new 0 h
theorem set_new0 {st0 new : Store} {L : Nat} (o : O) (h : st0.length = L) : (st0 ++ new).set L o = st0 ++ new.set 0 o := set_new 0 o h
theorem Sv.cut {k : Nat} {b : Int} {st new : Store} (h : Sv k b (st ++ new)) (hk : k < st.length) : Sv k b st := by
  obtain ⟨s0, s1, s2, e, q⟩ := h
  rw [List.getElem?_append_left hk] at e
  exact ⟨s0, s1, s2, e, q⟩
theorem len_loc {st : Store} {k : Nat} {ds : List D} (h : st[k]? = some (.lst ds)) : bltD .len [.loc k] st = .ok (.int (ds.length : Int)) st := by
  simp only [bltD, lenD, seqOf, tupOf, lstOf, h, Option.or]
theorem app_loc {st : Store} {k : Nat} {ds : List D} (h : st[k]? = some (.lst ds)) (hz : ds.length < sizeLine) (x : D) : mthD .append (.loc k) [x] st = .ok .non (st.set k (.lst (ds ++ [x]))) := by
  simp only [mthD, h]
  exact if_pos hz
theorem seqIx {n : Nat} {i : Int} (h0 : 0 ≤ i) (h1 : i < n) : seqIndex? i n = some i.toNat := by
  have e : L2.ixN n i = some i.toNat := by
    unfold L2.ixN
    rw [if_pos h0, if_pos h1]
  exact (L2.ixN_seq e).1
theorem pop_loc {st : Store} {k : Nat} {ds : List D} {i : Int} {y : D} (h : st[k]? = some (.lst ds)) (h0 : 0 ≤ i) (h1 : i < ds.length) (hz : ds.length < 2 ^ 60) (e : ds[i.toNat]? = some y) : mthD .pop (.loc k) [.int i] st = .ok y (st.set k (.lst (ds.eraseIdx i.toNat))) := by
  simp only [mthD, h]
  rw [if_pos (by omega), seqIx h0 h1]
  simp only [e]
theorem lst_loc {st : Store} {k : Nat} {ds : List D} (h : st[k]? = some (.lst ds)) : lstOf st (.loc k) = some ds := by
  simp only [lstOf, h]
theorem src_loc {st : Store} {k : Nat} {ds : List D} (h : st[k]? = some (.lst ds)) : srcOf st (.loc k) = some (ds, some (k, ds)) := by
  simp only [srcOf, h]
theorem slc1_loc {st : Store} {k : Nat} {ds : List D} (h : st[k]? = some (.lst ds)) : slcD (.loc k) (some 1) none st = .ok (.lst (ds.drop 1)) st := by
  have e : cutL ds (some 1) none = ds.drop 1 := by
    unfold cutL
    rw [show HT.sIx ds.length 0 (some 1) = min 1 ds.length from HT.sIx_nat ds.length 0 1, HT.sIx_none]
    cases ds with
    | nil => rfl
    | cons x r =>
      rw [show min 1 (x :: r).length = 1 by rw [List.length_cons]; omega]
      show List.take _ r = r
      rw [List.length_cons, Nat.add_sub_cancel]
      exact List.take_length
  simp only [slcD, tupOf, lstOf, h, e]
theorem slc1_cons {st : Store} {k : Nat} {d : D} {ds : List D} (h : st[k]? = some (.lst (d :: ds))) : slcD (.loc k) (some 1) none st = .ok (.lst ds) st := slc1_loc h
theorem enumL_ints (rs : List Int) : enumL 0 (rs.map D.int) = ((List.range rs.length).map fun i : Nat => (i, rs.getD i 0)).map fun p : Nat × Int => D.tup [.int (p.1 : Int), .int p.2] := by
  apply List.ext_getElem?
  intro i
  rw [enumL_get, List.getElem?_map, List.getElem?_map, List.getElem?_map]
  by_cases h : i < rs.length
  · rw [List.getElem?_range h, List.getElem?_eq_getElem h]
    simp [List.getD_eq_getElem?_getD, List.getElem?_eq_getElem h]
  · rw [List.getElem?_eq_none (by omega), List.getElem?_eq_none (by simpa using h)]
    rfl
def prevI (rs : List Int) (i : Nat) : Int := if i = 0 then rs.getD (rs.length - 1) 0 else rs.getD (i - 1) 0
theorem prev_at {rs : List Int} {i : Nat} (h : i < rs.length) : L2.atI (rs.map D.int) ((i : Int) - 1) = some (.int (prevI rs i)) := by
  unfold L2.atI L2.ixN prevI
  rw [List.length_map]
  by_cases e : i = 0
  · subst e
    rw [if_neg (by omega), if_pos (by omega), if_pos rfl]
    have e2 : ((((0 : Nat) : Int) - 1) + (rs.length : Int)).toNat = rs.length - 1 := by omega
    show (rs.map D.int)[_]? = _
    rw [e2, List.getElem?_map, List.getElem?_eq_getElem (show rs.length - 1 < rs.length by omega), List.getD_eq_getElem?_getD, List.getElem?_eq_getElem (show rs.length - 1 < rs.length by omega)]
    rfl
  · rw [if_pos (by omega), if_pos (by omega), if_neg e]
    have e2 : ((i : Int) - 1).toNat = i - 1 := by omega
    show (rs.map D.int)[_]? = _
    rw [e2, List.getElem?_map, List.getElem?_eq_getElem (show i - 1 < rs.length by omega), List.getD_eq_getElem?_getD, List.getElem?_eq_getElem (show i - 1 < rs.length by omega)]
    rfl
theorem at_ints {ds : List Int} {i : Nat} (h : i < ds.length) : L2.atI (ds.map D.int) (i : Int) = some (.int (ds.getD i 0)) := by
  refine L2.atI_nat ?_
  rw [List.getElem?_map, List.getElem?_eq_getElem h, List.getD_eq_getElem?_getD, List.getElem?_eq_getElem h]
  rfl
theorem mem_getD {rs : List Int} {i : Nat} (h : i < rs.length) : rs.getD i 0 ∈ rs := by
  rw [List.getD_eq_getElem?_getD, List.getElem?_eq_getElem h]
  exact List.getElem_mem h
theorem prev_mem {rs : List Int} {i : Nat} (h : i < rs.length) : prevI rs i ∈ rs := by
  unfold prevI
  split
  · exact mem_getD (by omega)
  · exact mem_getD (by omega)
theorem sum_ints (ns : List Int) (st : Store) : bltD .sum [.lst (ns.map D.int)] st = .ok (.int ns.sum) st := by
  have e := allOf_map intOf D.int (fun i : Int => i) (fun i => rfl) ns
  simp only [bltD, lstOf, e, List.map_id']
theorem sum_le {ns : List Int} {c : Int} (h : ∀ i ∈ ns, -c ≤ i ∧ i ≤ c) : -(c * ns.length) ≤ ns.sum ∧ ns.sum ≤ c * ns.length := by
  induction ns with
  | nil => simp
  | cons i ns ih =>
    have := h i List.mem_cons_self
    have := ih fun j hj => h j (List.mem_cons_of_mem _ hj)
    rw [List.sum_cons, List.length_cons]
    push_cast
    constructor <;> (rw [Int.mul_add]; omega)
def encR (r : Int × List (Int × Int)) : D := .tup [.int r.1, encT r.2]
/-- a rule -/
def Rl (size : Int) (r : Int × List (Int × Int)) : Prop := (0 ≤ r.1 ∧ r.1 < size) ∧ Tm size r.2
theorem blw_encT (n : Nat) (ts : List (Int × Int)) : blw n (encT ts) = true := by
  unfold encT
  simp only [blw]
  induction ts with
  | nil => rfl
  | cons p ts ih => simp only [List.map_cons, blws, encP, blw, Bool.and_true, Bool.true_and]; exact ih
theorem blw_encR1 (n : Nat) (r : Int × List (Int × Int)) : blw n (encR r) = true := by
  unfold encR
  simp only [blw, blws, blw_encT, Bool.and_true]
theorem blws_encR (n : Nat) (l : List (Int × List (Int × Int))) : blws n (l.map encR) = true := by
  induction l with
  | nil => rfl
  | cons v l ih =>
    simp only [List.map_cons, blws, blw_encR1, Bool.true_and]
    exact ih
theorem blw_encR (n : Nat) (l : List (Int × List (Int × Int))) : blw n (.lst (l.map encR)) = true := by
  simp only [blw, blws_encR]
section
variable {T : Tab} {wf : Nat}
theorem ring_ok (L : Lb T) {k : Nat} {b size total : Int} {st : Store} (hs : Sv k b st) (hb : b + 2000 ≤ 2 ^ 60) (hs0 : 0 < size) (hs1 : size ≤ 8) (ht0 : -10 ≤ total) (ht1 : total ≤ 10) (n : Nat) :
    ∃ (rs : List (Int × List (Int × Int))) (st' : Store), fnAt T csg wf (n + 2) 16 [.loc k, .int size, .int total] st = .ok (.lst (rs.map encR)) st' ∧ Up k st st' ∧ Sv k (b + 2 * size + 1) st' ∧ (∀ r ∈ rs, Rl size r ∧ r.2.length = 1) ∧ rs.length ≤ size.toNat := by
  rw [fnAt_of L.ring]
  have hR : inR size ∧ size.toNat ≤ 1000 := by unfold inR; omega
  have hz2 : 2 ≤ sizeLine := two_le
  have k0 : k < st.length := hs.lt
  obtain ⟨m0, o1, f1, S1, a0, a1⟩ := draw_ok (wf := wf) L.draw (many := size) (hs.app [.lst (rngL 0 size.toNat), .lst []]) (by omega) hs0 (by omega) n
  rw [set_app k0] at f1 S1
  have hU1 : Up k st (st.set k o1) := (Up.refl hs).set o1
  have hR1 : inR (1 + m0) := by unfold inR; omega
  have hS1 : Sv k (b + 1) (st.set k o1) := S1.cut (by rw [List.length_set]; exact k0)
  obtain ⟨env2, st2, e2, ls, rs, st0, v3, rfl, rfl, hU, hS, hln, hl, hr⟩ := forGo_by (t := gdName 3) (g := none) (body := fSeq (fDrop (fMth .append (fVar 6) (fCons (fMth .pop (fVar 5) (fCons (fArgs (fnAt T csg wf (n + 1) 13) (fCons (fVar 0) (fCons (fArgs (bltD .len) (fCons (fVar 5) fNil)) fNil))) fNil)) fNil))) fSkip)
    (I := fun i env st' => ∃ (ls rs : List Int) (st0 : Store) (v3 : Option D), env = [some (.loc k), some (.int size), some (.int total), v3, none, some (.loc st.length), some (.loc (st.length + 1)), none, none] ∧ st' = st0 ++ [.lst (ls.map D.int), .lst (rs.map D.int)] ∧ Up k st st0 ∧ Sv k (b + 1 + i) st0 ∧ (ls.length + i = size.toNat ∧ rs.length = i) ∧ (∀ v ∈ ls, 0 ≤ v ∧ v < size) ∧ ∀ v ∈ rs, 0 ≤ v ∧ v < size)
    (rngL 0 (1 + m0).toNat) 0 [some (.loc k), some (.int size), some (.int total), none, none, some (.loc st.length), some (.loc (st.length + 1)), none, none] (st.set k o1 ++ [.lst (rngL 0 size.toNat), .lst []]) (fun _ _ _ _ => trivial)
    (fun i d env st' e ⟨ls, rs, st0, v3, he, hst, hU, hS, hln, hl, hr⟩ => by
      subst he hst
      have hi : i < (1 + m0).toNat := by
        have := (List.getElem?_eq_some_iff.mp e).1
        unfold rngL at this
        simpa using this
      rw [Nat.zero_add] at hS hln ⊢
      have hlen := hU.len
      have hll : 0 < ls.length := by omega
      obtain ⟨v, o2, f2, S2, c0, c1⟩ := draw_ok (wf := wf) L.draw (many := (ls.length : Int)) (hS.app [.lst (ls.map D.int), .lst (rs.map D.int)]) (by omega) (by omega) (by omega) n
      rw [set_app hS.lt] at f2 S2
      have hlen2 : (st0.set k o2).length = st.length := by rw [List.length_set, hlen]
      have hv : v.toNat < ls.length := by omega
      have g5 : (st0 ++ [O.lst (ls.map D.int), .lst (rs.map D.int)])[st.length]? = some (.lst (ls.map D.int)) := get_new0 hlen
      have g6 : (st0 ++ [O.lst (ls.map D.int), .lst (rs.map D.int)])[st.length + 1]? = some (.lst (rs.map D.int)) := get_new 1 hlen
      have g5' : (st0.set k o2 ++ [O.lst (ls.map D.int), .lst (rs.map D.int)])[st.length]? = some (.lst (ls.map D.int)) := get_new0 hlen2
      have hy : (ls.map D.int)[v.toNat]? = some (.int ls[v.toNat]) := by rw [List.getElem?_map, List.getElem?_eq_getElem hv]; rfl
      have hpop := pop_loc (i := v) g5' c0 (by rw [List.length_map]; exact c1) (by rw [List.length_map]; omega) hy
      rw [set_new0 _ hlen2] at hpop
      have g6' : (st0.set k o2 ++ [O.lst ((ls.map D.int).eraseIdx v.toNat), .lst (rs.map D.int)])[st.length + 1]? = some (.lst (rs.map D.int)) := get_new 1 hlen2
      have happ := app_loc g6' (by rw [List.length_map]; exact Nat.lt_of_le_of_lt (show rs.length ≤ 8 by omega) (by decide)) (.int ls[v.toNat])
      rw [set_new 1 _ hlen2] at happ
      have hlenb := len_loc g5
      rw [List.length_map] at hlenb
      have em : (ls.map D.int).eraseIdx v.toNat = (ls.eraseIdx v.toNat).map D.int := by
        rw [List.eraseIdx_eq_take_drop_succ, List.eraseIdx_eq_take_drop_succ, List.map_append, List.map_take, List.map_drop]
      have em2 : rs.map D.int ++ [.int ls[v.toNat]] = (rs ++ [ls[v.toNat]]).map D.int := by rw [List.map_append]; rfl
      refine ⟨_, _, _, rfl, ?_, ls.eraseIdx v.toNat, rs ++ [ls[v.toNat]], st0.set k o2, some d, rfl, rfl, hU.set o2, (S2.cut (by rw [List.length_set]; exact hS.lt)).mono (by push_cast; omega), ⟨?_, ?_⟩, fun x hx => hl x (List.mem_of_mem_eraseIdx hx), fun x hx => ?_⟩
      · simp only [List.set_cons_zero, List.set_cons_succ] at hpop happ
        simp [lst_loc g5, lst_loc g6, hlenb, f2, hpop, happ]
        exact em
      · rw [List.length_eraseIdx, if_pos hv]
        omega
      · rw [List.length_append, List.length_singleton, hln.2]
      · rcases List.mem_append.mp hx with hx | hx
        · exact hr x hx
        · rw [List.mem_singleton] at hx
          subst hx
          exact hl _ (List.getElem_mem hv))
    ⟨(List.range size.toNat).map fun i : Nat => (i : Int), [], st.set k o1, none, rfl, by
      have : rngL 0 size.toNat = ((List.range size.toNat).map fun i : Nat => (i : Int)).map D.int := by
        unfold rngL
        rw [List.map_map]
        congr 1
        funext i
        simp
      rw [this]
      rfl, hU1, hS1.mono (by omega), ⟨by simp, rfl⟩, fun v hv => by
      obtain ⟨i, hi, rfl⟩ := List.mem_map.mp hv
      have := List.mem_range.mp hi
      omega, fun v hv => by cases hv⟩
  have hlm : (rngL 0 (1 + m0).toNat).length = (1 + m0).toNat := by unfold rngL; simp
  rw [Nat.zero_add, hlm] at hS hln
  have hlen := hU.len
  have hrl : rs.length ≤ 8 := by omega
  -- the delays
  obtain ⟨acc, stA, e3, ds, st1, rfl, rfl, hU2, hS2, hdl, hd⟩ := lcGo_by (t := gdName 3) (g := some (st.length + 1, rs.map D.int)) (c := fYes) (el := fBin (binD .Sub) (fArgs (fnAt T csg wf (n + 1) 13) (fCons (fVar 0) (fCons (fCon (.int 7)) fNil))) (fCon (.int 3)))
    (env := [some (.loc k), some (.int size), some (.int total), none, none, some (.loc st.length), some (.loc (st.length + 1)), none, none])
    (I := fun i acc st' => ∃ (ds : List Int) (st1 : Store), acc = ds.map D.int ∧ st' = st1 ++ [.lst (ls.map D.int), .lst (rs.map D.int)] ∧ Up k st st1 ∧ Sv k (b + 1 + (1 + m0).toNat + i) st1 ∧ ds.length = i ∧ ∀ d ∈ ds, -3 ≤ d ∧ d ≤ 3)
    (rs.map D.int) 0 [] (st0 ++ [.lst (ls.map D.int), .lst (rs.map D.int)]) (fun i acc st' ⟨ds, st1, _, e, hu, _⟩ => by
      subst e
      exact get_new 1 hu.len)
    (by rw [List.length_map]; exact Nat.le_trans (show ([] : List D).length + rs.length ≤ 8 by simpa using hrl) (by decide))
    (fun i d acc st' e ⟨ds, st1, ea, es, hu, hsv, hl2, hd⟩ => by
      subst ea es
      have hi : i < rs.length := by
        have := (List.getElem?_eq_some_iff.mp e).1
        simpa using this
      rw [Nat.zero_add] at hsv hl2 ⊢
      obtain ⟨v, o2, f2, S2, c0, c1⟩ := draw_ok (wf := wf) L.draw (many := 7) (hsv.app [.lst (ls.map D.int), .lst (rs.map D.int)]) (by omega) (by omega) (by omega) n
      rw [set_app hsv.lt] at f2 S2
      refine ⟨_, true, st1 ++ [.lst (ls.map D.int), .lst (rs.map D.int)], rfl, rfl, .inl ⟨rfl, .int (v - 3), st1.set k o2 ++ [.lst (ls.map D.int), .lst (rs.map D.int)], ?_, ds ++ [v - 3], st1.set k o2, by rw [List.map_append]; rfl, rfl, hu.set o2, (S2.cut (by rw [List.length_set]; exact hsv.lt)).mono (by push_cast; omega), by rw [List.length_append, hl2]; rfl, fun x hx => ?_⟩⟩
      · simp [f2]
      · rcases List.mem_append.mp hx with hx | hx
        · exact hd x hx
        · rw [List.mem_singleton] at hx
          omega)
    ⟨[], st0, rfl, rfl, hU, hS.mono (by omega), rfl, fun d hd => by cases hd⟩
  rw [Nat.zero_add, List.length_map] at hS2 hdl
  have hlen1 := hU2.len
  cases ds with
  | nil => simp at hdl; omega
  | cons d0 dr =>
  have hsb := sum_le (ns := dr) (c := 3) fun x hx => hd x (List.mem_cons_of_mem _ hx)
  rw [List.length_cons] at hdl
  have hdr : dr.length ≤ 7 := by omega
  -- the object of the delays
  have g5 : (st0 ++ [O.lst (ls.map D.int), .lst (rs.map D.int)])[st.length + 1]? = some (.lst (rs.map D.int)) := get_new 1 hlen
  have g7 : (st1 ++ [O.lst (ls.map D.int), .lst (rs.map D.int), .lst (.int d0 :: dr.map D.int)])[st.length + 2]? = some (.lst (.int d0 :: dr.map D.int)) := get_new 2 hlen1
  have hsum := sum_ints dr (st1 ++ [O.lst (ls.map D.int), .lst (rs.map D.int), .lst (.int d0 :: dr.map D.int)])
  have hset := set_loc _ g7 0 (.int (total - dr.sum))
  rw [List.length_cons, ix0] at hset
  have hset' : setD (.loc (st.length + 2)) (.int 0) (.int (total - dr.sum)) (st1 ++ [O.lst (ls.map D.int), .lst (rs.map D.int), .lst (.int d0 :: dr.map D.int)]) = some (st1 ++ [O.lst (ls.map D.int), .lst (rs.map D.int), .lst (.int (total - dr.sum) :: dr.map D.int)]) := by
    rw [hset]
    simp only [Option.map_some, List.set_cons_zero]
    rw [set_new 2 _ hlen1]
    rfl
  generalize hq : total - dr.sum = q at hset'
  have hds : ∀ i, i < rs.length → -60 ≤ (q :: dr).getD i 0 ∧ (q :: dr).getD i 0 ≤ 59 := fun i hi => by
    have hm := mem_getD (rs := q :: dr) (i := i) (by rw [List.length_cons]; omega)
    rcases List.mem_cons.mp hm with e | e
    · rw [e]; omega
    · have := hd _ (List.mem_cons_of_mem _ e); omega
  have g6 : (st1 ++ [O.lst (ls.map D.int), .lst (rs.map D.int), .lst (.int q :: dr.map D.int)])[st.length + 1]? = some (.lst (rs.map D.int)) := get_new 1 hlen1
  have g8 : (st1 ++ [O.lst (ls.map D.int), .lst (rs.map D.int), .lst (.int q :: dr.map D.int)])[st.length + 2]? = some (.lst (.int q :: dr.map D.int)) := get_new 2 hlen1
  have hlc := lcGo_map (t := gdTupN 2 (gdCons (gdName 7) (gdCons (gdName 8) gdNil))) (g := some (st.length + 1, rs.map D.int)) (c := fYes)
    (el := fTup (fCons (fVar 8) (fCons (fTup (fCons (fTup (fCons (fBin idxD (fVar 6) (fBin (binD .Sub) (fVar 7) (fCon (.int 1)))) (fCons (fBin idxD (fVar 4) (fVar 7)) fNil))) fNil)) fNil)))
    (env := [some (.loc k), some (.int size), some (.int total), v3, some (.loc (st.length + 2)), some (.loc st.length), some (.loc (st.length + 1)), none, none]) (st := st1 ++ [O.lst (ls.map D.int), .lst (rs.map D.int), .lst (.int q :: dr.map D.int)])
    (fun p : Nat × Int => D.tup [.int (p.1 : Int), .int p.2]) (fun p => encR (p.2, [(prevI rs p.1, (q :: dr).getD p.1 0)])) g6 ((List.range rs.length).map fun i : Nat => (i, rs.getD i 0)) (by rw [List.length_map, List.length_range]; exact Nat.le_trans hrl (by decide)) (fun p hp => by
      obtain ⟨i, hi, rfl⟩ := List.mem_map.mp hp
      have hi := List.mem_range.mp hi
      refine ⟨_, rfl, rfl, ?_⟩
      have hz1 : 1 ≤ sizeLine := by decide
      have x1 := at_ints (ds := q :: dr) (i := i) (by rw [List.length_cons]; omega)
      rw [List.map_cons] at x1
      simp [i_loc _ g6, i_loc _ g8, prev_at hi, x1, hz2, hz1, encR, encT, encP])
  rw [← enumL_ints, show ((((List.range rs.length).map fun i : Nat => (i, rs.getD i 0)).map fun p => encR (p.2, [(prevI rs p.1, (q :: dr).getD p.1 0)]))) = (((List.range rs.length).map fun i : Nat => (i, rs.getD i 0)).map fun p => (p.2, [(prevI rs p.1, (q :: dr).getD p.1 0)])).map encR by rw [List.map_map (f := fun p : Nat × Int => (p.2, [(prevI rs p.1, (q :: dr).getD p.1 0)]))]; rfl] at hlc
  have hRS : ∀ r ∈ (((List.range rs.length).map fun i : Nat => (i, rs.getD i 0)).map fun p => (p.2, [(prevI rs p.1, (q :: dr).getD p.1 0)])), Rl size r ∧ r.2.length = 1 := fun r hr' => by
    obtain ⟨p, hp, rfl⟩ := List.mem_map.mp hr'
    obtain ⟨i, hi, rfl⟩ := List.mem_map.mp hp
    have hi := List.mem_range.mp hi
    refine ⟨⟨hr _ (mem_getD hi), ?_⟩, rfl⟩
    refine ⟨List.pairwise_singleton .., fun z hz => ?_⟩
    rw [List.mem_singleton] at hz
    subst hz
    exact ⟨hr _ (prev_mem hi), hds i hi⟩
  have hRL : (((List.range rs.length).map fun i : Nat => (i, rs.getD i 0)).map fun p => (p.2, [(prevI rs p.1, (q :: dr).getD p.1 0)])).length ≤ size.toNat := by
    rw [List.length_map, List.length_map, List.length_range]
    omega
  generalize (((List.range rs.length).map fun i : Nat => (i, rs.getD i 0)).map fun p => (p.2, [(prevI rs p.1, (q :: dr).getD p.1 0)])) = RS at hlc hRS hRL
  have fin := gc_up (new := [O.lst (ls.map D.int), .lst (rs.map D.int), .lst (.int q :: dr.map D.int)]) hS2 hU2 false (d := .lst (RS.map encR)) (blw_encR _ RS)
  have h1000 : size ≤ 1000 := by omega
  refine ⟨RS, st1, ?_, hU2, hS2.mono (by omega), hRS, hRL⟩
  simp [s_u_law_ring, c_u_law_ring, runFn, startE, hR.1, h1000, hR1, hz2, f1, e2, src_loc g5, e3, hlen1, slc1_cons g7, hsum, hq, hset', src_loc g6, hlc, fin]
end
end L2.G4

set_option maxHeartbeats 4000000
/-! MF: rules widened, rule sets. -/
namespace L2.G4
open PySem PySem.Spec PyProof.Rows

theorem allOf_none {A : Type} {f : D → Option A} {d : D} {ds : List D} (h : f d = none) : allOf f (d :: ds) = none := by
  unfold allOf
  rw [h]
theorem allOf_pr (ts : List (Int × Int)) : allOf prOf (ts.map encP) = some ts := by
  have := allOf_map prOf encP (fun p : Int × Int => p) (fun p => rfl) ts
  rw [this, List.map_id']
theorem srt_pairs {ts : List (Int × Int)} (h : ts ≠ []) (st : Store) : bltD .sorted [.tup (ts.map encP)] st = .ok (.lst ((sortP ts).map encP)) st := by
  cases ts with
  | nil => exact absurd rfl h
  | cons p ts =>
    have e : srtD ((p :: ts).map encP) = some ((sortP (p :: ts)).map encP) := by
      unfold srtD
      rw [allOf_pr, List.map_cons, allOf_none rfl]
      rfl
    simp only [bltD, seqOf, tupOf, Option.or, e]
theorem sortP_perm (ts : List (Int × Int)) : (sortP ts).Perm ts := isort_perm leP ts
theorem sortP_lt {ts : List (Int × Int)} (h : (ts.map (·.1)).Nodup) : (sortP ts).Pairwise (fun x y => x.1 < y.1) := by
  have h1 : (sortP ts).Pairwise (fun a b => leP a b = true) := isort_sorted leP (fun a b c h1 h2 => by rw [leP_iff] at *; omega) (fun a b => by rw [leP_iff, leP_iff]; omega) ts
  have h2 : ((sortP ts).map (·.1)).Nodup := ((sortP_perm ts).map _).nodup_iff.mpr h
  rw [List.nodup_iff_pairwise_ne, List.pairwise_map] at h2
  refine (h1.and h2).imp fun {a b} q => ?_
  have := leP_iff.mp q.1
  have := q.2
  omega
theorem Tm.nodup {size : Int} {ts : List (Int × Int)} (h : Tm size ts) : (ts.map (·.1)).Nodup := by
  rw [List.nodup_iff_pairwise_ne, List.pairwise_map]
  exact h.1.imp fun {a b} q => by omega
theorem in_ints (x : Int) (ns : List Int) (st : Store) : inD (.int x) (.lst (ns.map D.int)) st = some (decide (x ∈ ns)) := by
  have hf : (ns.map D.int).all flatD = true := by
    rw [List.all_map]
    exact List.all_eq_true.mpr fun _ _ => rfl
  simp only [inD, dicOf, seqOf, tupOf, lstOf, Option.or, flatD, hf, and_self, if_true]
  congr 1
  rw [List.any_map, Bool.eq_iff_iff, List.any_eq_true]
  simp [eqFlat]
theorem ne_nil (d : D) (ds : List D) : ¬ (d :: ds = []) := List.cons_ne_nil _ _
section
variable {T : Tab} {wf : Nat}
theorem wide_ok (L : Lb T) {k : Nat} {b size v reach : Int} {ts : List (Int × Int)} {st : Store} (hs : Sv k b st) (hb : b + 4 ≤ 2 ^ 60) (hs0 : 0 < size) (hs1 : size ≤ 1000) (h0 : 3 ≤ reach) (h1 : reach ≤ 59) (hT : Tm size ts) (hl : ts.length ≤ 1000) (n : Nat) :
    ∃ (ts' : List (Int × Int)) (st' : Store), fnAt T csg wf (n + 3) 52 [.loc k, .int size, encR (v, ts), .int reach] st = .ok (encR (v, ts')) st' ∧ Up k st st' ∧ Sv k (b + 4) st' ∧ Tm size ts' ∧ ts'.length ≤ ts.length + 1 := by
  rw [fnAt_of L.wide]
  obtain ⟨other, o1, f1, S1, a0, a1⟩ := draw_ok (wf := wf) L.draw (many := size) hs (by omega) hs0 (by omega) (n + 1)
  obtain ⟨w, o2, f2, S2, c0, c1⟩ := draw_ok (wf := wf) L.draw (many := 3) S1 (by omega) (by omega) (by omega) (n + 1)
  obtain ⟨d, o3, f3, S3, d0, d1⟩ := delay_ok (wf := wf) L (reach := reach) S2 (by omega) h0 h1 n
  rw [List.set_set] at f2 S2 f3 S3
  rw [List.set_set] at f3 S3
  have hz2 : 2 ≤ sizeLine := two_le
  have hz1 : 1 ≤ sizeLine := by decide
  have hzl : ts.length ≤ sizeLine := Nat.le_trans hl (by decide)
  have hzl1 : ts.length + 1 ≤ sizeLine := Nat.le_trans (Nat.succ_le_succ hl) (by decide)
  have hU : Up k st st := .refl hs
  have hlc := lcGo_map (t := gdTupN 2 (gdCons (gdName 7) (gdCons (gdName 8) gdNil))) (g := none) (c := fYes) (el := fVar 7)
    (env := [some (.loc k), some (.int size), some (.tup [.int v, .tup (ts.map encP)]), some (.int reach), some (.int other), some (.int v), some (.tup (ts.map encP)), none, none]) (st := st.set k o1)
    encP (fun p : Int × Int => D.int p.1) trivial ts hzl (fun p hp => ⟨_, rfl, rfl, by simp [encP]⟩)
  rw [show (ts.map fun p : Int × Int => D.int p.1) = (ts.map (·.1)).map D.int by rw [List.map_map]; rfl] at hlc
  have hin := in_ints other (ts.map (·.1)) (st.set k o1)
  generalize hns : ts.map (·.1) = ns at hlc hin
  by_cases q1 : other ∈ ns
  · have q1' : decide (other ∈ ns) = true := decide_eq_true q1
    refine ⟨ts, st.set k o1, ?_, hU.set o1, S1.mono (by omega), hT, Nat.le_succ _⟩
    simp [s_u_law_widened_v1, c_u_law_widened_v1, runFn, startE, encR, encT, f1, hlc, hin, q1]
  · have q1' : decide (other ∈ ns) = false := decide_eq_false q1
    by_cases q2 : 0 < w
    · refine ⟨ts, st.set k o2, ?_, hU.set o2, S2.mono (by omega), hT, Nat.le_succ _⟩
      simp [s_u_law_widened_v1, c_u_law_widened_v1, runFn, startE, encR, encT, f1, hlc, hin, q1, f2, q2]
    · have hsr := srt_pairs (ts := ts ++ [(other, d)]) (by simp) (st.set k o3)
      rw [List.map_append] at hsr
      have hnd : ((ts ++ [(other, d)]).map (·.1)).Nodup := by
        rw [List.map_append, List.nodup_append]
        refine ⟨hT.nodup, by simp, fun a ha b' hb' e => ?_⟩
        simp only [List.map_cons, List.map_nil, List.mem_singleton] at hb'
        subst hb'
        subst e
        exact q1 (by rw [← hns]; exact ha)
      have hlt := sortP_lt hnd
      have hmem : ∀ p ∈ sortP (ts ++ [(other, d)]), (0 ≤ p.1 ∧ p.1 < size) ∧ -60 ≤ p.2 ∧ p.2 ≤ 59 := fun p hp => by
        rcases List.mem_append.mp ((sortP_perm _).mem_iff.mp hp) with hp | hp
        · exact hT.2 p hp
        · rw [List.mem_singleton] at hp
          subst hp
          exact ⟨⟨a0, a1⟩, d0, d1⟩
      have hlen : (sortP (ts ++ [(other, d)])).length ≤ ts.length + 1 := by rw [(sortP_perm _).length_eq, List.length_append]; exact Nat.le_refl _
      generalize sortP (ts ++ [(other, d)]) = RS at hsr hlt hmem hlen
      refine ⟨RS, st.set k o3, ?_, hU.set o3, S3.mono (by omega), ⟨hlt, hmem⟩, hlen⟩
      simp only [List.map_cons, List.map_nil, encP] at hsr
      simp [s_u_law_widened_v1, c_u_law_widened_v1, runFn, startE, encR, encT, f1, hlc, hin, q1, f2, q2, f3, hz2, hz1, hzl1, hsr]
end
end L2.G4

set_option maxHeartbeats 4000000
/-! MG: plain data that may be shown and compared. -/
namespace L2.G4
open PySem PySem.Spec PyProof.Rows

mutual
/-- data without texts; its ints not too great -/
def okz : D → Bool
  | .non => true
  | .bl _ => true
  | .int i => decide (i.natAbs.log2 < 1920)
  | .tup ds => okzs ds
  | .lst ds => okzs ds
  | .fls ds => okzs ds
  | _ => false
def okzs : List D → Bool
  | [] => true
  | d :: ds => okz d && okzs ds
end
mutual
def dpz : D → Nat
  | .tup ds => dpzs ds + 1
  | .lst ds => dpzs ds + 1
  | .fls ds => dpzs ds + 1
  | _ => 0
def dpzs : List D → Nat
  | [] => 0
  | d :: ds => max (dpz d) (dpzs ds)
end
mutual
def bkz : D → Nat
  | .tup ds => bkzs ds
  | .lst ds => bkzs ds
  | .fls ds => bkzs ds
  | _ => 0
def bkzs : List D → Nat
  | [] => 0
  | d :: ds => bkz d + 1 + bkzs ds
end
/-- what its data is -/
structure PyOk (p : PyData) (dp bk : Nat) : Prop where
  sh : p.showable = true
  hd : p.hasDict = false
  lay : p.canLay0 = true
  lf : p.leavesShort 1921 = true
  dp : p.depth = dp
  bk : p.bulk = bk
structure PysOk (p : List PyData) (dp bk : Nat) : Prop where
  sh : PyData.showableAll p = true
  hd : PyData.hasDictAll p = false
  lay : PyData.canLayAll0 p = true
  lf : PyData.leavesShortAll 1921 p = true
  dp : PyData.depthAll p = dp
  bk : PyData.bulkAll p = bk
mutual
theorem py_ok : ∀ d : D, okz d = true → ∃ p, py d = some p ∧ PyOk p (dpz d) (bkz d)
  | .non, _ => ⟨.none, by simp [py], by simp [PyData.showable], by simp [PyData.hasDict], by simp [PyData.canLay0], by simp [PyData.leavesShort], by simp [PyData.depth, dpz], by simp [PyData.bulk, bkz]⟩
  | .bl b, _ => ⟨.bool b, by simp [py], by simp [PyData.showable], by simp [PyData.hasDict], by simp [PyData.canLay0], by simp [PyData.leavesShort], by simp [PyData.depth, dpz], by simp [PyData.bulk, bkz]⟩
  | .int i, h => ⟨.int i, by simp [py], by simpa [PyData.showable, okz] using h, by simp [PyData.hasDict], by simp [PyData.canLay0], by
      simp only [PyData.leavesShort, decide_eq_true_eq]
      exact int_text_len_1921 (by simpa [okz] using h), by simp [PyData.depth, dpz], by simp [PyData.bulk, bkz]⟩
  | .tup ds, h => by
    obtain ⟨ps, e, q⟩ := pys_ok ds (by simpa only [okz] using h)
    exact ⟨.tuple ps, by simp only [py, e, Option.map_some], by simpa only [PyData.showable] using q.sh, by simpa only [PyData.hasDict] using q.hd, by simpa only [PyData.canLay0] using q.lay, by simpa only [PyData.leavesShort] using q.lf, by simp only [PyData.depth, dpz, q.dp], by simp only [PyData.bulk, bkz, q.bk]⟩
  | .lst ds, h => by
    obtain ⟨ps, e, q⟩ := pys_ok ds (by simpa only [okz] using h)
    exact ⟨.list ps, by simp only [py, e, Option.map_some], by simpa only [PyData.showable] using q.sh, by simpa only [PyData.hasDict] using q.hd, by simpa only [PyData.canLay0] using q.lay, by simpa only [PyData.leavesShort] using q.lf, by simp only [PyData.depth, dpz, q.dp], by simp only [PyData.bulk, bkz, q.bk]⟩
  | .fls ds, h => by
    obtain ⟨ps, e, q⟩ := pys_ok ds (by simpa only [okz] using h)
    exact ⟨.list ps, by simp only [py, e, Option.map_some], by simpa only [PyData.showable] using q.sh, by simpa only [PyData.hasDict] using q.hd, by simpa only [PyData.canLay0] using q.lay, by simpa only [PyData.leavesShort] using q.lf, by simp only [PyData.depth, dpz, q.dp], by simp only [PyData.bulk, bkz, q.bk]⟩
  | .str _, h => by simp [okz] at h
  | .byt _, h => by simp [okz] at h
  | .loc _, h => by simp [okz] at h
  | .dct _ _, h => by simp [okz] at h
  | .exn _ _ _ _, h => by simp [okz] at h
  | .fnv _ _ _ _ _ _, h => by simp [okz] at h
theorem pys_ok : ∀ ds : List D, okzs ds = true → ∃ ps, pys ds = some ps ∧ PysOk ps (dpzs ds) (bkzs ds)
  | [], _ => ⟨[], by simp [pys], by simp [PyData.showableAll], by simp [PyData.hasDictAll], by simp [PyData.canLayAll0], by simp [PyData.leavesShortAll], by simp [PyData.depthAll, dpzs], by simp [PyData.bulkAll, bkzs]⟩
  | d :: ds, h => by
    simp only [okzs, Bool.and_eq_true] at h
    obtain ⟨p, e1, q1⟩ := py_ok d h.1
    obtain ⟨ps, e2, q2⟩ := pys_ok ds h.2
    exact ⟨p :: ps, by simp only [pys, e1, e2], by simp only [PyData.showableAll, q1.sh, q2.sh, Bool.and_self], by simp only [PyData.hasDictAll, q1.hd, q2.hd, Bool.or_self], by simp only [PyData.canLayAll0, q1.lay, q2.lay, Bool.and_self],
      by simp only [PyData.leavesShortAll, q1.lf, q2.lf, Bool.and_self], by simp only [PyData.depthAll, dpzs, q1.dp, q2.dp], by simp only [PyData.bulkAll, bkzs, q1.bk, q2.bk]⟩
end
def fitz (d : D) : Prop := okz d = true ∧ dpz d ≤ 60 ∧ bkz d ≤ 8000
theorem pyT_of {d : D} (h : okz d = true) (st : Store) : pyT st d = py d := by
  cases d <;> first | rfl | (simp [pyT, lstOf, py]; done) | (simp [okz] at h)
/-- repr -/
theorem repr_fit {d : D} (h : fitz d) : ∃ x : Str, ∀ st, bltD .repr [d] st = .ok (.str x) st := by
  obtain ⟨p, e, q⟩ := py_ok d h.1
  have hl : p.shown.length ≤ sizeLine := by
    have := PyData.shown_le_bulk 1921 (by omega) p q.lf
    have h3 := h.2.2
    rw [← q.bk] at h3
    rw [sizeLine_eq]
    omega
  refine ⟨p.shown, fun st => ?_⟩
  have er : reprD d st = some p.shown := by
    unfold reprD
    rw [pyT_of h.1, e]
    simp only
    rw [if_pos ⟨q.sh, q.hd, by rw [q.dp]; exact h.2.1, hl⟩]
  simp only [bltD, er]
theorem shaped_of {d : D} {p : PyData} (e : py d = some p) (h : okz d = true) (hd : dpz d ≤ 64) : SeqAt.shaped p = true := by
  obtain ⟨p', e', q⟩ := py_ok d h
  rw [e] at e'
  cases e'
  unfold SeqAt.shaped
  rw [q.lay, q.dp, decide_eq_true hd]
  rfl
/-- a list against the empty one -/
theorem ne_empty {st : Store} {k : Nat} {ds : List D} (h : st[k]? = some (.lst ds)) (hz : okzs ds = true) (hd : dpzs ds ≤ 60) : cmpD .NotEq (.loc k) (.lst []) st = .ok (.bl (!ds.isEmpty)) st := by
  obtain ⟨ps, e, q⟩ := pys_ok ds hz
  have p1 : pyT st (.loc k) = some (.list ps) := by simp only [pyT, lstOf, h, e, Option.map_some]
  have p2 : pyT st (.lst []) = some (.list []) := by simp only [pyT, lstOf, pys, Option.map_some]
  have s1 : SeqAt.shaped (.list ps) = true := by
    unfold SeqAt.shaped
    simp only [PyData.canLay0, PyData.depth, q.lay, q.dp, Bool.true_and, decide_eq_true_eq]
    omega
  have s2 : SeqAt.shaped (.list []) = true := by decide +kernel
  have ev : eqD (.loc k) (.lst []) st = some (PyData.eqv (.list ps) (.list [])) := by
    show (match pyT st (.loc k), pyT st (.lst []) with
      | some a, some b => if SeqAt.shaped a = true ∧ SeqAt.shaped b = true then some (PyData.eqv a b) else none
      | _, _ => none) = _
    rw [p1, p2]
    exact if_pos ⟨s1, s2⟩
  show (match (eqD (.loc k) (.lst []) st).map (!·) with
    | some b => Rz.ok (D.bl b) st
    | none => .bad) = _
  rw [ev]
  cases ds with
  | nil =>
    simp only [pys, Option.some.injEq] at e
    subst e
    simp [PyData.eqv, PyData.eqvAll]
  | cons d ds =>
    cases ps with
    | nil =>
      simp only [pys] at e
      split at e <;> cases e
    | cons p ps => simp [PyData.eqv, PyData.eqvAll]
theorem eq_nilT {ds : List D} (st : Store) (hz : okzs ds = true) (hd : dpzs ds ≤ 60) : cmpD .Eq (.tup ds) (.tup []) st = .ok (.bl ds.isEmpty) st := by
  obtain ⟨ps, e, q⟩ := pys_ok ds hz
  have p1 : pyT st (.tup ds) = some (.tuple ps) := by simp only [pyT, lstOf, py, e, Option.map_some]
  have p2 : pyT st (.tup []) = some (.tuple []) := by simp only [pyT, lstOf, py, pys, Option.map_some]
  have s1 : SeqAt.shaped (.tuple ps) = true := by
    unfold SeqAt.shaped
    simp only [PyData.canLay0, PyData.depth, q.lay, q.dp, Bool.true_and, decide_eq_true_eq]
    omega
  have s2 : SeqAt.shaped (.tuple []) = true := by decide +kernel
  have ev : eqD (.tup ds) (.tup []) st = some (PyData.eqv (.tuple ps) (.tuple [])) := by
    show (match pyT st (.tup ds), pyT st (.tup []) with
      | some a, some b => if SeqAt.shaped a = true ∧ SeqAt.shaped b = true then some (PyData.eqv a b) else none
      | _, _ => none) = _
    rw [p1, p2]
    exact if_pos ⟨s1, s2⟩
  show (match eqD (.tup ds) (.tup []) st with
    | some b => Rz.ok (D.bl b) st
    | none => .bad) = _
  rw [ev]
  cases ds with
  | nil =>
    simp only [pys, Option.some.injEq] at e
    subst e
    simp [PyData.eqv, PyData.eqvAll]
  | cons d ds =>
    cases ps with
    | nil =>
      simp only [pys] at e
      split at e <;> cases e
    | cons p ps => simp [PyData.eqv, PyData.eqvAll]
end L2.G4

set_option maxHeartbeats 4000000
/-! MH: the law's rule sets. -/
namespace L2.G4
open PySem PySem.Spec PyProof.Rows

theorem whGo_by {c : Fe Bool} {body : Fs} {I : Nat → Env → Store → Prop} (step : ∀ m env st, I (m + 1) env st → ∃ st1 e s, c env st = .ok true st1 ∧ body env st1 = .nx e s ∧ I m e s) (stop : ∀ env st, I 0 env st → ∃ st1, c env st = .ok false st1 ∧ I 0 env st1) :
    ∀ (m w : Nat) (env : Env) (st : Store), m < w → I m env st → ∃ e s, whGo c body w env st = .nx e s ∧ I 0 e s
  | _, 0, _, _, h, _ => absurd h (Nat.not_lt_zero _)
  | 0, w + 1, env, st, _, h => by
    obtain ⟨st1, h1, h2⟩ := stop env st h
    exact ⟨env, st1, by simp only [whGo, h1, Fl.ofRz_ok, Bool.false_eq_true, if_false], h2⟩
  | m + 1, w + 1, env, st, hw, h => by
    obtain ⟨st1, e, s, h1, h2, h3⟩ := step m env st h
    obtain ⟨e', s', h4, h5⟩ := whGo_by step stop m w e s (by omega) h3
    exact ⟨e', s', by simp only [whGo, h1, Fl.ofRz_ok, if_true, h2, Fl.turn_nx]; exact h4, h5⟩
theorem log_small {i : Int} (h0 : -1000 ≤ i) (h1 : i ≤ 1000) : i.natAbs.log2 < 1920 := by
  by_cases e : i.natAbs = 0
  · rw [e]; simp
  · exact (Nat.log2_lt e).mpr (Nat.lt_of_le_of_lt (show i.natAbs ≤ 2 ^ 10 by omega) (Nat.pow_lt_pow_right (by omega) (by omega)))
theorem okz_int {i : Int} (h0 : -1000 ≤ i) (h1 : i ≤ 1000) : okz (.int i) = true := by
  simp only [okz, decide_eq_true_eq]
  exact log_small h0 h1
theorem encT_ok {size : Int} (hs : size ≤ 1000) {ts : List (Int × Int)} (h : ∀ p ∈ ts, (0 ≤ p.1 ∧ p.1 < size) ∧ -60 ≤ p.2 ∧ p.2 ≤ 59) : okzs (ts.map encP) = true ∧ dpzs (ts.map encP) ≤ 1 ∧ bkzs (ts.map encP) = 3 * ts.length := by
  induction ts with
  | nil => exact ⟨rfl, Nat.zero_le _, rfl⟩
  | cons p ts ih =>
    obtain ⟨i1, i2, i3⟩ := ih fun q hq => h q (List.mem_cons_of_mem _ hq)
    have hp := h p List.mem_cons_self
    refine ⟨?_, ?_, ?_⟩
    · simp only [List.map_cons, okzs, encP, okz, i1, Bool.and_true, Bool.and_eq_true, decide_eq_true_eq]
      exact ⟨log_small (by omega) (by omega), log_small (by omega) (by omega)⟩
    · simp only [List.map_cons, dpzs, encP, dpz]
      omega
    · simp only [List.map_cons, bkzs, encP, bkz, i3, List.length_cons]
      omega
theorem encR_ok {size : Int} (hs : size ≤ 1000) {r : Int × List (Int × Int)} (h : Rl size r) : okz (encR r) = true ∧ dpz (encR r) ≤ 3 ∧ bkz (encR r) = 3 * r.2.length + 2 := by
  obtain ⟨i1, i2, i3⟩ := encT_ok hs h.2.2
  refine ⟨?_, ?_, ?_⟩
  · simp only [encR, encT, okz, okzs, i1, Bool.and_true, decide_eq_true_eq]
    exact log_small (by have := h.1.1; omega) (by have := h.1.2; omega)
  · simp only [encR, encT, dpz, dpzs]
    omega
  · simp only [encR, encT, bkz, bkzs, i3]
    omega
theorem encRs_ok {size : Int} (hs : size ≤ 1000) {c : Nat} {rs : List (Int × List (Int × Int))} (h : ∀ r ∈ rs, Rl size r ∧ r.2.length ≤ c) : okzs (rs.map encR) = true ∧ dpzs (rs.map encR) ≤ 3 ∧ bkzs (rs.map encR) ≤ (3 * c + 3) * rs.length := by
  induction rs with
  | nil => exact ⟨rfl, Nat.zero_le _, Nat.zero_le _⟩
  | cons r rs ih =>
    obtain ⟨i1, i2, i3⟩ := ih fun q hq => h q (List.mem_cons_of_mem _ hq)
    have hr := h r List.mem_cons_self
    obtain ⟨j1, j2, j3⟩ := encR_ok hs hr.1
    refine ⟨by simp only [List.map_cons, okzs, i1, j1, Bool.and_self], ?_, ?_⟩
    · simp only [List.map_cons, dpzs]
      omega
    · simp only [List.map_cons, bkzs, j3, List.length_cons, Nat.mul_add, Nat.mul_one]
      have := hr.2
      omega
theorem ext_loc {st : Store} {k : Nat} {ds es : List D} (h : st[k]? = some (.lst ds)) (hz : ds.length + es.length ≤ sizeLine) : mthD .extend (.loc k) [.lst es] st = .ok .non (st.set k (.lst (ds ++ es))) := by
  simp only [mthD, h, lstOf]
  exact if_pos hz
theorem slc24_loc {st : Store} {k : Nat} {ds : List D} (h : st[k]? = some (.lst ds)) : slcD (.loc k) none (some 24) st = .ok (.lst (ds.take 24)) st := by
  have e : cutL ds none (some 24) = ds.take 24 := by
    unfold cutL
    rw [HT.sIx_none, show HT.sIx ds.length ds.length (some 24) = min 24 ds.length from HT.sIx_nat ds.length ds.length 24, List.drop_zero, Nat.sub_zero, ← List.take_take, List.take_length]
  simp only [slcD, tupOf, lstOf, h, e]
/-- a rule of a rule set that the law draws -/
def Rc (size : Int) (c : Nat) (r : Int × List (Int × Int)) : Prop := Rl size r ∧ r.2.length ≤ c
section
variable {T : Tab} {wf : Nat}
theorem rules_ok (L : Lb T) {k : Nat} {b size reach : Int} {st : Store} (hs : Sv k b st) (hb : b + 5000 ≤ 2 ^ 60) (hs0 : 0 < size) (hs1 : size ≤ 8) (h0 : 3 ≤ reach) (h1 : reach ≤ 59) (hw : 100 ≤ wf) (n : Nat) :
    ∃ (rs : List (Int × List (Int × Int))) (st' : Store), fnAt T csg wf (n + 4) 53 [.loc k, .int size, .int reach] st = .ok (.tup [.int size, .tup (rs.map encR)]) st' ∧ Up k st st' ∧ Sv k (b + 2000) st' ∧ (∀ r ∈ rs, Rc size 20 r) ∧ rs.length ≤ 24 := by
  rw [fnAt_of L.rules]
  have k0 : k < st.length := hs.lt
  have hz2 : 2 ≤ sizeLine := two_le
  have hz4 : 4 ≤ sizeLine := by decide
  have hz7 : 7 ≤ sizeLine := by decide
  -- how many rings
  obtain ⟨w1, o1, f1, S1, a0, a1⟩ := draw_ok (wf := wf) L.draw (many := 4) (hs.app [.lst []]) (by omega) (by omega) (by omega) (n + 2)
  rw [set_app k0] at f1 S1
  have hU1 : Up k st (st.set k o1) := (Up.refl hs).set o1
  have hS1 : Sv k (b + 1) (st.set k o1) := S1.cut (by rw [List.length_set]; exact k0)
  obtain ⟨m1, hm1, hm0, hm2⟩ : ∃ m : Int, L2.atI [D.int 0, D.int 1, D.int 1, D.int 2] w1 = some (.int m) ∧ 0 ≤ m ∧ m ≤ 2 := by
    rcases (show w1 = 0 ∨ w1 = 1 ∨ w1 = 2 ∨ w1 = 3 by omega) with rfl | rfl | rfl | rfl
    · exact ⟨0, rfl, by omega, by omega⟩
    · exact ⟨1, rfl, by omega, by omega⟩
    · exact ⟨1, rfl, by omega, by omega⟩
    · exact ⟨2, rfl, by omega, by omega⟩
  have hR1 : inR m1 := by unfold inR; omega
  obtain ⟨envA, stA, eA, fs, st0, v4, v6, v7, rfl, rfl, hU, hS, hfl, hf⟩ := forGo_by (t := gdName 4) (g := none) (body := fSeq (fAsg (fArgs (fnAt T csg wf (n + 3) 16) (fCons (fVar 0) (fCons (fVar 1) (fCons (fBin idxD (fLst (fCons (fNeg (fCon (.int 1))) (fCons (fNeg (fCon (.int 1))) (fCons (fCon (.int 0)) (fCons (fCon (.int 1)) fNil))))) (fArgs (fnAt T csg wf (n + 3) 13) (fCons (fVar 0) (fCons (fCon (.int 4)) fNil)))) fNil)))) (gdName 6))
      (fSeq (fAsg (fArgs (fnAt T csg wf (n + 3) 13) (fCons (fVar 0) (fCons (fCon (.int 2)) fNil))) (gdName 7))
      (fSeq (fDrop (fMth .extend (fVar 3) (fCons (fLc false (fSrc (fVar 6)) (gdName 9) fYes (fIf (fTru (fBin (cmpD .Eq) (fVar 7) (fCon (.int 1)))) (fArgs (fnAt T csg wf (n + 3) 52) (fCons (fVar 0) (fCons (fVar 1) (fCons (fVar 9) (fCons (fVar 2) fNil))))) (fVar 9)) [9]) fNil))) fSkip)))
    (I := fun i env st' => ∃ (fs : List (Int × List (Int × Int))) (st0 : Store) (v4 v6 v7 : Option D), env = [some (.loc k), some (.int size), some (.int reach), some (.loc st.length), v4, none, v6, v7, none, none] ∧ st' = st0 ++ [.lst (fs.map encR)] ∧ Up k st st0 ∧ Sv k (b + 1 + 60 * i) st0 ∧ fs.length ≤ 8 * i ∧ ∀ r ∈ fs, Rc size 20 r)
    (rngL 0 m1.toNat) 0 [some (.loc k), some (.int size), some (.int reach), some (.loc st.length), none, none, none, none, none, none] (st.set k o1 ++ [.lst []]) (fun _ _ _ _ => trivial)
    (fun i d env st' e ⟨fs, st0, v4, v6, v7, he, hst, hU, hS, hfl, hf⟩ => by
      subst he hst
      have hi : i < m1.toNat := by
        have := (List.getElem?_eq_some_iff.mp e).1
        unfold rngL at this
        simpa using this
      rw [Nat.zero_add] at hS hfl ⊢
      have hlen := hU.len
      obtain ⟨w2, o2, f2, S2, b0, b1⟩ := draw_ok (wf := wf) L.draw (many := 4) (hS.app [.lst (fs.map encR)]) (by omega) (by omega) (by omega) (n + 2)
      rw [set_app hS.lt] at f2 S2
      obtain ⟨t2, ht2, ht0, ht1⟩ : ∃ m : Int, L2.atI [D.int (-1), D.int (-1), D.int 0, D.int 1] w2 = some (.int m) ∧ -10 ≤ m ∧ m ≤ 10 := by
        rcases (show w2 = 0 ∨ w2 = 1 ∨ w2 = 2 ∨ w2 = 3 by omega) with rfl | rfl | rfl | rfl
        · exact ⟨-1, rfl, by omega, by omega⟩
        · exact ⟨-1, rfl, by omega, by omega⟩
        · exact ⟨0, rfl, by omega, by omega⟩
        · exact ⟨1, rfl, by omega, by omega⟩
      obtain ⟨qs, st3, f3, U3, S3, hq, hql⟩ := ring_ok (wf := wf) L (size := size) (total := t2) S2 (by omega) hs0 (by omega) ht0 ht1 (n + 1)
      obtain ⟨o3, rfl⟩ := U3
      rw [set_app (by rw [List.length_set]; exact hS.lt), List.set_set] at f3 S3
      obtain ⟨w3, o4, f4, S4, c0, c1⟩ := draw_ok (wf := wf) L.draw (many := 2) S3 (by omega) (by omega) (by omega) (n + 2)
      rw [set_app (by rw [List.length_set]; exact hS.lt), List.set_set] at f4 S4
      have hS4 : Sv k (b + 1 + 60 * i + 1 + 2 * size + 1 + 1) (st0.set k o4) := S4.cut (by rw [List.length_set]; exact hS.lt)
      have hU4 : Up k st (st0.set k o4) := hU.set o4
      have hql' : qs.length ≤ 8 := by omega
      -- the ring's rules, some of them widened
      obtain ⟨acc, stB, e5, ws, st5, rfl, rfl, U5, S5, hwl, hwv⟩ := lcGo_by (t := gdName 9) (g := none) (c := fYes) (el := fIf (fTru (fBin (cmpD .Eq) (fVar 7) (fCon (.int 1)))) (fArgs (fnAt T csg wf (n + 3) 52) (fCons (fVar 0) (fCons (fVar 1) (fCons (fVar 9) (fCons (fVar 2) fNil))))) (fVar 9))
        (env := [some (.loc k), some (.int size), some (.int reach), some (.loc st.length), some d, none, some (.lst (qs.map encR)), some (.int w3), none, none])
        (I := fun i' acc st' => ∃ (ws : List (Int × List (Int × Int))) (st5 : Store), acc = ws.map encR ∧ st' = st5 ++ [.lst (fs.map encR)] ∧ Up k st st5 ∧ Sv k (b + 1 + 60 * i + 1 + 2 * size + 1 + 1 + 4 * i') st5 ∧ ws.length = i' ∧ ∀ r ∈ ws, Rc size 20 r)
        (qs.map encR) 0 [] (st0.set k o4 ++ [.lst (fs.map encR)]) (fun _ _ _ _ => trivial)
        (by rw [List.length_map]; exact Nat.le_trans (show ([] : List D).length + qs.length ≤ 8 by simpa using hql') (by decide))
        (fun i' d' acc st' e' ⟨ws, st5, ea, es, u5, s5, l5, v5⟩ => by
          subst ea es
          have hi' : i' < qs.length := by
            have := (List.getElem?_eq_some_iff.mp e').1
            simpa using this
          rw [List.getElem?_map, List.getElem?_eq_getElem hi'] at e'
          cases e'
          rw [Nat.zero_add] at s5 l5 ⊢
          have hqi := hq _ (List.getElem_mem hi')
          generalize qs[i'] = qr at hqi
          obtain ⟨⟨⟨qv0, qv1⟩, qt⟩, ql⟩ := hqi
          by_cases q : w3 = 1
          · obtain ⟨ts', st6, f6, U6, S6, hT6, hl6⟩ := wide_ok (wf := wf) L (size := size) (v := qr.1) (reach := reach) (ts := qr.2) (s5.app [.lst (fs.map encR)]) (by omega) hs0 (by omega) h0 h1 qt (by omega) n
            obtain ⟨o6, rfl⟩ := U6
            rw [set_app s5.lt] at f6 S6
            refine ⟨_, true, _, rfl, rfl, .inl ⟨rfl, encR (qr.1, ts'), _, ?_, ws ++ [(qr.1, ts')], st5.set k o6, by rw [List.map_append]; rfl, rfl, u5.set o6, (S6.cut (by rw [List.length_set]; exact s5.lt)).mono (by push_cast; omega), by rw [List.length_append, l5]; rfl, fun r hr => ?_⟩⟩
            · simp [q, f6]
            · rcases List.mem_append.mp hr with hr | hr
              · exact v5 r hr
              · rw [List.mem_singleton] at hr
                subst hr
                exact ⟨⟨⟨qv0, qv1⟩, hT6⟩, by show ts'.length ≤ 20; omega⟩
          · refine ⟨_, true, _, rfl, rfl, .inl ⟨rfl, encR qr, _, ?_, ws ++ [qr], st5, by rw [List.map_append]; rfl, rfl, u5, s5.mono (by push_cast; omega), by rw [List.length_append, l5]; rfl, fun r hr => ?_⟩⟩
            · simp [q]
            · rcases List.mem_append.mp hr with hr | hr
              · exact v5 r hr
              · rw [List.mem_singleton] at hr
                subst hr
                exact ⟨⟨⟨qv0, qv1⟩, qt⟩, by omega⟩)
        ⟨[], st0.set k o4, rfl, rfl, hU4, hS4.mono (by omega), rfl, fun r hr => by cases hr⟩
      rw [Nat.zero_add, List.length_map] at S5 hwl
      have hlen5 := U5.len
      have g3 : (st5 ++ [O.lst (fs.map encR)])[st.length]? = some (.lst (fs.map encR)) := get_new0 hlen5
      have g3' : (st0.set k o4 ++ [O.lst (fs.map encR)])[st.length]? = some (.lst (fs.map encR)) := get_new0 (by rw [List.length_set, hlen])
      have hext := ext_loc (es := ws.map encR) g3 (by rw [List.length_map, List.length_map]; exact Nat.le_trans (show fs.length + ws.length ≤ 1000 by omega) (by decide))
      rw [set_new0 _ hlen5] at hext
      simp only [List.set_cons_zero] at hext
      refine ⟨_, _, _, rfl, ?_, fs ++ ws, st5, some d, some (.lst (qs.map encR)), some (.int w3), rfl, rfl, U5, S5.mono (by push_cast; omega), by rw [List.length_append]; omega, fun r hr => ?_⟩
      · simp [f2, hz4, ht2, f3, f4, lst_loc g3', e5, hext]
      · rcases List.mem_append.mp hr with hr | hr
        · exact hf r hr
        · exact hwv r hr)
    ⟨[], st.set k o1, none, none, none, rfl, rfl, hU1, hS1.mono (by omega), Nat.le_refl _, fun r hr => by cases hr⟩
  have hlm : (rngL 0 m1.toNat).length = m1.toNat := by unfold rngL; simp
  rw [Nat.zero_add, hlm] at hS hfl
  -- how many more
  obtain ⟨w5, o5, f5, S5, d0, d1⟩ := draw_ok (wf := wf) L.draw (many := 2 * size + 2) (hS.app [.lst (fs.map encR)]) (by omega) (by omega) (by omega) (n + 2)
  rw [set_app hS.lt] at f5 S5
  have hS5 : Sv k (b + 200) (st0.set k o5) := (S5.cut (by rw [List.length_set]; exact hS.lt)).mono (by omega)
  have mB : mulB 2 size := mulB_of (n := 40) (m := 40) (by omega) (by omega) (by omega) (by omega) (by omega)
  have hR5 : inR w5 := by unfold inR; omega
  obtain ⟨envC, stC, eC, gs, st1, v4, v8, rfl, rfl, hU6, hS6, hgl, hg⟩ := forGo_by (t := gdName 4) (g := none) (body := fSeq (fAsg (fBin idxD (fLst (fCons (fCon (.int 1)) (fCons (fCon (.int 1)) (fCons (fCon (.int 2)) (fCons (fCon (.int 2)) (fCons (fCon (.int 3)) (fCons (fVar 1) (fCons (fCon (.int 0)) fNil)))))))) (fArgs (fnAt T csg wf (n + 3) 13) (fCons (fVar 0) (fCons (fCon (.int 7)) fNil)))) (gdName 8))
      (fSeq (fIfS (fTru (fOrV (fBin (cmpD .Gt) (fVar 8) (fCon (.int 0))) (fBin (cmpD .Eq) (fArgs (fnAt T csg wf (n + 3) 13) (fCons (fVar 0) (fCons (fCon (.int 6)) fNil))) (fCon (.int 0)))))
        (fSeq (fDrop (fMth .append (fVar 3) (fCons (fTup (fCons (fArgs (fnAt T csg wf (n + 3) 13) (fCons (fVar 0) (fCons (fVar 1) fNil))) (fCons (fArgs (fnAt T csg wf (n + 3) 51) (fCons (fVar 0) (fCons (fVar 1) (fCons (fVar 8) (fCons (fVar 2) fNil))))) fNil))) fNil))) fSkip) fSkip) fSkip))
    (I := fun i env st' => ∃ (gs : List (Int × List (Int × Int))) (st0 : Store) (v4 v8 : Option D), env = [some (.loc k), some (.int size), some (.int reach), some (.loc st.length), v4, none, v6, v7, v8, none] ∧ st' = st0 ++ [.lst (gs.map encR)] ∧ Up k st st0 ∧ Sv k (b + 200 + 60 * i) st0 ∧ gs.length ≤ 16 + i ∧ ∀ r ∈ gs, Rc size 20 r)
    (rngL 0 w5.toNat) 0 [some (.loc k), some (.int size), some (.int reach), some (.loc st.length), v4, none, v6, v7, none, none] (st0.set k o5 ++ [.lst (fs.map encR)]) (fun _ _ _ _ => trivial)
    (fun i d env st' e ⟨gs, st1, v4, v8, he, hst, hU, hS, hfl, hf⟩ => by
      subst he hst
      have hi : i < w5.toNat := by
        have := (List.getElem?_eq_some_iff.mp e).1
        unfold rngL at this
        simpa using this
      rw [Nat.zero_add] at hS hfl ⊢
      have hlen := hU.len
      obtain ⟨w2, o2, f2, S2, b0, b1⟩ := draw_ok (wf := wf) L.draw (many := 7) (hS.app [.lst (gs.map encR)]) (by omega) (by omega) (by omega) (n + 2)
      rw [set_app hS.lt] at f2 S2
      have hk2 : k < (st1.set k o2).length := by rw [List.length_set]; exact hS.lt
      obtain ⟨m, hm, m0, m1'⟩ : ∃ m : Int, L2.atI [D.int 1, D.int 1, D.int 2, D.int 2, D.int 3, D.int size, D.int 0] w2 = some (.int m) ∧ 0 ≤ m ∧ m ≤ 8 := by
        rcases (show w2 = 0 ∨ w2 = 1 ∨ w2 = 2 ∨ w2 = 3 ∨ w2 = 4 ∨ w2 = 5 ∨ w2 = 6 by omega) with rfl | rfl | rfl | rfl | rfl | rfl | rfl
        · exact ⟨1, rfl, by omega, by omega⟩
        · exact ⟨1, rfl, by omega, by omega⟩
        · exact ⟨2, rfl, by omega, by omega⟩
        · exact ⟨2, rfl, by omega, by omega⟩
        · exact ⟨3, rfl, by omega, by omega⟩
        · exact ⟨size, rfl, by omega, by omega⟩
        · exact ⟨0, rfl, by omega, by omega⟩
      -- a rule is added, from a state s9
      have add : ∀ (o9 : O) (c : Int), Sv k (b + 200 + 60 * i + c) (st1.set k o9 ++ [.lst (gs.map encR)]) → 0 ≤ c → c ≤ 3 → ∃ (o10 : O) (x : Int) (ts : List (Int × Int)) (o11 : O), fnAt T csg wf (n + 3) 13 [.loc k, .int size] (st1.set k o9 ++ [.lst (gs.map encR)]) = .ok (.int x) (st1.set k o10 ++ [.lst (gs.map encR)]) ∧
          fnAt T csg wf (n + 3) 51 [.loc k, .int size, .int m, .int reach] (st1.set k o10 ++ [.lst (gs.map encR)]) = .ok (encT ts) (st1.set k o11 ++ [.lst (gs.map encR)]) ∧ Sv k (b + 200 + 60 * (i + 1 : Nat)) (st1.set k o11) ∧ Rc size 20 (x, ts) ∧
          mthD .append (.loc st.length) [.tup [.int x, encT ts]] (st1.set k o11 ++ [.lst (gs.map encR)]) = .ok .non (st1.set k o11 ++ [.lst (gs.map encR ++ [encR (x, ts)])]) := fun o9 c s9 c0 c1 => by
        have hk9 : k < (st1.set k o9).length := by rw [List.length_set]; exact hS.lt
        obtain ⟨x, o10, f10, S10, x0, x1⟩ := draw_ok (wf := wf) L.draw (many := size) s9 (by omega) hs0 (by omega) (n + 2)
        rw [set_app hk9, List.set_set] at f10 S10
        obtain ⟨ts, st11, f11, U11, S11, hT, htl⟩ := terms_ok (wf := wf) L (size := size) (many := m) (reach := reach) S10 (by omega) hs0 (by omega) m0 (by omega) h0 h1 n
        obtain ⟨o11, rfl⟩ := U11
        rw [set_app (by rw [List.length_set]; exact hS.lt), List.set_set] at f11 S11
        have hl11 : (st1.set k o11).length = st.length := by rw [List.length_set, hlen]
        have g3 : (st1.set k o11 ++ [O.lst (gs.map encR)])[st.length]? = some (.lst (gs.map encR)) := get_new0 hl11
        have happ := app_loc g3 (by rw [List.length_map]; exact Nat.lt_of_le_of_lt (show gs.length ≤ 100 by omega) (by decide)) (.tup [.int x, encT ts])
        rw [set_new0 _ hl11] at happ
        exact ⟨o10, x, ts, o11, f10, f11, (S11.cut (by rw [List.length_set]; exact hS.lt)).mono (by push_cast; omega), ⟨⟨⟨x0, x1⟩, hT⟩, by show ts.length ≤ 20; omega⟩, happ⟩
      by_cases q1 : 0 < m
      · obtain ⟨o10, x, ts, o11, f10, f11, S11, hR, happ⟩ := add o2 1 S2 (by omega) (by omega)
        have g3' : (st1.set k o2 ++ [O.lst (gs.map encR)])[st.length]? = some (.lst (gs.map encR)) := get_new0 (by rw [List.length_set, hlen])
        refine ⟨_, _, _, rfl, ?_, gs ++ [(x, ts)], st1.set k o11, some d, some (.int m), rfl, rfl, hU.set o11, S11, by rw [List.length_append, List.length_singleton]; omega, fun r hr => ?_⟩
        · simp [f2, hz7, hm, q1, lst_loc g3', f10, f11, hz2, happ]
        · rcases List.mem_append.mp hr with hr | hr
          · exact hf r hr
          · rw [List.mem_singleton] at hr
            subst hr
            exact hR
      · obtain ⟨w3, o3, f3, S3, c0, c1⟩ := draw_ok (wf := wf) L.draw (many := 6) S2 (by omega) (by omega) (by omega) (n + 2)
        rw [set_app hk2, List.set_set] at f3 S3
        have eb : b + 200 + 60 * (i : Int) + 1 + 1 = b + 200 + 60 * i + 2 := by omega
        rw [eb] at S3
        by_cases q2 : w3 = 0
        · obtain ⟨o10, x, ts, o11, f10, f11, S11, hR, happ⟩ := add o3 2 S3 (by omega) (by omega)
          have g3' : (st1.set k o3 ++ [O.lst (gs.map encR)])[st.length]? = some (.lst (gs.map encR)) := get_new0 (by rw [List.length_set, hlen])
          refine ⟨_, _, _, rfl, ?_, gs ++ [(x, ts)], st1.set k o11, some d, some (.int m), rfl, rfl, hU.set o11, S11, by rw [List.length_append, List.length_singleton]; omega, fun r hr => ?_⟩
          · simp [f2, hz7, hm, q1, f3, q2, lst_loc g3', f10, f11, hz2, happ]
          · rcases List.mem_append.mp hr with hr | hr
            · exact hf r hr
            · rw [List.mem_singleton] at hr
              subst hr
              exact hR
        · refine ⟨_, _, _, rfl, ?_, gs, st1.set k o3, some d, some (.int m), rfl, rfl, hU.set o3, (S3.cut (by rw [List.length_set]; exact hS.lt)).mono (by push_cast; omega), by omega, hf⟩
          simp [f2, hz7, hm, q1, f3, q2])
    ⟨fs, st0.set k o5, v4, none, rfl, rfl, hU.set o5, hS5.mono (by omega), by omega, hf⟩
  have hlm5 : (rngL 0 w5.toNat).length = w5.toNat := by unfold rngL; simp
  rw [Nat.zero_add, hlm5] at hS6 hgl
  have hlen6 := hU6.len
  -- mixed
  obtain ⟨envE, stE, eE, es, ms, st2, rfl, rfl, hU7, hS7, hel, hml, he, hms⟩ := whGo_by (c := fTru (fBin (cmpD .NotEq) (fVar 3) (fLst fNil))) (body := fSeq (fDrop (fMth .append (fVar 5) (fCons (fMth .pop (fVar 3) (fCons (fArgs (fnAt T csg wf (n + 3) 13) (fCons (fVar 0) (fCons (fArgs (bltD .len) (fCons (fVar 3) fNil)) fNil))) fNil)) fNil))) fSkip)
    (I := fun m env st' => ∃ (es ms : List (Int × List (Int × Int))) (st0 : Store), env = [some (.loc k), some (.int size), some (.int reach), some (.loc st.length), v4, some (.loc (st.length + 1)), v6, v7, v8, none] ∧ st' = st0 ++ [.lst (es.map encR), .lst (ms.map encR)] ∧ Up k st st0 ∧ Sv k (b + 1300 + 40 - m) st0 ∧ es.length = m ∧ ms.length + m ≤ 40 ∧ (∀ r ∈ es, Rc size 20 r) ∧ ∀ r ∈ ms, Rc size 20 r)
    (fun m env st' ⟨es, ms, st0, he, hst, hU, hS, hel, hml, hes, hms⟩ => by
      subst he hst
      have hlen := hU.len
      obtain ⟨v, o2, f2, S2, c0, c1⟩ := draw_ok (wf := wf) L.draw (many := (es.length : Int)) (hS.app [.lst (es.map encR), .lst (ms.map encR)]) (by omega) (by omega) (by omega) (n + 2)
      rw [set_app hS.lt] at f2 S2
      have hlen2 : (st0.set k o2).length = st.length := by rw [List.length_set, hlen]
      have hv : v.toNat < es.length := by omega
      have g3 : (st0 ++ [O.lst (es.map encR), .lst (ms.map encR)])[st.length]? = some (.lst (es.map encR)) := get_new0 hlen
      have g5 : (st0 ++ [O.lst (es.map encR), .lst (ms.map encR)])[st.length + 1]? = some (.lst (ms.map encR)) := get_new 1 hlen
      have g3' : (st0.set k o2 ++ [O.lst (es.map encR), .lst (ms.map encR)])[st.length]? = some (.lst (es.map encR)) := get_new0 hlen2
      have hy : (es.map encR)[v.toNat]? = some (encR es[v.toNat]) := by rw [List.getElem?_map, List.getElem?_eq_getElem hv]; rfl
      have hpop := pop_loc (i := v) g3' c0 (by rw [List.length_map]; exact c1) (by rw [List.length_map]; omega) hy
      rw [set_new0 _ hlen2] at hpop
      have g5' : (st0.set k o2 ++ [O.lst ((es.map encR).eraseIdx v.toNat), .lst (ms.map encR)])[st.length + 1]? = some (.lst (ms.map encR)) := get_new 1 hlen2
      have happ := app_loc g5' (by rw [List.length_map]; exact Nat.lt_of_le_of_lt (show ms.length ≤ 40 by omega) (by decide)) (encR es[v.toNat])
      rw [set_new 1 _ hlen2] at happ
      have hlenb := len_loc g3
      rw [List.length_map] at hlenb
      obtain ⟨z1, z2, z3⟩ := encRs_ok (size := size) (c := 20) (by omega) (rs := es) hes
      have hne := ne_empty g3 z1 (by omega)
      have hemp : (es.map encR).isEmpty = false := by
        cases es with
        | nil => simp at hel
        | cons a l => rfl
      rw [hemp] at hne
      have em : (es.map encR).eraseIdx v.toNat = (es.eraseIdx v.toNat).map encR := by
        rw [List.eraseIdx_eq_take_drop_succ, List.eraseIdx_eq_take_drop_succ, List.map_append, List.map_take, List.map_drop]
      refine ⟨st0 ++ [.lst (es.map encR), .lst (ms.map encR)], _, _, ?_, ?_, es.eraseIdx v.toNat, ms ++ [es[v.toNat]], st0.set k o2, rfl, rfl, hU.set o2, (S2.cut (by rw [List.length_set]; exact hS.lt)).mono (by push_cast; omega), ?_, ?_, fun x hx => hes x (List.mem_of_mem_eraseIdx hx), fun x hx => ?_⟩
      · simp [hne]
      · simp only [List.set_cons_zero, List.set_cons_succ] at hpop happ
        simp [lst_loc g3, lst_loc g5, hlenb, f2, hpop, happ]
        exact em
      · rw [List.length_eraseIdx, if_pos hv]
        omega
      · rw [List.length_append, List.length_singleton]
        omega
      · rcases List.mem_append.mp hx with hx | hx
        · exact hms x hx
        · rw [List.mem_singleton] at hx
          subst hx
          exact hes _ (List.getElem_mem hv))
    (fun env st' ⟨es, ms, st0, he, hst, hU, hS, hel, hml, hes, hms⟩ => by
      subst he hst
      have hlen := hU.len
      have g3 : (st0 ++ [O.lst (es.map encR), .lst (ms.map encR)])[st.length]? = some (.lst (es.map encR)) := get_new0 hlen
      cases es with
      | cons a l => simp at hel
      | nil =>
        have hne := ne_empty g3 rfl (Nat.zero_le _)
        exact ⟨_, by simp at hne; simp [hne], [], ms, st0, rfl, rfl, hU, hS, hel, hml, hes, hms⟩)
    gs.length wf [some (.loc k), some (.int size), some (.int reach), some (.loc st.length), v4, some (.loc (st.length + 1)), v6, v7, v8, none] (st1 ++ [.lst (gs.map encR), .lst []]) (by omega)
    ⟨gs, [], st1, rfl, rfl, hU6, hS6.mono (by omega), rfl, by simp; omega, hg, fun r hr => by cases hr⟩
  have hlen7 := hU7.len
  have g5 : (st2 ++ [O.lst (es.map encR), .lst (ms.map encR)])[st.length + 1]? = some (.lst (ms.map encR)) := get_new 1 hlen7
  have hsl := slc24_loc g5
  rw [← List.map_take] at hsl
  generalize hMS : ms.take 24 = MS at hsl
  have fin := gc_up (new := [O.lst (es.map encR), .lst (ms.map encR)]) hS7 hU7 false (d := .tup [.int size, .tup (MS.map encR)]) (by simp only [blw, blws, blws_encR, Bool.and_self])
  refine ⟨MS, st2, ?_, hU7, hS7.mono (by omega), fun r hr => hms r (List.mem_of_mem_take (by rw [← hMS] at hr; exact hr)), by rw [← hMS, List.length_take]; omega⟩
  simp [s_u_law_rules_v1, c_u_law_rules_v1, runFn, startE, f1, hz4, hm1, hR1, eA, f5, mB, b_mul, hR5, eC, hlen6, eE, hsl, hz2, fin]
end
end L2.G4

set_option maxHeartbeats 4000000
/-! MI: the program's checks at what is right; right sides. -/
namespace L2.G4
open PySem PySem.Spec PyProof.Rows

theorem isi_of {T U : String} {b : Bool} {d : D} {st : Store} (e : tyD d st = U) (h : kitB U T = some b) (hx : isExn d = false := by rfl) : isiD T d st = .ok (.bl b) st := by
  unfold isiD
  rw [hx, if_neg Bool.false_ne_true, e, h]
@[simp] theorem y_ii (i : Int) (st : Store) : isiD "int" (.int i) st = .ok (.bl true) st := isi_of (U := "int") rfl (by decide +kernel)
@[simp] theorem y_bi (i : Int) (st : Store) : isiD "bool" (.int i) st = .ok (.bl false) st := isi_of (U := "int") rfl (by decide +kernel)
@[simp] theorem y_tt (ds : List D) (st : Store) : isiD "tuple" (.tup ds) st = .ok (.bl true) st := isi_of (U := "tuple") rfl (by decide +kernel)
@[simp] theorem x_zip (a b : Fe D) (env : Env) (st : Store) : fZip a b env st = (a env st).bind fun x st1 => (b env st1).bind fun y st2 => match tupOf x, tupOf y with
  | some xs, some ys => .ok (zipL xs ys, none) st2
  | none, none => (match srcOf st2 x, srcOf st2 y with
    | some (xs, g), some (ys, g') => (match gdTwo g g' with
      | some gg => .ok (zipL xs ys, gg) st2
      | none => .bad)
    | _, _ => .bad)
  | _, _ => .bad := rfl
@[simp] theorem tupOf_tup (ds : List D) : tupOf (.tup ds) = some ds := rfl
theorem slc1_tup (ds : List D) (st : Store) : slcD (.tup ds) (some 1) none st = .ok (.tup (ds.drop 1)) st := by
  have e : cutL ds (some 1) none = ds.drop 1 := by
    unfold cutL
    rw [show HT.sIx ds.length 0 (some 1) = min 1 ds.length from HT.sIx_nat ds.length 0 1, HT.sIx_none]
    cases ds with
    | nil => rfl
    | cons x r =>
      rw [show min 1 (x :: r).length = 1 by rw [List.length_cons]; omega]
      show List.take _ r = r
      rw [List.length_cons, Nat.add_sub_cancel]
      exact List.take_length
  simp only [slcD, tupOf, e]
theorem zipL_enc {A : Type} (enc : A → D) (xs ys : List A) : zipL (xs.map enc) (ys.map enc) = (xs.zip ys).map fun p => D.tup [enc p.1, enc p.2] := by
  unfold zipL
  rw [List.zipWith_map, List.zip, List.map_zipWith]
theorem all_bl {A : Type} (p : A → Bool) (xs : List A) (st : Store) : bltD .all [.lst (xs.map fun x => D.bl (p x))] st = .ok (.bl (xs.all p)) st := by
  have e := allOf_map blOf (fun x : A => D.bl (p x)) p (fun x => rfl) xs
  rw [l_all, e]
  simp [List.all_map]
theorem all_true {A : Type} (xs : List A) (st : Store) : bltD .all [.lst (xs.map fun _ => D.bl true)] st = .ok (.bl true) st := by
  have := all_bl (fun _ : A => true) xs st
  rw [this]
  simp
structure Lc (T : Tab) : Prop where
  i1 : T.lookup 1 = some s_is_integer
  i2 : T.lookup 2 = some s_is_between
  i3 : T.lookup 3 = some s_is_delay
  i4 : T.lookup 4 = some s_is_pair
  i5 : T.lookup 5 = some s_are_terms
  i6 : T.lookup 6 = some s_is_loose_rule
  i7 : T.lookup 7 = some s_is_loose_rules
  i8 : T.lookup 8 = some s_is_rule_by
  i11 : T.lookup 11 = some s_is_rule_set
section
variable {T : Tab} {wf : Nat}
theorem integer_ok (L : Lc T) (i : Int) (st : Store) (n : Nat) : fnAt T csg wf (n + 1) 1 [.int i] st = .ok (.bl true) st := by
  rw [fnAt_of L.i1]
  simp [s_is_integer, c_is_integer, runFn, startE]
theorem between_ok (L : Lc T) (v lo hi : Int) (st : Store) (n : Nat) : fnAt T csg wf (n + 2) 2 [.int v, .int lo, .int hi] st = .ok (.bl (decide (lo ≤ v) && decide (v ≤ hi))) st := by
  rw [fnAt_of L.i2]
  by_cases h : lo ≤ v
  · simp [s_is_between, c_is_between, runFn, startE, integer_ok L, h]
  · simp [s_is_between, c_is_between, runFn, startE, integer_ok L, h]
theorem delay_is (L : Lc T) {d : Int} (h0 : -60 ≤ d) (h1 : d ≤ 59) (st : Store) (n : Nat) : fnAt T csg wf (n + 3) 3 [.int d] st = .ok (.bl true) st := by
  rw [fnAt_of L.i3]
  simp [s_is_delay, c_is_delay, runFn, startE, csg, between_ok L, h0, h1]
theorem pair_ok (L : Lc T) (a b : D) (st : Store) (n : Nat) : fnAt T csg wf (n + 1) 4 [.tup [a, b]] st = .ok (.bl true) st := by
  rw [fnAt_of L.i4]
  simp [s_is_pair, c_is_pair, runFn, startE]
theorem terms_are (L : Lc T) {size : Int} {ts : List (Int × Int)} (h : Tm size ts) (hl : ts.length ≤ 1000) (st : Store) (n : Nat) : fnAt T csg wf (n + 3) 5 [.int size, encT ts] st = .ok (.bl true) st := by
  rw [fnAt_of L.i5]
  have hz : ts.length ≤ sizeLine := Nat.le_trans hl (by decide)
  have hz2 : 2 ≤ sizeLine := two_le
  have l1 := lcGo_map (t := gdName 4) (g := none) (c := fYes) (el := fArgs (fnAt T csg wf (n + 2) 4) (fCons (fVar 4) fNil)) (env := [some (.int size), some (encT ts), none, none, none, none, none]) (st := st)
    encP (fun _ => D.bl true) trivial ts hz (fun p hp => ⟨_, rfl, rfl, by simp [encP, pair_ok L]⟩)
  have l2 := lcGo_map (t := gdTupN 2 (gdCons (gdName 5) (gdCons (gdName 6) gdNil))) (g := none) (c := fYes) (el := fAndV (fArgs (fnAt T csg wf (n + 2) 2) (fCons (fVar 5) (fCons (fCon (.int 0)) (fCons (fBin (binD .Sub) (fVar 0) (fCon (.int 1))) fNil)))) (fArgs (fnAt T csg wf (n + 2) 1) (fCons (fVar 6) fNil)))
    (env := [some (.int size), some (encT ts), none, none, none, none, none]) (st := st) encP (fun _ => D.bl true) trivial ts hz (fun p hp => by
      refine ⟨_, rfl, rfl, ?_⟩
      have hp' := h.2 p hp
      have q1 : p.1 ≤ size - 1 := by omega
      simp [between_ok L, integer_ok L, hp'.1.1, q1])
  have l3 := lcGo_map (t := gdTupN 2 (gdCons (gdName 2) (gdCons (gdName 3) gdNil))) (g := none) (c := fYes) (el := fBin (cmpD .Lt) (fBin idxD (fVar 2) (fCon (.int 0))) (fBin idxD (fVar 3) (fCon (.int 0))))
    (env := [some (.int size), some (encT ts), none, none, none, none, none]) (st := st) (fun p : (Int × Int) × (Int × Int) => D.tup [encP p.1, encP p.2]) (fun _ => D.bl true) trivial (ts.zip (ts.drop 1)) (by rw [List.length_zip]; omega) (fun p hp => by
      refine ⟨_, rfl, rfl, ?_⟩
      have hlt : p.1.1 < p.2.1 := by
        have hpw := h.1
        clear l1 l2 hz hl
        cases ts with
        | nil => simp at hp
        | cons a r =>
          rw [List.drop_one, List.tail_cons] at hp
          have key : ∀ (r : List (Int × Int)) (a : Int × Int), (a :: r).Pairwise (fun x y => x.1 < y.1) → ∀ p ∈ (a :: r).zip r, p.1.1 < p.2.1 := by
            intro r
            induction r with
            | nil => intro a _ p hp; simp at hp
            | cons b r ih =>
              intro a hpw p hp
              rw [List.zip_cons_cons, List.mem_cons] at hp
              rcases hp with rfl | hp
              · exact (List.pairwise_cons.mp hpw).1 b List.mem_cons_self
              · exact ih b (List.pairwise_cons.mp hpw).2 p hp
          exact key r a hpw p hp
      simp [encP, hlt])
  rw [← zipL_enc, List.map_drop] at l3
  have a1 := all_true ts st
  have a3 := all_true (ts.zip (ts.drop 1)) st
  have hsl := slc1_tup (ts.map encP) st
  generalize hd : (ts.map encP).drop 1 = dr at l3 hsl
  generalize (ts.zip (ts.drop 1)).map (fun _ => D.bl true) = B3 at l3 a3
  generalize ts.map (fun _ => D.bl true) = B1 at l1 l2 a1
  unfold encT at l1 l2 l3 ⊢
  simp [s_are_terms, c_are_terms, runFn, startE, l1, l2, a1, hsl, l3, a3]
theorem loose_rule_ok (L : Lc T) {size : Int} {r : Int × List (Int × Int)} (h : Rl size r) (hl : r.2.length ≤ 1000) (st : Store) (n : Nat) : fnAt T csg wf (n + 4) 6 [.int size, encR r] st = .ok (.bl true) st := by
  rw [fnAt_of L.i6]
  have q1 : r.1 ≤ size - 1 := by have := h.1.2; omega
  unfold encR
  simp [s_is_loose_rule, c_is_loose_rule, runFn, startE, pair_ok L, between_ok L, h.1.1, q1, terms_are L h.2 hl]
theorem loose_rules_ok (L : Lc T) {size : Int} (hs0 : 0 < size) (hs1 : size ≤ 8) {c : Nat} (hc : c ≤ 1000) {rs : List (Int × List (Int × Int))} (h : ∀ r ∈ rs, Rc size c r) (hl : rs.length ≤ 1000) (st : Store) (n : Nat) :
    fnAt T csg wf (n + 5) 7 [.tup [.int size, .tup (rs.map encR)]] st = .ok (.bl true) st := by
  rw [fnAt_of L.i7]
  have l1 := lcGo_map (t := gdName 1) (g := none) (c := fYes) (el := fArgs (fnAt T csg wf (n + 4) 6) (fCons (fBin idxD (fVar 0) (fCon (.int 0))) (fCons (fVar 1) fNil))) (env := [some (.tup [.int size, .tup (rs.map encR)]), none]) (st := st)
    encR (fun _ => D.bl true) trivial rs (Nat.le_trans hl (by decide)) (fun r hr => ⟨_, rfl, rfl, by simp [loose_rule_ok L (h r hr).1 (Nat.le_trans (h r hr).2 hc)]⟩)
  have a1 := all_true rs st
  generalize rs.map (fun _ => D.bl true) = B1 at l1 a1
  have q0 : 1 ≤ size := by omega
  simp [s_is_loose_rules, c_is_loose_rules, runFn, startE, csg, pair_ok L, between_ok L, q0, hs1, l1, a1]
theorem rule_by_ok (L : Lc T) {size : Int} {c : Nat} (hc : c ≤ 1000) {r : Int × List (Int × Int)} (h : Rc size c r) (st : Store) (n : Nat) : fnAt T csg wf (n + 5) 8 [.int size, encR r] st = .ok (.bl true) st := by
  rw [fnAt_of L.i8]
  have l1 := lcGo_map (t := gdTupN 2 (gdCons (gdName 2) (gdCons (gdName 3) gdNil))) (g := none) (c := fYes) (el := fArgs (fnAt T csg wf (n + 4) 3) (fCons (fVar 3) fNil)) (env := [some (.int size), some (encR r), none, none]) (st := st)
    encP (fun _ => D.bl true) trivial r.2 (Nat.le_trans (Nat.le_trans h.2 hc) (by decide)) (fun p hp => ⟨_, rfl, rfl, by
      have hp' := h.1.2.2 p hp
      simp [delay_is L hp'.2.1 hp'.2.2]⟩)
  have a1 := all_true r.2 st
  generalize r.2.map (fun _ => D.bl true) = B1 at l1 a1
  have q := loose_rule_ok (wf := wf) L h.1 (Nat.le_trans h.2 hc) st n
  unfold encR encT at l1 q ⊢
  simp [s_is_rule_by, c_is_rule_by, runFn, startE, q, l1, a1]
theorem rule_set_ok (L : Lc T) {size : Int} (hs0 : 0 < size) (hs1 : size ≤ 8) {c : Nat} (hc : c ≤ 1000) {rs : List (Int × List (Int × Int))} (h : ∀ r ∈ rs, Rc size c r) (hl : rs.length ≤ 24) (st : Store) (n : Nat) :
    fnAt T csg wf (n + 6) 11 [.tup [.int size, .tup (rs.map encR)]] st = .ok (.bl true) st := by
  rw [fnAt_of L.i11]
  have l1 := lcGo_map (t := gdName 1) (g := none) (c := fYes) (el := fArgs (fnAt T csg wf (n + 5) 8) (fCons (fBin idxD (fVar 0) (fCon (.int 0))) (fCons (fVar 1) fNil))) (env := [some (.tup [.int size, .tup (rs.map encR)]), none]) (st := st)
    encR (fun _ => D.bl true) trivial rs (Nat.le_trans (show rs.length ≤ 24 by omega) (by decide)) (fun r hr => ⟨_, rfl, rfl, by simp [rule_by_ok L hc (h r hr)]⟩)
  have a1 := all_true rs st
  generalize rs.map (fun _ => D.bl true) = B1 at l1 a1
  have q := loose_rules_ok (wf := wf) L hs0 hs1 hc h (by omega) st n
  have q2 : ¬ (24 : Int) < (rs.length : Int) := by omega
  have q3 : ¬ 24 < rs.length := by omega
  simp [s_is_rule_set, c_is_rule_set, runFn, startE, csg, q, q2, q3, l1, a1]
theorem check_rules_ok (L : Lc T) (h29 : T.lookup 29 = some s_check_rules) {size : Int} (hs0 : 0 < size) (hs1 : size ≤ 8) {c : Nat} (hc : c ≤ 1000) {rs : List (Int × List (Int × Int))} (h : ∀ r ∈ rs, Rc size c r) (hl : rs.length ≤ 24) (st : Store) (n : Nat) :
    fnAt T csg wf (n + 7) 29 [.tup [.int size, .tup (rs.map encR)]] st = .ok .non st := by
  rw [fnAt_of h29]
  simp [s_check_rules, c_check_rules, runFn, startE, rule_set_ok L hs0 hs1 hc h hl]
end
end L2.G4

set_option maxHeartbeats 4000000
/-! MJ: right sides, times, the law's source. -/
namespace L2.G4
open PySem PySem.Spec PyProof.Rows

/-- the sums of a rule's right side -/
def sumsOf (r : Int × List (Int × Int)) (tm : List Int) : List Int := r.2.map fun p => tm.getD p.1.toNat 0 + p.2
def mxD (ns : List Int) : D := match ns with
  | [] => .non
  | n :: l => .int (mxF l n)
def sideD (r : Int × List (Int × Int)) (tm : List Int) : D := mxD (sumsOf r tm)
def holdsB (r : Int × List (Int × Int)) (tm : List Int) : Bool := match sideD r tm with
  | .int s => decide (tm.getD r.1.toNat 0 ≤ s)
  | _ => false
theorem mmd_ints (ns : List Int) (st : Store) : mmD true (.lst (ns.map D.int)) (some .non) st = .ok (mxD ns) st := by
  have e := allOf_map intOf D.int (fun i : Int => i) (fun i => rfl) ns
  rw [List.map_id'] at e
  unfold mmD
  simp only [seqOf, tupOf, lstOf, Option.or, e]
  cases ns <;> rfl
def encM (tm : List Int) : D := .tup (tm.map D.int)
theorem at_time {size : Int} {tm : List Int} (hl : (tm.length : Int) = size) {v : Int} (h0 : 0 ≤ v) (h1 : v < size) : L2.atI (tm.map D.int) v = some (.int (tm.getD v.toNat 0)) := by
  have := at_ints (ds := tm) (i := v.toNat) (by omega)
  rwa [show ((v.toNat : Nat) : Int) = v by omega] at this
section
variable {T : Tab} {wf : Nat}
theorem times_by_ok (L : Lc T) (h67 : T.lookup 67 = some s_is_times_by) {size : Int} {tm : List Int} (hl : (tm.length : Int) = size) (hz : tm.length ≤ 1000) (st : Store) (n : Nat) : fnAt T csg wf (n + 2) 67 [.int size, encM tm] st = .ok (.bl true) st := by
  rw [fnAt_of h67]
  have l1 := lcGo_map (t := gdName 2) (g := none) (c := fYes) (el := fArgs (fnAt T csg wf (n + 1) 1) (fCons (fVar 2) fNil)) (env := [some (.int size), some (encM tm), none]) (st := st)
    D.int (fun _ => D.bl true) trivial tm (Nat.le_trans hz (by decide)) (fun r hr => ⟨_, rfl, rfl, by simp [integer_ok L]⟩)
  have a1 := all_true tm st
  generalize tm.map (fun _ => D.bl true) = B1 at l1 a1
  unfold encM at l1 ⊢
  simp [s_is_times_by, c_is_times_by, runFn, startE, hl, l1, a1]
theorem right_by_ok (h68 : T.lookup 68 = some s_right_by) {size : Int} {r : Int × List (Int × Int)} (h : Tm size r.2) (hc : r.2.length ≤ 1000) {tm : List Int} (hl : (tm.length : Int) = size) (st : Store) (n : Nat) : fnAt T csg wf (n + 1) 68 [encR r, encM tm] st = .ok (sideD r tm) st := by
  rw [fnAt_of h68]
  have l1 := lcGo_map (t := gdTupN 2 (gdCons (gdName 2) (gdCons (gdName 3) gdNil))) (g := none) (c := fYes) (el := fBin (binD .Add) (fBin idxD (fVar 1) (fVar 2)) (fVar 3)) (env := [some (encR r), some (encM tm), none, none]) (st := st)
    encP (fun p => D.int (tm.getD p.1.toNat 0 + p.2)) trivial r.2 (Nat.le_trans hc (by decide)) (fun p hp => ⟨_, rfl, rfl, by
      have hp' := h.2 p hp
      simp [encM, at_time hl hp'.1.1 hp'.1.2]⟩)
  rw [show (r.2.map fun p => D.int (tm.getD p.1.toNat 0 + p.2)) = (sumsOf r tm).map D.int by unfold sumsOf; rw [List.map_map]; rfl] at l1
  have m1 := mmd_ints (sumsOf r tm) st
  unfold sideD
  generalize sumsOf r tm = sm at l1 m1 ⊢
  unfold encM encR encT at l1 ⊢
  simp [s_right_by, c_right_by, runFn, startE, l1, m1]
theorem sideD_cases (r : Int × List (Int × Int)) (tm : List Int) : sideD r tm = .non ∨ ∃ s, sideD r tm = .int s := by
  unfold sideD mxD
  cases sumsOf r tm with
  | nil => exact .inl rfl
  | cons n l => exact .inr ⟨_, rfl⟩
theorem holds_by_ok (h68 : T.lookup 68 = some s_right_by) (h69 : T.lookup 69 = some s_holds_by) {size : Int} {r : Int × List (Int × Int)} (h : Rl size r) (hc : r.2.length ≤ 1000) {tm : List Int} (hl : (tm.length : Int) = size) (st : Store) (n : Nat) :
    fnAt T csg wf (n + 2) 69 [encR r, encM tm] st = .ok (.bl (holdsB r tm)) st := by
  rw [fnAt_of h69]
  have q := right_by_ok (wf := wf) h68 h.2 hc hl st n
  have a := at_time hl h.1.1 h.1.2
  unfold holdsB
  rcases sideD_cases r tm with e | ⟨s, e⟩
  · rw [e] at q ⊢
    unfold encR encM at q ⊢
    simp [s_holds_by, c_holds_by, runFn, startE, q]
  · rw [e] at q ⊢
    unfold encR encM at q ⊢
    simp [s_holds_by, c_holds_by, runFn, startE, q, a]
theorem solution_by_ok (L : Lc T) (h67 : T.lookup 67 = some s_is_times_by) (h68 : T.lookup 68 = some s_right_by) (h69 : T.lookup 69 = some s_holds_by) (h70 : T.lookup 70 = some s_is_solution_by) {size : Int} {c : Nat} (hc : c ≤ 1000) {rs : List (Int × List (Int × Int))} (h : ∀ r ∈ rs, Rc size c r) (hrl : rs.length ≤ 1000) {tm : List Int} (hl : (tm.length : Int) = size) (hz : tm.length ≤ 1000) (st : Store) (n : Nat) :
    fnAt T csg wf (n + 3) 70 [.int size, .tup (rs.map encR), encM tm] st = .ok (.bl (rs.all fun r => holdsB r tm)) st := by
  rw [fnAt_of h70]
  have l1 := lcGo_map (t := gdName 3) (g := none) (c := fYes) (el := fArgs (fnAt T csg wf (n + 2) 69) (fCons (fVar 3) (fCons (fVar 2) fNil))) (env := [some (.int size), some (.tup (rs.map encR)), some (encM tm), none]) (st := st)
    encR (fun r => D.bl (holdsB r tm)) trivial rs (Nat.le_trans hrl (by decide)) (fun r hr => ⟨_, rfl, rfl, by simp [holds_by_ok h68 h69 (h r hr).1 (Nat.le_trans (h r hr).2 hc) hl]⟩)
  have a1 := all_bl (fun r => holdsB r tm) rs st
  generalize rs.map (fun r => D.bl (holdsB r tm)) = B1 at l1 a1
  have q := times_by_ok (wf := wf) L h67 hl hz st (n + 0)
  have q2 := times_by_ok (wf := wf) L h67 hl hz st n
  simp [s_is_solution_by, c_is_solution_by, runFn, startE, q2, l1, a1]

/-! ### the source -/
theorem pow_a : intPow 10 60 = some (10 ^ 60) := by decide +kernel
theorem pow_b : intPow (10 ^ 60) 11 = some (10 ^ 660) := by decide +kernel
theorem pow_c : intPow 10 18 = some (10 ^ 18) := by decide +kernel
theorem pow_d : intPow 10 30 = some (10 ^ 30) := by decide +kernel
theorem pow_e : intPow 10 39 = some (10 ^ 39) := by decide +kernel
theorem b_pow {i j k : Int} (h : intPow i j = some k) (st : Store) : binD .Pow (.int i) (.int j) st = .ok (.int k) st := by
  show (match intPow i j with
    | some k => Rz.ok (D.int k) st
    | none => .bad) = _
  rw [h]
theorem big_lt : (10 : Int) ^ 660 < 2 ^ 2200 := by decide +kernel
theorem source_ok (L : Lb T) {ns : List Int} (hn : ns.length ≤ 63) {at_ : Int} (h0 : 0 ≤ at_) (h1 : at_ ≤ 1000) (st : Store) (n : Nat) :
    ∃ (s0 s1 : Int), fnAt T csg wf (n + 1) 12 [.fls (ns.map D.int), .int at_] st = .ok (.loc st.length) (st ++ [.lst [.int s0, .int s1, .int 0]]) ∧ 0 ≤ s0 ∧ 0 ≤ s1 ∧ s1 < 2 ^ 53 := by
  rw [fnAt_of L.source]
  have m5 : mulB 5 at_ := mulB_of (n := 40) (m := 40) (by omega) (by omega) (by omega) (by omega) (by omega)
  have m6 : mulB 1181783497 at_ := mulB_of (n := 40) (m := 40) (by omega) (by omega) (by omega) (by omega) (by omega)
  have hz3 : 3 ≤ sizeLine := by decide
  -- the cell
  obtain ⟨cell, hcell⟩ : ∃ cell : Int, (if at_ < (ns.length : Int) then idxD (.fls (ns.map D.int)) (.int at_) st else .ok (.int (5 * at_ + 4)) st) = Rz.ok (.int cell) st := by
    by_cases q : at_ < (ns.length : Int)
    · have := at_ints (ds := ns) (i := at_.toNat) (by omega)
      rw [show ((at_.toNat : Nat) : Int) = at_ by omega] at this
      exact ⟨_, by rw [if_pos q, i_fls, this]⟩
    · exact ⟨_, if_neg q⟩
  obtain ⟨A, P, C, pa, pb, pc, hPpos, hPlt⟩ : ∃ A P C : Int, intPow 10 60 = some A ∧ intPow A 11 = some P ∧ intPow 10 18 = some C ∧ 0 < P ∧ P < 2 ^ 2200 := ⟨10 ^ 60, 10 ^ 660, 10 ^ 18, pow_a, pow_b, pow_c, by decide +kernel, big_lt⟩
  have g0 : 0 ≤ (if cell < 0 then -cell else cell) % P := Int.emod_nonneg _ (by omega)
  have g1 : (if cell < 0 then -cell else cell) % P < P := Int.emod_lt_of_pos _ hPpos
  generalize hg : (if cell < 0 then -cell else cell) % P = great at g0 g1
  have m7 : mulB great 6364136223846793005 := mulB_of (n := 2200) (m := 63) g0 (Int.lt_trans g1 hPlt) (by omega) (by omega) (by omega)
  generalize hQ : great - C + 1 = Q
  refine ⟨if Q > 0 then Q else 0, (great * 6364136223846793005 + 1181783497 * at_ + (if cell < 0 then 1 else 0)) % 9007199254740881, ?_, by split <;> omega, Int.emod_nonneg _ (by omega), Int.lt_trans (Int.emod_lt_of_pos _ (by omega)) (by omega)⟩
  have fin : ∀ s0 s1 : Int, gcR true st (.ok (.loc st.length) (st ++ [.lst [.int s0, .int s1, .int 0]])) = .ok (.loc st.length) (st ++ [.lst [.int s0, .int s1, .int 0]]) := fun s0 s1 =>
    gcR_new rfl rfl (fun i o hi e => .inl e) (Nat.le_refl _) (by rw [List.getElem?_append_right (Nat.le_refl _), Nat.sub_self]; rfl)
  by_cases q : at_ < (ns.length : Int)
  · rw [if_pos q, i_fls] at hcell
    simp [s_u_law_source, c_u_law_source, runFn, startE, q, hcell, b_pow pa, b_pow pb, b_pow pc, hg, b_mul, m6, m7, hPpos, hQ, hz3, fin]
  · rw [if_neg q] at hcell
    have hce : 5 * at_ + 4 = cell := by cases hcell; rfl
    simp [s_u_law_source, c_u_law_source, runFn, startE, q, hce, b_pow pa, b_pow pb, b_pow pc, hg, b_mul, m5, m6, m7, hPpos, hQ, hz3, fin]
end
end L2.G4

set_option maxHeartbeats 4000000
/-! MN: data with texts, with dicts or lists, that may be shown. -/
namespace L2.G4
open PySem PySem.Spec PyProof.Rows

def keyI : Key → Bool
  | .inl i => decide (i.natAbs.log2 < 1920)
  | .inr _ => false
mutual
/-- d: dicts, else lists -/
def okv (b : Bool) : D → Bool
  | .non => true
  | .bl _ => true
  | .int i => decide (i.natAbs.log2 < 1920)
  | .str x => PyData.strOk x
  | .tup ds => okvs b ds
  | .lst ds => !b && okvs b ds
  | .dct ks ds => b && decide (ks.length = ds.length) && ks.all keyI && okvs b ds
  | _ => false
def okvs (b : Bool) : List D → Bool
  | [] => true
  | d :: ds => okv b d && okvs b ds
end
mutual
def dpv : D → Nat
  | .tup ds => dpvs ds + 1
  | .lst ds => dpvs ds + 1
  | .dct _ ds => dpvs ds + 1
  | _ => 0
def dpvs : List D → Nat
  | [] => 0
  | d :: ds => max (dpv d) (dpvs ds)
end
mutual
def bkv : D → Nat
  | .str x => x.cps.size
  | .tup ds => bkvs ds
  | .lst ds => bkvs ds
  | .dct _ ds => bkvs ds + ds.length
  | _ => 0
def bkvs : List D → Nat
  | [] => 0
  | d :: ds => bkv d + 1 + bkvs ds
end
theorem str_short {x : Str} (h : PyData.strOk x = true) : (x.cps.toList.all fun c => decide (c < 16 ^ 8)) = true := by
  unfold PyData.strOk at h
  rw [List.all_eq_true]
  intro c hc
  have h' : x.cps.toList.all (· < 0x110000) = true := by rw [← h]; exact Array.all_toList ..
  have := List.all_eq_true.mp h' c hc
  have : c < 0x110000 := by simpa using this
  exact decide_eq_true (Nat.lt_trans this (by decide))
structure PvOk (p : PyData) (dp bk : Nat) : Prop where
  sh : p.showable = true
  lf : p.leavesShort 1921 = true
  dp : p.depth = dp
  bk : p.bulk = bk
structure PvsOk (p : List PyData) (dp bk : Nat) : Prop where
  sh : PyData.showableAll p = true
  lf : PyData.leavesShortAll 1921 p = true
  dp : PyData.depthAll p = dp
  bk : PyData.bulkAll p = bk
mutual
theorem pv_ok : ∀ d : D, okv false d = true → ∃ p, py d = some p ∧ PvOk p (dpv d) (bkv d) ∧ p.hasDict = false
  | .non, _ => ⟨.none, by simp [py], ⟨by simp [PyData.showable], by simp [PyData.leavesShort], by simp [PyData.depth, dpv], by simp [PyData.bulk, bkv]⟩, by simp [PyData.hasDict]⟩
  | .bl b, _ => ⟨.bool b, by simp [py], ⟨by simp [PyData.showable], by simp [PyData.leavesShort], by simp [PyData.depth, dpv], by simp [PyData.bulk, bkv]⟩, by simp [PyData.hasDict]⟩
  | .int i, h => ⟨.int i, by simp [py], ⟨by simpa [PyData.showable, okv] using h, by
      simp only [PyData.leavesShort, decide_eq_true_eq]
      exact int_text_len_1921 (by simpa [okv] using h), by simp [PyData.depth, dpv], by simp [PyData.bulk, bkv]⟩, by simp [PyData.hasDict]⟩
  | .str x, h => ⟨.str x, by simp [py], ⟨by simp [PyData.showable], by simp only [PyData.leavesShort]; exact str_short (by simpa only [okv] using h), by simp [PyData.depth, dpv], by simp [PyData.bulk, bkv]⟩, by simp [PyData.hasDict]⟩
  | .tup ds, h => by
    obtain ⟨ps, e, q, hd⟩ := pvs_ok ds (by simpa only [okv] using h)
    exact ⟨.tuple ps, by simp only [py, e, Option.map_some], ⟨by simpa only [PyData.showable] using q.sh, by simpa only [PyData.leavesShort] using q.lf, by simp only [PyData.depth, dpv, q.dp], by simp only [PyData.bulk, bkv, q.bk]⟩, by simpa only [PyData.hasDict] using hd⟩
  | .lst ds, h => by
    obtain ⟨ps, e, q, hd⟩ := pvs_ok ds (by simpa [okv] using h)
    exact ⟨.list ps, by simp only [py, e, Option.map_some], ⟨by simpa only [PyData.showable] using q.sh, by simpa only [PyData.leavesShort] using q.lf, by simp only [PyData.depth, dpv, q.dp], by simp only [PyData.bulk, bkv, q.bk]⟩, by simpa only [PyData.hasDict] using hd⟩
  | .fls _, h => by simp [okv] at h
  | .byt _, h => by simp [okv] at h
  | .loc _, h => by simp [okv] at h
  | .exn _ _ _ _, h => by simp [okv] at h
  | .fnv _ _ _ _ _ _, h => by simp [okv] at h
  | .dct _ _, h => by simp [okv] at h
theorem pvs_ok : ∀ ds : List D, okvs false ds = true → ∃ ps, pys ds = some ps ∧ PvsOk ps (dpvs ds) (bkvs ds) ∧ PyData.hasDictAll ps = false
  | [], _ => ⟨[], by simp [pys], ⟨by simp [PyData.showableAll], by simp [PyData.leavesShortAll], by simp [PyData.depthAll, dpvs], by simp [PyData.bulkAll, bkvs]⟩, by simp [PyData.hasDictAll]⟩
  | d :: ds, h => by
    simp only [okvs, Bool.and_eq_true] at h
    obtain ⟨p, e1, q1, d1⟩ := pv_ok d h.1
    obtain ⟨ps, e2, q2, d2⟩ := pvs_ok ds h.2
    exact ⟨p :: ps, by simp only [pys, e1, e2], ⟨by simp only [PyData.showableAll, q1.sh, q2.sh, Bool.and_self],
      by simp only [PyData.leavesShortAll, q1.lf, q2.lf, Bool.and_self], by simp only [PyData.depthAll, dpvs, q1.dp, q2.dp], by simp only [PyData.bulkAll, bkvs, q1.bk, q2.bk]⟩, by simp only [PyData.hasDictAll, d1, d2, Bool.or_self]⟩
end
theorem kv_all : ∀ {ks : List Key} {ps : List PyData}, ks.length = ps.length → ks.all keyI = true → PyData.showableAll ps = true → PyData.leavesShortAll 1921 ps = true →
    PyData.showableKv ((ks.map pyKey).zip ps) = true ∧ PyData.leavesShortKv 1921 ((ks.map pyKey).zip ps) = true ∧ PyData.depthKv ((ks.map pyKey).zip ps) = PyData.depthAll ps ∧ PyData.bulkKv ((ks.map pyKey).zip ps) = PyData.bulkAll ps + ps.length
  | [], [], _, _, _, _ => by simp [PyData.showableKv, PyData.leavesShortKv, PyData.depthKv, PyData.depthAll, PyData.bulkKv, PyData.bulkAll]
  | [], _ :: _, h, _, _, _ => by cases h
  | _ :: _, [], h, _, _, _ => by cases h
  | k :: ks, p :: ps, h, hk, h1, h2 => by
    rw [List.all_cons, Bool.and_eq_true] at hk
    simp only [PyData.showableAll, Bool.and_eq_true] at h1
    simp only [PyData.leavesShortAll, Bool.and_eq_true] at h2
    obtain ⟨i1, i2, i3, i4⟩ := kv_all (ks := ks) (ps := ps) (by simpa using h) hk.2 h1.2 h2.2
    cases k with
    | inr x => exact absurd hk.1 (by simp [keyI])
    | inl i =>
      have hi : i.natAbs.log2 < 1920 := by simpa [keyI] using hk.1
      have hl : (PyData.shown (.int i)).length ≤ 1921 := int_text_len_1921 hi
      rw [List.map_cons, List.zip_cons_cons]
      refine ⟨?_, ?_, ?_, ?_⟩
      · simp only [PyData.showableKv, pyKey, PyData.showable, hi, decide_true, h1.1, i1, Bool.and_self]
      · simp only [PyData.leavesShortKv, pyKey, PyData.leavesShort, hl, decide_true, h2.1, i2, Bool.and_self]
      · simp only [PyData.depthKv, pyKey, PyData.depth, i3, PyData.depthAll, Nat.zero_max]
      · simp only [PyData.bulkKv, pyKey, PyData.bulk, i4, PyData.bulkAll, List.length_cons]; omega
mutual
theorem pr_ok : ∀ d : D, okv true d = true → ∃ p, pyR d = some p ∧ PvOk p (dpv d) (bkv d)
  | .non, _ => ⟨.none, by simp [pyR], ⟨by simp [PyData.showable], by simp [PyData.leavesShort], by simp [PyData.depth, dpv], by simp [PyData.bulk, bkv]⟩⟩
  | .bl b, _ => ⟨.bool b, by simp [pyR], ⟨by simp [PyData.showable], by simp [PyData.leavesShort], by simp [PyData.depth, dpv], by simp [PyData.bulk, bkv]⟩⟩
  | .int i, h => ⟨.int i, by simp [pyR], ⟨by simpa [PyData.showable, okv] using h, by
      simp only [PyData.leavesShort, decide_eq_true_eq]
      exact int_text_len_1921 (by simpa [okv] using h), by simp [PyData.depth, dpv], by simp [PyData.bulk, bkv]⟩⟩
  | .str x, h => ⟨.str x, by simp [pyR], ⟨by simp [PyData.showable], by simp only [PyData.leavesShort]; exact str_short (by simpa only [okv] using h), by simp [PyData.depth, dpv], by simp [PyData.bulk, bkv]⟩⟩
  | .tup ds, h => by
    obtain ⟨ps, e, q⟩ := prs_ok ds (by simpa only [okv] using h)
    exact ⟨.tuple ps, by simp only [pyR, e, Option.map_some], ⟨by simpa only [PyData.showable] using q.sh, by simpa only [PyData.leavesShort] using q.lf, by simp only [PyData.depth, dpv, q.dp], by simp only [PyData.bulk, bkv, q.bk]⟩⟩
  | .dct ks ds, h => by
    simp only [okv, Bool.and_eq_true, decide_eq_true_eq] at h
    obtain ⟨ps, e, q⟩ := prs_ok ds h.2
    have hl : ks.length = ps.length := h.1.1.2.trans (pyRs_len e).symm
    obtain ⟨i1, i2, i3, i4⟩ := kv_all hl h.1.2 q.sh q.lf
    exact ⟨.dict ((ks.map pyKey).zip ps), by simp only [pyR, e, Option.map_some], ⟨by simpa only [PyData.showable] using i1, by simpa only [PyData.leavesShort] using i2, by simp only [PyData.depth, dpv, i3, q.dp], by simp only [PyData.bulk, bkv, i4, q.bk, pyRs_len e]⟩⟩
  | .lst _, h => by simp [okv] at h
  | .fls _, h => by simp [okv] at h
  | .byt _, h => by simp [okv] at h
  | .loc _, h => by simp [okv] at h
  | .exn _ _ _ _, h => by simp [okv] at h
  | .fnv _ _ _ _ _ _, h => by simp [okv] at h
theorem prs_ok : ∀ ds : List D, okvs true ds = true → ∃ ps, pyRs ds = some ps ∧ PvsOk ps (dpvs ds) (bkvs ds)
  | [], _ => ⟨[], by simp [pyRs], ⟨by simp [PyData.showableAll], by simp [PyData.leavesShortAll], by simp [PyData.depthAll, dpvs], by simp [PyData.bulkAll, bkvs]⟩⟩
  | d :: ds, h => by
    simp only [okvs, Bool.and_eq_true] at h
    obtain ⟨p, e1, q1⟩ := pr_ok d h.1
    obtain ⟨ps, e2, q2⟩ := prs_ok ds h.2
    exact ⟨p :: ps, by simp only [pyRs, e1, e2], ⟨by simp only [PyData.showableAll, q1.sh, q2.sh, Bool.and_self],
      by simp only [PyData.leavesShortAll, q1.lf, q2.lf, Bool.and_self], by simp only [PyData.depthAll, dpvs, q1.dp, q2.dp], by simp only [PyData.bulkAll, bkvs, q1.bk, q2.bk]⟩⟩
end
mutual
theorem okv_tf : ∀ d : D, okv true d = true → (∃ p, py d = some p) → okv false d = true
  | .non, _, _ => by simp [okv]
  | .bl _, _, _ => by simp [okv]
  | .int i, h, _ => by simpa only [okv] using h
  | .str x, h, _ => by simpa only [okv] using h
  | .tup ds, h, e => by
    simp only [okv] at h ⊢
    refine okvs_tf ds h ?_
    obtain ⟨p, e⟩ := e
    simp only [py, Option.map_eq_some_iff] at e
    obtain ⟨ps, e1, _⟩ := e
    exact ⟨ps, e1⟩
  | .dct _ _, _, e => by obtain ⟨p, e⟩ := e; simp [py] at e
  | .lst _, h, _ => by simp [okv] at h
  | .fls _, h, _ => by simp [okv] at h
  | .byt _, h, _ => by simp [okv] at h
  | .loc _, h, _ => by simp [okv] at h
  | .exn _ _ _ _, h, _ => by simp [okv] at h
  | .fnv _ _ _ _ _ _, h, _ => by simp [okv] at h
theorem okvs_tf : ∀ ds : List D, okvs true ds = true → (∃ p, pys ds = some p) → okvs false ds = true
  | [], _, _ => by simp [okvs]
  | d :: ds, h, e => by
    simp only [okvs, Bool.and_eq_true] at h ⊢
    obtain ⟨p, e⟩ := e
    simp only [pys] at e
    split at e
    · rename_i h1 h2
      exact ⟨okv_tf d h.1 ⟨_, h1⟩, okvs_tf ds h.2 ⟨_, h2⟩⟩
    · cases e
end
/-- may be shown -/
def fitv (d : D) : Prop := (okv false d = true ∨ okv true d = true) ∧ dpv d ≤ 60 ∧ bkv d ≤ 8000
theorem pyT_data {d : D} (h : okv false d = true ∨ okv true d = true) (st : Store) : pyT st d = py d := by
  cases d <;> first | rfl | (simp [pyT, lstOf, py]; done) | (simp [okv] at h)
theorem shown_fit {p : PyData} {dp bk : Nat} (q : PvOk p dp bk) (h : bk ≤ 8000) : p.shown.length ≤ sizeLine := by
  have := PyData.shown_le_bulk 1921 (by omega) p q.lf
  have h3 := q.bk
  rw [sizeLine_eq]
  have : (1921 + 2) * p.bulk ≤ (1921 + 2) * 8000 := Nat.mul_le_mul_left _ (by omega)
  omega
theorem repr_fitv {d : D} (h : fitv d) : ∃ x : Str, ∀ st, bltD .repr [d] st = .ok (.str x) st := by
  obtain ⟨h1, h2, h3⟩ := h
  have old : okv false d = true → ∃ x : Str, ∀ st, bltD .repr [d] st = .ok (.str x) st := fun hf => by
    obtain ⟨p, e, q, hd⟩ := pv_ok d hf
    refine ⟨p.shown, fun st => ?_⟩
    have er : reprD d st = some p.shown := by
      unfold reprD
      rw [pyT_data h1, e]
      simp only
      rw [if_pos ⟨q.sh, hd, by rw [q.dp]; exact h2, shown_fit q h3⟩]
    simp only [bltD, er]
  rcases h1 with hf | ht
  · exact old hf
  · cases e : py d with
    | some p => exact old (okv_tf d ht ⟨p, e⟩)
    | none =>
      obtain ⟨p, ep, q⟩ := pr_ok d ht
      refine ⟨p.shown, fun st => ?_⟩
      have er : reprD d st = some p.shown := by
        unfold reprD
        rw [pyT_data (.inr ht), e]
        simp only [ep]
        rw [if_pos ⟨q.sh, by rw [q.dp]; exact h2, shown_fit q h3⟩]
      simp only [bltD, er]
mutual
theorem pv_lay : ∀ (d : D) (p : PyData), okv false d = true → py d = some p → p.canLay0 = true
  | .non, _, _, e => by simp only [py, Option.some.injEq] at e; subst e; simp [PyData.canLay0]
  | .bl _, _, _, e => by simp only [py, Option.some.injEq] at e; subst e; simp [PyData.canLay0]
  | .int _, _, _, e => by simp only [py, Option.some.injEq] at e; subst e; simp [PyData.canLay0]
  | .str x, _, h, e => by simp only [py, Option.some.injEq] at e; subst e; simpa only [PyData.canLay0, okv] using h
  | .tup ds, _, h, e => by
    simp only [py, Option.map_eq_some_iff] at e
    obtain ⟨ps, e1, rfl⟩ := e
    simp only [PyData.canLay0]
    exact pvs_lay ds ps (by simpa only [okv] using h) e1
  | .lst ds, _, h, e => by
    simp only [py, Option.map_eq_some_iff] at e
    obtain ⟨ps, e1, rfl⟩ := e
    simp only [PyData.canLay0]
    exact pvs_lay ds ps (by simpa [okv] using h) e1
  | .fls _, _, h, _ => by simp [okv] at h
  | .byt _, _, h, _ => by simp [okv] at h
  | .loc _, _, h, _ => by simp [okv] at h
  | .exn _ _ _ _, _, h, _ => by simp [okv] at h
  | .fnv _ _ _ _ _ _, _, h, _ => by simp [okv] at h
  | .dct _ _, _, h, _ => by simp [okv] at h
theorem pvs_lay : ∀ (ds : List D) (ps : List PyData), okvs false ds = true → pys ds = some ps → PyData.canLayAll0 ps = true
  | [], _, _, e => by simp only [pys, Option.some.injEq] at e; subst e; simp [PyData.canLayAll0]
  | d :: ds, _, h, e => by
    simp only [okvs, Bool.and_eq_true] at h
    simp only [pys] at e
    split at e
    · rename_i p q h1 h2
      cases e
      simp only [PyData.canLayAll0, pv_lay d p h.1 h1, pvs_lay ds q h.2 h2, Bool.and_self]
    · cases e
end
theorem pv_shaped {d : D} (h : okv false d = true) (hd : dpv d ≤ 64) : ∃ p, py d = some p ∧ SeqAt.shaped p = true := by
  obtain ⟨p, e, q, _⟩ := pv_ok d h
  refine ⟨p, e, ?_⟩
  unfold SeqAt.shaped
  rw [pv_lay d p h e, q.dp, decide_eq_true hd]
  rfl
/-- a list against the empty one -/
theorem eq_nilLv {ds : List D} (st : Store) (hz : okvs false ds = true) (hd : dpvs ds ≤ 60) : cmpD .Eq (.lst ds) (.lst []) st = .ok (.bl ds.isEmpty) st := by
  obtain ⟨p, e1, s1⟩ := pv_shaped (d := .lst ds) (by simp [okv, hz]) (by simp only [dpv]; omega)
  have e1' := e1
  simp only [py, Option.map_eq_some_iff] at e1
  obtain ⟨ps, e, rfl⟩ := e1
  have p1 : pyT st (.lst ds) = some (.list ps) := by simp only [pyT, lstOf, e, Option.map_some]
  have p2 : pyT st (.lst []) = some (.list []) := by simp only [pyT, lstOf, pys, Option.map_some]
  have s2 : SeqAt.shaped (.list []) = true := by decide +kernel
  have ev : eqD (.lst ds) (.lst []) st = some (PyData.eqv (.list ps) (.list [])) := by
    show (match pyT st (.lst ds), pyT st (.lst []) with
      | some a, some b => if SeqAt.shaped a = true ∧ SeqAt.shaped b = true then some (PyData.eqv a b) else none
      | _, _ => none) = _
    rw [p1, p2]
    exact if_pos ⟨s1, s2⟩
  show (match eqD (.lst ds) (.lst []) st with
    | some b => Rz.ok (D.bl b) st
    | none => .bad) = _
  rw [ev]
  cases ds with
  | nil =>
    simp only [pys, Option.some.injEq] at e
    subst e
    simp [PyData.eqv, PyData.eqvAll]
  | cons d ds =>
    cases ps with
    | nil =>
      simp only [pys] at e
      split at e <;> cases e
    | cons p ps => simp [PyData.eqv, PyData.eqvAll]
/-- a list against itself -/
theorem ne_self {ds : List D} (st : Store) (hz : okvs false ds = true) (hd : dpvs ds ≤ 60) : cmpD .NotEq (.lst ds) (.lst ds) st = .ok (.bl false) st := by
  obtain ⟨p, e1, s1⟩ := pv_shaped (d := .lst ds) (by simp [okv, hz]) (by simp only [dpv]; omega)
  have hl := pv_lay _ _ (show okv false (.lst ds) = true by simp [okv, hz]) e1
  have p1 : pyT st (.lst ds) = some p := by
    simp only [py] at e1
    simp only [pyT, lstOf]
    exact e1
  have ev : eqD (.lst ds) (.lst ds) st = some (PyData.eqv p p) := by
    show (match pyT st (.lst ds), pyT st (.lst ds) with
      | some a, some b => if SeqAt.shaped a = true ∧ SeqAt.shaped b = true then some (PyData.eqv a b) else none
      | _, _ => none) = _
    rw [p1]
    exact if_pos ⟨s1, s1⟩
  show (match (eqD (.lst ds) (.lst ds) st).map (!·) with
    | some b => Rz.ok (D.bl b) st
    | none => .bad) = _
  rw [ev, SeqAt.eqv_refl p hl]
  rfl
end L2.G4

set_option maxHeartbeats 4000000
/-! MO: odd values, bent values. -/
namespace L2.G4
open PySem PySem.Spec PyProof.Rows

theorem okvs_app (b : Bool) : ∀ xs ys : List D, okvs b (xs ++ ys) = (okvs b xs && okvs b ys)
  | [], ys => by simp [okvs]
  | x :: xs, ys => by simp only [List.cons_append, okvs, okvs_app b xs ys, Bool.and_assoc]
theorem okzs_app : ∀ xs ys : List D, okzs (xs ++ ys) = (okzs xs && okzs ys)
  | [], ys => by simp [okzs]
  | x :: xs, ys => by simp only [List.cons_append, okzs, okzs_app xs ys, Bool.and_assoc]
theorem dpvs_app : ∀ xs ys : List D, dpvs (xs ++ ys) = max (dpvs xs) (dpvs ys)
  | [], ys => by simp [dpvs]
  | x :: xs, ys => by simp only [List.cons_append, dpvs, dpvs_app xs ys]; omega
theorem bkvs_app : ∀ xs ys : List D, bkvs (xs ++ ys) = bkvs xs + bkvs ys
  | [], ys => by simp [bkvs]
  | x :: xs, ys => by simp only [List.cons_append, bkvs, bkvs_app xs ys]; omega
theorem okvs_rev (b : Bool) : ∀ xs : List D, okvs b xs.reverse = okvs b xs
  | [] => rfl
  | x :: xs => by rw [List.reverse_cons, okvs_app, okvs_rev b xs]; simp [okvs, Bool.and_comm]
theorem dpvs_rev : ∀ xs : List D, dpvs xs.reverse = dpvs xs
  | [] => rfl
  | x :: xs => by rw [List.reverse_cons, dpvs_app, dpvs_rev xs]; simp [dpvs, Nat.max_comm]
theorem bkvs_rev : ∀ xs : List D, bkvs xs.reverse = bkvs xs
  | [] => rfl
  | x :: xs => by rw [List.reverse_cons, bkvs_app, bkvs_rev xs]; simp only [bkvs]; omega
/-- a list cut in two -/
structure Cut (b : Bool) (ds xs ys : List D) : Prop where
  ok : okvs b ds = (okvs b xs && okvs b ys)
  dp : dpvs ds = max (dpvs xs) (dpvs ys)
  bk : bkvs ds = bkvs xs + bkvs ys
theorem cut_at (b : Bool) (ds : List D) (i : Nat) : Cut b ds (ds.take i) (ds.drop i) :=
  ⟨by conv => lhs; rw [← List.take_append_drop i ds, okvs_app], by conv => lhs; rw [← List.take_append_drop i ds, dpvs_app], by conv => lhs; rw [← List.take_append_drop i ds, bkvs_app]⟩
theorem drop_one {ds : List D} {i : Nat} {x : D} (e : ds[i]? = some x) : ds.drop i = x :: ds.drop (i + 1) := by
  obtain ⟨h, e2⟩ := List.getElem?_eq_some_iff.mp e
  rw [List.drop_eq_getElem_cons h, e2]
mutual
/-- plain data: tuples of tuples, of ints that are not too great, bools, Nones -/
def bnd : D → Bool
  | .non => true
  | .bl _ => true
  | .int i => decide (i.natAbs.log2 < 1000)
  | .tup ds => bnds ds
  | _ => false
def bnds : List D → Bool
  | [] => true
  | d :: ds => bnd d && bnds ds
end
mutual
theorem bnd_ok : ∀ d : D, bnd d = true → okz d = true ∧ ∀ b, okv b d = true
  | .non, _ => by simp [okz, okv]
  | .bl _, _ => by simp [okz, okv]
  | .int i, h => by
    have h : i.natAbs.log2 < 1000 := by simpa [bnd] using h
    have : i.natAbs.log2 < 1920 := by omega
    simp [okz, okv, this]
  | .tup ds, h => by
    obtain ⟨h1, h2⟩ := bnds_ok ds (by simpa only [bnd] using h)
    simp only [okz, okv]
    exact ⟨h1, h2⟩
  | .str _, h => by simp [bnd] at h
  | .byt _, h => by simp [bnd] at h
  | .loc _, h => by simp [bnd] at h
  | .lst _, h => by simp [bnd] at h
  | .fls _, h => by simp [bnd] at h
  | .dct _ _, h => by simp [bnd] at h
  | .exn _ _ _ _, h => by simp [bnd] at h
  | .fnv _ _ _ _ _ _, h => by simp [bnd] at h
theorem bnds_ok : ∀ ds : List D, bnds ds = true → okzs ds = true ∧ ∀ b, okvs b ds = true
  | [], _ => by simp [okzs, okvs]
  | d :: ds, h => by
    simp only [bnds, Bool.and_eq_true] at h
    obtain ⟨h1, h2⟩ := bnd_ok d h.1
    obtain ⟨h3, h4⟩ := bnds_ok ds h.2
    simp only [okzs, okvs, h1, h2, h3, h4, Bool.and_self]
    exact ⟨trivial, fun _ => trivial⟩
end
theorem bnds_mem : ∀ {ds : List D} {i : Nat} {x : D}, bnds ds = true → ds[i]? = some x → bnd x = true
  | [], _, _, _, e => by simp at e
  | d :: ds, 0, _, h, e => by simp at e; subst e; simp only [bnds, Bool.and_eq_true] at h; exact h.1
  | d :: ds, i + 1, _, h, e => by simp only [bnds, Bool.and_eq_true] at h; exact bnds_mem (i := i) h.2 (by simpa using e)
theorem len_bk : ∀ ds : List D, ds.length ≤ bkvs ds
  | [] => Nat.le_refl _
  | d :: ds => by have := len_bk ds; simp only [List.length_cons, bkvs]; omega
theorem log_near {i j : Int} (h : i.natAbs.log2 < 1000) (hj : j.natAbs ≤ i.natAbs + 1) : j.natAbs.log2 < 1920 := by
  by_cases e : j.natAbs = 0
  · rw [e]; decide
  · refine (Nat.log2_lt e).mpr ?_
    have h1 : i.natAbs < 2 ^ 1000 := by
      by_cases e2 : i.natAbs = 0
      · rw [e2]; exact Nat.two_pow_pos _
      · exact (Nat.log2_lt e2).mp h
    have h2 : (2 : Nat) ^ 1000 + 1 < 2 ^ 1920 := by decide +kernel
    omega
theorem okzs_mem : ∀ {ds : List D} {i : Nat} {x : D}, okzs ds = true → ds[i]? = some x → okz x = true
  | [], _, _, _, e => by simp at e
  | d :: ds, 0, _, h, e => by simp at e; subst e; simp only [okzs, Bool.and_eq_true] at h; exact h.1
  | d :: ds, i + 1, _, h, e => by simp only [okzs, Bool.and_eq_true] at h; exact okzs_mem (i := i) h.2 (by simpa using e)
theorem okvs_mem {b : Bool} : ∀ {ds : List D} {i : Nat} {x : D}, okvs b ds = true → ds[i]? = some x → okv b x = true
  | [], _, _, _, e => by simp at e
  | d :: ds, 0, _, h, e => by simp at e; subst e; simp only [okvs, Bool.and_eq_true] at h; exact h.1
  | d :: ds, i + 1, _, h, e => by simp only [okvs, Bool.and_eq_true] at h; exact okvs_mem (i := i) h.2 (by simpa using e)
/-- data that may be shown, so deep and so great -/
def An (dp bk : Nat) (d : D) : Prop := (okv false d = true ∨ okv true d = true) ∧ dpv d ≤ dp ∧ bkv d ≤ bk
def isTup : D → Bool
  | .tup _ => true
  | _ => false
/-- a tuple holds no dict -/
def Fz (d : D) : Prop := isTup d = true → okv false d = true
theorem An.mono {dp bk dp' bk' : Nat} {d : D} (h : An dp bk d) (h1 : dp ≤ dp') (h2 : bk ≤ bk') : An dp' bk' d := ⟨h.1, Nat.le_trans h.2.1 h1, Nat.le_trans h.2.2 h2⟩
theorem atI_mem {ds : List D} {w : Int} (h0 : 0 ≤ w) (h1 : w < ds.length) {P : D → Prop} (h : ∀ d ∈ ds, P d) : ∃ d, L2.atI ds w = some d ∧ P d := by
  have hl : w.toNat < ds.length := by omega
  have := L2.atI_nat (xs := ds) (j := w.toNat) (v := ds[w.toNat]) (List.getElem?_eq_getElem hl)
  rw [show ((w.toNat : Nat) : Int) = w by omega] at this
  exact ⟨_, this, h _ (List.getElem_mem hl)⟩
theorem txt_ok {i : Int} (h : i.natAbs.log2 < 1920) (b : Bool) : okv b (.str (toString i)) = true ∧ bkv (.str (toString i)) ≤ 1921 := by
  constructor
  · simp only [okv]
    unfold PyData.strOk
    rw [← Array.all_toList, List.all_eq_true]
    intro c hc
    rw [decide_eq_true_eq]
    apply Classical.byContradiction
    intro hn
    refine int_text_free' c ⟨?_, ?_⟩ i hc
    · intro e; subst e; exact hn (by decide)
    · refine .inr ?_
      apply Classical.byContradiction
      intro q
      exact hn (Nat.lt_of_le_of_lt (show c ≤ 57 by omega) (by decide))
  · simp only [bkv]
    exact int_text_len_1921 h

theorem slc_takeN (ds : List D) (i : Nat) (st : Store) : slcD (.tup ds) none (some (i : Int)) st = .ok (.tup (ds.take i)) st := by
  have e : cutL ds none (some (i : Int)) = ds.take i := by
    unfold cutL
    rw [HT.sIx_nat ds.length ds.length i, HT.sIx_none, List.drop_zero, Nat.sub_zero, ← List.take_take, List.take_length]
  simp only [slcD, tupOf, e]
theorem slc_dropN (ds : List D) (i : Nat) (st : Store) : slcD (.tup ds) (some (i : Int)) none st = .ok (.tup (ds.drop i)) st := by
  have e : cutL ds (some (i : Int)) none = ds.drop i := by
    unfold cutL
    rw [HT.sIx_nat ds.length 0 i, HT.sIx_none]
    by_cases h : i ≤ ds.length
    · rw [Nat.min_eq_left h]
      exact List.take_of_length_le (by rw [List.length_drop]; exact Nat.le_refl _)
    · rw [Nat.min_eq_right (by omega), List.drop_length, List.drop_eq_nil_of_le (by omega), List.take_nil]
  simp only [slcD, tupOf, e]
theorem slc_dropN1 (ds : List D) (i : Nat) (st : Store) : slcD (.tup ds) (some ((i : Int) + 1)) none st = .ok (.tup (ds.drop (i + 1))) st := by
  have := slc_dropN ds (i + 1) st
  rwa [show (((i + 1 : Nat)) : Int) = (i : Int) + 1 by push_cast; rfl] at this
@[simp] theorem l_str (i : Int) (st : Store) : bltD .str [.int i] st = if i.natAbs.log2 < 1920 then .ok (.str (toString i)) st else .bad := rfl
@[simp] theorem l_listT (ds : List D) (st : Store) : bltD .list [.tup ds] st = .ok (.lst ds) st := rfl
@[simp] theorem l_listL (ds : List D) (st : Store) : bltD .list [.lst ds] st = .ok (.lst ds) st := rfl
theorem slc_last (ds : List D) (st : Store) : slcD (.tup ds) (some (-1)) none st = .ok (.tup (ds.drop (ds.length - 1))) st := by
  have e : cutL ds (some (-1)) none = ds.drop (ds.length - 1) := by
    unfold cutL
    rw [HT.sIx_none]
    have : HT.sIx ds.length 0 (some (-1)) = ds.length - 1 := by
      unfold HT.sIx
      simp
      omega
    rw [this]
    exact List.take_of_length_le (by rw [List.length_drop]; omega)
  simp only [slcD, tupOf, e]
theorem ne_nilT {ds : List D} (st : Store) (hz : okzs ds = true) (hd : dpzs ds ≤ 60) : cmpD .NotEq (.tup ds) (.tup []) st = .ok (.bl (!ds.isEmpty)) st := by
  have h := eq_nilT st hz hd
  unfold cmpD at h ⊢
  simp only at h ⊢
  cases e : eqD (.tup ds) (.tup []) st with
  | none => rw [e] at h; cases h
  | some b =>
    rw [e] at h
    simp only [Option.map_some]
    cases h
    rfl
mutual
theorem dpz_dpv : ∀ d : D, okz d = true → okv false d = true → dpz d = dpv d
  | .non, _, _ => by simp [dpz, dpv]
  | .bl _, _, _ => by simp [dpz, dpv]
  | .int _, _, _ => by simp [dpz, dpv]
  | .str _, h, _ => by simp [okz] at h
  | .byt _, h, _ => by simp [okz] at h
  | .loc _, h, _ => by simp [okz] at h
  | .dct _ _, h, _ => by simp [okz] at h
  | .exn _ _ _ _, h, _ => by simp [okz] at h
  | .fnv _ _ _ _ _ _, h, _ => by simp [okz] at h
  | .fls _, _, h => by simp [okv] at h
  | .tup ds, h, q => by simp only [dpz, dpv]; rw [dpzs_dpvs ds (by simpa only [okz] using h) (by simpa only [okv] using q)]
  | .lst ds, h, q => by simp only [dpz, dpv]; rw [dpzs_dpvs ds (by simpa only [okz] using h) (by simpa [okv] using q)]
theorem dpzs_dpvs : ∀ ds : List D, okzs ds = true → okvs false ds = true → dpzs ds = dpvs ds
  | [], _, _ => by simp [dpzs, dpvs]
  | d :: ds, h, q => by
    simp only [okzs, Bool.and_eq_true] at h
    simp only [okvs, Bool.and_eq_true] at q
    simp only [dpzs, dpvs]; rw [dpz_dpv d h.1 q.1, dpzs_dpvs ds h.2 q.2]
end
end L2.G4

set_option maxHeartbeats 4000000
/-! MP: the defs that draw odd and bent values. -/
namespace L2.G4
open PySem PySem.Spec PyProof.Rows

theorem dsp_00 (env : Env) (st : Store) : fDspD (fCon (.int 0)) (fCon (.int 0)) env st = .ok (.dct [.inl 0] [.int 0]) st := by
  rw [x_dspD]
  simp only [x_dsp1, x_con, Rz.bind_ok, d_dsp1]
  exact gcR_dic (by simp [blws, blw])
theorem pow_40 : ∃ A B : Int, intPow 10 40 = some A ∧ intPow 10 41 = some B ∧ A.natAbs.log2 < 1920 ∧ (1 - B).natAbs.log2 < 1920 := ⟨10 ^ 40, 10 ^ 41, by decide +kernel, by decide +kernel, by decide +kernel, by decide +kernel⟩
section
variable {T : Tab} {wf : Nat}
theorem odd_ok2 (L : T.lookup 13 = some s_u_law_draw) (h20 : T.lookup 20 = some s_u_law_odd) {k : Nat} {b : Int} {st : Store} (hs : Sv k b st) (hb : b + 1 ≤ 2 ^ 60) (n : Nat) :
    ∃ (d : D) (st' : Store), fnAt T csg wf (n + 2) 20 [.loc k] st = .ok d st' ∧ Up k st st' ∧ Sv k (b + 1) st' ∧ An 4 12 d ∧ Fz d := by
  rw [fnAt_of h20]
  obtain ⟨A, B, pA, pB, lA, lB⟩ := pow_40
  obtain ⟨w, o1, f1, S1, a0, a1⟩ := draw_ok (T := T) (wf := wf) L (many := 25) hs (by omega) (by omega) (by omega) n
  have hz18 : 18 ≤ sizeLine := by decide
  have hz25 : 25 ≤ sizeLine := by decide
  have hz7 : 7 ≤ sizeLine := by decide
  have hz2 : 2 ≤ sizeLine := by decide
  have hz1 : 1 ≤ sizeLine := by decide
  have hz0 : 0 ≤ sizeLine := by decide
  have hall : ∀ d ∈ [D.non, .bl true, .bl false, .int (-1), .int 0, .int 1, .int 8, .int A, .int (1 - B), .str "", .str "a", .str "0", .tup [], .tup [.int 0], .tup [.int 0, .int 0], .lst [], .lst [.int 0], .dct [] [],
      .tup [.non], .tup [.tup []], .tup [.tup [.int 0, .int 0]], .tup [.int 0, .tup [.tup [.int 0, .int 0]]], .tup [.int 1, .tup []], .tup [.int 9, .tup []], .dct [.inl 0] [.int 0]], An 4 12 d ∧ Fz d := by
    simp only [List.forall_mem_cons]
    refine ⟨?_, ?_, ?_, ?_, ?_, ?_, ?_, ⟨⟨.inl (by simpa [okv] using lA), by simp [dpv], by simp [bkv]⟩, fun q => by cases q⟩, ⟨⟨.inl (by simpa [okv] using lB), by simp [dpv], by simp [bkv]⟩, fun q => by cases q⟩, ?_, ?_, ?_, ?_, ?_, ?_, ?_, ?_, ?_, ?_, ?_, ?_, ?_, ?_, ?_, ?_, ?_⟩
    all_goals first
      | exact ⟨⟨.inl (by decide +kernel), by decide +kernel, by decide +kernel⟩, fun _ => by decide +kernel⟩
      | exact ⟨⟨.inr (by decide +kernel), by decide +kernel, by decide +kernel⟩, fun q => by cases q⟩
      | exact fun _ h => absurd h (by simp)
  obtain ⟨d, e, hd⟩ := atI_mem (w := w) a0 (by simpa using a1) hall
  refine ⟨d, st.set k o1, ?_, (Up.refl hs).set o1, S1, hd⟩
  simp [s_u_law_odd, c_u_law_odd, runFn, startE, -x_dspD, dsp_00, b_pow pA, b_pow pB, f1, hz18, hz25, hz7, hz2, hz1, hz0, e]
theorem odd_ok (L : T.lookup 13 = some s_u_law_draw) (h20 : T.lookup 20 = some s_u_law_odd) {k : Nat} {b : Int} {st : Store} (hs : Sv k b st) (hb : b + 1 ≤ 2 ^ 60) (n : Nat) :
    ∃ (d : D) (st' : Store), fnAt T csg wf (n + 2) 20 [.loc k] st = .ok d st' ∧ Up k st st' ∧ Sv k (b + 1) st' ∧ An 4 12 d := by
  obtain ⟨d, st', h1, h2, h3, h4, _⟩ := odd_ok2 (wf := wf) L h20 hs hb n
  exact ⟨d, st', h1, h2, h3, h4⟩
end
end L2.G4

set_option maxHeartbeats 4000000
/-! MQ: values with one part changed. -/
namespace L2.G4
open PySem PySem.Spec PyProof.Rows

@[simp] theorem y_ti (i : Int) (st : Store) : isiD "tuple" (.int i) st = .ok (.bl false) st := isi_of (U := "int") rfl (by decide +kernel)
@[simp] theorem y_tn (st : Store) : isiD "tuple" .non st = .ok (.bl false) st := isi_of (U := "NoneType") rfl (by decide +kernel)
@[simp] theorem y_tb (i : Bool) (st : Store) : isiD "tuple" (.bl i) st = .ok (.bl false) st := isi_of (U := "bool") rfl (by decide +kernel)
@[simp] theorem y_ts (i : Str) (st : Store) : isiD "tuple" (.str i) st = .ok (.bl false) st := isi_of (U := "str") rfl (by decide +kernel)
@[simp] theorem y_tl (ds : List D) (st : Store) : isiD "tuple" (.lst ds) st = .ok (.bl false) st := isi_of (U := "list") rfl (by decide +kernel)
@[simp] theorem y_td (ks : List Key) (ds : List D) (st : Store) : isiD "tuple" (.dct ks ds) st = .ok (.bl false) st := isi_of (U := "dict") rfl (by decide +kernel)
@[simp] theorem y_in (st : Store) : isiD "int" .non st = .ok (.bl false) st := isi_of (U := "NoneType") rfl (by decide +kernel)
@[simp] theorem y_ib (i : Bool) (st : Store) : isiD "int" (.bl i) st = .ok (.bl true) st := isi_of (U := "bool") rfl (by decide +kernel)
@[simp] theorem y_is (i : Str) (st : Store) : isiD "int" (.str i) st = .ok (.bl false) st := isi_of (U := "str") rfl (by decide +kernel)
@[simp] theorem y_it (ds : List D) (st : Store) : isiD "int" (.tup ds) st = .ok (.bl false) st := isi_of (U := "tuple") rfl (by decide +kernel)
@[simp] theorem y_il (ds : List D) (st : Store) : isiD "int" (.lst ds) st = .ok (.bl false) st := isi_of (U := "list") rfl (by decide +kernel)
@[simp] theorem y_id (ks : List Key) (ds : List D) (st : Store) : isiD "int" (.dct ks ds) st = .ok (.bl false) st := isi_of (U := "dict") rfl (by decide +kernel)
@[simp] theorem y_bb (i : Bool) (st : Store) : isiD "bool" (.bl i) st = .ok (.bl true) st := isi_of (U := "bool") rfl (by decide +kernel)
/-- data of the laws: no bytes, no object of the store, no list of the script -/
def dat : D → Bool
  | .byt _ => false
  | .fls _ => false
  | .loc _ => false
  | .exn _ _ _ _ => false
  | .fnv _ _ _ _ _ _ => false
  | _ => true
def isInt : D → Bool
  | .int _ => true
  | _ => false
theorem okv_dat {b : Bool} {d : D} (h : okv b d = true) : dat d = true := by
  cases d <;> first | rfl | (simp [okv] at h)
section
variable {T : Tab} {wf : Nat}
theorem whole_ok (h19 : T.lookup 19 = some s_u_law_whole) (d : D) (hd : dat d = true) (st : Store) (n : Nat) : fnAt T csg wf (n + 1) 19 [d] st = .ok (.bl (isInt d)) st := by
  rw [fnAt_of h19]
  cases d <;> first
    | (cases hd; done)
    | simp [s_u_law_whole, c_u_law_whole, runFn, startE, isInt]
def c_bent_1 : CE := .cons (.asg (.var 3) (.call 13 (.cons (.var 0) (.cons (.blt .len (.cons (.var 1) (.nil))) (.nil))))) (.cons (.ret (.bin .Add (.bin .Add (.slc (.var 1) (.nil) (.var 3)) (.tup (.cons (.call 21 (.cons (.var 0) (.cons (.idx (.var 1) (.var 3)) (.cons (.bin .Sub (.var 2) (.con (.int 1))) (.nil))))) (.nil)))) (.slc (.var 1) (.bin .Add (.var 3) (.con (.int 1))) (.nil)))) (.nil))
def c_bent_2 : CE := .cons (.ifs (.isi "tuple" (.var 1)) (.cons (.asg (.var 3) (.call 13 (.cons (.var 0) (.cons (.bin .Add (.blt .len (.cons (.var 1) (.nil))) (.con (.int 1))) (.nil))))) (.cons (.asg (.var 4) (.lst false (.cons (.blt .list (.cons (.var 1) (.nil))) (.cons (.bin .Add (.slc (.var 1) (.nil) (.var 3)) (.slc (.var 1) (.bin .Add (.var 3) (.con (.int 1))) (.nil))) (.cons (.bin .Add (.bin .Add (.slc (.var 1) (.nil) (.var 3)) (.tup (.cons (.con (.int 0)) (.nil)))) (.slc (.var 1) (.var 3) (.nil))) (.cons (.rev (.var 1)) (.nil))))))) (.cons (.ret (.idx (.bin .Add (.var 4) (.lst false (.cons (.bin .Add (.var 1) (.slc (.var 1) (.neg (.con (.int 1))) (.nil))) (.cons (.tup (.cons (.var 1) (.nil))) (.cons (.tup (.nil)) (.nil)))))) (.call 13 (.cons (.var 0) (.cons (.con (.int 7)) (.nil)))))) (.nil)))) (.nil)) (.cons (.ifs (.call 19 (.cons (.var 1) (.nil))) (.cons (.ret (.idx (.lst false (.cons (.bin .Add (.var 1) (.con (.int 1))) (.cons (.bin .Sub (.var 1) (.con (.int 1))) (.cons (.bin .Sub (.con (.int 0)) (.var 1)) (.cons (.blt .str (.cons (.var 1) (.nil))) (.cons (.cmp .Eq (.var 1) (.con (.int 1))) (.cons (.tup (.cons (.var 1) (.nil))) (.cons (.con .non) (.nil))))))))) (.call 13 (.cons (.var 0) (.cons (.con (.int 7)) (.nil)))))) (.nil)) (.nil)) (.cons (.ret (.call 20 (.cons (.var 0) (.nil)))) (.nil)))
theorem s_bent_eq : s_u_law_bent = ⟨3, 5, .cons (.ifs (.and (.isi "tuple" (.var 1)) (.and (.cmp .NotEq (.var 1) (.tup (.nil))) (.and (.cmp .Gt (.var 2) (.con (.int 0))) (.one (.cmp .Gt (.call 13 (.cons (.var 0) (.cons (.con (.int 4)) (.nil)))) (.con (.int 0))))))) c_bent_1 (.nil)) c_bent_2, false⟩ := rfl
mutual
/-- made of ints and tuples -/
def bni : D → Bool
  | .int _ => true
  | .tup ds => bnis ds
  | _ => false
def bnis : List D → Bool
  | [] => true
  | d :: ds => bni d && bnis ds
end
theorem bnis_mem : ∀ {ds : List D} {i : Nat} {x : D}, bnis ds = true → ds[i]? = some x → bni x = true
  | [], _, _, _, e => by simp at e
  | d :: ds, 0, _, h, e => by simp at e; subst e; simp only [bnis, Bool.and_eq_true] at h; exact h.1
  | d :: ds, i + 1, _, h, e => by simp only [bnis, Bool.and_eq_true] at h; exact bnis_mem (i := i) h.2 (by simpa using e)
theorem an_f {dp bk : Nat} {x : D} (h : okv false x = true) (h1 : dpv x ≤ dp) (h2 : bkv x ≤ bk) : An dp bk x ∧ okv false x = true := ⟨⟨.inl h, h1, h2⟩, h⟩
theorem bent_2 (L : T.lookup 13 = some s_u_law_draw) (h19 : T.lookup 19 = some s_u_law_whole) (h20 : T.lookup 20 = some s_u_law_odd) {k : Nat} {d : D} (hd : bnd d = true) (hbk : bkv d ≤ 2000) (hdp : dpv d ≤ 40) {b : Int} {st : Store} (hs : Sv k b st) (hb : b + 10 ≤ 2 ^ 60) (deep : D) (n : Nat) :
    ∃ (d' : D) (st' : Store), (den ⟨fnAt T csg wf (n + 2), csg, wf, (0, 0), lmAt T csg wf (n + 2)⟩ c_bent_2).s [some (.loc k), some d, some deep, none, none] st = .rt d' st' ∧ Up k st st' ∧ Sv k (b + 2) st' ∧ An (dpv d + 4) (2 * bkv d + 2000) d' ∧ (bni d = true → okv false d' = true) := by
  have hz7 : 7 ≤ sizeLine := by decide
  have hz4 : 4 ≤ sizeLine := by decide
  have hz3 : 3 ≤ sizeLine := by decide
  have hz1 : 1 ≤ sizeLine := by decide
  have hz0 : 0 ≤ sizeLine := by decide
  have hsl := sizeLine_eq
  have odd : (∃ e, isiD "tuple" d st = .ok (.bl e) st ∧ e = false) → isInt d = false → bni d = false → ∃ (d' : D) (st' : Store), (den ⟨fnAt T csg wf (n + 2), csg, wf, (0, 0), lmAt T csg wf (n + 2)⟩ c_bent_2).s [some (.loc k), some d, some deep, none, none] st = .rt d' st' ∧ Up k st st' ∧ Sv k (b + 2) st' ∧ An (dpv d + 4) (2 * bkv d + 2000) d' ∧ (bni d = true → okv false d' = true) := fun ⟨e, h1, h2⟩ h3 h4 => by
    subst h2
    obtain ⟨x, st1, f1, U1, S1, hx⟩ := odd_ok (T := T) (wf := wf) L h20 hs (by omega) n
    have w := whole_ok (wf := wf) h19 d (okv_dat ((bnd_ok d hd).2 true)) st (n + 1)
    rw [h3] at w
    exact ⟨x, st1, by simp [c_bent_2, h1, w, f1], U1, S1.mono (by omega), hx.mono (by omega) (by omega), fun q => absurd q (by rw [h4]; decide)⟩
  cases d with
  | non => exact odd ⟨_, by simp, rfl⟩ rfl rfl
  | bl c => exact odd ⟨_, by simp, rfl⟩ rfl rfl
  | int i =>
    have w := whole_ok (wf := wf) h19 (.int i) rfl st (n + 1)
    have hi : i.natAbs.log2 < 1000 := by simpa [bnd] using hd
    obtain ⟨v, o1, f1, S1, a0, a1⟩ := draw_ok (T := T) (wf := wf) L (many := 7) hs (by omega) (by omega) (by omega) (n + 1)
    have hl : i.natAbs.log2 < 1920 := by omega
    obtain ⟨X, hX, t1, t2⟩ : ∃ X : Str, (∀ st, bltD .str [.int i] st = .ok (.str X) st) ∧ okv false (.str X) = true ∧ bkv (.str X) ≤ 1921 := ⟨_, fun st => if_pos hl, (txt_ok hl false).1, (txt_ok hl false).2⟩
    have hall : ∀ x ∈ [D.int (i + 1), .int (i - 1), .int (-i), .str X, .bl (decide (i = 1)), .tup [.int i], .non], An (dpv (.int i) + 4) (2 * bkv (.int i) + 2000) x ∧ okv false x = true := by
      simp only [List.forall_mem_cons]
      refine ⟨an_f ?_ (by simp [dpv]) (by simp [bkv]), an_f ?_ (by simp [dpv]) (by simp [bkv]), an_f ?_ (by simp [dpv]) (by simp [bkv]), an_f t1 (by simp [dpv]) (by omega), an_f (by simp [okv]) (by simp [dpv]) (by simp [bkv]), an_f (by simp [okv, okvs, hl]) (by simp [dpv, dpvs]) (by simp [bkv, bkvs]), an_f (by simp [okv]) (by simp [dpv]) (by simp [bkv]), fun _ h => absurd h (by simp)⟩
      · simp only [okv, decide_eq_true_eq]; exact log_near hi (by omega)
      · simp only [okv, decide_eq_true_eq]; exact log_near hi (by omega)
      · simp only [okv, decide_eq_true_eq]; exact log_near hi (by omega)
    obtain ⟨x, e, hx⟩ := atI_mem (w := v) a0 (by simpa using a1) hall
    refine ⟨x, st.set k o1, ?_, (Up.refl hs).set o1, S1.mono (by omega), hx.1, fun _ => hx.2⟩
    simp [c_bent_2, w, isInt, f1, -l_str, hX, hz7, hz1, e]
  | tup ds =>
    have hds : bnds ds = true := by simpa only [bnd] using hd
    obtain ⟨q1, q2⟩ := bnds_ok ds hds
    have hlen := len_bk ds
    have hbk' : bkvs ds ≤ 2000 := by simpa only [bkv] using hbk
    obtain ⟨w, o1, f1, S1, a0, a1⟩ := draw_ok (T := T) (wf := wf) L (many := (ds.length : Int) + 1) hs (by omega) (by omega) (by omega) (n + 1)
    obtain ⟨v, o2, f2, S2, c0, c1⟩ := draw_ok (T := T) (wf := wf) L (many := 7) S1 (by omega) (by omega) (by omega) (n + 1)
    rw [List.set_set] at f2 S2
    obtain ⟨j, rfl⟩ : ∃ j : Nat, w = (j : Int) := ⟨w.toNat, by omega⟩
    have cj := cut_at false ds j
    have cj1 := cut_at false ds (j + 1)
    have cl := cut_at false ds (ds.length - 1)
    have k1 : min j ds.length + (ds.length - (j + 1)) ≤ sizeLine := by omega
    have k2 : min j ds.length + 1 ≤ sizeLine := by omega
    have k3 : min j ds.length + 1 + (ds.length - j) ≤ sizeLine := by omega
    have k4 : ds.length + (ds.length - (ds.length - 1)) ≤ sizeLine := by omega
    have hall : ∀ x ∈ [D.lst ds, .tup (ds.take j ++ ds.drop (j + 1)), .tup (ds.take j ++ .int 0 :: ds.drop j), .tup ds.reverse, .tup (ds ++ ds.drop (ds.length - 1)), .tup [.tup ds], .tup []], An (dpv (.tup ds) + 4) (2 * bkv (.tup ds) + 2000) x ∧ okv false x = true := by
      have ok0 := q2 false
      have e1 := cj.ok
      have e2 := cj1.ok
      have e3 := cl.ok
      rw [ok0] at e1 e2 e3
      have e1 := (Bool.and_eq_true _ _).mp e1.symm
      have e2 := (Bool.and_eq_true _ _).mp e2.symm
      have e3 := (Bool.and_eq_true _ _).mp e3.symm
      have d1 := cj.dp
      have d2 := cj1.dp
      have d3 := cl.dp
      have b1 := cj.bk
      have b2 := cj1.bk
      have b3 := cl.bk
      simp only [List.forall_mem_cons]
      refine ⟨an_f ?_ ?_ ?_, an_f ?_ ?_ ?_, an_f ?_ ?_ ?_, an_f ?_ ?_ ?_, an_f ?_ ?_ ?_, an_f ?_ ?_ ?_, an_f ?_ ?_ ?_, fun _ h => absurd h (by simp)⟩
      all_goals simp [okv, okvs, dpv, dpvs, bkv, bkvs, okvs_app, dpvs_app, bkvs_app, okvs_rev, dpvs_rev, bkvs_rev, ok0, e1.1, e1.2, e2.1, e2.2, e3.1, e3.2]
      all_goals omega
    obtain ⟨x, e, hx⟩ := atI_mem (w := v) c0 (by simpa using c1) hall
    refine ⟨x, st.set k o2, ?_, (Up.refl hs).set o2, S2.mono (by omega), hx.1, fun _ => hx.2⟩
    simp [c_bent_2, f1, f2, slc_takeN, slc_dropN, slc_dropN1, slc_last, hz7, hz4, hz3, hz1, hz0, k1, k2, k3, k4, e]
  | str _ => simp [bnd] at hd
  | byt _ => simp [bnd] at hd
  | loc _ => simp [bnd] at hd
  | lst _ => simp [bnd] at hd
  | fls _ => simp [bnd] at hd
  | dct _ _ => simp [bnd] at hd
  | exn _ _ _ _ => simp [bnd] at hd
  | fnv _ _ _ _ _ _ => simp [bnd] at hd
theorem bent_ok2 (L : T.lookup 13 = some s_u_law_draw) (h19 : T.lookup 19 = some s_u_law_whole) (h20 : T.lookup 20 = some s_u_law_odd) (h21 : T.lookup 21 = some s_u_law_bent) {k : Nat} :
    ∀ (deep : Nat) (d : D) (b : Int) (st : Store) (n : Nat), bnd d = true → dpv d ≤ 40 → bkv d ≤ 2000 → Sv k b st → b + 3 * deep + 10 ≤ 2 ^ 60 →
    ∃ (d' : D) (st' : Store), fnAt T csg wf (n + deep + 3) 21 [.loc k, d, .int (deep : Int)] st = .ok d' st' ∧ Up k st st' ∧ Sv k (b + 3 * deep + 4) st' ∧ An (dpv d + 4) (2 * bkv d + 2000) d' ∧ (bni d = true → okv false d' = true) := by
  intro deep
  induction deep with
  | zero =>
    intro d b st n hd hdp hbk hs hb
    rw [fnAt_of h21, s_bent_eq]
    obtain ⟨d', st', r1, U, S, A⟩ := bent_2 (wf := wf) L h19 h20 hd hbk hdp hs (by omega) (.int ((0 : Nat) : Int)) n
    refine ⟨d', st', ?_, U, S.mono (by omega), A⟩
    have fin := gcR_same false d' U.len
    have hz0 : 0 ≤ sizeLine := Nat.zero_le _
    cases d with
    | tup ds =>
      have hds : bnds ds = true := by simpa only [bnd] using hd
      obtain ⟨q1, q2⟩ := bnds_ok ds hds
      have ne := ne_nilT st q1 (by rw [dpzs_dpvs ds q1 (q2 false)]; simp only [dpv] at hdp; omega)
      by_cases he : ds.isEmpty = true
      · simp at r1 ⊢
        simp [runFn, startE, hz0, ne, he, r1, fin]
      · simp at r1 ⊢
        simp [runFn, startE, hz0, ne, he, r1, fin]
    | non => simp at r1 ⊢; simp [runFn, startE, r1, fin]
    | bl c => simp at r1 ⊢; simp [runFn, startE, r1, fin]
    | int i => simp at r1 ⊢; simp [runFn, startE, r1, fin]
    | str _ => simp [bnd] at hd
    | byt _ => simp [bnd] at hd
    | loc _ => simp [bnd] at hd
    | lst _ => simp [bnd] at hd
    | fls _ => simp [bnd] at hd
    | dct _ _ => simp [bnd] at hd
    | exn _ _ _ _ => simp [bnd] at hd
    | fnv _ _ _ _ _ _ => simp [bnd] at hd
  | succ m ih =>
    intro d b st n hd hdp hbk hs hb
    rw [fnAt_of h21, s_bent_eq]
    have el : n + (m + 1) + 2 = n + m + 3 := by omega
    rw [el]
    have hz0 : 0 ≤ sizeLine := Nat.zero_le _
    have hm1 : ((m + 1 : Nat) : Int) = (m : Int) + 1 := by push_cast; rfl
    rw [hm1]
    have hmp : (0 : Int) < (m : Int) + 1 := by omega
    cases d with
    | tup ds =>
      have hds : bnds ds = true := by simpa only [bnd] using hd
      obtain ⟨q1, q2⟩ := bnds_ok ds hds
      have ne := ne_nilT st q1 (by rw [dpzs_dpvs ds q1 (q2 false)]; simp only [dpv] at hdp; omega)
      by_cases he : ds = []
      · subst he
        obtain ⟨d', st', r1, U, S, A⟩ := bent_2 (wf := wf) L h19 h20 hd hbk hdp hs (by omega) (.int ((m : Int) + 1)) (n + m + 1)
        refine ⟨d', st', ?_, U, S.mono (by omega), A⟩
        have fin := gcR_same false d' U.len
        simp [runFn, startE, hz0, ne, r1, fin]
      · have he2 : ds.isEmpty = false := by cases ds with | nil => exact absurd rfl he | cons => rfl
        obtain ⟨v, o1, f1, S1, a0, a1⟩ := draw_ok (T := T) (wf := wf) L (many := 4) hs (by omega) (by omega) (by omega) (n + m + 2)
        by_cases hv : 0 < v
        · have hlen := len_bk ds
          have hbk' : bkvs ds ≤ 2000 := by simpa only [bkv] using hbk
          have hdp' : dpvs ds + 1 ≤ 40 := by simpa only [dpv] using hdp
          have hpos : 0 < ds.length := List.length_pos_iff.mpr he
          obtain ⟨w, o2, f2, S2, c0, c1⟩ := draw_ok (T := T) (wf := wf) L (many := (ds.length : Int)) S1 (by omega) (by omega) (by omega) (n + m + 2)
          rw [List.set_set] at f2 S2
          obtain ⟨j, rfl⟩ : ∃ j : Nat, w = (j : Int) := ⟨w.toNat, by omega⟩
          have hj : j < ds.length := by omega
          have ex : ds[j]? = some ds[j] := List.getElem?_eq_getElem hj
          have hx := bnds_mem hds ex
          have cj := cut_at false ds j
          have dj := drop_one ex
          have c1' := cj.ok
          have d1 := cj.dp
          have b1 := cj.bk
          rw [dj] at c1' d1 b1
          simp only [okvs, dpvs, bkvs] at c1' d1 b1
          generalize ds[j] = x at ex hx c1' d1 b1 dj
          obtain ⟨x', st', r1, U, S, A⟩ := ih x (b + 1 + 1) (st.set k o2) n hx (by omega) (by omega) S2 (by omega)
          have U2 : Up k st st' := ((Up.refl hs).set o2).trans U
          have at_ : L2.atI ds (j : Int) = some x := L2.atI_nat ex
          have k1 : min j ds.length + 1 ≤ sizeLine := by rw [sizeLine_eq]; omega
          have k2 : min j ds.length + 1 + (ds.length - (j + 1)) ≤ sizeLine := by rw [sizeLine_eq]; omega
          have hz1 : 1 ≤ sizeLine := by decide
          refine ⟨.tup (ds.take j ++ x' :: ds.drop (j + 1)), st', ?_, U2, S.mono (by push_cast; omega), ?_⟩
          · have fin := gcR_same false (.tup (ds.take j ++ x' :: ds.drop (j + 1))) U2.len
            simp [runFn, startE, hz0, ne, he2, hmp, f1, hv, c_bent_1, f2, slc_takeN, slc_dropN1, at_, r1, k1, k2, hz1, fin]
          · have ok0 := q2 false
            have ok1 := q2 true
            have ct := cut_at true ds j
            have ct' := ct.ok
            rw [dj] at ct'
            simp only [okvs] at ct'
            rw [ok1] at ct'
            rw [ok0] at c1'
            obtain ⟨u1, u2, u3⟩ : okvs false (ds.take j) = true ∧ okv false x = true ∧ okvs false (ds.drop (j + 1)) = true := by
              have := c1'.symm
              simp only [Bool.and_eq_true] at this
              exact ⟨this.1, this.2.1, this.2.2⟩
            obtain ⟨w1, w2, w3⟩ : okvs true (ds.take j) = true ∧ okv true x = true ∧ okvs true (ds.drop (j + 1)) = true := by
              have := ct'.symm
              simp only [Bool.and_eq_true] at this
              exact ⟨this.1, this.2.1, this.2.2⟩
            obtain ⟨⟨A1, A2, A3⟩, A4⟩ := A
            refine ⟨⟨?_, ?_, ?_⟩, fun q => ?_⟩
            · rcases A1 with A1 | A1
              · exact .inl (by simp only [okv, okvs_app, okvs, u1, u3, A1, Bool.and_self])
              · exact .inr (by simp only [okv, okvs_app, okvs, w1, w3, A1, Bool.and_self])
            · simp only [dpv, dpvs_app, dpvs]; omega
            · simp only [bkv, bkvs_app, bkvs]; omega
            · simp only [okv, okvs_app, okvs, u1, u3, A4 (bnis_mem (by simpa only [bni] using q) ex), Bool.and_self]
        · obtain ⟨d', st', r1, U, S, A⟩ := bent_2 (wf := wf) L h19 h20 hd hbk hdp S1 (by omega) (.int ((m : Int) + 1)) (n + m + 1)
          have U2 : Up k st st' := ((Up.refl hs).set o1).trans U
          refine ⟨d', st', ?_, U2, S.mono (by push_cast; omega), A⟩
          have fin := gcR_same false d' U2.len
          simp [runFn, startE, hz0, ne, he2, hmp, f1, hv, r1, fin]
    | str _ => simp [bnd] at hd
    | byt _ => simp [bnd] at hd
    | loc _ => simp [bnd] at hd
    | lst _ => simp [bnd] at hd
    | fls _ => simp [bnd] at hd
    | dct _ _ => simp [bnd] at hd
    | exn _ _ _ _ => simp [bnd] at hd
    | fnv _ _ _ _ _ _ => simp [bnd] at hd
    | _ =>
      obtain ⟨d', st', r1, U, S, A⟩ := bent_2 (wf := wf) L h19 h20 hd hbk hdp hs (by omega) (.int ((m : Int) + 1)) (n + m + 1)
      refine ⟨d', st', ?_, U, S.mono (by push_cast; omega), A⟩
      have fin := gcR_same false d' U.len
      simp [runFn, startE, r1, fin]
theorem bent_ok (L : T.lookup 13 = some s_u_law_draw) (h19 : T.lookup 19 = some s_u_law_whole) (h20 : T.lookup 20 = some s_u_law_odd) (h21 : T.lookup 21 = some s_u_law_bent) {k : Nat} (deep : Nat) (d : D) (b : Int) (st : Store) (n : Nat) (h1 : bnd d = true) (h2 : dpv d ≤ 40) (h3 : bkv d ≤ 2000) (h4 : Sv k b st) (h5 : b + 3 * deep + 10 ≤ 2 ^ 60) :
    ∃ (d' : D) (st' : Store), fnAt T csg wf (n + deep + 3) 21 [.loc k, d, .int (deep : Int)] st = .ok d' st' ∧ Up k st st' ∧ Sv k (b + 3 * deep + 4) st' ∧ An (dpv d + 4) (2 * bkv d + 2000) d' := by
  obtain ⟨d', st', q1, q2, q3, q4, _⟩ := bent_ok2 (wf := wf) L h19 h20 h21 deep d b st n h1 h2 h3 h4 h5
  exact ⟨d', st', q1, q2, q3, q4⟩
end
end L2.G4

set_option maxHeartbeats 4000000
/-! MR: a law's own right sides, at partial times; loops by hand. -/
namespace L2.G4
open PySem PySem.Spec PyProof.Rows

theorem forGo_nil0 (t : Tg) (body : Fs) (env : Env) (st : Store) : forGo t none body [] env st = .nx env st := by
  unfold forGo
  rw [if_pos (show gdOk none st from trivial)]
theorem forGo_cons0 (t : Tg) (body : Fs) (d : D) (ds : List D) (env : Env) (st : Store) : forGo t none body (d :: ds) env st = match t d env with
    | some env1 => (body env1 st).turn (forGo t none body ds)
    | none => .bad := by
  conv => lhs; unfold forGo
  rw [if_pos (show gdOk none st from trivial)]
  all_goals rfl
theorem rng1_nat {a : Fe D} {env : Env} {st : Store} {n : Nat} (e : a env st = .ok (.int (n : Int)) st) (h : inR (n : Int)) : fRng1 a env st = .ok (rngL 0 n, none) st := by
  unfold fRng1
  rw [e, Rz.bind_ok]
  exact if_pos h
theorem rng1_of {a : Fe D} {env : Env} {st : Store} {m : Int} (e : a env st = .ok (.int m) st) (h : inR m) : fRng1 a env st = .ok (rngL 0 m.toNat, none) st := by
  unfold fRng1
  rw [e, Rz.bind_ok]
  exact if_pos h
theorem rngL_len (lo : Int) (n : Nat) : (rngL lo n).length = n := by unfold rngL; simp
theorem rngL_get {n i : Nat} {d : D} (e : (rngL 0 n)[i]? = some d) : i < n ∧ d = .int (i : Int) := by
  unfold rngL at e
  have hi : i < n := by
    have := (List.getElem?_eq_some_iff.mp e).1
    simpa using this
  rw [List.getElem?_map, List.getElem?_range hi] at e
  cases e
  exact ⟨hi, by simp⟩
theorem mxF_mem (l : List Int) (n : Int) : mxF l n = n ∨ mxF l n ∈ l := by
  unfold mxF
  induction l generalizing n with
  | nil => exact .inl rfl
  | cons a l ih =>
    rw [List.foldl_cons]
    rcases ih (if a > n then a else n) with h | h
    · rw [h]
      by_cases q : a > n
      · rw [if_pos q]; exact .inr List.mem_cons_self
      · rw [if_neg q]; exact .inl rfl
    · exact .inr (List.mem_cons_of_mem _ h)
theorem mxF_le (l : List Int) (n : Int) : n ≤ mxF l n ∧ ∀ a ∈ l, a ≤ mxF l n := by
  unfold mxF
  induction l generalizing n with
  | nil => exact ⟨Int.le_refl _, fun _ h => by cases h⟩
  | cons a l ih =>
    rw [List.foldl_cons]
    obtain ⟨h1, h2⟩ := ih (if a > n then a else n)
    refine ⟨?_, fun b hb => ?_⟩
    · by_cases q : a > n
      · rw [if_pos q] at h1 ⊢; omega
      · rw [if_neg q] at h1 ⊢; exact h1
    · rcases List.mem_cons.mp hb with rfl | hb
      · by_cases q : b > n
        · rw [if_pos q] at h1 ⊢; exact h1
        · rw [if_neg q] at h1 ⊢; omega
      · exact h2 b hb
/-- a time or none -/
def encO : Option Int → D
  | some i => .int i
  | none => .non
/-- the sums of a rule's right side at partial times -/
def psums (r : Int × List (Int × Int)) (tm : Nat → Option Int) : List Int := r.2.filterMap fun p => (tm p.1.toNat).map (· + p.2)
def psideD (r : Int × List (Int × Int)) (tm : Nat → Option Int) : D := mxD (psums r tm)
def pholds (r : Int × List (Int × Int)) (tm : Nat → Option Int) : Bool := match tm r.1.toNat with
  | none => true
  | some t => match psideD r tm with
    | .int s => decide (t ≤ s)
    | _ => false
/-- what lies at a subscript -/
def AtO (x : D) (st : Store) (size : Int) (tm : Nat → Option Int) : Prop := ∀ v : Int, 0 ≤ v → v < size → idxD x (.int v) st = .ok (encO (tm v.toNat)) st
theorem psideD_cases (r : Int × List (Int × Int)) (tm : Nat → Option Int) : psideD r tm = .non ∨ ∃ s, psideD r tm = .int s := by
  unfold psideD mxD
  cases psums r tm with
  | nil => exact .inl rfl
  | cons n l => exact .inr ⟨_, rfl⟩
@[simp] theorem n_bl (i : Bool) : isNonD (.bl i) = false := rfl
section
variable {T : Tab} {wf : Nat}
theorem pside_ok (h55 : T.lookup 55 = some s_u_law_side) {size : Int} {r : Int × List (Int × Int)} (h : Tm size r.2) (hc : r.2.length ≤ 1000) {x : D} {st : Store} {tm : Nat → Option Int} (ha : AtO x st size tm) (n : Nat) :
    fnAt T csg wf (n + 1) 55 [encR r, x] st = .ok (psideD r tm) st := by
  rw [fnAt_of h55]
  have l1 := lcGo_pure (t := gdTupN 2 (gdCons (gdName 3) (gdCons (gdName 4) gdNil))) (g := none) (c := fTru (fBin (cmpD .IsNot) (fBin idxD (fVar 1) (fVar 3)) (fCon .non))) (el := fBin (binD .Add) (fBin idxD (fVar 1) (fVar 3)) (fVar 4)) (env := [some (encR r), some x, none, none, none]) (st := st)
    encP (fun p => (tm p.1.toNat).isSome) (fun p => D.int ((tm p.1.toNat).getD 0 + p.2)) trivial r.2 [] (by simpa using Nat.le_trans hc (by decide)) (fun p hp => by
      have hp' := h.2 p hp
      have a := ha p.1 hp'.1.1 hp'.1.2
      cases e : tm p.1.toNat with
      | none =>
        rw [e] at a
        exact ⟨_, rfl, by simp [a, encO], fun z => by cases z⟩
      | some i =>
        rw [e] at a
        exact ⟨_, rfl, by simp [a, encO], fun _ => by simp [a, encO]⟩)
  rw [List.nil_append] at l1
  have es : (r.2.filter fun p => (tm p.1.toNat).isSome).map (fun p => D.int ((tm p.1.toNat).getD 0 + p.2)) = (psums r tm).map D.int := by
    unfold psums
    generalize r.2 = ts
    induction ts with
    | nil => rfl
    | cons p ts ih =>
      cases e : tm p.1.toNat with
      | none => rw [List.filter_cons_of_neg (by simp [e]), List.filterMap_cons_none (by simp [e]), ih]
      | some i => rw [List.filter_cons_of_pos (by simp [e]), List.filterMap_cons_some (by simp [e]; rfl), List.map_cons, List.map_cons, ih, e]; rfl
  rw [es] at l1
  have m1 := mmd_ints (psums r tm) st
  unfold psideD
  generalize psums r tm = sm at l1 m1 ⊢
  unfold encR encT at l1 ⊢
  simp [s_u_law_side, c_u_law_side, runFn, startE, l1, m1]
theorem pholds_ok (h55 : T.lookup 55 = some s_u_law_side) (h56 : T.lookup 56 = some s_u_law_holds) {size : Int} {r : Int × List (Int × Int)} (h : Rl size r) (hc : r.2.length ≤ 1000) {x : D} {st : Store} {tm : Nat → Option Int} (ha : AtO x st size tm) (n : Nat) :
    fnAt T csg wf (n + 2) 56 [encR r, x] st = .ok (.bl (pholds r tm)) st := by
  rw [fnAt_of h56]
  have q := pside_ok (wf := wf) h55 h.2 hc ha n
  have a := ha r.1 h.1.1 h.1.2
  unfold pholds
  cases e0 : tm r.1.toNat with
  | none =>
    rw [e0] at a
    unfold encR at q ⊢
    simp [s_u_law_holds, c_u_law_holds, runFn, startE, a, encO]
  | some t =>
    rw [e0] at a
    rcases psideD_cases r tm with e | ⟨s, e⟩
    · rw [e] at q ⊢
      unfold encR at q ⊢
      simp [s_u_law_holds, c_u_law_holds, runFn, startE, q, a, encO]
    · rw [e] at q ⊢
      unfold encR at q ⊢
      simp [s_u_law_holds, c_u_law_holds, runFn, startE, q, a, encO]
end
end L2.G4

set_option maxHeartbeats 4000000
/-! MS: a law's own latest times, by lowering. -/
namespace L2.G4
open PySem PySem.Spec PyProof.Rows

def encS (size : Int) (rs : List (Int × List (Int × Int))) : D := .tup [.int size, .tup (rs.map encR)]
@[simp] theorem l_max1 (ds : List D) (st : Store) : bltD .max [.lst ds] st = mmD true (.lst ds) none st := rfl
theorem mm_int (mx : Bool) (n : Int) (l : List Int) (st : Store) : mmD mx (.lst ((n :: l).map D.int)) none st = .ok (.int (if mx = true then mxF l n else mnF l n)) st := by
  have e := allOf_map intOf D.int (fun i : Int => i) (fun i => rfl) (n :: l)
  rw [List.map_id'] at e
  unfold mmD
  simp only [seqOf, tupOf, lstOf, Option.or, e]
theorem mm_intT (mx : Bool) (n : Int) (l : List Int) (st : Store) : mmD mx (.tup ((n :: l).map D.int)) none st = .ok (.int (if mx = true then mxF l n else mnF l n)) st := by
  have e := allOf_map intOf D.int (fun i : Int => i) (fun i => rfl) (n :: l)
  rw [List.map_id'] at e
  unfold mmD
  simp only [seqOf, tupOf, lstOf, Option.or, e]
def absI (i : Int) : Int := if i < 0 then -i else i
def spanStep (f : Int) (r : Int × List (Int × Int)) : Int := mxF (r.2.map fun p => absI p.2 + 1) f
def spanOf (rs : List (Int × List (Int × Int))) : Int := rs.foldl spanStep 1
theorem span_le {size : Int} {c : Nat} {rs : List (Int × List (Int × Int))} (h : ∀ r ∈ rs, Rc size c r) : 1 ≤ spanOf rs ∧ spanOf rs ≤ 61 := by
  have key : ∀ (rs : List (Int × List (Int × Int))) (f : Int), (∀ r ∈ rs, Rc size c r) → 1 ≤ f → f ≤ 61 → 1 ≤ rs.foldl spanStep f ∧ rs.foldl spanStep f ≤ 61 := by
    intro rs
    induction rs with
    | nil => exact fun f _ h1 h2 => ⟨h1, h2⟩
    | cons r rs ih =>
      intro f hr h1 h2
      rw [List.foldl_cons]
      refine ih _ (fun q hq => hr q (List.mem_cons_of_mem _ hq)) ?_ ?_
      · exact Int.le_trans h1 (mxF_le _ _).1
      · unfold spanStep
        rcases mxF_mem (r.2.map fun p => absI p.2 + 1) f with q | q
        · rw [q]; exact h2
        · obtain ⟨p, hp, e⟩ := List.mem_map.mp q
          rw [← e]
          have := (hr r List.mem_cons_self).1.2.2 p hp
          unfold absI
          split <;> omega
  exact key rs 1 h (by omega) (by omega)
theorem whGo_to {c : Fe Bool} {body : Fs} {I : Nat → Env → Store → Prop} {R : Env → Store → Prop}
    (step : ∀ m env st, I m env st → (∃ st1, c env st = .ok false st1 ∧ R env st1) ∨ ∃ st1 e s, c env st = .ok true st1 ∧ body env st1 = .nx e s ∧ ∃ m', m' < m ∧ I m' e s) :
    ∀ (w m : Nat) (env : Env) (st : Store), m < w → I m env st → ∃ e s, whGo c body w env st = .nx e s ∧ R e s
  | 0, _, _, _, h, _ => absurd h (Nat.not_lt_zero _)
  | w + 1, m, env, st, hw, h => by
    rcases step m env st h with ⟨st1, h1, h2⟩ | ⟨st1, e, s, h1, h2, m', hm, h3⟩
    · exact ⟨env, st1, by simp only [whGo, h1, Fl.ofRz_ok, Bool.false_eq_true, if_false], h2⟩
    · obtain ⟨e', s', h4, h5⟩ := whGo_to step w m' e s (by omega) h3
      exact ⟨e', s', by simp only [whGo, h1, Fl.ofRz_ok, if_true, h2, Fl.turn_nx]; exact h4, h5⟩
section
variable {T : Tab} {wf : Nat}
def c_span_body : CE := .cons (.asg (.var 1) (.blt .max (.cons (.bin .Add (.lst false (.cons (.var 1) (.nil))) (.lc false (.var 3) (.tup (.cons (.var 4) (.cons (.var 5) (.nil)))) (.nil) (.bin .Add (.blt .abs (.cons (.var 5) (.nil))) (.con (.int 1))) [("other", 4), ("delay", 5)])) (.nil)))) (.nil)
theorem s_span_eq : s_u_law_span = ⟨1, 6, .cons (.asg (.var 1) (.con (.int 1))) (.cons (.for_ (.idx (.var 0) (.con (.int 1))) (.tup (.cons (.var 2) (.cons (.var 3) (.nil)))) c_span_body) (.cons (.ret (.var 1)) (.nil))), false⟩ := rfl
theorem span_ok (h184 : T.lookup 184 = some s_u_law_span) {size : Int} {c : Nat} (hc : c ≤ 1000) {rs : List (Int × List (Int × Int))} (h : ∀ r ∈ rs, Rc size c r) (st : Store) (n : Nat) : fnAt T csg wf (n + 1) 184 [encS size rs] st = .ok (.int (spanOf rs)) st := by
  rw [fnAt_of h184, s_span_eq]
  have hz1 : 1 ≤ sizeLine := by decide
  obtain ⟨e, s, f1, rfl, v2, v3, rfl⟩ := forGo_by (t := gdTupN 2 (gdCons (gdName 2) (gdCons (gdName 3) gdNil))) (g := none) (body := (den ⟨fnAt T csg wf n, csg, wf, (0, 0), lmAt T csg wf n⟩ c_span_body).s)
    (I := fun i env s => s = st ∧ ∃ v2 v3, env = [some (encS size rs), some (.int ((rs.take i).foldl spanStep 1)), v2, v3, none, none])
    (rs.map encR) 0 [some (encS size rs), some (.int 1), none, none, none, none] st (fun _ _ _ _ => trivial)
    (fun i d env s e ⟨es, v2, v3, ee⟩ => by
      subst es ee
      rw [List.getElem?_map] at e
      obtain ⟨r, er, rfl⟩ := Option.map_eq_some_iff.mp e
      have hr := h r (List.mem_of_getElem? er)
      have hl : r.2.length ≤ 1000 := Nat.le_trans hr.2 hc
      have l1 : ∀ a1 a2 a3 , lcGo (gdTupN 2 (gdCons (gdName 4) (gdCons (gdName 5) gdNil))) none fYes (fBin (binD .Add) (fArgs (bltD .abs) (fCons (fVar 5) fNil)) (fCon (.int 1))) [some (encS size rs), a1, a2, a3, none, none] (r.2.map encP) [] s = .ok (r.2.map fun p => D.int (absI p.2 + 1)) s := fun a1 a2 a3 =>
        lcGo_map (t := gdTupN 2 (gdCons (gdName 4) (gdCons (gdName 5) gdNil))) (g := none) (c := fYes) (el := fBin (binD .Add) (fArgs (bltD .abs) (fCons (fVar 5) fNil)) (fCon (.int 1))) (env := [some (encS size rs), a1, a2, a3, none, none]) (st := s) encP (fun p => D.int (absI p.2 + 1)) trivial r.2 (Nat.le_trans hl (by decide)) (fun p hp => ⟨_, rfl, rfl, by simp [absI]⟩)
      rw [Nat.zero_add]
      refine ⟨[some (encS size rs), some (.int ((rs.take i).foldl spanStep 1)), some (.int r.1), some (encT r.2), none, none], [some (encS size rs), some (.int ((rs.take (i + 1)).foldl spanStep 1)), some (.int r.1), some (encT r.2), none, none], s, ?_, ?_, rfl, _, _, rfl⟩
      · simp [encR]
      · rw [List.take_succ, er, Option.toList_some, List.foldl_append, List.foldl_cons, List.foldl_nil]
        generalize (rs.take i).foldl spanStep 1 = f at *
        have m1 := mm_int true f (r.2.map fun p => absI p.2 + 1) s
        rw [List.map_cons, List.map_map] at m1
        have el : ((r.2.map (D.int ∘ fun p => absI p.2 + 1))) = r.2.map fun p => D.int (absI p.2 + 1) := rfl
        rw [el] at m1
        have k1 : 1 + (r.2.map fun p => D.int (absI p.2 + 1)).length ≤ sizeLine := by rw [List.length_map, sizeLine_eq]; omega
        unfold spanStep
        unfold encT
        generalize (r.2.map fun p => D.int (absI p.2 + 1)) = B at l1 m1 k1
        simp [c_span_body, l1, hz1, k1, m1])
    ⟨rfl, none, none, rfl⟩
  rw [Nat.zero_add, List.length_map, List.take_length] at f1
  unfold encS spanOf at *
  simp [runFn, startE, f1]
end
end L2.G4

set_option maxHeartbeats 4000000
/-! MT: a law's own latest times: the loop. -/
namespace L2.G4
open PySem PySem.Spec PyProof.Rows

def tget (tm : List (Option Int)) : Nat → Option Int := fun i => tm.getD i none
/-- what a rule that does not hold makes of times -/
def lowRow (floor : Int) (tm : List (Option Int)) (r : Int × List (Int × Int)) : List (Option Int) := tm.set r.1.toNat (match psideD r (tget tm) with
  | .int s => if floor ≤ s then some s else none
  | _ => none)
/-- times that come about by lowering -/
inductive Lw (floor : Int) (rs : List (Int × List (Int × Int))) (tm0 : List (Option Int)) : List (Option Int) → Prop
  | refl : Lw floor rs tm0 tm0
  | step {tm : List (Option Int)} {r : Int × List (Int × Int)} : Lw floor rs tm0 tm → r ∈ rs → pholds r (tget tm) = false → Lw floor rs tm0 (lowRow floor tm r)
theorem lowRow_len (floor : Int) (tm : List (Option Int)) (r : Int × List (Int × Int)) : (lowRow floor tm r).length = tm.length := List.length_set
theorem Lw.len {floor : Int} {rs : List (Int × List (Int × Int))} {tm0 tm : List (Option Int)} (h : Lw floor rs tm0 tm) : tm.length = tm0.length := by
  induction h with
  | refl => rfl
  | step _ _ _ ih => rw [lowRow_len, ih]
def mu1 (floor : Int) : Option Int → Nat
  | none => 0
  | some t => (t - floor).toNat + 1
def mu (floor : Int) (tm : List (Option Int)) : Nat := (tm.map (mu1 floor)).sum
theorem mu_set (floor : Int) : ∀ (tm : List (Option Int)) (i : Nat) (x y : Option Int), tm[i]? = some x → mu1 floor y < mu1 floor x → mu floor (tm.set i y) < mu floor tm
  | [], _, _, _, e, _ => by simp at e
  | t :: tm, 0, x, y, e, h => by
    simp at e; subst e
    simp only [List.set_cons_zero, mu, List.map_cons, List.sum_cons]
    omega
  | t :: tm, i + 1, x, y, e, h => by
    have := mu_set floor tm i x y (by simpa using e) h
    simp only [List.set_cons_succ, mu, List.map_cons, List.sum_cons] at this ⊢
    omega
theorem mu_low {floor : Int} {tm : List (Option Int)} {r : Int × List (Int × Int)} (hr : r.1.toNat < tm.length) (h : pholds r (tget tm) = false) : mu floor (lowRow floor tm r) < mu floor tm := by
  unfold pholds at h
  have eg : tm[r.1.toNat]? = some (tget tm r.1.toNat) := by
    unfold tget
    rw [List.getD_eq_getElem?_getD, List.getElem?_eq_getElem hr]; rfl
  cases e : tget tm r.1.toNat with
  | none => rw [e] at h; cases h
  | some t =>
    rw [e] at h eg
    refine mu_set floor tm _ _ _ eg ?_
    rcases psideD_cases r (tget tm) with q | ⟨s, q⟩
    · rw [q]
      exact Nat.succ_pos _
    · rw [q] at h ⊢
      have hs : ¬ t ≤ s := by simpa using h
      simp only
      by_cases hf : floor ≤ s
      · rw [if_pos hf]
        simp only [mu1]
        omega
      · rw [if_neg hf]
        exact Nat.succ_pos _
theorem encO_at {tm : List (Option Int)} {L : Nat} {s : Store} {size : Int} (e : s[L]? = some (.lst (tm.map encO))) (hl : (tm.length : Int) = size) : AtO (.loc L) s size (tget tm) := by
  intro v h0 h1
  have hv : v.toNat < tm.length := by omega
  have a : L2.atI (tm.map encO) v = some (encO (tget tm v.toNat)) := by
    have := L2.atI_nat (xs := tm.map encO) (j := v.toNat) (v := encO (tget tm v.toNat)) (by
      rw [List.getElem?_map, List.getElem?_eq_getElem hv]
      unfold tget
      rw [List.getD_eq_getElem?_getD, List.getElem?_eq_getElem hv]; rfl)
    rwa [show ((v.toNat : Nat) : Int) = v by omega] at this
  rw [i_loc _ e, a]
theorem encO_atT {tm : List (Option Int)} {s : Store} {size : Int} (hl : (tm.length : Int) = size) : AtO (.tup (tm.map encO)) s size (tget tm) := by
  intro v h0 h1
  have hv : v.toNat < tm.length := by omega
  have a : L2.atI (tm.map encO) v = some (encO (tget tm v.toNat)) := by
    have := L2.atI_nat (xs := tm.map encO) (j := v.toNat) (v := encO (tget tm v.toNat)) (by
      rw [List.getElem?_map, List.getElem?_eq_getElem hv]
      unfold tget
      rw [List.getD_eq_getElem?_getD, List.getElem?_eq_getElem hv]; rfl)
    rwa [show ((v.toNat : Nat) : Int) = v by omega] at this
  rw [i_tup, a]
theorem blws_encO (n : Nat) : ∀ tm : List (Option Int), blws n (tm.map encO) = true
  | [] => rfl
  | none :: tm => by simp only [List.map_cons, blws, encO, blw, blws_encO n tm, Bool.and_self]
  | some _ :: tm => by simp only [List.map_cons, blws, encO, blw, blws_encO n tm, Bool.and_self]
theorem tup_loc {st : Store} {k : Nat} {ds : List D} (h : st[k]? = some (.lst ds)) : bltD .tuple [.loc k] st = .ok (.tup ds) st := by
  simp only [bltD, tupOf, lstOf, h]
theorem ixN_of {m : Nat} {v : Int} (h0 : 0 ≤ v) (h1 : v < m) : L2.ixN m v = some v.toNat := by
  unfold L2.ixN
  rw [if_pos h0, if_pos h1]
section
variable {T : Tab} {wf : Nat}
def c_lat_row : CE := .cons (.asg (.var 7) (.idx (.var 4) (.idx (.var 6) (.con (.int 0))))) (.cons (.ifs (.and (.cmp .IsNot (.var 7) (.con .non)) (.one (.not (.call 56 (.cons (.var 6) (.cons (.var 4) (.nil))))))) (.cons (.asg (.var 8) (.call 55 (.cons (.var 6) (.cons (.var 4) (.nil))))) (.cons (.sto (.var 4) (.idx (.var 6) (.con (.int 0))) (.ife (.and (.cmp .IsNot (.var 8) (.con .non)) (.one (.cmp .GtE (.var 8) (.var 3)))) (.var 8) (.con .non))) (.cons (.asg (.var 5) (.con (.bl false))) (.nil)))) (.nil)) (.nil))
def c_lat_wh : CE := .cons (.asg (.var 5) (.con (.bl true))) (.cons (.for_ (.idx (.var 0) (.con (.int 1))) (.var 6) c_lat_row) (.nil))
theorem s_lat_eq : s_u_law_latest = ⟨2, 9, .cons (.asg (.var 2) (.idx (.var 0) (.con (.int 0)))) (.cons (.asg (.var 3) (.bin .Sub (.blt .min (.cons (.var 1) (.nil))) (.bin .Mult (.bin .Sub (.var 2) (.con (.int 1))) (.call 184 (.cons (.var 0) (.nil)))))) (.cons (.par 4 5 (.cons (.lof (.cons (.var 1) (.nil))) (.cons (.con (.bl false)) (.nil)))) (.cons (.while_ (.not (.var 5)) c_lat_wh) (.cons (.ret (.blt .tuple (.cons (.var 4) (.nil)))) (.nil))))), false⟩ := rfl
theorem lat_row (h55 : T.lookup 55 = some s_u_law_side) (h56 : T.lookup 56 = some s_u_law_holds) {size fl : Int} {r : Int × List (Int × Int)} (hr : Rl size r) (hc : r.2.length ≤ 1000) {L : Nat} {s : Store} {tm : List (Option Int)} (e : s[L]? = some (.lst (tm.map encO))) (hl : (tm.length : Int) = size)
    (g l : D) (still : Bool) (v7 v8 : Option D) (n : Nat) :
    ∃ v7' v8', (den ⟨fnAt T csg wf (n + 2), csg, wf, (0, 0), lmAt T csg wf (n + 2)⟩ c_lat_row).s [some g, some l, some (.int size), some (.int fl), some (.loc L), some (.bl still), some (encR r), v7, v8] s =
      .nx [some g, some l, some (.int size), some (.int fl), some (.loc L), some (.bl (still && pholds r (tget tm))), some (encR r), v7', v8'] (if pholds r (tget tm) = true then s else s.set L (.lst ((lowRow fl tm r).map encO))) := by
  have at_ := encO_at e hl
  have a := at_ r.1 hr.1.1 hr.1.2
  have q1 := pside_ok (wf := wf) h55 hr.2 hc at_ (n + 1)
  have q2 := pholds_ok (wf := wf) h55 h56 hr hc at_ n
  have hset : ∀ v, setD (.loc L) (.int r.1) v s = some (s.set L (.lst ((tm.map encO).set r.1.toNat v))) := fun v => by
    rw [set_loc _ e, ixN_of hr.1.1 (by rw [List.length_map]; have := hr.1.2; omega)]
    rfl
  unfold encR at q1 q2 ⊢
  cases e0 : tget tm r.1.toNat with
  | none =>
    have hp : pholds r (tget tm) = true := by unfold pholds; rw [e0]
    rw [e0] at a
    rw [hp]
    exact ⟨some .non, v8, by simp [c_lat_row, a, encO]⟩
  | some t =>
    rw [e0] at a
    cases hp : pholds r (tget tm) with
    | true =>
      rw [hp] at q2
      exact ⟨some (.int t), v8, by simp [c_lat_row, a, encO, q2]⟩
    | false =>
      rw [hp] at q2
      unfold lowRow
      rcases psideD_cases r (tget tm) with q | ⟨x, q⟩
      · rw [q] at q1 ⊢
        refine ⟨some (.int t), some .non, ?_⟩
        simp [c_lat_row, a, encO, q2, q1, hset]
      · rw [q] at q1 ⊢
        refine ⟨some (.int t), some (.int x), ?_⟩
        by_cases hf : fl ≤ x
        · simp [c_lat_row, a, encO, q2, q1, hset, hf]
        · simp [c_lat_row, a, encO, q2, q1, hset, hf]
end
end L2.G4

set_option maxHeartbeats 4000000
/-! MU: a law's own latest times: what they are. -/
namespace L2.G4
open PySem PySem.Spec PyProof.Rows

def minI : List Int → Int
  | [] => 0
  | n :: l => mnF l n
theorem mnF_le (l : List Int) (n : Int) : mnF l n ≤ n ∧ ∀ a ∈ l, mnF l n ≤ a := by
  unfold mnF
  induction l generalizing n with
  | nil => exact ⟨Int.le_refl _, fun _ h => by cases h⟩
  | cons a l ih =>
    rw [List.foldl_cons]
    obtain ⟨h1, h2⟩ := ih (if a < n then a else n)
    refine ⟨?_, fun b hb => ?_⟩
    · by_cases q : a < n
      · rw [if_pos q] at h1 ⊢; omega
      · rw [if_neg q] at h1 ⊢; exact h1
    · rcases List.mem_cons.mp hb with rfl | hb
      · by_cases q : b < n
        · rw [if_pos q] at h1 ⊢; exact h1
        · rw [if_neg q] at h1 ⊢; omega
      · exact h2 b hb
theorem mnF_mem (l : List Int) (n : Int) : mnF l n = n ∨ mnF l n ∈ l := by
  unfold mnF
  induction l generalizing n with
  | nil => exact .inl rfl
  | cons a l ih =>
    rw [List.foldl_cons]
    rcases ih (if a < n then a else n) with h | h
    · rw [h]
      by_cases q : a < n
      · rw [if_pos q]; exact .inr List.mem_cons_self
      · rw [if_neg q]; exact .inl rfl
    · exact .inr (List.mem_cons_of_mem _ h)
theorem minI_mem {ns : List Int} (h : ns ≠ []) : minI ns ∈ ns := by
  cases ns with
  | nil => exact absurd rfl h
  | cons n l =>
    rcases mnF_mem l n with q | q
    · rw [minI, q]; exact List.mem_cons_self
    · exact List.mem_cons_of_mem _ q
@[simp] theorem l_min1 (ds : List D) (st : Store) : bltD .min [.tup ds] st = mmD false (.tup ds) none st := rfl
theorem min_ok {ns : List Int} (h : ns ≠ []) (st : Store) : mmD false (.tup (ns.map D.int)) none st = .ok (.int (minI ns)) st := by
  cases ns with
  | nil => exact absurd rfl h
  | cons n l =>
    rw [mm_intT]
    rfl
section
variable {T : Tab} {wf : Nat}
theorem lat_pass (h55 : T.lookup 55 = some s_u_law_side) (h56 : T.lookup 56 = some s_u_law_holds) {size fl : Int} {c : Nat} (hc : c ≤ 1000) {rs : List (Int × List (Int × Int))} (h : ∀ r ∈ rs, Rc size c r) {L : Nat} {s : Store} {tm0 : List (Option Int)} (e : s[L]? = some (.lst (tm0.map encO))) (hl : (tm0.length : Int) = size)
    (g l : D) (v6 v7 v8 : Option D) (n : Nat) :
    ∃ tm still v6' v7' v8', forGo (gdName 6) none (den ⟨fnAt T csg wf (n + 2), csg, wf, (0, 0), lmAt T csg wf (n + 2)⟩ c_lat_row).s (rs.map encR) [some g, some l, some (.int size), some (.int fl), some (.loc L), some (.bl true), v6, v7, v8] s =
      .nx [some g, some l, some (.int size), some (.int fl), some (.loc L), some (.bl still), v6', v7', v8'] (s.set L (.lst (tm.map encO))) ∧ Lw fl rs tm0 tm ∧ (still = true → tm = tm0 ∧ ∀ r ∈ rs, pholds r (tget tm0) = true) ∧ (still = false → mu fl tm < mu fl tm0) := by
  have hL : L < s.length := (List.getElem?_eq_some_iff.mp e).1
  obtain ⟨e2, s2, f1, tm, still, a6, a7, a8, rfl, rfl, i1, i2, i3, i4⟩ := forGo_by (t := gdName 6) (g := none) (body := (den ⟨fnAt T csg wf (n + 2), csg, wf, (0, 0), lmAt T csg wf (n + 2)⟩ c_lat_row).s)
    (I := fun i env s' => ∃ tm still v6 v7 v8, env = [some g, some l, some (.int size), some (.int fl), some (.loc L), some (.bl still), v6, v7, v8] ∧ s' = s.set L (.lst (tm.map encO)) ∧ Lw fl rs tm0 tm ∧ mu fl tm ≤ mu fl tm0 ∧ (still = true → tm = tm0 ∧ ∀ r ∈ rs.take i, pholds r (tget tm0) = true) ∧ (still = false → mu fl tm < mu fl tm0))
    (rs.map encR) 0 [some g, some l, some (.int size), some (.int fl), some (.loc L), some (.bl true), v6, v7, v8] s (fun _ _ _ _ => trivial)
    (fun i d env s' ed ⟨tm, still, a6, a7, a8, ee, es, j1, j2, j3, j4⟩ => by
      subst ee es
      rw [List.getElem?_map] at ed
      obtain ⟨r, er, rfl⟩ := Option.map_eq_some_iff.mp ed
      have hm := List.mem_of_getElem? er
      have hr := h r hm
      have e' : (s.set L (O.lst (tm.map encO)))[L]? = some (.lst (tm.map encO)) := List.getElem?_set_self hL
      have hl' : (tm.length : Int) = size := by rw [j1.len]; exact hl
      obtain ⟨b7, b8, q⟩ := lat_row (wf := wf) h55 h56 (fl := fl) hr.1 (Nat.le_trans hr.2 hc) e' hl' g l still a7 a8 n
      rw [Nat.zero_add] at j3 ⊢
      refine ⟨_, _, _, rfl, q, ?_⟩
      cases hp : pholds r (tget tm) with
      | true =>
        rw [if_pos rfl]
        refine ⟨tm, still, _, b7, b8, by rw [Bool.and_true], rfl, j1, j2, fun hs => ?_, j4⟩
        obtain ⟨k1, k2⟩ := j3 hs
        refine ⟨k1, fun x hx => ?_⟩
        rw [List.take_succ, er, Option.toList_some, List.mem_append, List.mem_singleton] at hx
        rcases hx with hx | rfl
        · exact k2 x hx
        · rw [← k1]; exact hp
      | false =>
        rw [if_neg Bool.false_ne_true, List.set_set]
        have ml := mu_low (floor := fl) (tm := tm) (r := r) (by have := hr.1.1; omega) hp
        exact ⟨lowRow fl tm r, false, _, b7, b8, by rw [Bool.and_false], rfl, .step j1 hm hp, by omega, (fun z => by cases z), fun _ => by omega⟩)
    ⟨tm0, true, v6, v7, v8, rfl, (set_id e).symm, .refl, Nat.le_refl _, fun _ => ⟨rfl, fun _ hx => by simp at hx⟩, fun z => by cases z⟩
  rw [Nat.zero_add, List.length_map, List.take_length] at i3
  exact ⟨tm, still, a6, a7, a8, f1, i1, i3, i4⟩
def floorOf (size : Int) (rs : List (Int × List (Int × Int))) (lims : List Int) : Int := minI lims - (size - 1) * spanOf rs
theorem latest_ok (h55 : T.lookup 55 = some s_u_law_side) (h56 : T.lookup 56 = some s_u_law_holds) (h184 : T.lookup 184 = some s_u_law_span) (h185 : T.lookup 185 = some s_u_law_latest) {size : Int} {c : Nat} (hc : c ≤ 1000) {rs : List (Int × List (Int × Int))} (h : ∀ r ∈ rs, Rc size c r)
    {lims : List Int} (hl : (lims.length : Int) = size) (hs0 : 0 < size) (hs1 : size ≤ 8) (st : Store) (hw : mu (floorOf size rs lims) (lims.map some) + 1 < wf) (n : Nat) :
    ∃ tm, fnAt T csg wf (n + 3) 185 [encS size rs, encM lims] st = .ok (.tup (tm.map encO)) st ∧ Lw (floorOf size rs lims) rs (lims.map some) tm ∧ ∀ r ∈ rs, pholds r (tget tm) = true := by
  rw [fnAt_of h185, s_lat_eq]
  have hne : lims ≠ [] := fun z => by subst z; simp at hl; omega
  have sp := span_ok (wf := wf) h184 hc h st (n + 1)
  obtain ⟨sp0, sp1⟩ := span_le h
  have mB : mulB (size - 1) (spanOf rs) := mulB_of (n := 20) (m := 20) (by omega) (by omega) (by omega) (by omega) (by omega)
  have m1 := min_ok hne st
  have hfl : minI lims - (size - 1) * spanOf rs = floorOf size rs lims := rfl
  generalize floorOf size rs lims = fl at hw hfl
  have el : (lims.map D.int) = (lims.map some).map encO := by rw [List.map_map]; rfl
  have hl0 : ((lims.map some).length : Int) = size := by rw [List.length_map]; exact hl
  generalize ht0 : lims.map some = tm0 at hw el hl0
  have g0 : ∀ o : O, (st ++ [o])[st.length]? = some o := fun o => by rw [List.getElem?_append_right (Nat.le_refl _), Nat.sub_self]; rfl
  obtain ⟨e2, s2, f1, tm, b6, b7, b8, rfl, rfl, i1, i2⟩ := whGo_to (c := fTru (fNotV (fVar 5))) (body := (den ⟨fnAt T csg wf (n + 2), csg, wf, (0, 0), lmAt T csg wf (n + 2)⟩ c_lat_wh).s)
    (I := fun m env s => ∃ tm still v6 v7 v8, env = [some (encS size rs), some (encM lims), some (.int size), some (.int fl), some (.loc st.length), some (.bl still), v6, v7, v8] ∧ s = st ++ [.lst (tm.map encO)] ∧ Lw fl rs tm0 tm ∧ (still = true → ∀ r ∈ rs, pholds r (tget tm) = true) ∧ m = (if still = true then 0 else mu fl tm + 1))
    (R := fun env s => ∃ tm v6 v7 v8, env = [some (encS size rs), some (encM lims), some (.int size), some (.int fl), some (.loc st.length), some (.bl true), v6, v7, v8] ∧ s = st ++ [.lst (tm.map encO)] ∧ Lw fl rs tm0 tm ∧ ∀ r ∈ rs, pholds r (tget tm) = true)
    (fun m env s ⟨tm, still, v6, v7, v8, ee, es, j1, j2, j3⟩ => by
      subst ee es
      cases still with
      | true => exact .inl ⟨_, by simp, tm, v6, v7, v8, rfl, rfl, j1, j2 rfl⟩
      | false =>
        have hl' : (tm.length : Int) = size := by rw [j1.len]; exact hl0
        obtain ⟨tm', still', v6', v7', v8', q1, q2, q3, q4⟩ := lat_pass (wf := wf) h55 h56 (fl := fl) hc h (g0 (.lst (tm.map encO))) hl' (encS size rs) (encM lims) v6 v7 v8 n
        have j3 : m = mu fl tm + 1 := j3
        have ltr : Lw fl rs tm0 tm' := by
          clear q1 q3 q4
          induction q2 with
          | refl => exact j1
          | step _ a b ih => exact .step ih a b
        have sx : (st ++ [O.lst (tm.map encO)]).set st.length (.lst (tm'.map encO)) = st ++ [.lst (tm'.map encO)] := by
          rw [List.set_append_right _ _ (Nat.le_refl _), Nat.sub_self]; rfl
        rw [sx] at q1
        refine .inr ⟨_, _, _, by simp; rfl, ?_, if still' = true then 0 else mu fl tm' + 1, ?_, tm', still', v6', v7', v8', rfl, rfl, ltr, fun z => ?_, rfl⟩
        · unfold encS at q1 ⊢
          simp [c_lat_wh, q1]
        · cases still' with
          | true => rw [if_pos rfl]; omega
          | false => rw [if_neg Bool.false_ne_true]; have := q4 rfl; omega
        · obtain ⟨z1, z2⟩ := q3 z
          rw [z1]
          exact z2)
    wf (mu fl tm0 + 1) [some (encS size rs), some (encM lims), some (.int size), some (.int fl), some (.loc st.length), some (.bl false), none, none, none] (st ++ [.lst (tm0.map encO)]) hw
    ⟨tm0, false, none, none, none, rfl, rfl, .refl, (fun z => by cases z), rfl⟩
  refine ⟨tm, ?_, i1, i2⟩
  have fin : gcR false st (.ok (.tup (tm.map encO)) (st ++ [.lst (tm.map encO)])) = .ok (.tup (tm.map encO)) st := gcR_drop (st1 := st) false rfl (by simp only [blw]; exact blws_encO _ _) (fun i o hi e => .inl e)
  have tl := tup_loc (g0 (.lst (tm.map encO)))
  unfold encM at f1 ⊢
  unfold encS at f1 sp ⊢
  rw [← el] at f1
  simp [runFn, startE, m1, sp, b_mul, mB, hfl, f1, tl, fin]
end
end L2.G4

set_option maxHeartbeats 4000000
/-! MV: times of any kind, solutions, drawn times. -/
namespace L2.G4
open PySem PySem.Spec PyProof.Rows

mutual
theorem bkz_bkv : ∀ d : D, okz d = true → okv false d = true → bkz d = bkv d
  | .non, _, _ => by simp [bkz, bkv]
  | .bl _, _, _ => by simp [bkz, bkv]
  | .int _, _, _ => by simp [bkz, bkv]
  | .str _, h, _ => by simp [okz] at h
  | .byt _, h, _ => by simp [okz] at h
  | .loc _, h, _ => by simp [okz] at h
  | .dct _ _, h, _ => by simp [okz] at h
  | .exn _ _ _ _, h, _ => by simp [okz] at h
  | .fnv _ _ _ _ _ _, h, _ => by simp [okz] at h
  | .fls _, _, h => by simp [okv] at h
  | .tup ds, h, q => by simp only [bkz, bkv]; rw [bkzs_bkvs ds (by simpa only [okz] using h) (by simpa only [okv] using q)]
  | .lst ds, h, q => by simp only [bkz, bkv]; rw [bkzs_bkvs ds (by simpa only [okz] using h) (by simpa [okv] using q)]
theorem bkzs_bkvs : ∀ ds : List D, okzs ds = true → okvs false ds = true → bkzs ds = bkvs ds
  | [], _, _ => by simp [bkzs, bkvs]
  | d :: ds, h, q => by
    simp only [okzs, Bool.and_eq_true] at h
    simp only [okvs, Bool.and_eq_true] at q
    simp only [bkzs, bkvs]; rw [bkz_bkv d h.1 q.1, bkzs_bkvs ds h.2 q.2]
end
theorem bnd_int {i : Int} (h0 : -1000 ≤ i) (h1 : i ≤ 1000) : bnd (.int i) = true := by
  simp only [bnd, decide_eq_true_eq]
  by_cases e : i.natAbs = 0
  · rw [e]; decide
  · exact (Nat.log2_lt e).mpr (Nat.lt_of_le_of_lt (show i.natAbs ≤ 2 ^ 10 by omega) (Nat.pow_lt_pow_right (by omega) (by omega)))
theorem bnds_all {A : Type} (f : A → D) : ∀ xs : List A, (∀ x ∈ xs, bnd (f x) = true) → bnds (xs.map f) = true
  | [], _ => rfl
  | x :: xs, h => by
    simp only [List.map_cons, bnds, h x List.mem_cons_self, bnds_all f xs fun y hy => h y (List.mem_cons_of_mem _ hy), Bool.and_self]
theorem bnd_encR {size : Int} {c : Nat} (hs : size ≤ 1000) {r : Int × List (Int × Int)} (h : Rc size c r) : bnd (encR r) = true := by
  have q : bnds (r.2.map encP) = true := bnds_all encP r.2 fun p hp => by
    have := h.1.2.2 p hp
    simp only [encP, bnd, bnds, Bool.and_true]
    have a := bnd_int (i := p.1) (by omega) (by omega)
    have b := bnd_int (i := p.2) (by omega) (by omega)
    simp only [bnd] at a b
    rw [a, b]; rfl
  have a := bnd_int (i := r.1) (by have := h.1.1; omega) (by have := h.1.1; omega)
  simp only [encR, encT, bnd, bnds, Bool.and_true] at a ⊢
  rw [a, q]; rfl
theorem bnd_encS {size : Int} {c : Nat} (hs0 : 0 ≤ size) (hs : size ≤ 1000) {rs : List (Int × List (Int × Int))} (h : ∀ r ∈ rs, Rc size c r) : bnd (encS size rs) = true := by
  have q := bnds_all encR rs fun r hr => bnd_encR hs (h r hr)
  have a := bnd_int (i := size) (by omega) (by omega)
  simp only [encS, bnd, bnds, Bool.and_true] at a ⊢
  rw [a, q]; rfl
theorem encS_sz {size : Int} (hs0 : 0 ≤ size) (hs : size ≤ 1000) {rs : List (Int × List (Int × Int))} (h : ∀ r ∈ rs, Rc size 20 r) (hl : rs.length ≤ 24) : dpv (encS size rs) ≤ 5 ∧ bkv (encS size rs) ≤ 1600 := by
  obtain ⟨z, v⟩ := bnd_ok _ (bnd_encS hs0 hs h)
  obtain ⟨i1, i2, i3⟩ := encRs_ok hs h
  rw [← dpz_dpv _ z (v false), ← bkz_bkv _ z (v false)]
  simp only [encS, dpz, dpzs, bkz, bkzs]
  have : (3 * 20 + 3) * rs.length ≤ 63 * 24 := Nat.mul_le_mul (by omega) (by omega)
  omega
/-- a rule set and something else may be shown -/
theorem fit_with {size : Int} (hs0 : 0 ≤ size) (hs : size ≤ 1000) {rs : List (Int × List (Int × Int))} (h : ∀ r ∈ rs, Rc size 20 r) (hl : rs.length ≤ 24) {dp bk : Nat} {d : D} (hd : An dp bk d) (h1 : dp ≤ 58) (h2 : bk ≤ 6000) : fitv (.tup [encS size rs, d]) := by
  obtain ⟨z, v⟩ := bnd_ok _ (bnd_encS hs0 hs h)
  obtain ⟨e1, e2⟩ := encS_sz hs0 hs h hl
  obtain ⟨a1, a2, a3⟩ := hd
  refine ⟨?_, ?_, ?_⟩
  · rcases a1 with a1 | a1
    · exact .inl (by simp only [okv, okvs, v, a1, Bool.and_self])
    · exact .inr (by simp only [okv, okvs, v, a1, Bool.and_self])
  · simp only [dpv, dpvs]; omega
  · simp only [bkv, bkvs]; omega
theorem okvs_dat {b : Bool} : ∀ {ds : List D}, okvs b ds = true → ∀ x ∈ ds, dat x = true
  | [], _, _, h => by cases h
  | d :: ds, h, x, hx => by
    simp only [okvs, Bool.and_eq_true] at h
    rcases List.mem_cons.mp hx with rfl | hx
    · exact okv_dat h.1
    · exact okvs_dat h.2 x hx
/-- a value of the laws, its parts too -/
def datT : D → Prop
  | .tup ds => ∀ x ∈ ds, dat x = true
  | _ => True
theorem An.dat {dp bk : Nat} {d : D} (h : An dp bk d) : G4.dat d = true ∧ datT d := by
  rcases h.1 with q | q
  · refine ⟨okv_dat q, ?_⟩
    cases d <;> first | exact trivial | exact okvs_dat (by simpa only [okv] using q)
  · refine ⟨okv_dat q, ?_⟩
    cases d <;> first | exact trivial | exact okvs_dat (by simpa only [okv] using q)
/-- times of a size -/
def isTm (size : Int) : D → Bool
  | .tup ds => decide ((ds.length : Int) = size) && ds.all isInt
  | _ => false
theorem isTm_ints {size : Int} {d : D} (h : isTm size d = true) : ∃ tm : List Int, d = encM tm ∧ (tm.length : Int) = size := by
  cases d with
  | tup ds =>
    simp only [isTm, Bool.and_eq_true, decide_eq_true_eq] at h
    have go : ∀ ds : List D, ds.all isInt = true → ∃ tm : List Int, ds = tm.map D.int := by
      intro ds
      induction ds with
      | nil => exact fun _ => ⟨[], rfl⟩
      | cons d ds ih =>
        intro q
        rw [List.all_cons, Bool.and_eq_true] at q
        obtain ⟨tm, rfl⟩ := ih q.2
        cases d <;> simp [isInt] at q
        rename_i i
        exact ⟨i :: tm, rfl⟩
    obtain ⟨tm, rfl⟩ := go ds h.2
    exact ⟨tm, rfl, by rw [List.length_map] at h; exact h.1⟩
  | _ => simp [isTm] at h
theorem eq_nilL {ds : List D} (st : Store) (hz : okzs ds = true) (hd : dpzs ds ≤ 60) : cmpD .Eq (.lst ds) (.lst []) st = .ok (.bl ds.isEmpty) st := by
  obtain ⟨ps, e, q⟩ := pys_ok ds hz
  have p1 : pyT st (.lst ds) = some (.list ps) := by simp only [pyT, lstOf, e, Option.map_some]
  have p2 : pyT st (.lst []) = some (.list []) := by simp only [pyT, lstOf, pys, Option.map_some]
  have s1 : SeqAt.shaped (.list ps) = true := by
    unfold SeqAt.shaped
    simp only [PyData.canLay0, PyData.depth, q.lay, q.dp, Bool.true_and, decide_eq_true_eq]
    omega
  have s2 : SeqAt.shaped (.list []) = true := by decide +kernel
  have ev : eqD (.lst ds) (.lst []) st = some (PyData.eqv (.list ps) (.list [])) := by
    show (match pyT st (.lst ds), pyT st (.lst []) with
      | some a, some b => if SeqAt.shaped a = true ∧ SeqAt.shaped b = true then some (PyData.eqv a b) else none
      | _, _ => none) = _
    rw [p1, p2]
    exact if_pos ⟨s1, s2⟩
  show (match eqD (.lst ds) (.lst []) st with
    | some b => Rz.ok (D.bl b) st
    | none => .bad) = _
  rw [ev]
  cases ds with
  | nil =>
    simp only [pys, Option.some.injEq] at e
    subst e
    simp [PyData.eqv, PyData.eqvAll]
  | cons d ds =>
    cases ps with
    | nil =>
      simp only [pys] at e
      split at e <;> cases e
    | cons p ps => simp [PyData.eqv, PyData.eqvAll]
/-- full times are partial times -/
theorem psums_full {size : Int} {r : Int × List (Int × Int)} (h : Tm size r.2) {tm : List Int} (hl : (tm.length : Int) = size) : psums r (tget (tm.map some)) = sumsOf r tm := by
  unfold psums sumsOf
  have key : ∀ ts : List (Int × Int), (∀ p ∈ ts, 0 ≤ p.1 ∧ p.1 < size) → (ts.filterMap fun p => (tget (tm.map some) p.1.toNat).map (· + p.2)) = ts.map fun p => tm.getD p.1.toNat 0 + p.2 := by
    intro ts
    induction ts with
    | nil => exact fun _ => rfl
    | cons p ts ih =>
      intro q
      have hp := q p List.mem_cons_self
      have hv : p.1.toNat < tm.length := by omega
      have e : tget (tm.map some) p.1.toNat = some (tm.getD p.1.toNat 0) := by
        unfold tget
        rw [List.getD_eq_getElem?_getD, List.getD_eq_getElem?_getD, List.getElem?_map, List.getElem?_eq_getElem hv]
        rfl
      rw [List.filterMap_cons_some (by rw [e]; rfl), List.map_cons, ih fun p' hp' => q p' (List.mem_cons_of_mem _ hp')]
  exact key r.2 fun p hp => (h.2 p hp).1
theorem pholds_full {size : Int} {r : Int × List (Int × Int)} (h : Rl size r) {tm : List Int} (hl : (tm.length : Int) = size) : pholds r (tget (tm.map some)) = holdsB r tm := by
  have e : tget (tm.map some) r.1.toNat = some (tm.getD r.1.toNat 0) := by
    have := h.1
    have hv : r.1.toNat < tm.length := by omega
    unfold tget
    rw [List.getD_eq_getElem?_getD, List.getD_eq_getElem?_getD, List.getElem?_map, List.getElem?_eq_getElem hv]
    rfl
  unfold pholds holdsB psideD sideD
  rw [e, psums_full h.2 hl]
  try (cases mxD (sumsOf r tm) <;> rfl)
section
variable {T : Tab} {wf : Nat}
theorem integer_any (L : Lc T) (d : D) (hd : dat d = true) (st : Store) (n : Nat) : fnAt T csg wf (n + 1) 1 [d] st = .ok (.bl (isInt d)) st := by
  rw [fnAt_of L.i1]
  cases d <;> first
    | (cases hd; done)
    | simp [s_is_integer, c_is_integer, runFn, startE, isInt]
theorem times_by_any (L : Lc T) (h67 : T.lookup 67 = some s_is_times_by) (size : Int) (d : D) (hd : dat d = true) (hT : datT d) (hz : ∀ ds, d = .tup ds → ds.length ≤ sizeLine) (st : Store) (n : Nat) : fnAt T csg wf (n + 2) 67 [.int size, d] st = .ok (.bl (isTm size d)) st := by
  rw [fnAt_of h67]
  cases d with
  | tup ds =>
    have l1 := lcGo_map (t := gdName 2) (g := none) (c := fYes) (el := fArgs (fnAt T csg wf (n + 1) 1) (fCons (fVar 2) fNil)) (env := [some (.int size), some (.tup ds), none]) (st := st)
      (fun d : D => d) (fun d => D.bl (isInt d)) trivial ds (hz ds rfl) (fun r hr => ⟨_, rfl, rfl, by simp [integer_any L r (hT r hr)]⟩)
    rw [List.map_id'] at l1
    have a1 := all_bl isInt ds st
    generalize ds.map (fun d => D.bl (isInt d)) = B1 at l1 a1
    unfold isTm
    by_cases q : (ds.length : Int) = size
    · simp [s_is_times_by, c_is_times_by, runFn, startE, q, l1, a1]
    · simp [s_is_times_by, c_is_times_by, runFn, startE, q, l1, a1]
  | byt _ => cases hd
  | fls _ => cases hd
  | loc _ => cases hd
  | non => simp [s_is_times_by, c_is_times_by, runFn, startE, isTm]
  | bl _ => simp [s_is_times_by, c_is_times_by, runFn, startE, isTm]
  | int _ => simp [s_is_times_by, c_is_times_by, runFn, startE, isTm]
  | str _ => simp [s_is_times_by, c_is_times_by, runFn, startE, isTm]
  | lst _ => simp [s_is_times_by, c_is_times_by, runFn, startE, isTm]
  | dct _ _ => simp [s_is_times_by, c_is_times_by, runFn, startE, isTm]
  | exn _ _ _ _ => cases hd
  | fnv _ _ _ _ _ _ => cases hd
theorem check_size_ok (L : Lc T) (h9 : T.lookup 9 = some s_check_size) {size : Int} (h0 : 1 ≤ size) (h1 : size ≤ 8) (st : Store) (n : Nat) : fnAt T csg wf (n + 3) 9 [.int size] st = .ok .non st := by
  rw [fnAt_of h9]
  simp [s_check_size, c_check_size, runFn, startE, csg, between_ok L, h0, h1]
theorem solves_ok (h55 : T.lookup 55 = some s_u_law_side) (h56 : T.lookup 56 = some s_u_law_holds) (h57 : T.lookup 57 = some s_u_law_solves) {size : Int} (hs : size ≤ 1000) {c : Nat} (hc : c ≤ 1000) {rs : List (Int × List (Int × Int))} (h : ∀ r ∈ rs, Rc size c r) (hrl : rs.length ≤ 1000) {x : D} {tm : Nat → Option Int} (st : Store) (ha : AtO x st size tm) (n : Nat) :
    fnAt T csg wf (n + 3) 57 [encS size rs, x] st = .ok (.bl (rs.all fun r => pholds r tm)) st := by
  rw [fnAt_of h57]
  have l1 := lcGo_pure (t := gdName 2) (g := none) (c := fTru (fNotV (fArgs (fnAt T csg wf (n + 2) 56) (fCons (fVar 2) (fCons (fVar 1) fNil))))) (el := fVar 2) (env := [some (encS size rs), some x, none]) (st := st)
    encR (fun r => !pholds r tm) encR trivial rs [] (by simpa using Nat.le_trans hrl (by decide)) (fun r hr => by
      have q := pholds_ok (wf := wf) h55 h56 (h r hr).1 (Nat.le_trans (h r hr).2 hc) ha n
      exact ⟨_, rfl, by simp [q], fun _ => by simp⟩)
  rw [List.nil_append] at l1
  have hz0 : 0 ≤ sizeLine := Nat.zero_le _
  have hf : ∀ r ∈ rs.filter (fun r => !pholds r tm), Rc size c r := fun r hr => h r (List.mem_filter.mp hr).1
  obtain ⟨i1, i2, i3⟩ := encRs_ok hs hf
  have q := eq_nilL st i1 (by omega)
  have eb : ((rs.filter fun r => !pholds r tm).map encR).isEmpty = rs.all fun r => pholds r tm := by
    rw [List.isEmpty_map, Bool.eq_iff_iff, List.isEmpty_iff, List.filter_eq_nil_iff, List.all_eq_true]
    simp
  rw [eb] at q
  generalize (rs.filter fun r => !pholds r tm).map encR = B at l1 q
  unfold encS at l1 ⊢
  simp [s_u_law_solves, c_u_law_solves, runFn, startE, l1, hz0, q]
theorem solution_ok (L : Lc T) (h29 : T.lookup 29 = some s_check_rules) (h67 : T.lookup 67 = some s_is_times_by) (h68 : T.lookup 68 = some s_right_by) (h69 : T.lookup 69 = some s_holds_by) (h70 : T.lookup 70 = some s_is_solution_by) (h71 : T.lookup 71 = some s_is_solution) {size : Int} (hs0 : 0 < size) (hs1 : size ≤ 8) {c : Nat} (hc : c ≤ 1000)
    {rs : List (Int × List (Int × Int))} (h : ∀ r ∈ rs, Rc size c r) (hl : rs.length ≤ 24) {tm : List Int} (ht : (tm.length : Int) = size) (st : Store) (n : Nat) : fnAt T csg wf (n + 8) 71 [encS size rs, encM tm] st = .ok (.bl (rs.all fun r => holdsB r tm)) st := by
  rw [fnAt_of h71]
  have q1 := check_rules_ok (wf := wf) L h29 hs0 hs1 hc h hl st n
  have q2 := solution_by_ok (T := T) (wf := wf) L h67 h68 h69 h70 hc h (Nat.le_trans hl (by omega)) ht (by omega) st (n + 4)
  unfold encS
  simp [s_is_solution, c_is_solution, runFn, startE, q1, q2]
theorem solution_no (L : Lc T) (h29 : T.lookup 29 = some s_check_rules) (h67 : T.lookup 67 = some s_is_times_by) (h70 : T.lookup 70 = some s_is_solution_by) (h71 : T.lookup 71 = some s_is_solution) {size : Int} (hs0 : 0 < size) (hs1 : size ≤ 8) {c : Nat} (hc : c ≤ 1000)
    {rs : List (Int × List (Int × Int))} (h : ∀ r ∈ rs, Rc size c r) (hl : rs.length ≤ 24) {d : D} (hd : dat d = true) (hT : datT d) (hz : ∀ ds, d = .tup ds → ds.length ≤ sizeLine) (hn : isTm size d = false) (st : Store) (n : Nat) : fnAt T csg wf (n + 8) 71 [encS size rs, d] st = .ok (.bl false) st := by
  rw [fnAt_of h71]
  have q1 := check_rules_ok (wf := wf) L h29 hs0 hs1 hc h hl st n
  have q0 := times_by_any (wf := wf) L h67 size d hd hT hz st (n + 4)
  rw [hn] at q0
  have q2 : fnAt T csg wf (n + 7) 70 [.int size, .tup (rs.map encR), d] st = .ok (.bl false) st := by
    rw [fnAt_of h70]
    simp [s_is_solution_by, c_is_solution_by, runFn, startE, q0]
  unfold encS
  simp [s_is_solution, c_is_solution, runFn, startE, q1, q2]
/-! ### drawn times -/
theorem pow_30 : ∃ A B : Int, intPow 10 30 = some A ∧ intPow 10 39 = some B ∧ 0 ≤ A ∧ A < 2 ^ 200 ∧ 0 ≤ B ∧ B < 2 ^ 200 := ⟨10 ^ 30, 10 ^ 39, pow_d, pow_e, by decide +kernel, by decide +kernel, by decide +kernel, by decide +kernel⟩
theorem log_of {k N : Nat} (h : k < 2 ^ N) (hN : N < 1000) : k.log2 < 1000 := by
  by_cases e : k = 0
  · subst e; decide
  · have := (Nat.log2_lt e).mpr h
    omega
/-- times that are not too great -/
def Tw (tm : List Int) : Prop := ∀ t ∈ tm, -(2 ^ 201) < t ∧ t < 2 ^ 201
theorem times_ok (L : T.lookup 13 = some s_u_law_draw) (h54 : T.lookup 54 = some s_u_law_times) {k : Nat} {b size : Int} {st : Store} (hs : Sv k b st) (hb : b + 100 ≤ 2 ^ 60) (s0 : 0 < size) (s1 : size ≤ 8) (n : Nat) :
    ∃ (tm : List Int) (st' : Store), fnAt T csg wf (n + 2) 54 [.loc k, .int size] st = .ok (encM tm) st' ∧ Up k st st' ∧ Sv k (b + 20) st' ∧ (tm.length : Int) = size ∧ Tw tm := by
  rw [fnAt_of h54]
  obtain ⟨A, B, pA, pB, A0, A1, B0, B1⟩ := pow_30
  have hbw : (2 : Int) ^ 200 + 2000 < 2 ^ 201 := by decide +kernel
  unfold Tw
  generalize (2 : Int) ^ 201 = bw at hbw
  generalize (2 : Int) ^ 200 = bv at hbw A1 B1
  have hz6 : 6 ≤ sizeLine := by decide
  have hz4 : 4 ≤ sizeLine := by decide
  obtain ⟨w1, o1, f1, S1, a0, a1⟩ := draw_ok (T := T) (wf := wf) L (many := 6) hs (by omega) (by omega) (by omega) n
  obtain ⟨w2, o2, f2, S2, c0, c1⟩ := draw_ok (T := T) (wf := wf) L (many := 4) S1 (by omega) (by omega) (by omega) n
  rw [List.set_set] at f2 S2
  have hU : Up k st (st.set k o2) := (Up.refl hs).set o2
  obtain ⟨base, hbase, x0, x1⟩ : ∃ m : Int, L2.atI [D.int 0, D.int 0, D.int 0, D.int (-1000), D.int A, D.int (1 - B)] w1 = some (.int m) ∧ -bw + 500 < m + 500 ∧ m + 100 < bw := by
    rcases (show w1 = 0 ∨ w1 = 1 ∨ w1 = 2 ∨ w1 = 3 ∨ w1 = 4 ∨ w1 = 5 by omega) with rfl | rfl | rfl | rfl | rfl | rfl
    · exact ⟨0, rfl, by omega, by omega⟩
    · exact ⟨0, rfl, by omega, by omega⟩
    · exact ⟨0, rfl, by omega, by omega⟩
    · exact ⟨-1000, rfl, by omega, by omega⟩
    · exact ⟨A, rfl, by omega, by omega⟩
    · exact ⟨1 - B, rfl, by omega, by omega⟩
  obtain ⟨span, hspan, y0, y1⟩ : ∃ m : Int, L2.atI [D.int 1, D.int 4, D.int 9, D.int 60] w2 = some (.int m) ∧ 0 < m ∧ m ≤ 60 := by
    rcases (show w2 = 0 ∨ w2 = 1 ∨ w2 = 2 ∨ w2 = 3 by omega) with rfl | rfl | rfl | rfl
    · exact ⟨1, rfl, by omega, by omega⟩
    · exact ⟨4, rfl, by omega, by omega⟩
    · exact ⟨9, rfl, by omega, by omega⟩
    · exact ⟨60, rfl, by omega, by omega⟩
  have hR : inR size := by unfold inR; omega
  have hlm : (rngL 0 size.toNat).length = size.toNat := by unfold rngL; simp
  obtain ⟨acc, st1, e3, tm, rfl, hU2, hS2, htl, ht⟩ := lcGo_by (t := gdName 4) (g := none) (c := fYes) (el := fBin (binD .Add) (fVar 2) (fArgs (fnAt T csg wf (n + 1) 13) (fCons (fVar 0) (fCons (fVar 3) fNil))))
    (env := [some (.loc k), some (.int size), some (.int base), some (.int span), none])
    (I := fun i acc st' => ∃ (tm : List Int), acc = tm.map D.int ∧ Up k st st' ∧ Sv k (b + 2 + i) st' ∧ tm.length = i ∧ ∀ t ∈ tm, -bw < t ∧ t < bw)
    (rngL 0 size.toNat) 0 [] (st.set k o2) (fun _ _ _ _ => trivial)
    (by rw [hlm]; exact Nat.le_trans (show ([] : List D).length + size.toNat ≤ 8 by simpa using by omega) (by decide))
    (fun i d acc st1 e ⟨tm, ea, hu, hsv, hl2, hd⟩ => by
      subst ea
      have hi : i < size.toNat := by
        have := (List.getElem?_eq_some_iff.mp e).1
        omega
      rw [Nat.zero_add] at hsv hl2 ⊢
      obtain ⟨v, o3, f3, S3, z0, z1⟩ := draw_ok (T := T) (wf := wf) L (many := span) hsv (by omega) (by omega) (by omega) n
      refine ⟨_, true, st1, rfl, rfl, .inl ⟨rfl, .int (base + v), st1.set k o3, ?_, tm ++ [base + v], by rw [List.map_append]; rfl, hu.set o3, S3.mono (by push_cast; omega), by rw [List.length_append, hl2]; rfl, fun x hx => ?_⟩⟩
      · simp [f3]
      · rcases List.mem_append.mp hx with hx | hx
        · exact hd x hx
        · rw [List.mem_singleton] at hx
          omega)
    ⟨[], rfl, hU, S2.mono (by omega), rfl, fun d hd => by cases hd⟩
  rw [Nat.zero_add, hlm] at hS2 htl
  refine ⟨tm, st1, ?_, hU2, hS2.mono (by omega), by omega, ht⟩
  have fin := gcR_same false (.tup (tm.map D.int)) hU2.len
  unfold encM
  simp [s_u_law_times, c_u_law_times, runFn, startE, b_pow pA, b_pow pB, f1, hz6, hbase, f2, hz4, hspan, hR, e3, fin]
theorem Tw.bnd {tm : List Int} (h : Tw tm) : G4.bnd (encM tm) = true := by
  simp only [encM, G4.bnd]
  refine bnds_all D.int tm fun t ht => ?_
  obtain ⟨h0, h1⟩ := h t ht
  simp only [G4.bnd, decide_eq_true_eq]
  have e2 : ((2 : Int) ^ 201) = ((2 ^ 201 : Nat) : Int) := by norm_cast
  rw [e2] at h0 h1
  have h2 : t.natAbs < 2 ^ 201 := by
    generalize (2 ^ 201 : Nat) = N at h0 h1 ⊢
    omega
  exact log_of h2 (by omega)
end
end L2.G4

set_option maxHeartbeats 4000000
/-! MW: rules and rule sets recognized, whatever the value. -/
namespace L2.G4
open PySem PySem.Spec PyProof.Rows

/-! ### data whose parts may be looked into -/
def tupD : D → Option (List D)
  | .tup ds => some ds
  | _ => none
/-- data without objects, four levels deep -/
def datN : Nat → D → Prop
  | 0, d => dat d = true
  | n + 1, d => dat d = true ∧ match d with
    | .tup ds => ds.length ≤ sizeLine ∧ ∀ x ∈ ds, datN n x
    | _ => True
theorem datN.dat {n : Nat} {d : D} (h : datN n d) : G4.dat d = true := by
  cases n with
  | zero => exact h
  | succ n => exact h.1
theorem okv_datN {b : Bool} : ∀ (n : Nat) (d : D), okv b d = true → bkv d ≤ 100000 → datN n d
  | 0, d, h, _ => okv_dat h
  | n + 1, d, h, hb => by
    refine ⟨okv_dat h, ?_⟩
    cases d <;> try exact trivial
    rename_i ds
    have hl := len_bk ds
    simp only [bkv] at hb
    refine ⟨by rw [sizeLine_eq]; omega, fun x hx => ?_⟩
    have h' : okvs b ds = true := by simpa only [okv] using h
    obtain ⟨i, e⟩ := List.mem_iff_getElem?.mp hx
    have bx : bkv x ≤ bkvs ds := by
      clear hb hl h h'
      induction ds generalizing i with
      | nil => cases hx
      | cons y ds ih =>
        simp only [bkvs]
        rcases List.mem_cons.mp hx with rfl | hx'
        · omega
        · obtain ⟨j, ej⟩ := List.mem_iff_getElem?.mp hx'
          have := ih hx' j ej
          omega
    exact okv_datN n x (okvs_mem h' e) (by omega)
theorem An.datN {dp bk : Nat} {d : D} (h : An dp bk d) (hb : bk ≤ 100000) (n : Nat) : G4.datN n d := h.1.elim (fun q => okv_datN n d q (Nat.le_trans h.2.2 hb)) fun q => okv_datN n d q (Nat.le_trans h.2.2 hb)
/-! ### what they are -/
def isPr : D → Bool
  | .tup [_, _] => true
  | _ => false
def intIn (lo hi : Int) : D → Bool
  | .int i => decide (lo ≤ i) && decide (i ≤ hi)
  | _ => false
/-- two parts of a pair -/
def fstD : D → D
  | .tup (a :: _) => a
  | _ => .non
def sndD : D → D
  | .tup (_ :: b :: _) => b
  | _ => .non
def ascB : List (Int × Int) → Bool := fun ps => (ps.zip (ps.drop 1)).all fun q => decide (q.1.1 < q.2.1)
def looseT (size : Int) (ts : List D) : Bool := match allOf prOf ts with
  | some ps => ps.all (fun p => decide (0 ≤ p.1) && decide (p.1 ≤ size - 1)) && ascB ps
  | none => false
def looseTD (size : Int) : D → Bool
  | .tup ts => looseT size ts
  | _ => false
def looseR (size : Int) (d : D) : Bool := isPr d && (intIn 0 (size - 1) (fstD d) && looseTD size (sndD d))
def delT : D → Bool
  | .tup ts => match allOf prOf ts with
    | some ps => ps.all fun p => decide (-60 ≤ p.2) && decide (p.2 ≤ 59)
    | none => false
  | _ => false
def rowB (size : Int) (d : D) : Bool := looseR size d && delT (sndD d)
def rowsOf : D → List D
  | .tup rs => rs
  | _ => []
def sizeD : D → Int
  | .int i => i
  | _ => 0
def setB (d : D) : Bool := isPr d && intIn 1 8 (fstD d) && isTup (sndD d) && decide ((rowsOf (sndD d)).length ≤ 24) && (rowsOf (sndD d)).all (rowB (sizeD (fstD d)))
theorem prOf_some {d : D} {p : Int × Int} (h : prOf d = some p) : d = encP p := by
  cases d <;> try (simp [prOf] at h; done)
  rename_i ds
  match ds, h with
  | [.int i, .int j], h => simp [prOf] at h; subst h; rfl
theorem allOf_prE : ∀ {ts : List D} {ps : List (Int × Int)}, allOf prOf ts = some ps → ts = ps.map encP
  | [], ps, h => by cases h; rfl
  | t :: ts, ps, h => by
    unfold allOf at h
    split at h
    · rename_i a as h1 h2
      cases h
      rw [List.map_cons, prOf_some h1, allOf_prE h2]
    · cases h
theorem allOf_prN : ∀ {ts : List D}, allOf prOf ts = none → ∃ t ∈ ts, prOf t = none
  | [], h => by cases h
  | t :: ts, h => by
    unfold allOf at h
    cases e : prOf t with
    | none => exact ⟨t, List.mem_cons_self, e⟩
    | some a =>
      rw [e] at h
      cases e2 : allOf prOf ts with
      | none =>
        obtain ⟨x, hx, ex⟩ := allOf_prN e2
        exact ⟨x, List.mem_cons_of_mem _ hx, ex⟩
      | some as => rw [e2] at h; cases h
theorem lcGo_id {t : Tg} {c : Fe Bool} {el : Fe D} {env : Env} {st : Store} (f : D → D) (ds : List D) (hz : ds.length ≤ sizeLine) (h : ∀ x ∈ ds, ∃ env1, t x env = some env1 ∧ c env1 st = .ok true st ∧ el env1 st = .ok (f x) st) : lcGo t none c el env ds [] st = .ok (ds.map f) st := by
  have := lcGo_map (t := t) (g := none) (c := c) (el := el) (env := env) (st := st) (fun d : D => d) f trivial ds hz h
  rwa [List.map_id'] at this
section
variable {T : Tab} {wf : Nat}
theorem between_any (L : Lc T) (d : D) (hd : dat d = true) (lo hi : Int) (st : Store) (n : Nat) : fnAt T csg wf (n + 2) 2 [d, .int lo, .int hi] st = .ok (.bl (intIn lo hi d)) st := by
  cases d with
  | int v => exact between_ok L v lo hi st n
  | byt _ => cases hd
  | fls _ => cases hd
  | loc _ => cases hd
  | exn _ _ _ _ => cases hd
  | fnv _ _ _ _ _ _ => cases hd
  | _ =>
    rw [fnAt_of L.i2]
    have q := integer_any (wf := wf) L _ hd st n
    simp [s_is_between, c_is_between, runFn, startE, q, isInt, intIn]
theorem delay_any (L : Lc T) (d : D) (hd : dat d = true) (st : Store) (n : Nat) : fnAt T csg wf (n + 3) 3 [d] st = .ok (.bl (intIn (-60) 59 d)) st := by
  rw [fnAt_of L.i3]
  have q := between_any (wf := wf) L d hd (-60) 59 st n
  simp [s_is_delay, c_is_delay, runFn, startE, csg, q]
theorem pair_any (L : Lc T) (d : D) (hd : dat d = true) (st : Store) (n : Nat) : fnAt T csg wf (n + 1) 4 [d] st = .ok (.bl (isPr d)) st := by
  rw [fnAt_of L.i4]
  cases d with
  | tup ds =>
    match ds with
    | [] => simp [s_is_pair, c_is_pair, runFn, startE, isPr]
    | [a] => simp [s_is_pair, c_is_pair, runFn, startE, isPr]
    | [a, b] => simp [s_is_pair, c_is_pair, runFn, startE, isPr]
    | a :: b :: c :: r =>
      have hn : ¬ ((r.length : Int) + 1 + 1 + 1 = 2) := by omega
      simp [s_is_pair, c_is_pair, runFn, startE, isPr, hn]
  | byt _ => cases hd
  | fls _ => cases hd
  | loc _ => cases hd
  | exn _ _ _ _ => cases hd
  | fnv _ _ _ _ _ _ => cases hd
  | _ => simp [s_is_pair, c_is_pair, runFn, startE, isPr]
theorem pr_shape {d : D} (h : isPr d = true) : d = .tup [fstD d, sndD d] := by
  cases d <;> try (simp [isPr] at h; done)
  rename_i ds
  match ds, h with
  | [a, b], _ => rfl
theorem datN_pr {n : Nat} {d : D} (h : datN (n + 1) d) (hp : isPr d = true) : datN n (fstD d) ∧ datN n (sndD d) := by
  have e := pr_shape hp
  rw [e] at h
  obtain ⟨_, _, h2⟩ := h
  exact ⟨h2 _ (by simp), h2 _ (by simp)⟩
theorem terms_any (L : Lc T) (size : Int) (d : D) (hd : datN 2 d) (st : Store) (n : Nat) : fnAt T csg wf (n + 3) 5 [.int size, d] st = .ok (.bl (looseTD size d)) st := by
  rw [fnAt_of L.i5]
  have hz2 : 2 ≤ sizeLine := two_le
  cases d with
  | tup ts =>
    obtain ⟨_, hz, hx⟩ := hd
    have l1 := lcGo_id (t := gdName 4) (c := fYes) (el := fArgs (fnAt T csg wf (n + 2) 4) (fCons (fVar 4) fNil)) (env := [some (.int size), some (.tup ts), none, none, none, none, none]) (st := st)
      (fun x => D.bl (isPr x)) ts hz (fun x hm => ⟨_, rfl, rfl, by simp [pair_any L x (hx x hm).dat]⟩)
    have a1 := all_bl isPr ts st
    generalize ts.map (fun x => D.bl (isPr x)) = B1 at l1 a1
    show _ = Rz.ok (D.bl (looseT size ts)) st
    by_cases p1 : ts.all isPr = true
    case neg =>
      have p1 : ts.all isPr = false := by simpa using p1
      have ef : looseT size ts = false := by
        unfold looseT
        cases e : allOf prOf ts with
        | none => rfl
        | some ps =>
          rw [allOf_prE e, List.all_map] at p1
          exact absurd p1 (by simp [Function.comp_def, encP, isPr])
      rw [p1] at a1
      simp [s_are_terms, c_are_terms, runFn, startE, l1, a1, ef]
    rw [p1] at a1
    have hp : ∀ x ∈ ts, isPr x = true := List.all_eq_true.mp p1
    have l2 := lcGo_id (t := gdTupN 2 (gdCons (gdName 5) (gdCons (gdName 6) gdNil))) (c := fYes) (el := fAndV (fArgs (fnAt T csg wf (n + 2) 2) (fCons (fVar 5) (fCons (fCon (.int 0)) (fCons (fBin (binD .Sub) (fVar 0) (fCon (.int 1))) fNil)))) (fArgs (fnAt T csg wf (n + 2) 1) (fCons (fVar 6) fNil)))
      (env := [some (.int size), some (.tup ts), none, none, none, none, none]) (st := st) (fun x => D.bl (intIn 0 (size - 1) (fstD x) && isInt (sndD x))) ts hz (fun x hm => by
        have e := pr_shape (hp x hm)
        obtain ⟨h1, h2⟩ := datN_pr (hx x hm) (hp x hm)
        refine ⟨[some (.int size), some (.tup ts), none, none, none, some (fstD x), some (sndD x)], by rw [e]; rfl, rfl, ?_⟩
        have q1 := between_any (wf := wf) L (fstD x) h1.dat 0 (size - 1) st n
        have q2 := integer_any (wf := wf) L (sndD x) h2.dat st (n + 1)
        cases h : intIn 0 (size - 1) (fstD x) with
        | false => rw [h] at q1; simp [q1]
        | true => rw [h] at q1; simp [q1, q2])
    have a2 := all_bl (fun x => intIn 0 (size - 1) (fstD x) && isInt (sndD x)) ts st
    generalize ts.map (fun x => D.bl (intIn 0 (size - 1) (fstD x) && isInt (sndD x))) = B2 at l2 a2
    by_cases p2 : (ts.all fun x => intIn 0 (size - 1) (fstD x) && isInt (sndD x)) = true
    case neg =>
      have p2 : (ts.all fun x => intIn 0 (size - 1) (fstD x) && isInt (sndD x)) = false := by simpa using p2
      have ef : looseT size ts = false := by
        unfold looseT
        cases e : allOf prOf ts with
        | none => rfl
        | some ps =>
          rw [allOf_prE e, List.all_map] at p2
          have : (ps.all fun p => decide (0 ≤ p.1) && decide (p.1 ≤ size - 1)) = false := by
            rw [← p2]
            congr 1
            funext p
            simp [Function.comp_def, encP, fstD, sndD, intIn, isInt]
          simp only [this, Bool.false_and]
      rw [p2] at a2
      simp [s_are_terms, c_are_terms, runFn, startE, l1, a1, l2, a2, ef]
    rw [p2] at a2
    obtain ⟨ps, eps⟩ : ∃ ps, allOf prOf ts = some ps := by
      cases e : allOf prOf ts with
      | some ps => exact ⟨ps, rfl⟩
      | none =>
        obtain ⟨x, hm, ex⟩ := allOf_prN e
        have sh := pr_shape (hp x hm)
        have q := List.all_eq_true.mp p2 x hm
        rw [Bool.and_eq_true] at q
        rw [sh] at ex
        cases h1 : fstD x <;> rw [h1] at q <;> simp [intIn] at q
        cases h2 : sndD x <;> rw [h2] at q <;> simp [isInt] at q
        rw [h1, h2] at ex
        cases ex
    have ets := allOf_prE eps
    have ef : looseT size ts = ascB ps := by
      unfold looseT
      rw [eps]
      have : (ps.all fun p => decide (0 ≤ p.1) && decide (p.1 ≤ size - 1)) = true := by
        rw [ets, List.all_map] at p2
        rw [← p2]
        congr 1
        funext p
        simp [Function.comp_def, encP, fstD, sndD, intIn, isInt]
      simp only [this, Bool.true_and]
    rw [ef]
    have hl : ps.length ≤ sizeLine := by rw [ets, List.length_map] at hz; exact hz
    have l3 := lcGo_map (t := gdTupN 2 (gdCons (gdName 2) (gdCons (gdName 3) gdNil))) (g := none) (c := fYes) (el := fBin (cmpD .Lt) (fBin idxD (fVar 2) (fCon (.int 0))) (fBin idxD (fVar 3) (fCon (.int 0))))
      (env := [some (.int size), some (.tup ts), none, none, none, none, none]) (st := st) (fun p : (Int × Int) × (Int × Int) => D.tup [encP p.1, encP p.2]) (fun p => D.bl (decide (p.1.1 < p.2.1))) trivial (ps.zip (ps.drop 1)) (by rw [List.length_zip]; omega) (fun p hp => ⟨_, rfl, rfl, by simp [encP]⟩)
    rw [← zipL_enc, List.map_drop, ← ets] at l3
    have a3 := all_bl (fun p : (Int × Int) × (Int × Int) => decide (p.1.1 < p.2.1)) (ps.zip (ps.drop 1)) st
    have hsl := slc1_tup ts st
    generalize hdr : ts.drop 1 = dr at l3 hsl
    generalize (ps.zip (ps.drop 1)).map (fun p => D.bl (decide (p.1.1 < p.2.1))) = B3 at l3 a3
    unfold ascB
    simp [s_are_terms, c_are_terms, runFn, startE, l1, a1, l2, a2, hsl, l3, a3]
  | byt _ => cases hd.dat
  | fls _ => cases hd.dat
  | loc _ => cases hd.dat
  | exn _ _ _ _ => cases hd.dat
  | fnv _ _ _ _ _ _ => cases hd.dat
  | _ => simp [s_are_terms, c_are_terms, runFn, startE, looseTD]
theorem loose_any (L : Lc T) (size : Int) (d : D) (hd : datN 3 d) (st : Store) (n : Nat) : fnAt T csg wf (n + 4) 6 [.int size, d] st = .ok (.bl (looseR size d)) st := by
  rw [fnAt_of L.i6]
  have q := pair_any (wf := wf) L d hd.dat st (n + 2)
  unfold looseR
  cases hp : isPr d with
  | false =>
    rw [hp] at q
    simp [s_is_loose_rule, c_is_loose_rule, runFn, startE, q]
  | true =>
    rw [hp] at q
    obtain ⟨h1, h2⟩ := datN_pr hd hp
    have e := pr_shape hp
    have q1 := between_any (wf := wf) L (fstD d) h1.dat 0 (size - 1) st (n + 1)
    have q2 := terms_any (wf := wf) L size (sndD d) h2 st n
    have i0 : idxD d (.int 0) st = .ok (fstD d) st := by rw [e]; simp [fstD]
    have i1 : idxD d (.int 1) st = .ok (sndD d) st := by rw [e]; simp [sndD]
    generalize fstD d = a at q1 i0
    generalize sndD d = b at q2 i1
    cases h : intIn 0 (size - 1) a with
    | false => rw [h] at q1; simp [s_is_loose_rule, c_is_loose_rule, runFn, startE, q, i0, q1]
    | true => rw [h] at q1; simp [s_is_loose_rule, c_is_loose_rule, runFn, startE, q, i0, i1, q1, q2]
theorem rule_any (L : Lc T) (size : Int) (d : D) (hd : datN 3 d) (st : Store) (n : Nat) : fnAt T csg wf (n + 5) 8 [.int size, d] st = .ok (.bl (rowB size d)) st := by
  rw [fnAt_of L.i8]
  have q := loose_any (wf := wf) L size d hd st n
  unfold rowB
  cases hl : looseR size d with
  | false =>
    rw [hl] at q
    simp [s_is_rule_by, c_is_rule_by, runFn, startE, q]
  | true =>
    rw [hl] at q
    unfold looseR at hl
    simp only [Bool.and_eq_true] at hl
    obtain ⟨hp, _, ht⟩ := hl
    obtain ⟨h1, h2⟩ := datN_pr hd hp
    have e := pr_shape hp
    have i1 : idxD d (.int 1) st = .ok (sndD d) st := by rw [e]; simp [sndD]
    cases hs : sndD d with
    | tup ts =>
      rw [hs] at ht i1 h2
      have hz := h2.2.1
      have ht : looseT size ts = true := ht
      unfold looseT at ht
      cases eps : allOf prOf ts with
      | none => rw [eps] at ht; cases ht
      | some ps =>
        have ets := allOf_prE eps
        have hl : ps.length ≤ sizeLine := by rw [ets, List.length_map] at hz; exact hz
        have l1 := lcGo_map (t := gdTupN 2 (gdCons (gdName 2) (gdCons (gdName 3) gdNil))) (g := none) (c := fYes) (el := fArgs (fnAt T csg wf (n + 4) 3) (fCons (fVar 3) fNil)) (env := [some (.int size), some d, none, none]) (st := st)
          encP (fun p => D.bl (intIn (-60) 59 (.int p.2))) trivial ps hl (fun p hp => ⟨_, rfl, rfl, by simp [delay_any L (.int p.2) rfl]⟩)
        have a1 := all_bl (fun p : Int × Int => intIn (-60) 59 (.int p.2)) ps st
        rw [← ets] at l1
        have ed : delT (.tup ts) = ps.all fun p => intIn (-60) 59 (.int p.2) := by
          simp only [delT, eps]
          rfl
        rw [ed]
        generalize ps.map (fun p => D.bl (intIn (-60) 59 (.int p.2))) = B at l1 a1
        simp [s_is_rule_by, c_is_rule_by, runFn, startE, q, i1, l1, a1]
    | _ => rw [hs] at ht; simp [looseTD] at ht
end
end L2.G4

set_option maxHeartbeats 4000000
/-! MX: rule sets recognized; a law's own look at rules. -/
namespace L2.G4
open PySem PySem.Spec PyProof.Rows

def looseS (d : D) : Bool := isPr d && (intIn 1 8 (fstD d) && (isTup (sndD d) && (rowsOf (sndD d)).all (looseR (sizeD (fstD d)))))
theorem setB_eq (d : D) : setB d = (looseS d && (decide ((rowsOf (sndD d)).length ≤ 24) && (rowsOf (sndD d)).all (rowB (sizeD (fstD d))))) := by
  unfold setB looseS
  have key : ∀ l : List D, (l.all (looseR (sizeD (fstD d))) && l.all (rowB (sizeD (fstD d)))) = l.all (rowB (sizeD (fstD d))) := by
    intro l
    induction l with
    | nil => rfl
    | cons x l ih =>
      rw [List.all_cons, List.all_cons]
      have : rowB (sizeD (fstD d)) x = (looseR (sizeD (fstD d)) x && delT (sndD x)) := rfl
      rw [this]
      generalize looseR (sizeD (fstD d)) x = p
      generalize delT (sndD x) = r
      generalize l.all (looseR (sizeD (fstD d))) = A at ih ⊢
      generalize l.all (rowB (sizeD (fstD d))) = B at ih ⊢
      cases p <;> cases r <;> cases A <;> cases B <;> first | rfl | cases ih
  have k := key (rowsOf (sndD d))
  generalize (rowsOf (sndD d)).all (rowB (sizeD (fstD d))) = a at k ⊢
  generalize (rowsOf (sndD d)).all (looseR (sizeD (fstD d))) = b at k ⊢
  cases isPr d <;> cases intIn 1 8 (fstD d) <;> cases isTup (sndD d) <;> cases decide ((rowsOf (sndD d)).length ≤ 24) <;> cases a <;> cases b <;> first | rfl | cases k
theorem isi_any (d : D) (hd : dat d = true) (st : Store) : isiD "tuple" d st = .ok (.bl (isTup d)) st := by
  cases d <;> first | (cases hd; done) | simp [isTup]
theorem isTup_shape {d : D} (h : isTup d = true) : d = .tup (rowsOf d) := by
  cases d <;> first | rfl | cases h
theorem intIn_shape {lo hi : Int} {d : D} (h : intIn lo hi d = true) : d = .int (sizeD d) := by
  cases d <;> first | rfl | cases h
section
variable {T : Tab} {wf : Nat}
theorem loose_set_any (L : Lc T) (d : D) (hd : datN 5 d) (st : Store) (n : Nat) : fnAt T csg wf (n + 5) 7 [d] st = .ok (.bl (looseS d)) st := by
  rw [fnAt_of L.i7]
  have q := pair_any (wf := wf) L d hd.dat st (n + 3)
  unfold looseS
  cases hp : isPr d with
  | false =>
    rw [hp] at q
    simp [s_is_loose_rules, c_is_loose_rules, runFn, startE, q]
  | true =>
    rw [hp] at q
    obtain ⟨h1, h2⟩ := datN_pr hd hp
    have e := pr_shape hp
    have q1 := between_any (wf := wf) L (fstD d) h1.dat 1 8 st (n + 2)
    have q2 := isi_any (sndD d) h2.dat st
    have i0 : idxD d (.int 0) st = .ok (fstD d) st := by rw [e]; simp [fstD]
    have i1 : idxD d (.int 1) st = .ok (sndD d) st := by rw [e]; simp [sndD]
    cases hi : intIn 1 8 (fstD d) with
    | false =>
      rw [hi] at q1
      simp [s_is_loose_rules, c_is_loose_rules, runFn, startE, csg, q, i0, q1]
    | true =>
      rw [hi] at q1
      cases ht : isTup (sndD d) with
      | false =>
        rw [ht] at q2
        simp [s_is_loose_rules, c_is_loose_rules, runFn, startE, csg, q, i0, q1, i1, q2]
      | true =>
        rw [ht] at q2
        have e1 := intIn_shape hi
        have e2 := isTup_shape ht
        rw [e2] at h2 i1 q2
        rw [e1] at i0 q1
        obtain ⟨_, hz, hx⟩ := h2
        have l1 := lcGo_id (t := gdName 1) (c := fYes) (el := fArgs (fnAt T csg wf (n + 4) 6) (fCons (fBin idxD (fVar 0) (fCon (.int 0))) (fCons (fVar 1) fNil))) (env := [some d, none]) (st := st) (fun r => D.bl (looseR (sizeD (fstD d)) r)) (rowsOf (sndD d)) hz
          (fun r hr => ⟨_, rfl, rfl, by simp [i0, loose_any L (sizeD (fstD d)) r (hx r hr)]⟩)
        have a1 := all_bl (looseR (sizeD (fstD d))) (rowsOf (sndD d)) st
        generalize (rowsOf (sndD d)).map (fun r => D.bl (looseR (sizeD (fstD d)) r)) = B at l1 a1
        simp [s_is_loose_rules, c_is_loose_rules, runFn, startE, csg, q, i0, q1, i1, q2, l1, a1]
theorem set_any (L : Lc T) (d : D) (hd : datN 5 d) (st : Store) (n : Nat) : fnAt T csg wf (n + 6) 11 [d] st = .ok (.bl (setB d)) st := by
  rw [fnAt_of L.i11, setB_eq]
  have q := loose_set_any (wf := wf) L d hd st n
  cases hl : looseS d with
  | false =>
    rw [hl] at q
    simp [s_is_rule_set, c_is_rule_set, runFn, startE, q]
  | true =>
    rw [hl] at q
    unfold looseS at hl
    simp only [Bool.and_eq_true] at hl
    obtain ⟨hp, hi, ht, _⟩ := hl
    obtain ⟨h1, h2⟩ := datN_pr hd hp
    have e := pr_shape hp
    have e1 := intIn_shape hi
    have e2 := isTup_shape ht
    have i0 : idxD d (.int 0) st = .ok (.int (sizeD (fstD d))) st := by rw [← e1, e]; simp [fstD]
    have i1 : idxD d (.int 1) st = .ok (.tup (rowsOf (sndD d))) st := by rw [← e2, e]; simp [sndD]
    rw [e2] at h2
    obtain ⟨_, hz, hx⟩ := h2
    have l1 := lcGo_id (t := gdName 1) (c := fYes) (el := fArgs (fnAt T csg wf (n + 5) 8) (fCons (fBin idxD (fVar 0) (fCon (.int 0))) (fCons (fVar 1) fNil))) (env := [some d, none]) (st := st) (fun r => D.bl (rowB (sizeD (fstD d)) r)) (rowsOf (sndD d)) hz
      (fun r hr => ⟨_, rfl, rfl, by simp [i0, rule_any L (sizeD (fstD d)) r (hx r hr)]⟩)
    have a1 := all_bl (rowB (sizeD (fstD d))) (rowsOf (sndD d)) st
    generalize (rowsOf (sndD d)).map (fun r => D.bl (rowB (sizeD (fstD d)) r)) = B at l1 a1
    by_cases h24 : (rowsOf (sndD d)).length ≤ 24
    · have n1 : ¬ (24 : Int) < ((rowsOf (sndD d)).length : Int) := by omega
      simp [s_is_rule_set, c_is_rule_set, runFn, startE, csg, q, i0, i1, n1, h24, l1, a1]
    · have n1 : (24 : Int) < ((rowsOf (sndD d)).length : Int) := by omega
      simp [s_is_rule_set, c_is_rule_set, runFn, startE, csg, q, i0, i1, n1, h24]
end
end L2.G4

set_option maxHeartbeats 4000000
/-! MY: values that are no rule sets. -/
namespace L2.G4
open PySem PySem.Spec PyProof.Rows

theorem flat_rep (m : Nat) (x : D) : (List.replicate m [x]).flatten = List.replicate m x := by
  induction m with
  | zero => rfl
  | succ m ih => rw [List.replicate_succ, List.flatten_cons, ih, List.replicate_succ]; rfl
theorem mulT1 (x : D) {m : Int} (h0 : -1000 ≤ m) (h1 : m ≤ 1000) (st : Store) : binD .Mult (.tup [x]) (.int m) st = .ok (.tup (List.replicate m.toNat x)) st := by
  show (if -1000 ≤ m ∧ m ≤ 1000 ∧ [x].length ≤ 1000 then Rz.ok (D.tup (List.replicate m.toNat [x]).flatten) st else .bad) = _
  rw [if_pos ⟨h0, h1, by simp⟩, flat_rep]
theorem rep_m {x : D} {b : Bool} (h : okv b x = true) : ∀ m : Nat, okvs b (List.replicate m x) = true ∧ dpvs (List.replicate m x) ≤ dpv x ∧ bkvs (List.replicate m x) = (bkv x + 1) * m
  | 0 => ⟨rfl, Nat.zero_le _, by simp [bkvs]⟩
  | m + 1 => by
    obtain ⟨h1, h2, h3⟩ := rep_m h m
    rw [List.replicate_succ]
    refine ⟨by simp only [okvs, h, h1, Bool.and_self], by simp only [dpvs]; omega, ?_⟩
    simp only [bkvs, h3, Nat.mul_add, Nat.mul_one]
    omega
/-- a list copied some times -/
theorem rep_ms {xs : List D} {b : Bool} (h : okvs b xs = true) : ∀ m : Nat, okvs b (List.replicate m xs).flatten = true ∧ dpvs (List.replicate m xs).flatten ≤ dpvs xs ∧ bkvs (List.replicate m xs).flatten = bkvs xs * m
  | 0 => ⟨rfl, Nat.zero_le _, by simp [bkvs]⟩
  | m + 1 => by
    obtain ⟨h1, h2, h3⟩ := rep_ms h m
    rw [List.replicate_succ, List.flatten_cons]
    refine ⟨by simp only [okvs_app, h, h1, Bool.and_self], by simp only [dpvs_app]; omega, ?_⟩
    simp only [bkvs_app, h3, Nat.mul_add, Nat.mul_one]
    omega
mutual
theorem okv_blw (n : Nat) (b : Bool) : ∀ d : D, okv b d = true → blw n d = true
  | .non, _ => by simp [blw]
  | .bl _, _ => by simp [blw]
  | .int _, _ => by simp [blw]
  | .str _, _ => by simp [blw]
  | .tup ds, h => by simp only [blw]; exact okvs_blw n b ds (by simpa only [okv] using h)
  | .lst ds, h => by
    simp only [blw]
    simp only [okv, Bool.and_eq_true] at h
    exact okvs_blw n b ds h.2
  | .dct ks ds, h => by
    simp only [blw]
    simp only [okv, Bool.and_eq_true] at h
    exact okvs_blw n b ds h.2
  | .fls _, h => by simp [okv] at h
  | .byt _, h => by simp [okv] at h
  | .loc _, h => by simp [okv] at h
  | .exn _ _ _ _, h => by simp [okv] at h
  | .fnv _ _ _ _ _ _, h => by simp [okv] at h
theorem okvs_blw (n : Nat) (b : Bool) : ∀ ds : List D, okvs b ds = true → blws n ds = true
  | [], _ => by simp [blws]
  | d :: ds, h => by
    simp only [okvs, Bool.and_eq_true] at h
    simp only [blws, okv_blw n b d h.1, okvs_blw n b ds h.2, Bool.and_self]
end
theorem An.blw {dp bk : Nat} {d : D} (h : An dp bk d) (n : Nat) : G4.blw n d = true := h.1.elim (okv_blw n _ d) (okv_blw n _ d)
/-- a loop that appends to an object -/
theorem app_loop {body : Fs} {mk : Option D → Env} {f : D → D} {V i : Nat} (hm : ∀ d v, gdName i d (mk v) = some (mk (some d)))
    (step : ∀ d (st : Store) xs, st[V]? = some (.lst xs) → xs.length < sizeLine → body (mk (some d)) st = .nx (mk (some d)) (st.set V (.lst (xs ++ [f d])))) :
    ∀ (ds : List D) (v : Option D) (st : Store) (xs : List D), st[V]? = some (.lst xs) → xs.length + ds.length ≤ sizeLine → ∃ v', forGo (gdName i) none body ds (mk v) st = .nx (mk v') (st.set V (.lst (xs ++ ds.map f)))
  | [], v, st, xs, h, _ => ⟨v, by rw [forGo_nil0, List.map_nil, List.append_nil, set_id h]⟩
  | d :: ds, v, st, xs, h, hz => by
    rw [List.length_cons] at hz
    have hV : V < st.length := (List.getElem?_eq_some_iff.mp h).1
    obtain ⟨v', ih⟩ := app_loop (f := f) hm step ds (some d) (st.set V (.lst (xs ++ [f d]))) (xs ++ [f d]) (List.getElem?_set_self hV) (by rw [List.length_append, List.length_singleton]; omega)
    refine ⟨v', ?_⟩
    rw [forGo_cons0, hm]
    simp only [step d st xs h (by omega), Fl.turn_nx]
    rw [ih, List.set_set, List.append_assoc]
    rfl
/-- the rows of a rule set as data -/
structure Rw (size : Int) (L : List D) : Prop where
  ok : okvs false L = true
  dp : dpvs L ≤ 3
  bk : bkvs L ≤ 648
  len : L.length ≤ 24
theorem log_s {i : Int} (h0 : -1000 ≤ i) (h1 : i ≤ 1000) : i.natAbs.log2 < 1920 := log_small h0 h1
def c_nr_1 : CE := .cons (.drop (.mth .append (.var 3) (.cons (.tup (.cons (.var 5) (.cons (.tup (.cons (.var 4) (.nil))) (.nil)))) (.nil)))) (.nil)
def c_nr_2 : CE := .cons (.drop (.mth .append (.var 3) (.cons (.tup (.cons (.var 5) (.cons (.bin .Add (.slc (.var 6) (.nil) (.con (.int 23))) (.tup (.cons (.var 4) (.nil)))) (.nil)))) (.nil)))) (.nil)
theorem s_nr_eq : s_u_law_no_rules = ⟨2, 7, .cons (.asg (.tup (.cons (.var 5) (.cons (.var 6) (.nil)))) (.var 1)) (.cons (.asg (.var 2) (.tup (.cons (.con (.int 0)) (.cons (.tup (.cons (.tup (.cons (.con (.int 0)) (.cons (.con (.int 1)) (.nil)))) (.nil))) (.nil))))) (.cons (.asg (.var 3) (.lst true (.cons (.con .non) (.cons (.tup (.nil)) (.cons (.con (.int 3)) (.cons (.con (.str "rules")) (.cons (.dct0) (.cons (.blt .list (.cons (.var 1) (.nil))) (.cons (.slc (.var 1) (.nil) (.con (.int 1))) (.cons (.bin .Add (.var 1) (.tup (.cons (.con (.int 0)) (.nil)))) (.cons (.tup (.cons (.con (.int 0)) (.cons (.var 6) (.nil)))) (.cons (.tup (.cons (.con (.int 9)) (.cons (.tup (.nil)) (.nil)))) (.cons (.tup (.cons (.con (.bl true)) (.cons (.tup (.nil)) (.nil)))) (.nil)))))))))))))) (.cons (.asg (.var 3) (.opN .Add (.var 3) (.lst false (.cons (.tup (.cons (.var 5) (.cons (.blt .list (.cons (.var 6) (.nil))) (.nil)))) (.cons (.tup (.cons (.var 5) (.cons (.bin .Mult (.tup (.cons (.var 2) (.nil))) (.con (.int 25))) (.nil)))) (.cons (.tup (.cons (.var 5) (.cons (.tup (.cons (.tup (.cons (.var 5) (.cons (.tup (.nil)) (.nil)))) (.nil))) (.nil)))) (.cons (.tup (.cons (.var 5) (.cons (.tup (.cons (.tup (.cons (.neg (.con (.int 1))) (.cons (.tup (.nil)) (.nil)))) (.nil))) (.nil)))) (.cons (.tup (.cons (.var 5) (.cons (.tup (.cons (.con .non) (.nil))) (.nil)))) (.nil))))))))) (.cons (.for_ (.lst false (.cons (.tup (.cons (.con (.int 0)) (.cons (.lst false (.cons (.tup (.cons (.con (.int 0)) (.cons (.con (.int 1)) (.nil)))) (.nil))) (.nil)))) (.cons (.tup (.cons (.con (.int 0)) (.cons (.tup (.cons (.tup (.cons (.con (.int 0)) (.cons (.con (.int 60)) (.nil)))) (.nil))) (.nil)))) (.cons (.tup (.cons (.con (.int 0)) (.cons (.tup (.cons (.tup (.cons (.con (.int 0)) (.cons (.neg (.con (.int 61))) (.nil)))) (.nil))) (.nil)))) (.cons (.tup (.cons (.con (.int 0)) (.cons (.tup (.cons (.tup (.cons (.var 5) (.cons (.con (.int 0)) (.nil)))) (.nil))) (.nil)))) (.cons (.tup (.cons (.con (.int 0)) (.nil))) (.cons (.tup (.cons (.con (.int 0)) (.cons (.tup (.cons (.tup (.cons (.con (.int 0)) (.cons (.con (.int 1)) (.nil)))) (.cons (.tup (.cons (.con (.int 0)) (.cons (.con (.int 2)) (.nil)))) (.nil)))) (.nil)))) (.nil)))))))) (.var 4) c_nr_1) (.cons (.for_ (.lst false (.cons (.tup (.cons (.con (.int 0)) (.cons (.tup (.cons (.tup (.cons (.con (.int 0)) (.cons (.con (.bl true)) (.nil)))) (.nil))) (.nil)))) (.cons (.tup (.cons (.con (.bl false)) (.cons (.tup (.nil)) (.nil)))) (.cons (.tup (.cons (.lst false (.nil)) (.cons (.tup (.nil)) (.nil)))) (.nil))))) (.var 4) c_nr_2) (.cons (.ret (.idx (.var 3) (.call 13 (.cons (.var 0) (.cons (.con (.int 25)) (.nil)))))) (.nil))))))), false⟩ := rfl
def nr_a (L R : List D) (size : Int) : List D := [.non, .tup [], .int 3, .str "rules", .dct [] [], .lst [.int size, .tup L], .tup [.int size], .tup [.int size, .tup L, .int 0], .tup [.int 0, .tup L], .tup [.int 9, .tup []], .tup [.bl true, .tup []]]
def nr_b (L R : List D) (size : Int) : List D := [.tup [.int size, .lst L], .tup [.int size, .tup R], .tup [.int size, .tup [.tup [.int size, .tup []]]], .tup [.int size, .tup [.tup [.int (-1), .tup []]]], .tup [.int size, .tup [.non]]]
def nr_c (size : Int) : List D := [.tup [.int 0, .lst [.tup [.int 0, .int 1]]], .tup [.int 0, .tup [.tup [.int 0, .int 60]]], .tup [.int 0, .tup [.tup [.int 0, .int (-61)]]], .tup [.int 0, .tup [.tup [.int size, .int 0]]], .tup [.int 0], .tup [.int 0, .tup [.tup [.int 0, .int 1], .tup [.int 0, .int 2]]]]
def nr_d : List D := [.tup [.int 0, .tup [.tup [.int 0, .bl true]]], .tup [.bl false, .tup []], .tup [.lst [], .tup []]]
theorem nr_all {L R : List D} {size : Int} (s0 : 0 ≤ size) (s1 : size ≤ 8) (hL : Rw size L) (r1 : okvs false R = true) (r2 : dpvs R ≤ 4) (r3 : bkvs R ≤ 400) :
    ∀ x ∈ nr_a L R size ++ nr_b L R size ++ (nr_c size).map (fun o => D.tup [.int size, .tup [o]]) ++ nr_d.map (fun o => D.tup [.int size, .tup (L.take 23 ++ [o])]), An 8 2000 x ∧ Fz x := by
  have f : ∀ {x : D}, okv false x = true → dpv x ≤ 8 → bkv x ≤ 2000 → An 8 2000 x ∧ Fz x := fun h1 h2 h3 => ⟨⟨.inl h1, h2, h3⟩, fun _ => h1⟩
  have ls := log_s (i := size) (by omega) (by omega)
  have l0 := log_s (i := 0) (by omega) (by omega)
  have l1 := log_s (i := 1) (by omega) (by omega)
  have l2 := log_s (i := 2) (by omega) (by omega)
  have l3 := log_s (i := 3) (by omega) (by omega)
  have l9 := log_s (i := 9) (by omega) (by omega)
  have l60 := log_s (i := 60) (by omega) (by omega)
  have m1 := log_s (i := -1) (by omega) (by omega)
  have m61 := log_s (i := -61) (by omega) (by omega)
  obtain ⟨a1, a2, a3, a4⟩ := hL
  have cj := cut_at false L 23
  have c1 := cj.ok
  have c2 := cj.dp
  have c3 := cj.bk
  rw [a1] at c1
  have c1 := (Bool.and_eq_true _ _).mp c1.symm
  have dD : An 8 2000 (.dct [] []) ∧ Fz (.dct [] []) := ⟨⟨.inr (by decide +kernel), by decide +kernel, by decide +kernel⟩, fun q => by cases q⟩
  have dS : An 8 2000 (.str "rules") ∧ Fz (.str "rules") := ⟨⟨.inl (by decide +kernel), by decide +kernel, by decide +kernel⟩, fun q => by cases q⟩
  simp only [nr_a, nr_b, nr_c, nr_d, List.map_cons, List.map_nil, List.cons_append, List.nil_append, List.forall_mem_cons]
  refine ⟨f ?_ ?_ ?_, f ?_ ?_ ?_, f ?_ ?_ ?_, dS, dD, f ?_ ?_ ?_, f ?_ ?_ ?_, f ?_ ?_ ?_, f ?_ ?_ ?_, f ?_ ?_ ?_, f ?_ ?_ ?_, f ?_ ?_ ?_, f ?_ ?_ ?_, f ?_ ?_ ?_, f ?_ ?_ ?_, f ?_ ?_ ?_, f ?_ ?_ ?_, f ?_ ?_ ?_, f ?_ ?_ ?_, f ?_ ?_ ?_, f ?_ ?_ ?_, f ?_ ?_ ?_, f ?_ ?_ ?_, f ?_ ?_ ?_, f ?_ ?_ ?_, fun _ h => absurd h (by simp)⟩
  all_goals first
    | decide +kernel
    | (simp only [okv, okvs, okvs_app, dpv, dpvs, dpvs_app, bkv, bkvs, bkvs_app, ls, l0, l1, l2, l3, l9, l60, m1, m61, a1, r1, c1.1, decide_true, Bool.and_self, Bool.not_false]; done)
    | (simp only [dpv, dpvs, dpvs_app, bkv, bkvs, bkvs_app]; omega)
theorem set_tail {size : Int} {xs : List D} {o : D} (h : rowB size o = false) : setB (.tup [.int size, .tup (xs ++ [o])]) = false := by
  unfold setB
  simp only [fstD, sndD, rowsOf, sizeD, List.all_append, List.all_cons, h, Bool.false_and, Bool.and_false]
theorem nr_no {L R : List D} {size : Int} (hR : R.length = 25) : ∀ x ∈ nr_a L R size ++ nr_b L R size ++ (nr_c size).map (fun o => D.tup [.int size, .tup [o]]) ++ nr_d.map (fun o => D.tup [.int size, .tup (L.take 23 ++ [o])]), setB x = false := by
  have one : ∀ o : D, rowB size o = false → setB (.tup [.int size, .tup [o]]) = false := fun o h => set_tail (xs := []) h
  have r1 : rowB size (.tup [.int size, .tup []]) = false := by
    unfold rowB looseR
    simp only [fstD, intIn]
    rw [show decide (size ≤ size - 1) = false by simp; omega]
    simp
  have big : ∀ d : Int, (d < -60 ∨ 59 < d) → rowB size (.tup [.int 0, .tup [.tup [.int 0, .int d]]]) = false := fun d hd => by
    unfold rowB delT
    have e : allOf prOf [D.tup [.int 0, .int d]] = some [(0, d)] := rfl
    simp only [sndD, e, List.all_cons, List.all_nil, Bool.and_true]
    rw [show (decide (-60 ≤ d) && decide (d ≤ 59)) = false by
      rw [Bool.and_eq_false_iff, decide_eq_false_iff_not, decide_eq_false_iff_not]
      omega]
    simp
  have out : rowB size (.tup [.int 0, .tup [.tup [.int size, .int 0]]]) = false := by
    unfold rowB looseR looseTD looseT
    have e : allOf prOf [D.tup [.int size, .int 0]] = some [(size, 0)] := rfl
    simp only [sndD, e, List.all_cons, List.all_nil, Bool.and_true]
    rw [show (decide (0 ≤ size) && decide (size ≤ size - 1)) = false by
      rw [Bool.and_eq_false_iff, decide_eq_false_iff_not, decide_eq_false_iff_not]
      omega]
    simp
  have asc : rowB size (.tup [.int 0, .tup [.tup [.int 0, .int 1], .tup [.int 0, .int 2]]]) = false := by
    unfold rowB looseR looseTD looseT
    have e : allOf prOf [D.tup [.int 0, .int 1], .tup [.int 0, .int 2]] = some [(0, 1), (0, 2)] := rfl
    have e2 : ascB [(0, 1), (0, 2)] = false := rfl
    simp only [sndD, e, e2, Bool.and_false, Bool.false_and]
  have neg : rowB size (.tup [.int (-1), .tup []]) = false := by
    unfold rowB looseR
    simp [fstD, intIn]
  simp only [nr_a, nr_b, nr_c, nr_d, List.map_cons, List.map_nil, List.cons_append, List.nil_append, List.forall_mem_cons]
  refine ⟨rfl, rfl, rfl, rfl, rfl, rfl, rfl, rfl, ?_, ?_, ?_, ?_, ?_, one _ r1, one _ neg, one _ ?_, one _ ?_, one _ (big 60 (by omega)), one _ (big (-61) (by omega)), one _ out, one _ rfl, one _ asc, set_tail ?_, set_tail ?_, set_tail ?_, fun _ h => absurd h (by simp)⟩
  · simp [setB, isPr, fstD, intIn]
  · simp [setB, isPr, fstD, intIn]
  · simp [setB, isPr, fstD, intIn]
  · simp [setB, sndD, isTup]
  · simp [setB, sndD, rowsOf, hR]
  · simp [rowB, looseR, isPr]
  · simp [rowB, looseR, sndD, looseTD]
  · simp [rowB, looseR, sndD, looseTD, looseT, allOf, prOf]
  · simp [rowB, looseR, fstD, intIn]
  · simp [rowB, looseR, fstD, intIn]
section
variable {T : Tab} {wf : Nat} {size : Int}
theorem no_rules_ok (h13 : T.lookup 13 = some s_u_law_draw) (h22 : T.lookup 22 = some s_u_law_no_rules) {k : Nat} {b : Int} {st : Store} (hs : Sv k b st) (hb : b + 100 ≤ 2 ^ 60) (s0 : 0 ≤ size) (s1 : size ≤ 8) {L : List D} (hL : Rw size L) (n : Nat) :
    ∃ (d : D) (st' : Store), fnAt T csg wf (n + 2) 22 [.loc k, .tup [.int size, .tup L]] st = .ok d st' ∧ Up k st st' ∧ Sv k (b + 1) st' ∧ An 8 2000 d ∧ Fz d ∧ setB d = false := by
  rw [fnAt_of h22, s_nr_eq]
  have hz11 : 11 ≤ sizeLine := by decide
  have hz6 : 6 ≤ sizeLine := by decide
  have hz5 : 5 ≤ sizeLine := by decide
  have hz3 : 3 ≤ sizeLine := by decide
  have hz2 : 2 ≤ sizeLine := by decide
  have hz1 : 1 ≤ sizeLine := by decide
  have hz0 : 0 ≤ sizeLine := by decide
  obtain ⟨R, hR, r1, r2, r3, r4⟩ : ∃ R : List D, (∀ st, binD .Mult (.tup [.tup [.int 0, .tup [.tup [.int 0, .int 1]]]]) (.int 25) st = .ok (.tup R) st) ∧ okvs false R = true ∧ dpvs R ≤ 4 ∧ bkvs R ≤ 400 ∧ R.length = 25 := by
    obtain ⟨q1, q2, q3⟩ := rep_m (x := .tup [.int 0, .tup [.tup [.int 0, .int 1]]]) (b := false) (by decide +kernel) 25
    refine ⟨_, fun st => mulT1 _ (by omega) (by omega) st, q1, Nat.le_trans q2 (by decide +kernel), ?_, by simp⟩
    rw [show (25 : Int).toNat = 25 from rfl, q3]
    decide +kernel
  have hall := fun x hx => And.intro (nr_all s0 s1 hL r1 r2 r3 x hx) (nr_no (L := L) (R := R) (size := size) r4 x hx)
  have hk := hs.lt
  have ht : ∀ st, slcD (.tup L) none (some 23) st = .ok (.tup (L.take 23)) st := fun st => slc_takeN L 23 st
  have ht1 : ∀ st, slcD (.tup [.int size, .tup L]) none (some 1) st = .ok (.tup [.int size]) st := fun st => slc_takeN [.int size, .tup L] 1 st
  -- the list object
  have e0 : (st ++ [O.lst (nr_a L R size)])[st.length]? = some (.lst (nr_a L R size)) := by rw [List.getElem?_append_right (Nat.le_refl _), Nat.sub_self]; rfl
  have ad : binN .Add (.loc st.length) (.lst (nr_b L R size)) (st ++ [O.lst (nr_a L R size)]) = .ok (.loc (st.length + 1)) (st ++ [O.lst (nr_a L R size)] ++ [O.lst (nr_a L R size ++ nr_b L R size)]) := by
    simp only [binN]
    unfold addN
    simp only [lst_loc e0]
    show (if _ then _ else _) = _
    rw [if_pos (show (nr_a L R size).length + (nr_b L R size).length ≤ sizeLine by rw [sizeLine_eq]; show 16 ≤ _; omega)]
    rw [List.length_append]
    rfl
  let mk : Option D → Env := fun v => [some (.loc k), some (.tup [.int size, .tup L]), some (.tup [.int 0, .tup [.tup [.int 0, .int 1]]]), some (.loc (st.length + 1)), v, some (.int size), some (.tup L)]
  have e1 : ∀ xs, (st ++ [O.lst (nr_a L R size)] ++ [O.lst xs])[st.length + 1]? = some (.lst xs) := fun xs => by
    rw [List.getElem?_append_right (by rw [List.length_append]; exact Nat.le_refl _), List.length_append, List.length_singleton, Nat.sub_self]; rfl
  have t1 : ∀ xs ys, (st ++ [O.lst (nr_a L R size)] ++ [O.lst xs]).set (st.length + 1) (.lst ys) = st ++ [O.lst (nr_a L R size)] ++ [O.lst ys] := fun xs ys => by
    rw [List.set_append_right _ _ (by rw [List.length_append]; exact Nat.le_refl _), List.length_append, List.length_singleton, Nat.sub_self]; rfl
  obtain ⟨v1, l1⟩ := app_loop (body := (den ⟨fnAt T csg wf (n + 1), csg, wf, (0, 0), lmAt T csg wf (n + 1)⟩ c_nr_1).s) (mk := mk) (V := st.length + 1) (i := 4) (f := fun o => D.tup [.int size, .tup [o]]) (fun _ _ => rfl)
    (fun d s xs h hz => by simp [c_nr_1, mk, lst_loc h, app_loc h hz, hz1, hz2]) (nr_c size) none _ _ (e1 (nr_a L R size ++ nr_b L R size)) (by rw [sizeLine_eq]; show 22 ≤ _; omega)
  rw [t1] at l1
  obtain ⟨v2, l2⟩ := app_loop (body := (den ⟨fnAt T csg wf (n + 1), csg, wf, (0, 0), lmAt T csg wf (n + 1)⟩ c_nr_2).s) (mk := mk) (V := st.length + 1) (i := 4) (f := fun o => D.tup [.int size, .tup (L.take 23 ++ [o])]) (fun _ _ => rfl)
    (fun d s xs h hz => by
      have hL24 : min 23 L.length + 1 ≤ sizeLine := by rw [sizeLine_eq]; omega
      simp [c_nr_2, mk, lst_loc h, app_loc h hz, ht, hz1, hz2, hL24]) nr_d v1 _ _ (e1 (nr_a L R size ++ nr_b L R size ++ (nr_c size).map (fun o => D.tup [.int size, .tup [o]]))) (by rw [sizeLine_eq, List.length_append, List.length_map]; show 25 ≤ _; omega)
  rw [t1] at l2
  have hlen : (nr_a L R size ++ nr_b L R size ++ (nr_c size).map (fun o => D.tup [.int size, .tup [o]]) ++ nr_d.map (fun o => D.tup [.int size, .tup (L.take 23 ++ [o])])).length = 25 := by simp only [List.length_append, List.length_map]; rfl
  generalize hAll : nr_a L R size ++ nr_b L R size ++ (nr_c size).map (fun o => D.tup [.int size, .tup [o]]) ++ nr_d.map (fun o => D.tup [.int size, .tup (L.take 23 ++ [o])]) = A at hall l2 hlen
  have S2 : Sv k b (st ++ [O.lst (nr_a L R size)] ++ [O.lst A]) := (hs.app _).app _
  obtain ⟨w, o1, f1, S1, a0, a1⟩ := draw_ok (T := T) (wf := wf) h13 (many := 25) S2 (by omega) (by omega) (by omega) n
  have hk1 : k < (st ++ [O.lst (nr_a L R size)]).length := by rw [List.length_append]; omega
  rw [set_app hk1, set_app hk] at f1 S1
  obtain ⟨d, e, hd⟩ := atI_mem (w := w) a0 (by omega) hall
  have eA : (st.set k o1 ++ [O.lst (nr_a L R size)] ++ [O.lst A])[st.length + 1]? = some (.lst A) := by
    rw [List.getElem?_append_right (by rw [List.length_append, List.length_set]; exact Nat.le_refl _), List.length_append, List.length_set, List.length_singleton, Nat.sub_self]; rfl
  have ix := i_loc _ eA w
  rw [e] at ix
  have S3 : Sv k (b + 1) (st.set k o1) := by
    obtain ⟨x0, x1, x2, g1, g2⟩ := S1
    rw [List.append_assoc, List.getElem?_append_left (by rw [List.length_set]; exact hk)] at g1
    exact ⟨x0, x1, x2, g1, g2⟩
  have U : Up k st (st.set k o1) := (Up.refl hs).set o1
  refine ⟨d, st.set k o1, ?_, U, S3, hd.1.1, hd.1.2, hd.2⟩
  have fin := gc_up (new := [O.lst (nr_a L R size)] ++ [O.lst A]) S3 U false (hd.1.1.blw st.length)
  rw [← List.append_assoc] at fin
  generalize st.set k o1 ++ [O.lst (nr_a L R size)] ++ [O.lst A] = stQ at f1 ix fin
  generalize st ++ [O.lst (nr_a L R size)] ++ [O.lst A] = stZ at l2 f1
  generalize st ++ [O.lst (nr_a L R size)] ++ [O.lst (nr_a L R size ++ nr_b L R size)] = stX at ad l1
  generalize st ++ [O.lst (nr_a L R size)] ++ [O.lst (nr_a L R size ++ nr_b L R size ++ (nr_c size).map (fun o => D.tup [.int size, .tup [o]]))] = stY at l1 l2
  simp only [nr_a, nr_b, nr_c, nr_d, mk] at l1 l2 ad
  simp [runFn, startE, hz11, hz6, hz5, hz3, hz2, hz1, hz0, hR, ht1, ad, l1, l2, f1, ix, fin]
end
end L2.G4

set_option maxHeartbeats 4000000
/-! MZ: shown and equal data, two generators, rule sets that fit: what several laws share. -/
namespace L2.G4
open PySem PySem.Spec PyProof.Rows
@[simp] theorem c_eqB (a b : Bool) (st : Store) : cmpD .Eq (.bl a) (.bl b) st = .ok (.bl (decide (a = b))) st := rfl
@[simp] theorem c_neB (a b : Bool) (st : Store) : cmpD .NotEq (.bl a) (.bl b) st = .ok (.bl (!decide (a = b))) st := rfl
@[simp] theorem c_insB (a b : Bool) (st : Store) : cmpD .IsNot (.bl a) (.bl b) st = .ok (.bl (!decide (a = b))) st := rfl
abbrev Rule := Int × List (Int × Int)
theorem srt_any (ts : List (Int × Int)) (st : Store) : bltD .sorted [.tup (ts.map encP)] st = .ok (.lst ((sortP ts).map encP)) st := by
  by_cases h : ts = []
  · subst h; rfl
  · exact srt_pairs h st
theorem asc_len : ∀ (ts : List (Int × Int)) (lo hi : Int), ts.Pairwise (fun x y => x.1 < y.1) → (∀ p ∈ ts, lo ≤ p.1 ∧ p.1 < hi) → ts.length ≤ (hi - lo).toNat
  | [], _, _, _, _ => Nat.zero_le _
  | p :: ts, lo, hi, h, hb => by
    have h' := List.pairwise_cons.mp h
    have b := hb p List.mem_cons_self
    have := asc_len ts (p.1 + 1) hi h'.2 fun q hq => ⟨by have := h'.1 q hq; omega, (hb q (List.mem_cons_of_mem _ hq)).2⟩
    rw [List.length_cons]
    omega
theorem Rl.rc {size : Int} (hs : size ≤ 8) {r : Rule} (h : Rl size r) : Rc size 8 r := by
  refine ⟨h, ?_⟩
  have := asc_len r.2 0 size h.2.1 fun p hp => (h.2.2 p hp).1
  omega
theorem any_bl {A : Type} (p : A → Bool) (xs : List A) (st : Store) : bltD .any [.lst (xs.map fun x => D.bl (p x))] st = .ok (.bl (xs.any p)) st := by
  have e : allOf blOf (xs.map fun x => D.bl (p x)) = some (xs.map p) := allOf_map blOf (fun x => D.bl (p x)) p (fun x => rfl) xs
  simp only [bltD, seqOf, tupOf, lstOf, Option.or, e, List.any_map]
  rfl
theorem atM {tm : List Int} {size : Int} (h : (tm.length : Int) = size) (st : Store) : AtO (encM tm) st size (tget (tm.map some)) := by
  have := encO_atT (tm := tm.map some) (s := st) (size := size) (by rw [List.length_map]; exact h)
  rw [List.map_map] at this
  exact this
theorem fitS {size : Int} (s0 : 0 ≤ size) (s1 : size ≤ 8) {rs : List Rule} (hr : ∀ r ∈ rs, Rc size 20 r) (hl : rs.length ≤ 24) : fitv (encS size rs) := by
  obtain ⟨h1, h2⟩ := encS_sz s0 (show size ≤ 1000 by omega) hr hl
  exact ⟨.inl ((bnd_ok _ (bnd_encS s0 (by omega) hr)).2 false), by omega, by omega⟩
theorem Rc.up {size : Int} {r : Rule} (h : Rc size 8 r) : Rc size 20 r := ⟨h.1, Nat.le_trans h.2 (by omega)⟩
theorem end_loc (st : Store) (xs : List D) : (st ++ [O.lst xs])[st.length]? = some (.lst xs) := by rw [List.getElem?_append_right (Nat.le_refl _), Nat.sub_self]; rfl
theorem end_set (st : Store) (xs ys : List D) : (st ++ [O.lst xs]).set st.length (.lst ys) = st ++ [O.lst ys] := by rw [List.set_append_right _ _ (Nat.le_refl _), Nat.sub_self]; rfl
@[simp] theorem x_par3 (i j l : Nat) (t : Fe (List D)) (env : Env) (st : Store) : fPar3 i j l t env st = Fl.ofRz env (t env st) fun ds st1 => match ds with
  | [d, e, f] => .nx (((env.set i (some d)).set j (some e)).set l (some f)) st1
  | _ => .bad := rfl
theorem blws_rows (n : Nat) (rs : List Rule) : blws n (rs.map encR) = true := blws_encR n rs
/-! ### shown, equal -/
theorem repr_val {d : D} {p : PyData} (hf : okv false d = true) (e : py d = some p) (hb : bkv d ≤ 8000) (hd : dpv d ≤ 60) (st : Store) : bltD .repr [d] st = .ok (.str p.shown) st := by
  obtain ⟨p', e', q, hdict⟩ := pv_ok d hf
  rw [e] at e'
  cases e'
  have er : reprD d st = some p.shown := by
    unfold reprD
    rw [pyT_data (.inl hf), e]
    simp only
    rw [if_pos ⟨q.sh, hdict, by rw [q.dp]; exact hd, shown_fit q hb⟩]
  simp only [bltD, er]
theorem eq_selfD {d e : D} {st : Store} (hd : pyT st d = pyT st e) (he : okv false e = true) (hp : dpv e ≤ 60) (hs : eqD d e st = match pyT st d, pyT st e with
    | some a, some b => if SeqAt.shaped a = true ∧ SeqAt.shaped b = true then some (PyData.eqv a b) else none
    | _, _ => none) : eqD d e st = some true := by
  obtain ⟨p, e1, s1⟩ := pv_shaped he (by omega)
  have hl := pv_lay _ _ he e1
  have p1 : pyT st e = some p := by rw [pyT_data (.inl he)]; exact e1
  rw [hs, hd, p1]
  simp only
  rw [if_pos ⟨s1, s1⟩, SeqAt.eqv_refl p hl]
theorem eq_tupS {ds : List D} (st : Store) (he : okv false (.tup ds) = true) (hp : dpv (.tup ds) ≤ 60) : eqD (.tup ds) (.tup ds) st = some true := eq_selfD rfl he hp rfl
theorem eq_locS {V : Nat} {ds : List D} {st : Store} (h : st[V]? = some (.lst ds)) (he : okv false (.lst ds) = true) (hp : dpv (.lst ds) ≤ 60) : eqD (.loc V) (.lst ds) st = some true :=
  eq_selfD (by simp only [pyT, lstOf, h]) he hp rfl
theorem cmp_tupE {ds : List D} (st : Store) (he : okv false (.tup ds) = true) (hp : dpv (.tup ds) ≤ 60) : cmpD .Eq (.tup ds) (.tup ds) st = .ok (.bl true) st ∧ cmpD .NotEq (.tup ds) (.tup ds) st = .ok (.bl false) st := by
  have e := eq_tupS st he hp
  constructor
  · show (match eqD (.tup ds) (.tup ds) st with
      | some b => Rz.ok (D.bl b) st
      | none => .bad) = _
    rw [e]
  · show (match (eqD (.tup ds) (.tup ds) st).map (!·) with
      | some b => Rz.ok (D.bl b) st
      | none => .bad) = _
    rw [e]
    rfl
theorem cmp_locE {V : Nat} {ds : List D} {st : Store} (h : st[V]? = some (.lst ds)) (he : okv false (.lst ds) = true) (hp : dpv (.lst ds) ≤ 60) : cmpD .Eq (.loc V) (.lst ds) st = .ok (.bl true) st := by
  show (match eqD (.loc V) (.lst ds) st with
    | some b => Rz.ok (D.bl b) st
    | none => .bad) = _
  rw [eq_locS h he hp]
theorem cmp_locN {V : Nat} {ds : List D} {st : Store} (h : st[V]? = some (.lst ds)) (he : okv false (.lst ds) = true) (hp : dpv (.lst ds) ≤ 60) : cmpD .NotEq (.loc V) (.lst ds) st = .ok (.bl false) st := by
  show (match (eqD (.loc V) (.lst ds) st).map (!·) with
    | some b => Rz.ok (D.bl b) st
    | none => .bad) = _
  rw [eq_locS h he hp]
  rfl
theorem rows_rw {size : Int} (s0 : 0 ≤ size) (s1 : size ≤ 8) {rs : List Rule} (hr : ∀ r ∈ rs, Rc size 8 r) (hl : rs.length ≤ 24) : Rw size (rs.map encR) := by
  obtain ⟨q1, q2, q3⟩ := encRs_ok (show size ≤ 1000 by omega) (c := 8) (rs := rs) fun r h => hr r h
  have b1 : bnd (encS size rs) = true := bnd_encS s0 (by omega) hr
  have b2 : bnds (rs.map encR) = true := by
    simp only [encS, bnd, bnds, Bool.and_eq_true] at b1
    exact b1.2.1
  have b3 := (bnds_ok _ b2).2 false
  rw [dpzs_dpvs _ q1 b3] at q2
  rw [bkzs_bkvs _ q1 b3] at q3
  refine ⟨b3, q2, ?_, by rw [List.length_map]; exact hl⟩
  have : (3 * 8 + 3) * rs.length ≤ (3 * 8 + 3) * 24 := Nat.mul_le_mul_left _ hl
  omega
/-- a comprehension with two generators that changes nothing -/
theorem lc2Go_flat {t t1 : Tg} {c c1 : Fe Bool} {src1 : Fe Src} {el : Fe D} {vs1 : List Nat} {env : Env} {st : Store} {A : Type} (enc : A → D) (out : A → List D) : ∀ (xs : List A) (acc : List D), acc.length + (xs.flatMap out).length ≤ sizeLine →
    (∀ x ∈ xs, ∃ env1 items, t (enc x) env = some env1 ∧ c env1 st = .ok true st ∧ src1 env1 st = .ok (items, none) st ∧ ∀ acc : List D, acc.length + (out x).length ≤ sizeLine → lcGo t1 none c1 el (wipeE env1 vs1) items acc st = .ok (acc ++ out x) st) →
    lc2Go t none c src1 t1 c1 el vs1 env (xs.map enc) acc st = .ok (acc ++ xs.flatMap out) st
  | [], acc, hz, h => by
    rw [List.map_nil]
    unfold lc2Go
    rw [if_pos (show gdOk none st from trivial), List.flatMap_nil, List.append_nil]
  | x :: xs, acc, hz, h => by
    rw [List.flatMap_cons, List.length_append] at hz
    obtain ⟨env1, items, h1, h2, h3, h4⟩ := h x List.mem_cons_self
    rw [List.map_cons]
    unfold lc2Go
    rw [if_pos (show gdOk none st from trivial), h1]
    simp only [h2, Rz.noexc_ok, Rz.bind_ok, if_true, h3]
    rw [h4 acc (by omega)]
    simp only [Rz.bind_ok]
    rw [lc2Go_flat enc out xs _ (by rw [List.length_append]; omega) fun y hy => h y (List.mem_cons_of_mem _ hy), List.flatMap_cons, List.append_assoc]
/-- a loop that appends to an object, and may end by a value -/
theorem ret_loop {t : Tg} {body : Fs} {V : Nat} {A : Type} {enc : A → D} {mk : Option D → Option D → Env} {u w : A → D} {f : A → List D} {p : A → Bool} {d : D} (hm : ∀ x a b, t (enc x) (mk a b) = some (mk (some (u x)) (some (w x)))) :
    ∀ (xs : List A), (∀ x ∈ xs, ∀ (st : Store) (ys : List D), st[V]? = some (.lst ys) → ys.length + (f x).length ≤ sizeLine → body (mk (some (u x)) (some (w x))) st = if p x = true then .nx (mk (some (u x)) (some (w x))) (st.set V (.lst (ys ++ f x))) else .rt d (st.set V (.lst (ys ++ f x)))) →
    ∀ (a b : Option D) (st : Store) (ys : List D), st[V]? = some (.lst ys) → ys.length + (xs.flatMap f).length ≤ sizeLine →
    (xs.all p = true ∧ ∃ a' b', forGo t none body (xs.map enc) (mk a b) st = .nx (mk a' b') (st.set V (.lst (ys ++ xs.flatMap f)))) ∨ (xs.all p = false ∧ ∃ ys', forGo t none body (xs.map enc) (mk a b) st = .rt d (st.set V (.lst ys')))
  | [], _, a, b, st, ys, h, _ => .inl ⟨rfl, a, b, by
    show forGo _ none body [] (mk a b) st = .nx (mk a b) (st.set V (.lst (ys ++ [])))
    rw [forGo_nil0, List.append_nil, set_id h]⟩
  | x :: xs, step, a, b, st, ys, h, hz => by
    rw [List.flatMap_cons, List.length_append] at hz
    have hV : V < st.length := (List.getElem?_eq_some_iff.mp h).1
    have s1 := step x List.mem_cons_self st ys h (by omega)
    cases hp : p x with
    | true =>
      rw [hp, if_pos rfl] at s1
      have ih := ret_loop (V := V) (f := f) (p := p) (d := d) hm xs (fun q hq => step q (List.mem_cons_of_mem _ hq)) (some (u x)) (some (w x)) (st.set V (.lst (ys ++ f x))) (ys ++ f x) (List.getElem?_set_self hV) (by rw [List.length_append]; omega)
      have e1 : ∀ y, forGo t none body ((x :: xs).map enc) (mk a b) st = y ↔ forGo t none body (xs.map enc) (mk (some (u x)) (some (w x))) (st.set V (.lst (ys ++ f x))) = y := fun y => by
        rw [List.map_cons, forGo_cons0, hm]
        simp only [s1, Fl.turn_nx]
      rcases ih with ⟨h1, a', b', h2⟩ | ⟨h1, ys', h2⟩
      · refine .inl ⟨by rw [List.all_cons, hp, h1]; rfl, a', b', (e1 _).mpr ?_⟩
        rw [h2, List.set_set, List.append_assoc, List.flatMap_cons]
      · refine .inr ⟨by rw [List.all_cons, hp, h1]; rfl, ys', (e1 _).mpr ?_⟩
        rw [h2, List.set_set]
    | false =>
      rw [hp, if_neg Bool.false_ne_true] at s1
      refine .inr ⟨by rw [List.all_cons, hp]; rfl, ys ++ f x, ?_⟩
      rw [List.map_cons, forGo_cons0, hm]
      simp only [s1, Fl.turn_rt]
theorem app2_loop {t : Tg} {body : Fs} {V : Nat} {A : Type} {enc : A → D} {mk : Option D → Option D → Env} {u w : A → D} {f : A → List D} (hm : ∀ x a b, t (enc x) (mk a b) = some (mk (some (u x)) (some (w x)))) (xs : List A)
    (step : ∀ x ∈ xs, ∀ (st : Store) (ys : List D), st[V]? = some (.lst ys) → ys.length + (f x).length ≤ sizeLine → body (mk (some (u x)) (some (w x))) st = .nx (mk (some (u x)) (some (w x))) (st.set V (.lst (ys ++ f x))))
    (a b : Option D) (st : Store) (ys : List D) (h : st[V]? = some (.lst ys)) (hz : ys.length + (xs.flatMap f).length ≤ sizeLine) : ∃ a' b', forGo t none body (xs.map enc) (mk a b) st = .nx (mk a' b') (st.set V (.lst (ys ++ xs.flatMap f))) := by
  rcases ret_loop (p := fun _ => true) (d := .non) hm xs (fun x hx st ys h hz => by rw [if_pos rfl]; exact step x hx st ys h hz) a b st ys h hz with ⟨_, q⟩ | ⟨q, _⟩
  · exact q
  · rw [List.all_eq_true.mpr fun _ _ => rfl] at q
    cases q
theorem fm_one {A : Type} (f : A → D) : ∀ xs : List A, (xs.flatMap fun x => [f x]) = xs.map f
  | [] => rfl
  | x :: xs => by rw [List.flatMap_cons, List.map_cons, fm_one f xs]; rfl
theorem fm_map {A B : Type} (f : A → List B) (g : B → D) : ∀ xs : List A, (xs.flatMap fun x => (f x).map g) = (xs.flatMap f).map g
  | [] => rfl
  | x :: xs => by rw [List.flatMap_cons, List.flatMap_cons, List.map_append, fm_map f g xs]
theorem fm_len {A B : Type} {f : A → List B} {c : Nat} : ∀ {xs : List A}, (∀ x ∈ xs, (f x).length ≤ c) → (xs.flatMap f).length ≤ c * xs.length
  | [], _ => Nat.zero_le _
  | x :: xs, h => by
    have := fm_len (c := c) fun y hy => h y (List.mem_cons_of_mem x hy)
    have := h x List.mem_cons_self
    rw [List.flatMap_cons, List.length_append, List.length_cons, Nat.mul_succ]
    omega
theorem eq_empty {st : Store} {k : Nat} {ds : List D} (h : st[k]? = some (.lst ds)) (hz : okzs ds = true) (hd : dpzs ds ≤ 60) : cmpD .Eq (.loc k) (.lst []) st = .ok (.bl ds.isEmpty) st := by
  have q := ne_empty h hz hd
  show (match eqD (.loc k) (.lst []) st with
    | some b => Rz.ok (D.bl b) st
    | none => .bad) = _
  have q : (match (eqD (.loc k) (.lst []) st).map (!·) with
    | some b => Rz.ok (D.bl b) st
    | none => .bad) = .ok (.bl (!ds.isEmpty)) st := q
  cases e : eqD (.loc k) (.lst []) st with
  | none => rw [e] at q; cases q
  | some b =>
    rw [e] at q
    simp only [Option.map_some, Rz.ok.injEq, D.bl.injEq, and_true] at q
    simp only
    cases b <;> cases hh : ds.isEmpty <;> rw [hh] at q <;> first | rfl | cases q
theorem mm_loc {st : Store} {k : Nat} {n : Int} {l : List Int} (h : st[k]? = some (.lst ((n :: l).map D.int))) (mx : Bool) : mmD mx (.loc k) none st = .ok (.int (if mx = true then mxF l n else mnF l n)) st := by
  have e := allOf_map intOf D.int (fun i : Int => i) (fun i => rfl) (n :: l)
  rw [List.map_id'] at e
  unfold mmD
  simp only [seqOf, tupOf, lstOf, h, Option.or, e]
end L2.G4

set_option maxHeartbeats 4000000
namespace L2.G4
open PySem PySem.Spec PyProof.Rows
def topS (i : Nat) : Stmt := PySem.Challenge.pw_latestof_k04_delays_added.main.body.getD i (.Pass ⟨0, 0, 0, 0⟩)
def clsS (i : Nat) : Stmt := match topS i with
  | .ClassDef _ _ _ b _ _ _ _ _ _ _ => b.getD 0 (.Pass ⟨0, 0, 0, 0⟩)
  | s => s
def c_law : CE := .cons (.for_ (.rng1 (.blt .max (.cons (.con (.int 1)) (.cons (.blt .min (.cons (.con (.int 8)) (.cons (.blt .len (.cons (.var 0) (.nil))) (.nil)))) (.nil))))) (.var 1) (.cons (.asg (.var 2) (.call 12 (.cons (.var 0) (.cons (.var 1) (.nil))))) (.cons (.asg (.var 3) (.call 53 (.cons (.var 2) (.cons (.bin .Add (.con (.int 1)) (.call 13 (.cons (.var 2) (.cons (.con (.int 8)) (.nil))))) (.cons (.idx (.lst false (.cons (.con (.int 3)) (.cons (.con (.int 59)) (.nil)))) (.call 13 (.cons (.var 2) (.cons (.con (.int 2)) (.nil))))) (.nil)))))) (.cons (.asg (.var 4) (.blt .repr (.cons (.var 3) (.nil)))) (.cons (.for_ (.call 74 (.cons (.var 2) (.cons (.var 3) (.nil)))) (.var 5) (.cons (.ifs (.cmp .NotEq (.blt .repr (.cons (.clam 72 (.call 66 (.cons (.var 3) (.cons (.var 5) (.nil))))) (.nil))) (.blt .repr (.cons (.call 73 (.cons (.var 3) (.cons (.var 5) (.nil)))) (.nil)))) (.cons (.ret (.con (.bl false))) (.nil)) (.nil)) (.cons (.ifs (.not (.call 75 (.cons (.var 3) (.cons (.bin .Sub (.call 13 (.cons (.var 2) (.cons (.con (.int 7)) (.nil)))) (.con (.int 3))) (.cons (.var 5) (.nil)))))) (.cons (.ret (.con (.bl false))) (.nil)) (.nil)) (.cons (.ifs (.not (.call 76 (.cons (.var 2) (.cons (.var 3) (.cons (.var 5) (.nil)))))) (.cons (.ret (.con (.bl false))) (.nil)) (.nil)) (.nil))))) (.cons (.ifs (.or (.cmp .NotEq (.blt .repr (.cons (.call 66 (.cons (.var 3) (.cons (.con (.int 0)) (.nil)))) (.nil))) (.var 4)) (.one (.cmp .NotEq (.blt .repr (.cons (.var 3) (.nil))) (.var 4)))) (.cons (.ret (.con (.bl false))) (.nil)) (.nil)) (.cons (.asg (.var 6) (.idx (.lst false (.cons (.con (.bl true)) (.cons (.con .non) (.cons (.con (.str "1")) (.cons (.tup (.cons (.con (.int 1)) (.nil))) (.cons (.lst false (.cons (.con (.int 1)) (.nil))) (.cons (.dct0) (.nil)))))))) (.call 13 (.cons (.var 2) (.cons (.con (.int 6)) (.nil)))))) (.cons (.asg (.var 7) (.lst true (.cons (.clam 72 (.call 66 (.cons (.call 22 (.cons (.var 2) (.cons (.var 3) (.nil)))) (.cons (.var 6) (.nil))))) (.nil)))) (.cons (.drop (.mth .append (.var 7) (.cons (.clam 72 (.call 66 (.cons (.var 3) (.cons (.var 6) (.nil))))) (.nil)))) (.cons (.ifs (.cmp .NotEq (.var 7) (.lst false (.cons (.con (.str "rules")) (.cons (.bin .Add (.con (.str "number ")) (.blt .repr (.cons (.var 6) (.nil)))) (.nil))))) (.cons (.ret (.con (.bl false))) (.nil)) (.nil)) (.nil))))))))))) (.cons (.ret (.con (.bl true))) (.nil))
def s_law : FnS := ⟨1, 8, c_law, false⟩
def c_u_law_amounts : CE := .cons (.asg (.var 2) (.lst true (.nil))) (.cons (.for_ (.idx (.var 1) (.con (.int 1))) (.tup (.cons (.var 4) (.cons (.var 5) (.nil)))) (.cons (.drop (.mth .extend (.var 2) (.cons (.lc false (.var 5) (.tup (.cons (.var 6) (.cons (.var 7) (.nil)))) (.nil) (.var 7) [("variable", 6), ("delay", 7)]) (.nil)))) (.nil))) (.cons (.asg (.var 3) (.lst false (.cons (.con (.int 0)) (.cons (.con (.int 1)) (.cons (.neg (.con (.int 1))) (.cons (.bin .Sub (.call 13 (.cons (.var 0) (.cons (.con (.int 121)) (.nil)))) (.con (.int 60))) (.cons (.bin .Sub (.call 13 (.cons (.var 0) (.cons (.con (.int 9)) (.nil)))) (.con (.int 4))) (.nil)))))))) (.cons (.ifs (.cmp .Eq (.var 2) (.lst false (.nil))) (.cons (.ret (.bin .Add (.var 3) (.lst false (.cons (.bin .Pow (.con (.int 10)) (.con (.int 40))) (.cons (.neg (.bin .Pow (.con (.int 10)) (.con (.int 40)))) (.nil)))))) (.nil)) (.nil)) (.cons (.ret (.bin .Add (.var 3) (.lst false (.cons (.bin .Sub (.con (.int 59)) (.blt .max (.cons (.var 2) (.nil)))) (.cons (.bin .Sub (.con (.int 60)) (.blt .max (.cons (.var 2) (.nil)))) (.cons (.bin .Sub (.neg (.con (.int 60))) (.blt .min (.cons (.var 2) (.nil)))) (.cons (.bin .Sub (.neg (.con (.int 61))) (.blt .min (.cons (.var 2) (.nil)))) (.nil)))))))) (.nil)))))
def s_u_law_amounts : FnS := ⟨2, 8, c_u_law_amounts, false⟩
def c_with_delayx : CE := .cons (.drop (.call 29 (.cons (.var 0) (.nil)))) (.cons (.ifs (.not (.call 1 (.cons (.var 1) (.nil)))) (.cons (.rai "InvalidNumber" "value" (.var 1)) (.nil)) (.nil)) (.cons (.asg (.var 2) (.callD 65 [1] (.cons (.idx (.var 0) (.con (.int 1))) (.cons (.var 1) (.nil))))) (.cons (.drop (.call 64 (.cons (.var 2) (.nil)))) (.cons (.ret (.tup (.cons (.idx (.var 0) (.con (.int 0))) (.cons (.var 2) (.nil))))) (.nil)))))
def s_with_delayx : FnS := ⟨2, 3, c_with_delayx, false⟩
def c_u_law_due_v1 : CE := .cons (.asg (.var 2) (.lst true (.nil))) (.cons (.for_ (.idx (.var 0) (.con (.int 1))) (.tup (.cons (.var 3) (.cons (.var 4) (.nil)))) (.cons (.drop (.mth .append (.var 2) (.cons (.tup (.cons (.var 3) (.cons (.blt .tuple (.cons (.lc false (.var 4) (.tup (.cons (.var 5) (.cons (.var 6) (.nil)))) (.nil) (.tup (.cons (.var 5) (.cons (.bin .Add (.var 6) (.var 1)) (.nil)))) [("variable", 5), ("delay", 6)]) (.nil))) (.nil)))) (.nil)))) (.cons (.ifs (.cmp .NotEq (.lc false (.var 4) (.tup (.cons (.var 5) (.cons (.var 6) (.nil)))) (.not (.cmp2 .Lt .Lt (.neg (.con (.int 61))) (.bin .Add (.var 6) (.var 1)) (.con (.int 60)))) (.con (.int 1)) [("variable", 5), ("delay", 6)]) (.lst false (.nil))) (.cons (.ret (.con (.str "large 60"))) (.nil)) (.nil)) (.nil)))) (.cons (.ret (.tup (.cons (.tup (.cons (.idx (.var 0) (.con (.int 0))) (.cons (.blt .tuple (.cons (.var 2) (.nil))) (.nil)))) (.nil)))) (.nil)))
def s_u_law_due_v1 : FnS := ⟨2, 7, c_u_law_due_v1, false⟩
def c_u_law_steps_right : CE := .cons (.asg (.var 3) (.clam 72 (.call 66 (.cons (.var 0) (.cons (.var 1) (.nil)))))) (.cons (.ifs (.isi "str" (.var 3)) (.cons (.ret (.con (.bl true))) (.nil)) (.nil)) (.cons (.ret (.cmp .Eq (.blt .repr (.cons (.clam 72 (.call 66 (.cons (.idx (.var 3) (.con (.int 0))) (.cons (.var 2) (.nil))))) (.nil))) (.blt .repr (.cons (.call 73 (.cons (.var 0) (.cons (.bin .Add (.var 1) (.var 2)) (.nil)))) (.nil))))) (.nil)))
def s_u_law_steps_right : FnS := ⟨3, 4, c_u_law_steps_right, false⟩
def c_u_law_solved_right : CE := .cons (.asg (.var 3) (.call 73 (.cons (.var 1) (.cons (.var 2) (.nil))))) (.cons (.ifs (.isi "str" (.var 3)) (.cons (.ret (.con (.bl true))) (.nil)) (.nil)) (.cons (.for_ (.rng1 (.con (.int 3))) (.var 4) (.cons (.asg (.var 5) (.call 54 (.cons (.var 0) (.cons (.idx (.var 1) (.con (.int 0))) (.nil))))) (.cons (.ifs (.cmp .NotEq (.blt .repr (.cons (.call 71 (.cons (.call 66 (.cons (.var 1) (.cons (.var 2) (.nil)))) (.cons (.var 5) (.nil)))) (.nil))) (.blt .repr (.cons (.call 57 (.cons (.idx (.var 3) (.con (.int 0))) (.cons (.var 5) (.nil)))) (.nil)))) (.cons (.ret (.con (.bl false))) (.nil)) (.nil)) (.nil)))) (.cons (.ret (.con (.bl true))) (.nil))))
def s_u_law_solved_right : FnS := ⟨3, 6, c_u_law_solved_right, false⟩
def c_check_rulesx : CE := .cons (.ifs (.not (.call 11 (.cons (.var 0) (.nil)))) (.cons (.rais "InvalidRules") (.nil)) (.nil)) (.nil)
def s_check_rulesx : FnS := ⟨1, 1, c_check_rulesx, false⟩
def c_delayed_by : CE := .cons (.asg (.var 3) (.lst true (.nil))) (.cons (.for_ (.var 0) (.tup (.cons (.var 4) (.cons (.var 5) (.nil)))) (.cons (.drop (.mth .append (.var 3) (.cons (.tup (.cons (.var 4) (.cons (.blt .tuple (.cons (.lc false (.var 5) (.tup (.cons (.var 6) (.cons (.var 7) (.nil)))) (.nil) (.tup (.cons (.var 6) (.cons (.bin .Add (.bin .Mult (.var 2) (.var 7)) (.var 1)) (.nil)))) [("variable", 6), ("delay", 7)]) (.nil))) (.nil)))) (.nil)))) (.nil))) (.cons (.ret (.blt .tuple (.cons (.var 3) (.nil)))) (.nil)))
def s_delayed_by : FnS := ⟨3, 8, c_delayed_by, false⟩
def c_check_delaysx : CE := .cons (.ifs (.not (.blt .all (.cons (.lc2 false (.var 0) (.tup (.cons (.var 1) (.cons (.var 2) (.nil)))) (.nil) (.var 2) (.tup (.cons (.var 3) (.cons (.var 4) (.nil)))) (.nil) (.call 3 (.cons (.var 4) (.nil))) [("left", 1), ("terms", 2), ("variable", 3), ("delay", 4)] [3, 4]) (.nil)))) (.cons (.rai "TooLarge" "limit" (.gc 2)) (.nil)) (.nil)) (.nil)
def s_check_delaysx : FnS := ⟨1, 5, c_check_delaysx, false⟩
def c_u_law_told : CE := .cons (.tryM (.cons (.asg (.var 2) (.act)) (.nil)) (.hnd "TooLarge" ["TooLarge"] ["InvalidRules", "InvalidNumber"] "limit" (some 1) (.cons (.ret (.bin .Add (.con (.str "large ")) (.blt .repr (.cons (.fld "limit" (.var 1)) (.nil))))) (.nil)) (.hnd "InvalidNumber" ["InvalidNumber"] ["TooLarge", "InvalidRules"] "value" (some 1) (.cons (.ret (.bin .Add (.con (.str "number ")) (.blt .repr (.cons (.fld "value" (.var 1)) (.nil))))) (.nil)) (.hnd "InvalidRules" ["InvalidRules"] ["TooLarge", "InvalidNumber"] "" none (.cons (.ret (.con (.str "rules"))) (.nil)) (.nil))))) (.cons (.ret (.tup (.cons (.var 2) (.nil)))) (.nil))
def s_u_law_told : FnS := ⟨1, 3, c_u_law_told, false⟩
def Tb0 : Tab := [(0, s_law), (12, s_u_law_source), (53, s_u_law_rules_v1), (13, s_u_law_draw), (74, s_u_law_amounts), (66, s_with_delayx), (73, s_u_law_due_v1), (75, s_u_law_steps_right), (76, s_u_law_solved_right), (22, s_u_law_no_rules), (16, s_u_law_ring), (52, s_u_law_widened_v1), (51, s_u_law_terms_v1), (29, s_check_rulesx), (1, s_is_integer), (65, s_delayed_by), (64, s_check_delaysx), (54, s_u_law_times), (71, s_is_solution), (57, s_u_law_solves), (50, s_u_law_delay_v1), (11, s_is_rule_set), (3, s_is_delay), (70, s_is_solution_by), (56, s_u_law_holds), (7, s_is_loose_rules), (8, s_is_rule_by), (2, s_is_between), (69, s_holds_by), (67, s_is_times_by), (55, s_u_law_side), (4, s_is_pair), (6, s_is_loose_rule), (68, s_right_by), (5, s_are_terms), (72, s_u_law_told)]
def Pg : List FnD := [
  (⟨0, "law", topS 46, ["script"], ["script", "at", "source", "given", "kept", "amount", "odd", "words"], []⟩ : FnD),
  (⟨12, "_law_source", topS 29, ["script", "at"], ["script", "at", "cell", "great", "mixed"], []⟩ : FnD),
  (⟨53, "_law_rules", topS 35, ["source", "size", "reach"], ["source", "size", "reach", "found", "turn", "mixed", "ring", "wide", "many", "row"], []⟩ : FnD),
  (⟨13, "_law_draw", topS 30, ["source", "many"], ["source", "many", "one", "two", "found"], []⟩ : FnD),
  (⟨74, "_law_amounts", topS 43, ["source", "given"], ["source", "given", "delays", "some", "left", "terms", "variable", "delay"], []⟩ : FnD),
  (⟨66, "with_delay", topS 21, ["rules", "amount"], ["rules", "amount", "found"], []⟩ : FnD),
  (⟨73, "_law_due", topS 42, ["given", "amount"], ["given", "amount", "rows", "left", "terms", "variable", "delay"], []⟩ : FnD),
  (⟨75, "_law_steps_right", topS 44, ["given", "first", "second"], ["given", "first", "second", "one"], []⟩ : FnD),
  (⟨76, "_law_solved_right", topS 45, ["source", "given", "amount"], ["source", "given", "amount", "due", "turn", "times"], []⟩ : FnD),
  (⟨22, "_law_no_rules", topS 40, ["source", "given"], ["source", "given", "row", "bad", "odd", "size", "some"], []⟩ : FnD),
  (⟨16, "_law_ring", topS 33, ["source", "size", "total"], ["source", "size", "total", "turn", "delays", "left", "row", "at", "one"], []⟩ : FnD),
  (⟨52, "_law_widened", topS 34, ["source", "size", "row", "reach"], ["source", "size", "row", "reach", "other", "variable", "terms", "one", "delay"], []⟩ : FnD),
  (⟨51, "_law_terms", topS 32, ["source", "size", "many", "reach"], ["source", "size", "many", "reach", "found", "turn", "variable"], []⟩ : FnD),
  (⟨29, "check_rules", topS 18, ["rules"], ["rules"], []⟩ : FnD),
  (⟨1, "is_integer", topS 9, ["value"], ["value"], []⟩ : FnD),
  (⟨65, "delayed_by", topS 20, ["rules", "amount", "factor"], ["rules", "amount", "factor", "found", "left", "terms", "variable", "delay"], [1]⟩ : FnD),
  (⟨64, "check_delays", topS 19, ["rules"], ["rules", "left", "terms", "variable", "delay"], []⟩ : FnD),
  (⟨54, "_law_times", topS 36, ["source", "size"], ["source", "size", "base", "span", "turn"], []⟩ : FnD),
  (⟨71, "is_solution", topS 27, ["rules", "value"], ["rules", "value"], []⟩ : FnD),
  (⟨57, "_law_solves", topS 39, ["given", "times"], ["given", "times", "row"], []⟩ : FnD),
  (⟨50, "_law_delay", topS 31, ["source", "reach"], ["source", "reach", "way"], []⟩ : FnD),
  (⟨11, "is_rule_set", topS 17, ["value"], ["value", "rule"], []⟩ : FnD),
  (⟨3, "is_delay", topS 11, ["value"], ["value"], []⟩ : FnD),
  (⟨70, "is_solution_by", topS 26, ["size", "rules", "times"], ["size", "rules", "times", "rule"], []⟩ : FnD),
  (⟨56, "_law_holds", topS 38, ["row", "times"], ["row", "times", "side"], []⟩ : FnD),
  (⟨7, "is_loose_rules", topS 15, ["value"], ["value", "rule"], []⟩ : FnD),
  (⟨8, "is_rule_by", topS 16, ["size", "value"], ["size", "value", "variable", "delay"], []⟩ : FnD),
  (⟨2, "is_between", topS 10, ["value", "low", "high"], ["value", "low", "high"], []⟩ : FnD),
  (⟨69, "holds_by", topS 25, ["rule", "times"], ["rule", "times", "right"], []⟩ : FnD),
  (⟨67, "is_times_by", topS 23, ["size", "value"], ["size", "value", "time"], []⟩ : FnD),
  (⟨55, "_law_side", topS 37, ["row", "times"], ["row", "times", "sums", "variable", "delay"], []⟩ : FnD),
  (⟨4, "is_pair", topS 12, ["value"], ["value"], []⟩ : FnD),
  (⟨6, "is_loose_rule", topS 14, ["size", "value"], ["size", "value"], []⟩ : FnD),
  (⟨68, "right_by", topS 24, ["rule", "times"], ["rule", "times", "variable", "delay"], []⟩ : FnD),
  (⟨5, "are_terms", topS 13, ["size", "value"], ["size", "value", "one", "other", "term", "variable", "delay"], []⟩ : FnD)]
def Gg : Gx := ⟨[(0, ("law" : Str)), (12, ("_law_source" : Str)), (53, ("_law_rules" : Str)), (13, ("_law_draw" : Str)), (74, ("_law_amounts" : Str)), (66, ("with_delay" : Str)), (73, ("_law_due" : Str)), (75, ("_law_steps_right" : Str)), (76, ("_law_solved_right" : Str)), (22, ("_law_no_rules" : Str)), (16, ("_law_ring" : Str)), (52, ("_law_widened" : Str)), (51, ("_law_terms" : Str)), (29, ("check_rules" : Str)), (1, ("is_integer" : Str)), (65, ("delayed_by" : Str)), (64, ("check_delays" : Str)), (54, ("_law_times" : Str)), (71, ("is_solution" : Str)), (57, ("_law_solves" : Str)), (50, ("_law_delay" : Str)), (11, ("is_rule_set" : Str)), (3, ("is_delay" : Str)), (70, ("is_solution_by" : Str)), (56, ("_law_holds" : Str)), (7, ("is_loose_rules" : Str)), (8, ("is_rule_by" : Str)), (2, ("is_between" : Str)), (69, ("holds_by" : Str)), (67, ("is_times_by" : Str)), (55, ("_law_side" : Str)), (4, ("is_pair" : Str)), (6, ("is_loose_rule" : Str)), (68, ("right_by" : Str)), (5, ("are_terms" : Str))], [(2, ("MAX_DELAY" : Str)), (1, ("MAX_RULES" : Str)), (0, ("MAX_VARIABLES" : Str))], [("range" : Str), ("max" : Str), ("min" : Str), ("len" : Str), ("repr" : Str), ("abs" : Str), ("int" : Str), ("tuple" : Str), ("isinstance" : Str), ("str" : Str), ("list" : Str), ("sum" : Str), ("enumerate" : Str), ("sorted" : Str), ("bool" : Str), ("all" : Str), ("zip" : Str)], [("InvalidNumber", "value"), ("TooLarge", "limit")], [("InvalidRules" : Str)], [12, 53, 13, 74, 66, 73, 22, 16, 52, 51, 29, 1, 65, 64, 54, 71, 57, 50, 11, 3, 70, 56, 7, 8, 2, 69, 67, 55, 4, 6, 68, 5], [(72, ("_law_told" : Str))], [(("TooLarge" : Str), ("InvalidRules" : Str), false), (("InvalidRules" : Str), ("InvalidRules" : Str), true), (("InvalidNumber" : Str), ("InvalidRules" : Str), false), (("TooLarge" : Str), ("InvalidNumber" : Str), false), (("InvalidRules" : Str), ("InvalidNumber" : Str), false), (("InvalidNumber" : Str), ("InvalidNumber" : Str), true), (("TooLarge" : Str), ("TooLarge" : Str), true), (("InvalidRules" : Str), ("TooLarge" : Str), false), (("InvalidNumber" : Str), ("TooLarge" : Str), false)], [(65, [1])]⟩
def Pc : List FnD := [
  (⟨72, "_law_told", topS 41, ["call"], ["call", "e", "found"], []⟩ : FnD)]
theorem Pg_ok : Pg.all (fnOkB Gg Tb0) = true := by decide +kernel
theorem Pc_ok : Pc.all (cloOkB Gg Tb0) = true := by decide +kernel
end L2.G4

set_option maxHeartbeats 4000000
/-! K04m: delays moved: what the functions make. -/
namespace L2.G4
open PySem PySem.Spec PyProof.Rows

theorem lbT : Lb Tb0 := ⟨rfl, rfl, rfl, rfl, rfl, rfl, rfl⟩
theorem lcT : Lc Tb0 := ⟨rfl, rfl, rfl, rfl, rfl, rfl, rfl, rfl, rfl⟩
/-! ### moved rules -/
def shP (a : Int) (p : Int × Int) : Int × Int := (p.1, p.2 + a)
def shR (a : Int) (r : Rule) : Rule := (r.1, r.2.map (shP a))
def fitT (a : Int) (r : Rule) : Bool := r.2.all fun p => decide (-60 ≤ p.2 + a) && decide (p.2 + a ≤ 59)
def fitA (a : Int) (rs : List Rule) : Bool := rs.all (fitT a)
def shS (a : Int) (rs : List Rule) : List Rule := rs.map (shR a)
def dueD (size : Int) (rs : List Rule) (a : Int) : D := if fitA a rs = true then .tup [encS size (shS a rs)] else .str "large 60"
theorem shR_rc {size : Int} {c : Nat} {a : Int} {r : Rule} (h : Rc size c r) (hf : fitT a r = true) : Rc size c (shR a r) := by
  refine ⟨⟨h.1.1, ?_, fun q hq => ?_⟩, by unfold shR; rw [List.length_map]; exact h.2⟩
  · unfold shR
    rw [List.pairwise_map]
    exact h.1.2.1
  · obtain ⟨p, hp, rfl⟩ := List.mem_map.mp hq
    have b := List.all_eq_true.mp hf p hp
    simp only [Bool.and_eq_true, decide_eq_true_eq] at b
    exact ⟨(h.1.2.2 p hp).1, b⟩
theorem shS_rc {size : Int} {c : Nat} {a : Int} {rs : List Rule} (h : ∀ r ∈ rs, Rc size c r) (hf : fitA a rs = true) : ∀ r ∈ shS a rs, Rc size c r := fun q hq => by
  obtain ⟨r, hr, rfl⟩ := List.mem_map.mp hq
  exact shR_rc (h r hr) (List.all_eq_true.mp hf r hr)
theorem shS_len (a : Int) (rs : List Rule) : (shS a rs).length = rs.length := List.length_map ..
theorem shS_add (a b : Int) (rs : List Rule) : shS b (shS a rs) = shS (a + b) rs := by
  unfold shS
  rw [List.map_map]
  congr 1
  funext r
  show (r.1, (r.2.map (shP a)).map (shP b)) = (r.1, r.2.map (shP (a + b)))
  rw [List.map_map]
  congr 2
  funext p
  show (p.1, p.2 + a + b) = (p.1, p.2 + (a + b))
  rw [Int.add_assoc]
theorem fitA_add (a b : Int) (rs : List Rule) : fitA b (shS a rs) = fitA (a + b) rs := by
  unfold fitA shS
  rw [List.all_map]
  congr 1
  funext r
  show fitT b (shR a r) = fitT (a + b) r
  unfold fitT shR
  rw [List.all_map]
  congr 1
  funext p
  show (decide (-60 ≤ p.2 + a + b) && decide (p.2 + a + b ≤ 59)) = _
  rw [Int.add_assoc]
theorem shS_zero (rs : List Rule) : shS 0 rs = rs := by
  unfold shS
  have e : shR 0 = fun r => r := by
    funext r
    unfold shR
    have e2 : shP 0 = fun p => p := by
      funext p
      unfold shP
      rw [Int.add_zero]
    rw [e2, List.map_id']
  rw [e, List.map_id']
theorem fitA_zero {size : Int} {c : Nat} {rs : List Rule} (h : ∀ r ∈ rs, Rc size c r) : fitA 0 rs = true := by
  unfold fitA fitT
  simp only [List.all_eq_true, Bool.and_eq_true, decide_eq_true_eq]
  intro r hr p hp
  have b := ((h r hr).1.2.2 p hp).2
  omega
theorem dueD_add (size a b : Int) {rs : List Rule} : dueD size (shS a rs) b = dueD size rs (a + b) := by
  unfold dueD
  rw [fitA_add, shS_add]
theorem blw_due (n : Nat) (size a : Int) (rs : List Rule) : blw n (dueD size rs a) = true := by
  unfold dueD
  split
  · simp only [encS, blw, blws, blws_encR, Bool.and_self]
  · rfl
section
variable {wf : Nat} {size : Int}
def c_db_b : CE := .cons (.drop (.mth .append (.var 3) (.cons (.tup (.cons (.var 4) (.cons (.blt .tuple (.cons (.lc false (.var 5) (.tup (.cons (.var 6) (.cons (.var 7) (.nil)))) (.nil) (.tup (.cons (.var 6) (.cons (.bin .Add (.bin .Mult (.var 2) (.var 7)) (.var 1)) (.nil)))) [("variable", 6), ("delay", 7)]) (.nil))) (.nil)))) (.nil)))) (.nil)
theorem s_db_eq : s_delayed_by = ⟨3, 8, .cons (.asg (.var 3) (.lst true (.nil))) (.cons (.for_ (.var 0) (.tup (.cons (.var 4) (.cons (.var 5) (.nil)))) c_db_b) (.cons (.ret (.blt .tuple (.cons (.var 3) (.nil)))) (.nil))), false⟩ := rfl
theorem db_step {r : Rule} (hr : Rc size 8 r) (a : Int) {V : Nat} (a0 : Option D) (n : Nat) (st : Store) (ys : List D) (h : st[V]? = some (.lst ys)) (hz : ys.length + 1 ≤ sizeLine) :
    (den ⟨fnAt Tb0 csg wf n, csg, wf, (0, 0), lmAt Tb0 csg wf n⟩ c_db_b).s [a0, some (.int a), some (.int 1), some (.loc V), some (.int r.1), some (encT r.2), none, none] st =
      .nx [a0, some (.int a), some (.int 1), some (.loc V), some (.int r.1), some (encT r.2), none, none] (st.set V (.lst (ys ++ [encR (shR a r)]))) := by
  have hz2 : 2 ≤ sizeLine := two_le
  have l1 := lcGo_map (t := gdTupN 2 (gdCons (gdName 6) (gdCons (gdName 7) gdNil))) (g := none) (c := fYes) (el := fTup (fCons (fVar 6) (fCons (fBin (binD .Add) (fBin (binD .Mult) (fVar 2) (fVar 7)) (fVar 1)) fNil)))
    (env := [a0, some (.int a), some (.int 1), some (.loc V), some (.int r.1), some (.tup (r.2.map encP)), none, none]) (st := st) encP (fun p => encP (shP a p)) trivial r.2 (by have := hr.2; rw [sizeLine_eq]; omega)
    (fun p hp => ⟨_, rfl, rfl, by
      have b := (hr.1.2.2 p hp).2
      have hmu : mulB 1 p.2 := by
        have := log_small (i := p.2) (by omega) (by omega)
        unfold mulB
        have e : (1 : Int).natAbs.log2 = 0 := by decide
        omega
      simp [b_mul _ hmu, hz2, encP, shP]⟩)
  have ap := app_loc h (by omega) (encR (shR a r))
  have e1 : encR (shR a r) = .tup [.int r.1, .tup (r.2.map fun p => encP (shP a p))] := by
    unfold encR encT shR
    rw [List.map_map]
    rfl
  have ll := lst_loc h
  rw [e1] at ap ⊢
  unfold encT
  generalize (r.2.map fun p => encP (shP a p)) = R at l1 ap ⊢
  simp [c_db_b, l1, hz2, ll, ap]
theorem delayed_ok {rs : List Rule} (hr : ∀ r ∈ rs, Rc size 8 r) (hl : rs.length ≤ 24) (a : Int) (st : Store) (n : Nat) : fnAt Tb0 csg wf (n + 1) 65 [.tup (rs.map encR), .int a, .int 1] st = .ok (.tup ((shS a rs).map encR)) st := by
  rw [fnAt_of (show Tb0.lookup 65 = some s_delayed_by from rfl), s_db_eq]
  have hz0 : 0 ≤ sizeLine := by decide
  obtain ⟨v', w', e2⟩ := app2_loop (t := gdTupN 2 (gdCons (gdName 4) (gdCons (gdName 5) gdNil))) (body := (den ⟨fnAt Tb0 csg wf n, csg, wf, (0, 0), lmAt Tb0 csg wf n⟩ c_db_b).s) (V := st.length) (enc := encR) (u := fun r : Rule => .int r.1) (w := fun r : Rule => encT r.2) (f := fun r => [encR (shR a r)])
    (mk := fun x y => [some (.tup (rs.map encR)), some (.int a), some (.int 1), some (.loc st.length), x, y, none, none]) (fun _ _ _ => rfl) rs
    (fun r hm st' ys h hz => db_step (wf := wf) (hr r hm) a _ n st' ys h hz) none none (st ++ [.lst []]) [] (end_loc st []) (by rw [fm_one, List.length_map, sizeLine_eq]; simp only [List.length_nil]; omega)
  rw [fm_one, end_set, List.nil_append] at e2
  have eV := end_loc st (rs.map fun r => encR (shR a r))
  have tp := tup_loc eV
  have e3 : (rs.map fun r => encR (shR a r)) = (shS a rs).map encR := by
    unfold shS
    rw [List.map_map]
    rfl
  rw [e3] at e2 eV tp
  have fin : gcR false st (.ok (.tup ((shS a rs).map encR)) (st ++ [O.lst ((shS a rs).map encR)])) = .ok (.tup ((shS a rs).map encR)) st := gcR_drop false rfl (by simp only [blw, blws_encR]) fun i o hi h => .inl h
  generalize (shS a rs).map encR = R at *
  generalize rs.map encR = R0 at *
  simp [runFn, startE, hz0, e2, tp, fin]
theorem check_delays_ok {rs : List Rule} (hl : rs.length ≤ 24) (hc : ∀ r ∈ rs, r.2.length ≤ 8) (st : Store) (n : Nat) : fnAt Tb0 csg wf (n + 4) 64 [.tup (rs.map encR)] st = if fitA 0 rs = true then .ok .non st else .exc ⟨"TooLarge", some ("limit", .int 60)⟩ st := by
  rw [fnAt_of (show Tb0.lookup 64 = some s_check_delaysx from rfl)]
  have hlen : (rs.flatMap fun r => r.2.map fun p => D.bl (intIn (-60) 59 (.int p.2))).length ≤ 8 * 24 := Nat.le_trans (fm_len fun r hr => by rw [List.length_map]; exact hc r hr) (Nat.mul_le_mul_left _ hl)
  have l1 := lc2Go_flat (t := gdTupN 2 (gdCons (gdName 1) (gdCons (gdName 2) gdNil))) (t1 := gdTupN 2 (gdCons (gdName 3) (gdCons (gdName 4) gdNil))) (c := fYes) (c1 := fYes) (src1 := fSrc (fVar 2)) (el := fArgs (fnAt Tb0 csg wf (n + 3) 3) (fCons (fVar 4) fNil)) (vs1 := [3, 4])
    (env := [some (.tup (rs.map encR)), none, none, none, none]) (st := st) encR (fun r : Rule => r.2.map fun p => D.bl (intIn (-60) 59 (.int p.2))) rs [] (by rw [sizeLine_eq]; simp only [List.length_nil]; omega)
    (fun r hr => ⟨_, r.2.map encP, rfl, rfl, by simp [encT], fun acc hz => by
      rw [List.length_map] at hz
      have q := lcGo_pure (t := gdTupN 2 (gdCons (gdName 3) (gdCons (gdName 4) gdNil))) (g := none) (c := fYes) (el := fArgs (fnAt Tb0 csg wf (n + 3) 3) (fCons (fVar 4) fNil)) (env := [some (.tup (rs.map encR)), some (.int r.1), some (encT r.2), none, none]) (st := st)
        encP (fun _ => true) (fun p => D.bl (intIn (-60) 59 (.int p.2))) trivial r.2 acc hz (fun p hp => ⟨_, rfl, rfl, fun _ => by
          have q := delay_any (wf := wf) lcT (.int p.2) rfl st n
          simp [q]⟩)
      rw [List.filter_eq_self.mpr fun _ _ => rfl] at q
      exact q⟩)
  rw [List.nil_append, fm_map] at l1
  have e : (rs.flatMap fun r => r.2).all (fun p => intIn (-60) 59 (.int p.2)) = fitA 0 rs := by
    rw [List.all_flatMap]
    unfold fitA fitT
    congr 1
    funext r
    congr 1
    funext p
    rw [Int.add_zero]
    rfl
  have ha := all_bl (fun p : Int × Int => intIn (-60) 59 (.int p.2)) (rs.flatMap fun r => r.2) st
  rw [e] at ha
  generalize ((rs.flatMap fun r => r.2).map fun p => D.bl (intIn (-60) 59 (.int p.2))) = BS at l1 ha
  have g2 : csg 2 = .int 60 := rfl
  cases hf : fitA 0 rs with
  | true =>
    rw [hf] at ha
    simp [s_check_delaysx, c_check_delaysx, runFn, startE, l1, ha]
  | false =>
    rw [hf] at ha
    simp [s_check_delaysx, c_check_delaysx, runFn, startE, l1, ha, g2]
theorem check_rulesx_ok (s0 : 0 < size) (s1 : size ≤ 8) {rs : List Rule} (hr : ∀ r ∈ rs, Rc size 8 r) (hl : rs.length ≤ 24) (st : Store) (n : Nat) : fnAt Tb0 csg wf (n + 7) 29 [encS size rs] st = .ok .non st := by
  rw [fnAt_of (show Tb0.lookup 29 = some s_check_rulesx from rfl)]
  have q := rule_set_ok (wf := wf) lcT s0 s1 (show 8 ≤ 1000 by omega) hr hl st n
  unfold encS
  simp [s_check_rulesx, c_check_rulesx, runFn, startE, q]
theorem check_rulesx_no {d : D} (hd : datN 5 d) (h : setB d = false) (st : Store) (n : Nat) : fnAt Tb0 csg wf (n + 7) 29 [d] st = .exc ⟨"InvalidRules", none⟩ st := by
  rw [fnAt_of (show Tb0.lookup 29 = some s_check_rulesx from rfl)]
  have q := set_any (wf := wf) lcT d hd st n
  rw [h] at q
  simp [s_check_rulesx, c_check_rulesx, runFn, startE, q]
theorem with_ok (s0 : 0 < size) (s1 : size ≤ 8) {rs : List Rule} (hr : ∀ r ∈ rs, Rc size 8 r) (hl : rs.length ≤ 24) (a : Int) (st : Store) (n : Nat) :
    fnAt Tb0 csg wf (n + 8) 66 [encS size rs, .int a] st = if fitA a rs = true then .ok (encS size (shS a rs)) st else .exc ⟨"TooLarge", some ("limit", .int 60)⟩ st := by
  rw [fnAt_of (show Tb0.lookup 66 = some s_with_delayx from rfl)]
  have hz2 : 2 ≤ sizeLine := two_le
  have q1 := check_rulesx_ok (wf := wf) s0 s1 hr hl st n
  have q2 := integer_ok (wf := wf) lcT a st (n + 6)
  have q3 := delayed_ok (wf := wf) hr hl a st (n + 6)
  have q4 := check_delays_ok (wf := wf) (rs := shS a rs) (by rw [shS_len]; exact hl) (fun r h => by
    obtain ⟨q, hq, rfl⟩ := List.mem_map.mp h
    unfold shR
    rw [List.length_map]
    exact (hr q hq).2) st (n + 3)
  rw [fitA_add, Int.add_zero] at q4
  unfold encS at q1 ⊢
  generalize (shS a rs).map encR = R at *
  generalize rs.map encR = R0 at *
  cases hf : fitA a rs with
  | true =>
    rw [hf, if_pos rfl] at q4
    simp [s_with_delayx, c_with_delayx, runFn, startE, q1, q2, q3, q4, hz2]
  | false =>
    rw [hf, if_neg Bool.false_ne_true] at q4
    simp [s_with_delayx, c_with_delayx, runFn, startE, q1, q2, q3, q4, hz2]
theorem with_norules {d x : D} (hd : datN 5 d) (h : setB d = false) (st : Store) (n : Nat) : fnAt Tb0 csg wf (n + 8) 66 [d, x] st = .exc ⟨"InvalidRules", none⟩ st := by
  rw [fnAt_of (show Tb0.lookup 66 = some s_with_delayx from rfl)]
  have q1 := check_rulesx_no (wf := wf) hd h st n
  simp [s_with_delayx, c_with_delayx, runFn, startE, q1]
theorem with_noint (s0 : 0 < size) (s1 : size ≤ 8) {rs : List Rule} (hr : ∀ r ∈ rs, Rc size 8 r) (hl : rs.length ≤ 24) {x : D} (hx : dat x = true) (h : isInt x = false) (st : Store) (n : Nat) :
    fnAt Tb0 csg wf (n + 8) 66 [encS size rs, x] st = .exc ⟨"InvalidNumber", some ("value", x)⟩ st := by
  rw [fnAt_of (show Tb0.lookup 66 = some s_with_delayx from rfl)]
  have q1 := check_rulesx_ok (wf := wf) s0 s1 hr hl st n
  have q2 := integer_any (wf := wf) lcT x hx st (n + 6)
  rw [h] at q2
  generalize encS size rs = G at *
  simp [s_with_delayx, c_with_delayx, runFn, startE, q1, q2]
def c_du_b : CE := .cons (.drop (.mth .append (.var 2) (.cons (.tup (.cons (.var 3) (.cons (.blt .tuple (.cons (.lc false (.var 4) (.tup (.cons (.var 5) (.cons (.var 6) (.nil)))) (.nil) (.tup (.cons (.var 5) (.cons (.bin .Add (.var 6) (.var 1)) (.nil)))) [("variable", 5), ("delay", 6)]) (.nil))) (.nil)))) (.nil)))) (.cons (.ifs (.cmp .NotEq (.lc false (.var 4) (.tup (.cons (.var 5) (.cons (.var 6) (.nil)))) (.not (.cmp2 .Lt .Lt (.neg (.con (.int 61))) (.bin .Add (.var 6) (.var 1)) (.con (.int 60)))) (.con (.int 1)) [("variable", 5), ("delay", 6)]) (.lst false (.nil))) (.cons (.ret (.con (.str "large 60"))) (.nil)) (.nil)) (.nil))
theorem s_du_eq : s_u_law_due_v1 = ⟨2, 7, .cons (.asg (.var 2) (.lst true (.nil))) (.cons (.for_ (.idx (.var 0) (.con (.int 1))) (.tup (.cons (.var 3) (.cons (.var 4) (.nil)))) c_du_b) (.cons (.ret (.tup (.cons (.tup (.cons (.idx (.var 0) (.con (.int 0))) (.cons (.blt .tuple (.cons (.var 2) (.nil))) (.nil)))) (.nil)))) (.nil))), false⟩ := rfl
theorem ne_nilL {ds : List D} (st : Store) (hz : okvs false ds = true) (hd : dpvs ds ≤ 60) : cmpD .NotEq (.lst ds) (.lst []) st = .ok (.bl (!ds.isEmpty)) st := by
  have q := eq_nilLv st hz hd
  show (match (eqD (.lst ds) (.lst []) st).map (!·) with
    | some b => Rz.ok (D.bl b) st
    | none => .bad) = _
  have q : (match eqD (.lst ds) (.lst []) st with
    | some b => Rz.ok (D.bl b) st
    | none => .bad) = .ok (.bl ds.isEmpty) st := q
  cases e : eqD (.lst ds) (.lst []) st with
  | none => rw [e] at q; cases q
  | some b =>
    rw [e] at q
    simp only [Rz.ok.injEq, D.bl.injEq, and_true] at q
    subst q
    rfl
theorem ones_ok {A : Type} : ∀ xs : List A, okvs false (xs.map fun _ => D.int 1) = true ∧ dpvs (xs.map fun _ => D.int 1) ≤ 60
  | [] => ⟨rfl, Nat.zero_le _⟩
  | x :: xs => by
    obtain ⟨h1, h2⟩ := ones_ok xs
    simp only [List.map_cons, okvs, dpvs, h1, Bool.and_true]
    exact ⟨by decide +kernel, Nat.max_le.mpr ⟨by decide +kernel, h2⟩⟩
theorem du_step {r : Rule} (hr : Rc size 8 r) (a : Int) {V : Nat} (a0 : Option D) (n : Nat) (st : Store) (ys : List D) (h : st[V]? = some (.lst ys)) (hz : ys.length + 1 ≤ sizeLine) :
    (den ⟨fnAt Tb0 csg wf n, csg, wf, (0, 0), lmAt Tb0 csg wf n⟩ c_du_b).s [a0, some (.int a), some (.loc V), some (.int r.1), some (encT r.2), none, none] st =
      if fitT a r = true then .nx [a0, some (.int a), some (.loc V), some (.int r.1), some (encT r.2), none, none] (st.set V (.lst (ys ++ [encR (shR a r)]))) else .rt (.str "large 60") (st.set V (.lst (ys ++ [encR (shR a r)]))) := by
  have hz2 : 2 ≤ sizeLine := two_le
  have hz0 : 0 ≤ sizeLine := by decide
  have l1 := lcGo_map (t := gdTupN 2 (gdCons (gdName 5) (gdCons (gdName 6) gdNil))) (g := none) (c := fYes) (el := fTup (fCons (fVar 5) (fCons (fBin (binD .Add) (fVar 6) (fVar 1)) fNil)))
    (env := [a0, some (.int a), some (.loc V), some (.int r.1), some (.tup (r.2.map encP)), none, none]) (st := st) encP (fun p => encP (shP a p)) trivial r.2 (by have := hr.2; rw [sizeLine_eq]; omega)
    (fun p hp => ⟨_, rfl, rfl, by simp [hz2, encP, shP]⟩)
  have ap := app_loc h (by omega) (encR (shR a r))
  have e1 : encR (shR a r) = .tup [.int r.1, .tup (r.2.map fun p => encP (shP a p))] := by
    unfold encR encT shR
    rw [List.map_map]
    rfl
  have ll := lst_loc h
  rw [e1] at ap ⊢
  have l2 := lcGo_pure (t := gdTupN 2 (gdCons (gdName 5) (gdCons (gdName 6) gdNil))) (g := none) (c := fTru (fNotV (fCmp2 (cmpD .Lt) (cmpD .Lt) (fNeg (fCon (.int 61))) (fBin (binD .Add) (fVar 6) (fVar 1)) (fCon (.int 60))))) (el := fCon (.int 1))
    (env := [a0, some (.int a), some (.loc V), some (.int r.1), some (.tup (r.2.map encP)), none, none]) (st := st.set V (.lst (ys ++ [.tup [.int r.1, .tup (r.2.map fun p => encP (shP a p))]]))) encP (fun p => !(decide (-60 ≤ p.2 + a) && decide (p.2 + a ≤ 59))) (fun _ => .int 1) trivial r.2 [] (by have := hr.2; rw [sizeLine_eq]; simp only [List.length_nil]; omega)
    (fun p hp => ⟨_, rfl, by
      have e1 : decide (-61 < p.2 + a) = decide (-60 ≤ p.2 + a) := decide_eq_decide.mpr (by omega)
      have e2 : decide (p.2 + a < 60) = decide (p.2 + a ≤ 59) := decide_eq_decide.mpr (by omega)
      cases h1 : decide (-60 ≤ p.2 + a) <;> cases h2 : decide (p.2 + a ≤ 59) <;> simp [e1, e2, h1, h2], fun _ => rfl⟩)
  rw [List.nil_append] at l2
  have e2 : ((r.2.filter fun p => !(decide (-60 ≤ p.2 + a) && decide (p.2 + a ≤ 59))).map fun _ => D.int 1).isEmpty = fitT a r := by
    unfold fitT
    rw [Bool.eq_iff_iff, List.isEmpty_iff, List.map_eq_nil_iff, List.filter_eq_nil_iff, List.all_eq_true]
    constructor
    · intro h p hp
      have := h p hp
      simpa using this
    · intro h p hp
      have := h p hp
      simpa using this
  obtain ⟨o1, o2⟩ := ones_ok (r.2.filter fun p => !(decide (-60 ≤ p.2 + a) && decide (p.2 + a ≤ 59)))
  have en := ne_nilL (st.set V (.lst (ys ++ [.tup [.int r.1, .tup (r.2.map fun p => encP (shP a p))]]))) o1 o2
  rw [e2] at en
  unfold encT
  generalize (r.2.filter fun p => !(decide (-60 ≤ p.2 + a) && decide (p.2 + a ≤ 59))).map (fun _ => D.int 1) = ON at l2 en
  generalize (r.2.map fun p => encP (shP a p)) = R at l1 ap l2 en ⊢
  cases hf : fitT a r <;> rw [hf] at en <;> simp [c_du_b, l1, hz2, hz0, ll, ap, l2, en]
theorem due_ok {rs : List Rule} (hr : ∀ r ∈ rs, Rc size 8 r) (hl : rs.length ≤ 24) (a : Int) (st : Store) (n : Nat) : fnAt Tb0 csg wf (n + 1) 73 [encS size rs, .int a] st = .ok (dueD size rs a) st := by
  rw [fnAt_of (show Tb0.lookup 73 = some s_u_law_due_v1 from rfl), s_du_eq]
  have hz0 : 0 ≤ sizeLine := by decide
  have hz1 : 1 ≤ sizeLine := by decide
  have hz2 : 2 ≤ sizeLine := two_le
  have lp := ret_loop (t := gdTupN 2 (gdCons (gdName 3) (gdCons (gdName 4) gdNil))) (body := (den ⟨fnAt Tb0 csg wf n, csg, wf, (0, 0), lmAt Tb0 csg wf n⟩ c_du_b).s) (V := st.length) (enc := encR) (u := fun r : Rule => .int r.1) (w := fun r : Rule => encT r.2) (f := fun r => [encR (shR a r)]) (p := fitT a) (d := .str "large 60")
    (mk := fun x y => [some (encS size rs), some (.int a), some (.loc st.length), x, y, none, none]) (fun _ _ _ => rfl) rs
    (fun r hm st' ys h hz => du_step (wf := wf) (hr r hm) a _ n st' ys h hz) none none (st ++ [.lst []]) [] (end_loc st []) (by rw [fm_one, List.length_map, sizeLine_eq]; simp only [List.length_nil]; omega)
  have e3 : (rs.map fun r => encR (shR a r)) = (shS a rs).map encR := by
    unfold shS
    rw [List.map_map]
    rfl
  rw [fm_one, end_set, List.nil_append, e3] at lp
  rcases lp with ⟨h1, v', w', e2⟩ | ⟨h1, ys', e2⟩
  · have eV := end_loc st ((shS a rs).map encR)
    have tp := tup_loc eV
    have ed : dueD size rs a = .tup [.tup [.int size, .tup ((shS a rs).map encR)]] := by
      unfold dueD
      rw [if_pos (show fitA a rs = true from h1)]
      rfl
    have fin : gcR false st (.ok (dueD size rs a) (st ++ [O.lst ((shS a rs).map encR)])) = .ok (dueD size rs a) st := gcR_drop false rfl (blw_due _ _ _ _) fun i o hi h => .inl h
    rw [ed] at fin ⊢
    unfold encS at e2 ⊢
    generalize (shS a rs).map encR = R at *
    generalize rs.map encR = R0 at *
    simp [runFn, startE, hz0, hz1, hz2, e2, tp, fin]
  · have ed : dueD size rs a = .str "large 60" := by
      unfold dueD
      rw [if_neg (by rw [show fitA a rs = false from h1]; exact Bool.false_ne_true)]
    rw [end_set] at e2
    have fin : gcR false st (.ok (.str "large 60") (st ++ [O.lst ys'])) = .ok (.str "large 60") st := gcR_drop false rfl rfl fun i o hi h => .inl h
    rw [ed]
    unfold encS at e2 ⊢
    generalize rs.map encR = R0 at *
    simp [runFn, startE, hz0, hz1, hz2, e2, fin]
end
end L2.G4

set_option maxHeartbeats 4000000
/-! K04n: what the telling def says; two steps; the times; the amounts. -/
namespace L2.G4
open PySem PySem.Spec PyProof.Rows

def c_to_h : CE := .hnd "TooLarge" ["TooLarge"] ["InvalidRules", "InvalidNumber"] "limit" (some 1) (.cons (.ret (.bin .Add (.con (.str "large ")) (.blt .repr (.cons (.fld "limit" (.var 1)) (.nil))))) (.nil)) (.hnd "InvalidNumber" ["InvalidNumber"] ["TooLarge", "InvalidRules"] "value" (some 1) (.cons (.ret (.bin .Add (.con (.str "number ")) (.blt .repr (.cons (.fld "value" (.var 1)) (.nil))))) (.nil)) (.hnd "InvalidRules" ["InvalidRules"] ["TooLarge", "InvalidNumber"] "" none (.cons (.ret (.con (.str "rules"))) (.nil)) (.nil)))
theorem s_to_eq : s_u_law_told = ⟨1, 3, .cons (.tryM (.cons (.asg (.var 2) (.act)) (.nil)) c_to_h) (.cons (.ret (.tup (.cons (.var 2) (.nil)))) (.nil)), false⟩ := rfl
theorem to_large (S : Sm) (st : Store) : hndGo (den S c_to_h).h ⟨"TooLarge", some ("limit", .int 60)⟩ 3 st = .rt (.str "large 60") st := by
  unfold c_to_h
  rw [dn_hnd_h]
  unfold hndGo
  rw [if_pos (show ("TooLarge" : Str) ∈ (["TooLarge"] : List Str) from List.mem_singleton.mpr rfl)]
  simp only [if_true]
  refine indep_of fun a dx => ?_
  have hK : bltD .repr [.int 60] st = .ok (.str "60") st := repr_val (p := .int 60) (by decide +kernel) rfl (by decide +kernel) (by decide +kernel) st
  have hb : binD .Add (.str "large ") (.str "60") st = .ok (.str "large 60") st := by
    show (if ("large " : Str).length + ("60" : Str).length ≤ sizeLine then Rz.ok (D.str (("large " : Str) ++ "60")) st else .bad) = _
    rw [if_pos (by decide +kernel)]
    congr 2
  simp [blankE, hK, hb]
theorem to_rules (S : Sm) (st : Store) : hndGo (den S c_to_h).h ⟨"InvalidRules", none⟩ 3 st = .rt (.str "rules") st := by
  unfold c_to_h
  rw [dn_hnd_h]
  unfold hndGo
  rw [if_neg (show ¬ ("InvalidRules" : Str) ∈ (["TooLarge"] : List Str) by decide +kernel), if_pos (show ("InvalidRules" : Str) ∈ (["InvalidRules", "InvalidNumber"] : List Str) by decide +kernel), dn_hnd_h]
  unfold hndGo
  rw [if_neg (show ¬ ("InvalidRules" : Str) ∈ (["InvalidNumber"] : List Str) by decide +kernel), if_pos (show ("InvalidRules" : Str) ∈ (["TooLarge", "InvalidRules"] : List Str) by decide +kernel), dn_hnd_h]
  unfold hndGo
  rw [if_pos (show ("InvalidRules" : Str) ∈ (["InvalidRules"] : List Str) from List.mem_singleton.mpr rfl)]
  simp
theorem to_num (S : Sm) {d : D} {K : Str} (hK : ∀ st, bltD .repr [d] st = .ok (.str K) st) (hz : ("number " : Str).length + K.length ≤ sizeLine) (st : Store) : hndGo (den S c_to_h).h ⟨"InvalidNumber", some ("value", d)⟩ 3 st = .rt (.str (("number " : Str) ++ K)) st := by
  unfold c_to_h
  rw [dn_hnd_h]
  unfold hndGo
  rw [if_neg (show ¬ ("InvalidNumber" : Str) ∈ (["TooLarge"] : List Str) by decide +kernel), if_pos (show ("InvalidNumber" : Str) ∈ (["InvalidRules", "InvalidNumber"] : List Str) by decide +kernel), dn_hnd_h]
  unfold hndGo
  rw [if_pos (show ("InvalidNumber" : Str) ∈ (["InvalidNumber"] : List Str) from List.mem_singleton.mpr rfl)]
  simp only [if_true]
  refine indep_of fun a dx => ?_
  have hb : binD .Add (.str "number ") (.str K) st = .ok (.str (("number " : Str) ++ K)) st := by
    show (if ("number " : Str).length + K.length ≤ sizeLine then Rz.ok (D.str (("number " : Str) ++ K)) st else .bad) = _
    rw [if_pos hz]
  simp [blankE, hK, hb]
theorem told_exc {wf : Nat} {th : Thk} {st st1 : Store} {e : Ex} {x : Str} (h : th st = .exc e st1) (hl : st1.length = st.length) (hh : ∀ S : Sm, hndGo (den S c_to_h).h e 3 st1 = .rt (.str x) st1) : clAt Tb0 csg wf 72 th st = .ok (.str x) st1 := by
  rw [clAt_of (show Tb0.lookup 72 = some s_u_law_told from rfl), s_to_eq]
  unfold runC
  rw [indepC_of (y := .ok (.str x) st1) fun f c q sg js ds => ?_]
  · rfl
  · have fin := gcR_same false (.str x) hl
    generalize D.fnv f c q sg js ds = lx
    have hb : (den ⟨fun _ _ _ => .bad, csg, wf, (0, 0), { th := th, lx := lx }⟩ (.cons (.asg (.var 2) (.act)) (.nil))).s [some lx, none, none] st = .exc e [some lx, none, none] st1 := by
      simp [act_here, h]
    have hm := tm_exc _ _ (h := (den ⟨fun _ _ _ => .bad, csg, wf, (0, 0), { th := th, lx := lx }⟩ c_to_h).h) hb
    have hm2 := hh ⟨fun _ _ _ => .bad, csg, wf, (0, 0), { th := th, lx := lx }⟩
    have hm4 : (den ⟨fun _ _ _ => .bad, csg, wf, (0, 0), { th := th, lx := lx }⟩ (.tryM (.cons (.asg (.var 2) (.act)) (.nil)) c_to_h)).s [some lx, none, none] st = .rt (.str x) st1 := hm.trans hm2
    generalize hS : (⟨fun _ _ _ => .bad, csg, wf, (0, 0), { th := th, lx := lx }⟩ : Sm) = S at hm4 ⊢
    have hbody : (den S (.cons (.tryM (.cons (.asg (.var 2) (.act)) (.nil)) c_to_h) (.cons (.ret (.tup (.cons (.var 2) (.nil)))) (.nil)))).s [some lx, none, none] st = .rt (.str x) st1 := by
      rw [dn_cons_s, x_seq, hm4]
      rfl
    subst hS
    unfold runFn
    rw [if_pos (show [lx].length = 1 from rfl)]
    exact (congrArg (fun y : Fl => gcR false st y.res) hbody).trans fin
theorem told_val {wf : Nat} {th : Thk} {st st1 : Store} {d : D} (h : th st = .ok d st1) (hl : st1.length = st.length) : clAt Tb0 csg wf 72 th st = .ok (.tup [d]) st1 := by
  rw [clAt_of (show Tb0.lookup 72 = some s_u_law_told from rfl), s_to_eq]
  unfold runC
  rw [indepC_of (y := .ok (.tup [d]) st1) fun f c q sg js ds => ?_]
  · rfl
  · have fin := gcR_same false (.tup [d]) hl
    generalize D.fnv f c q sg js ds = lx
    have hb : (den ⟨fun _ _ _ => .bad, csg, wf, (0, 0), { th := th, lx := lx }⟩ (.cons (.asg (.var 2) (.act)) (.nil))).s [some lx, none, none] st = .nx [some lx, none, some d] st1 := by
      simp [act_here, h]
    have hm4 : (den ⟨fun _ _ _ => .bad, csg, wf, (0, 0), { th := th, lx := lx }⟩ (.tryM (.cons (.asg (.var 2) (.act)) (.nil)) c_to_h)).s [some lx, none, none] st = .nx [some lx, none, some d] st1 := tm_nx _ _ hb
    generalize hS : (⟨fun _ _ _ => .bad, csg, wf, (0, 0), { th := th, lx := lx }⟩ : Sm) = S at hm4 ⊢
    have hz1 : 1 ≤ sizeLine := by decide
    have hbody : (den S (.cons (.tryM (.cons (.asg (.var 2) (.act)) (.nil)) c_to_h) (.cons (.ret (.tup (.cons (.var 2) (.nil)))) (.nil)))).s [some lx, none, none] st = .rt (.tup [d]) st1 := by
      rw [dn_cons_s, x_seq, hm4]
      simp [hz1]
    subst hS
    unfold runFn
    rw [if_pos (show [lx].length = 1 from rfl)]
    exact (congrArg (fun y : Fl => gcR false st y.res) hbody).trans fin
section
variable {wf : Nat} {size : Int}
/-- what is told of with_delay -/
theorem told_due (s0 : 0 < size) (s1 : size ≤ 8) {rs : List Rule} (hr : ∀ r ∈ rs, Rc size 8 r) (hl : rs.length ≤ 24) (a : Int) {th : Thk} {st : Store} {n : Nat} (h : th st = fnAt Tb0 csg wf (n + 8) 66 [encS size rs, .int a] st) : clAt Tb0 csg wf 72 th st = .ok (dueD size rs a) st := by
  rw [with_ok s0 s1 hr hl] at h
  unfold dueD
  split
  · rename_i hf
    rw [if_pos hf] at h
    exact told_val h rfl
  · rename_i hf
    rw [if_neg hf] at h
    exact told_exc h rfl fun S => to_large S _
theorem fit_due (s0 : 0 < size) (s1 : size ≤ 8) {rs : List Rule} (hr : ∀ r ∈ rs, Rc size 8 r) (hl : rs.length ≤ 24) (a : Int) : fitv (dueD size rs a) := by
  unfold dueD
  split
  · rename_i hf
    have hrc : ∀ r ∈ shS a rs, Rc size 20 r := fun r h => (shS_rc hr hf r h).up
    have hln : (shS a rs).length ≤ 24 := by rw [shS_len]; exact hl
    obtain ⟨h1, h2⟩ := encS_sz (show 0 ≤ size by omega) (show size ≤ 1000 by omega) hrc hln
    refine ⟨.inl ((bnd_ok _ ?_).2 false), ?_, ?_⟩
    · simp only [bnd, bnds, Bool.and_true]
      exact bnd_encS (by omega) (by omega) hrc
    · simp only [dpv, dpvs]; omega
    · simp only [bkv, bkvs]; omega
  · exact ⟨.inl (by decide +kernel), by decide +kernel, by decide +kernel⟩
theorem steps_ok (s0 : 0 < size) (s1 : size ≤ 8) {rs : List Rule} (hr : ∀ r ∈ rs, Rc size 8 r) (hl : rs.length ≤ 24) (a b : Int) (st : Store) (n : Nat) : fnAt Tb0 csg wf (n + 12) 75 [encS size rs, .int a, .int b] st = .ok (.bl true) st := by
  rw [fnAt_of (show Tb0.lookup 75 = some s_u_law_steps_right from rfl)]
  have e1 : (den ⟨fnAt Tb0 csg wf (n + 11), csg, wf, (0, 0), lmAt Tb0 csg wf (n + 11)⟩ (.clam 72 (.call 66 (.cons (.var 0) (.cons (.var 1) (.nil)))))).e [some (encS size rs), some (.int a), some (.int b), none] st = .ok (dueD size rs a) st := by
    refine told_due (wf := wf) (n := n + 1) s0 s1 hr hl a ?_
    show (den ⟨fnAt Tb0 csg wf (n + 9), csg, wf, (0, 0), {}⟩ (.call 66 (.cons (.var 0) (.cons (.var 1) (.nil))))).e _ _ = _
    simp
  have e3 := due_ok (wf := wf) hr hl (a + b) st (n + 10)
  obtain ⟨K, hK⟩ := repr_fitv (fit_due s0 s1 hr hl (a + b))
  unfold s_u_law_steps_right c_u_law_steps_right
  by_cases hf : fitA a rs = true
  · have ed : dueD size rs a = .tup [encS size (shS a rs)] := by unfold dueD; rw [if_pos hf]
    have e2 : (den ⟨fnAt Tb0 csg wf (n + 11), csg, wf, (0, 0), lmAt Tb0 csg wf (n + 11)⟩ (.clam 72 (.call 66 (.cons (.idx (.var 3) (.con (.int 0))) (.cons (.var 2) (.nil)))))).e [some (encS size rs), some (.int a), some (.int b), some (dueD size rs a)] st = .ok (dueD size rs (a + b)) st := by
      rw [← dueD_add]
      refine told_due (wf := wf) (n := n + 1) s0 s1 (shS_rc hr hf) (by rw [shS_len]; exact hl) b ?_
      show (den ⟨fnAt Tb0 csg wf (n + 9), csg, wf, (0, 0), {}⟩ (.call 66 (.cons (.idx (.var 3) (.con (.int 0))) (.cons (.var 2) (.nil))))).e _ _ = _
      rw [ed]
      simp
    have hi : isiD "str" (dueD size rs a) st = .ok (.bl false) st := by
      rw [ed]
      exact isi_of (U := "tuple") rfl (by decide +kernel)
    generalize dueD size rs (a + b) = X at *
    generalize dueD size rs a = Y at *
    generalize encS size rs = G at *
    generalize hC1 : CE.clam 72 (.call 66 (.cons (.var 0) (.cons (.var 1) (.nil)))) = C1 at *
    generalize hC2 : CE.clam 72 (.call 66 (.cons (.idx (.var 3) (.con (.int 0))) (.cons (.var 2) (.nil)))) = C2 at *
    simp [runFn, startE, e1, hi, e2, hK, e3]
  · have ed : dueD size rs a = .str "large 60" := by unfold dueD; rw [if_neg hf]
    have hi : isiD "str" (dueD size rs a) st = .ok (.bl true) st := by
      rw [ed]
      exact isi_of (U := "str") rfl (by decide +kernel)
    generalize dueD size rs a = Y at *
    generalize encS size rs = G at *
    generalize hC1 : CE.clam 72 (.call 66 (.cons (.var 0) (.cons (.var 1) (.nil)))) = C1 at *
    simp [runFn, startE, e1, hi]
theorem sol_ok (s0 : 0 < size) (s1 : size ≤ 8) {rs : List Rule} (hr : ∀ r ∈ rs, Rc size 8 r) (hl : rs.length ≤ 24) {tm : List Int} (ht : (tm.length : Int) = size) (st : Store) (n : Nat) : fnAt Tb0 csg wf (n + 8) 71 [encS size rs, encM tm] st = .ok (.bl (rs.all fun r => holdsB r tm)) st := by
  rw [fnAt_of (show Tb0.lookup 71 = some s_is_solution from rfl)]
  have q1 := check_rulesx_ok (wf := wf) s0 s1 hr hl st n
  have q2 := solution_by_ok (T := Tb0) (wf := wf) lcT rfl rfl rfl rfl (show 8 ≤ 1000 by omega) hr (Nat.le_trans hl (by omega)) ht (by omega) st (n + 4)
  unfold encS at *
  simp [s_is_solution, c_is_solution, runFn, startE, q1, q2]
def c_sv_b : CE := .cons (.asg (.var 5) (.call 54 (.cons (.var 0) (.cons (.idx (.var 1) (.con (.int 0))) (.nil))))) (.cons (.ifs (.cmp .NotEq (.blt .repr (.cons (.call 71 (.cons (.call 66 (.cons (.var 1) (.cons (.var 2) (.nil)))) (.cons (.var 5) (.nil)))) (.nil))) (.blt .repr (.cons (.call 57 (.cons (.idx (.var 3) (.con (.int 0))) (.cons (.var 5) (.nil)))) (.nil)))) (.cons (.ret (.con (.bl false))) (.nil)) (.nil)) (.nil))
theorem s_sv_eq : s_u_law_solved_right = ⟨3, 6, .cons (.asg (.var 3) (.call 73 (.cons (.var 1) (.cons (.var 2) (.nil))))) (.cons (.ifs (.isi "str" (.var 3)) (.cons (.ret (.con (.bl true))) (.nil)) (.nil)) (.cons (.for_ (.rng1 (.con (.int 3))) (.var 4) c_sv_b) (.cons (.ret (.con (.bl true))) (.nil)))), false⟩ := rfl
theorem rng_3 : ∀ (env : Env) (st : Store), fRng1 (fCon (.int 3)) env st = .ok (rngL 0 3, none) st := fun env st => rng1_nat (n := 3) (a := fCon (.int 3)) rfl (by unfold inR; omega)
theorem solved_ok {k : Nat} {b : Int} {st : Store} (hs : Sv k b st) (hb : b + 1000 ≤ 2 ^ 60) (s0 : 0 < size) (s1 : size ≤ 8) {rs : List Rule} (hr : ∀ r ∈ rs, Rc size 8 r) (hl : rs.length ≤ 24) (a : Int) (n : Nat) :
    ∃ st', fnAt Tb0 csg wf (n + 12) 76 [.loc k, encS size rs, .int a] st = .ok (.bl true) st' ∧ Up k st st' ∧ Sv k (b + 60) st' := by
  rw [fnAt_of (show Tb0.lookup 76 = some s_u_law_solved_right from rfl), s_sv_eq]
  have e1 := due_ok (wf := wf) hr hl a st (n + 10)
  by_cases hf : fitA a rs = true
  · have ed : dueD size rs a = .tup [encS size (shS a rs)] := by unfold dueD; rw [if_pos hf]
    rw [ed] at e1
    have hi : isiD "str" (.tup [encS size (shS a rs)]) st = .ok (.bl false) st := isi_of (U := "tuple") rfl (by decide +kernel)
    obtain ⟨env2, st2, e2, v4, v5, rfl, U2, S2⟩ := forGo_by (t := gdName 4) (g := none) (body := (den ⟨fnAt Tb0 csg wf (n + 11), csg, wf, (0, 0), lmAt Tb0 csg wf (n + 11)⟩ c_sv_b).s)
      (I := fun i env s => ∃ (v4 v5 : Option D), env = [some (.loc k), some (encS size rs), some (.int a), some (.tup [encS size (shS a rs)]), v4, v5] ∧ Up k st s ∧ Sv k (b + 20 * i) s)
      (rngL 0 3) 0 [some (.loc k), some (encS size rs), some (.int a), some (.tup [encS size (shS a rs)]), none, none] st (fun _ _ _ _ => trivial)
      (fun i d env s e ⟨v4, v5, he, hu, hsv⟩ => by
        subst he
        have hi : i < 3 := (rngL_get e).1
        rw [Nat.zero_add] at hsv ⊢
        obtain ⟨tm, s2, f1, U, S, htl, _⟩ := times_ok (T := Tb0) (wf := wf) rfl rfl hsv (by omega) s0 s1 (n + 9)
        have f2 := with_ok (wf := wf) s0 s1 hr hl a s2 (n + 3)
        rw [if_pos hf] at f2
        have hr2 := shS_rc hr hf
        have hl2 : (shS a rs).length ≤ 24 := by rw [shS_len]; exact hl
        have f3 := sol_ok (wf := wf) s0 s1 hr2 hl2 htl s2 (n + 3)
        have f4 := solves_ok (T := Tb0) (wf := wf) rfl rfl rfl (show size ≤ 1000 by omega) (show 8 ≤ 1000 by omega) hr2 (Nat.le_trans hl2 (by omega)) s2 (atM htl s2) (n + 8)
        have e2 : ((shS a rs).all fun q => pholds q (tget (tm.map some))) = (shS a rs).all fun r => holdsB r tm := by
          rw [Bool.eq_iff_iff, List.all_eq_true, List.all_eq_true]
          constructor
          · intro h q hq; rw [← pholds_full (hr2 q hq).1 htl]; exact h q hq
          · intro h q hq; rw [pholds_full (hr2 q hq).1 htl]; exact h q hq
        rw [e2] at f4
        have hG : ∀ s, idxD (encS size rs) (.int 0) s = .ok (.int size) s := fun s => by unfold encS; simp
        generalize (shS a rs).all (fun r => holdsB r tm) = B at f3 f4
        obtain ⟨K, hK⟩ := repr_fitv (d := .bl B) ⟨.inl (by cases B <;> decide +kernel), by cases B <;> decide +kernel, by cases B <;> decide +kernel⟩
        refine ⟨_, _, s2, rfl, ?_, some d, some (encM tm), rfl, hu.trans U, S.mono (by push_cast; omega)⟩
        generalize encS size rs = G at *
        generalize encS size (shS a rs) = G2 at *
        generalize encM tm = M at *
        simp [c_sv_b, hG, f1, f2, f3, f4, hK])
      ⟨none, none, rfl, Up.refl hs, hs.mono (by omega)⟩
    rw [Nat.zero_add, rngL_len] at S2
    have fin := gcR_same false (.bl true) U2.len
    refine ⟨st2, ?_, U2, S2.mono (by omega)⟩
    generalize encS size rs = G at *
    generalize encS size (shS a rs) = G2 at *
    simp [runFn, startE, e1, hi, rng_3, -x_rng1, e2, fin]
  · have ed : dueD size rs a = .str "large 60" := by unfold dueD; rw [if_neg hf]
    rw [ed] at e1
    have hi : isiD "str" (.str "large 60") st = .ok (.bl true) st := isi_of (U := "str") rfl (by decide +kernel)
    refine ⟨st, ?_, Up.refl hs, hs.mono (by omega)⟩
    generalize encS size rs = G at *
    simp [runFn, startE, e1, hi]
def c_am_b : CE := .cons (.drop (.mth .extend (.var 2) (.cons (.lc false (.var 5) (.tup (.cons (.var 6) (.cons (.var 7) (.nil)))) (.nil) (.var 7) [("variable", 6), ("delay", 7)]) (.nil)))) (.nil)
theorem s_am_eq : s_u_law_amounts = ⟨2, 8, .cons (.asg (.var 2) (.lst true (.nil))) (.cons (.for_ (.idx (.var 1) (.con (.int 1))) (.tup (.cons (.var 4) (.cons (.var 5) (.nil)))) c_am_b) (.cons (.asg (.var 3) (.lst false (.cons (.con (.int 0)) (.cons (.con (.int 1)) (.cons (.neg (.con (.int 1))) (.cons (.bin .Sub (.call 13 (.cons (.var 0) (.cons (.con (.int 121)) (.nil)))) (.con (.int 60))) (.cons (.bin .Sub (.call 13 (.cons (.var 0) (.cons (.con (.int 9)) (.nil)))) (.con (.int 4))) (.nil)))))))) (.cons (.ifs (.cmp .Eq (.var 2) (.lst false (.nil))) (.cons (.ret (.bin .Add (.var 3) (.lst false (.cons (.bin .Pow (.con (.int 10)) (.con (.int 40))) (.cons (.neg (.bin .Pow (.con (.int 10)) (.con (.int 40)))) (.nil)))))) (.nil)) (.nil)) (.cons (.ret (.bin .Add (.var 3) (.lst false (.cons (.bin .Sub (.con (.int 59)) (.blt .max (.cons (.var 2) (.nil)))) (.cons (.bin .Sub (.con (.int 60)) (.blt .max (.cons (.var 2) (.nil)))) (.cons (.bin .Sub (.neg (.con (.int 60))) (.blt .min (.cons (.var 2) (.nil)))) (.cons (.bin .Sub (.neg (.con (.int 61))) (.blt .min (.cons (.var 2) (.nil)))) (.nil)))))))) (.nil))))), false⟩ := rfl
theorem am_step {r : Rule} (hr : Rc size 8 r) {V : Nat} (a0 a1 a3 : Option D) (n : Nat) (st : Store) (ys : List D) (h : st[V]? = some (.lst ys)) (hz : ys.length + (r.2.map fun p => D.int p.2).length ≤ sizeLine) :
    (den ⟨fnAt Tb0 csg wf n, csg, wf, (0, 0), lmAt Tb0 csg wf n⟩ c_am_b).s [a0, a1, some (.loc V), a3, some (.int r.1), some (encT r.2), none, none] st =
      .nx [a0, a1, some (.loc V), a3, some (.int r.1), some (encT r.2), none, none] (st.set V (.lst (ys ++ r.2.map fun p => D.int p.2))) := by
  have l1 := lcGo_map (t := gdTupN 2 (gdCons (gdName 6) (gdCons (gdName 7) gdNil))) (g := none) (c := fYes) (el := fVar 7)
    (env := [a0, a1, some (.loc V), a3, some (.int r.1), some (.tup (r.2.map encP)), none, none]) (st := st) encP (fun p => D.int p.2) trivial r.2 (by have := hr.2; rw [sizeLine_eq]; omega)
    (fun p hp => ⟨_, rfl, rfl, by simp⟩)
  have ap := ext_loc h hz
  have ll := lst_loc h
  unfold encT
  generalize (r.2.map fun p => D.int p.2) = R at l1 ap ⊢
  simp [c_am_b, l1, ll, ap]
theorem amounts_ok {k : Nat} {b : Int} {st : Store} (hs : Sv k b st) (hb : b + 100 ≤ 2 ^ 60) (s1 : size ≤ 8) {rs : List Rule} (hr : ∀ r ∈ rs, Rc size 8 r) (hl : rs.length ≤ 24) (n : Nat) :
    ∃ (am : List Int) (st' : Store), fnAt Tb0 csg wf (n + 2) 74 [.loc k, encS size rs] st = .ok (.lst (am.map D.int)) st' ∧ Up k st st' ∧ Sv k (b + 2) st' ∧ am.length ≤ 9 := by
  rw [fnAt_of (show Tb0.lookup 74 = some s_u_law_amounts from rfl), s_am_eq]
  have hz5 : 5 ≤ sizeLine := by decide
  have hz2 : 2 ≤ sizeLine := by decide
  have hz4 : 4 ≤ sizeLine := by decide
  have hz0 : 0 ≤ sizeLine := by decide
  have hz7 : 5 + 2 ≤ sizeLine := by decide
  have hz9 : 5 + 4 ≤ sizeLine := by decide
  have hk := hs.lt
  have hlen : (rs.flatMap fun r => r.2.map fun p => D.int p.2).length ≤ 8 * 24 := Nat.le_trans (fm_len fun r h => by rw [List.length_map]; exact (hr r h).2) (Nat.mul_le_mul_left _ hl)
  obtain ⟨v', w', e2⟩ := app2_loop (t := gdTupN 2 (gdCons (gdName 4) (gdCons (gdName 5) gdNil))) (body := (den ⟨fnAt Tb0 csg wf (n + 1), csg, wf, (0, 0), lmAt Tb0 csg wf (n + 1)⟩ c_am_b).s) (V := st.length) (enc := encR) (u := fun r : Rule => .int r.1) (w := fun r : Rule => encT r.2) (f := fun r => r.2.map fun p => D.int p.2)
    (mk := fun x y => [some (.loc k), some (encS size rs), some (.loc st.length), none, x, y, none, none]) (fun _ _ _ => rfl) rs
    (fun r hm st' ys h hz => am_step (wf := wf) (hr r hm) _ _ _ (n + 1) st' ys h hz) none none (st ++ [.lst []]) [] (end_loc st []) (by rw [sizeLine_eq]; exact Nat.le_trans (Nat.le_of_eq (Nat.zero_add _)) (Nat.le_trans hlen (by decide)))
  rw [fm_map, end_set, List.nil_append] at e2
  have hds : ∀ d ∈ (rs.flatMap fun r => r.2).map (·.2), -60 ≤ d ∧ d ≤ 59 := fun d hd => by
    obtain ⟨p, hp, rfl⟩ := List.mem_map.mp hd
    obtain ⟨r, hr', hp'⟩ := List.mem_flatMap.mp hp
    exact ((hr r hr').1.2.2 p hp').2
  have e3 : ((rs.flatMap fun r => r.2).map fun p => D.int p.2) = ((rs.flatMap fun r => r.2).map (·.2)).map D.int := by rw [List.map_map]; rfl
  rw [e3] at e2
  generalize (rs.flatMap fun r => r.2).map (·.2) = ds at e2 hds
  have hS : Sv k b (st ++ [O.lst (ds.map D.int)]) := hs.app _
  obtain ⟨x, o1, f1, S1, p0, p1⟩ := draw_ok (T := Tb0) (wf := wf) rfl (many := 121) hS (by omega) (by omega) (by omega) n
  obtain ⟨y, o2, f2, S2, q0, q1⟩ := draw_ok (T := Tb0) (wf := wf) rfl (many := 9) S1 (by omega) (by omega) (by omega) n
  rw [List.set_set] at f2 S2
  have U : Up k st (st.set k o2) := (Up.refl hs).set o2
  have e4 : (st ++ [O.lst (ds.map D.int)]).set k o2 = st.set k o2 ++ [O.lst (ds.map D.int)] := set_app hk
  rw [e4] at f2 S2
  have hk2 : k < (st.set k o2).length := by rw [List.length_set]; exact hk
  have S3 : Sv k (b + 2) (st.set k o2) := (S2.cut hk2).mono (by omega)
  have eV : (st.set k o2 ++ [O.lst (ds.map D.int)])[st.length]? = some (.lst (ds.map D.int)) := by
    have := end_loc (st.set k o2) (ds.map D.int)
    rwa [List.length_set] at this
  have hok : okzs (ds.map D.int) = true ∧ dpzs (ds.map D.int) ≤ 60 := by
    have hb : ∀ ds : List Int, (∀ d ∈ ds, -60 ≤ d ∧ d ≤ 59) → okzs (ds.map D.int) = true ∧ dpzs (ds.map D.int) ≤ 60 := fun ds h => by
      induction ds with
      | nil => exact ⟨rfl, Nat.zero_le _⟩
      | cons d ds ih =>
        obtain ⟨h1, h2⟩ := ih fun q hq => h q (List.mem_cons_of_mem _ hq)
        have b := h d List.mem_cons_self
        simp only [List.map_cons, okzs, dpzs, h1, okz_int (i := d) (by omega) (by omega), Bool.and_self, true_and]
        exact Nat.max_le.mpr ⟨by simp [dpz], h2⟩
    exact hb ds hds
  have ee := eq_empty eV hok.1 hok.2
  have il0 : idxD (encS size rs) (.int 1) (st ++ [O.lst []]) = .ok (.tup (rs.map encR)) (st ++ [O.lst []]) := by unfold encS; simp
  generalize hG : encS size rs = G at *
  cases ds with
  | nil =>
    obtain ⟨A, B, pA, pB, _⟩ := pow_40
    have fin := fun d hd => gc_up (new := [O.lst []]) (d := d) S3 U false hd
    refine ⟨[0, 1, -1, x - 60, y - 4, A, -A], st.set k o2, ?_, U, S3, by simp⟩
    have hfin := fin (.lst [.int 0, .int 1, .int (-1), .int (x - 60), .int (y - 4), .int A, .int (-A)]) rfl
    simp only [List.map_nil] at *
    have hb40 : ∀ s, binD .Pow (.int 10) (.int 40) s = .ok (.int A) s := fun s => b_pow pA s
    simp [runFn, startE, hz0, hz5, hz2, hz7, il0, e2, f1, f2, ee, hb40, hfin]
  | cons d ds =>
    have m1 := mm_loc eV true
    have m2 := mm_loc eV false
    simp only [if_true, Bool.false_eq_true, if_false] at m1 m2
    have fin := fun d' hd => gc_up (new := [O.lst ((d :: ds).map D.int)]) (d := d') S3 U false hd
    refine ⟨[0, 1, -1, x - 60, y - 4, 59 - mxF ds d, 60 - mxF ds d, -60 - mnF ds d, -61 - mnF ds d], st.set k o2, ?_, U, S3, by simp⟩
    have hfin := fin (.lst [.int 0, .int 1, .int (-1), .int (x - 60), .int (y - 4), .int (59 - mxF ds d), .int (60 - mxF ds d), .int (-60 - mnF ds d), .int (-61 - mnF ds d)]) rfl
    have m1' : bltD .max [.loc st.length] (st.set k o2 ++ [O.lst ((d :: ds).map D.int)]) = .ok (.int (mxF ds d)) (st.set k o2 ++ [O.lst ((d :: ds).map D.int)]) := m1
    have m2' : bltD .min [.loc st.length] (st.set k o2 ++ [O.lst ((d :: ds).map D.int)]) = .ok (.int (mnF ds d)) (st.set k o2 ++ [O.lst ((d :: ds).map D.int)]) := m2
    have ise : ((d :: ds).map D.int).isEmpty = false := rfl
    rw [ise] at ee
    generalize st.set k o2 ++ [O.lst ((d :: ds).map D.int)] = stB at *
    generalize st ++ [O.lst ((d :: ds).map D.int)] = stA at *
    simp [runFn, startE, hz0, hz5, hz4, hz9, il0, e2, f1, f2, ee, m1', m2', hfin]
end
end L2.G4

set_option maxHeartbeats 4000000
/-! K04r: the law. -/
namespace L2.G4
open PySem PySem.Spec PyProof.Rows

def c_k4_0 : CE := .clam 72 (.call 66 (.cons (.var 3) (.cons (.var 5) (.nil))))
def c_k4_1 : CE := .clam 72 (.call 66 (.cons (.call 22 (.cons (.var 2) (.cons (.var 3) (.nil)))) (.cons (.var 6) (.nil))))
def c_k4_2 : CE := .clam 72 (.call 66 (.cons (.var 3) (.cons (.var 6) (.nil))))
def c_k4_am : CE := .cons (.ifs (.cmp .NotEq (.blt .repr (.cons c_k4_0 (.nil))) (.blt .repr (.cons (.call 73 (.cons (.var 3) (.cons (.var 5) (.nil)))) (.nil)))) (.cons (.ret (.con (.bl false))) (.nil)) (.nil)) (.cons (.ifs (.not (.call 75 (.cons (.var 3) (.cons (.bin .Sub (.call 13 (.cons (.var 2) (.cons (.con (.int 7)) (.nil)))) (.con (.int 3))) (.cons (.var 5) (.nil)))))) (.cons (.ret (.con (.bl false))) (.nil)) (.nil)) (.cons (.ifs (.not (.call 76 (.cons (.var 2) (.cons (.var 3) (.cons (.var 5) (.nil)))))) (.cons (.ret (.con (.bl false))) (.nil)) (.nil)) (.nil)))
def c_k4_at : CE := .cons (.asg (.var 2) (.call 12 (.cons (.var 0) (.cons (.var 1) (.nil))))) (.cons (.asg (.var 3) (.call 53 (.cons (.var 2) (.cons (.bin .Add (.con (.int 1)) (.call 13 (.cons (.var 2) (.cons (.con (.int 8)) (.nil))))) (.cons (.idx (.lst false (.cons (.con (.int 3)) (.cons (.con (.int 59)) (.nil)))) (.call 13 (.cons (.var 2) (.cons (.con (.int 2)) (.nil))))) (.nil)))))) (.cons (.asg (.var 4) (.blt .repr (.cons (.var 3) (.nil)))) (.cons (.for_ (.call 74 (.cons (.var 2) (.cons (.var 3) (.nil)))) (.var 5) c_k4_am) (.cons (.ifs (.or (.cmp .NotEq (.blt .repr (.cons (.call 66 (.cons (.var 3) (.cons (.con (.int 0)) (.nil)))) (.nil))) (.var 4)) (.one (.cmp .NotEq (.blt .repr (.cons (.var 3) (.nil))) (.var 4)))) (.cons (.ret (.con (.bl false))) (.nil)) (.nil)) (.cons (.asg (.var 6) (.idx (.lst false (.cons (.con (.bl true)) (.cons (.con .non) (.cons (.con (.str "1")) (.cons (.tup (.cons (.con (.int 1)) (.nil))) (.cons (.lst false (.cons (.con (.int 1)) (.nil))) (.cons (.dct0) (.nil)))))))) (.call 13 (.cons (.var 2) (.cons (.con (.int 6)) (.nil)))))) (.cons (.asg (.var 7) (.lst true (.cons c_k4_1 (.nil)))) (.cons (.drop (.mth .append (.var 7) (.cons c_k4_2 (.nil)))) (.cons (.ifs (.cmp .NotEq (.var 7) (.lst false (.cons (.con (.str "rules")) (.cons (.bin .Add (.con (.str "number ")) (.blt .repr (.cons (.var 6) (.nil)))) (.nil))))) (.cons (.ret (.con (.bl false))) (.nil)) (.nil)) (.nil)))))))))
theorem s_k4_eq : s_law = ⟨1, 8, .cons (.for_ (.rng1 (.blt .max (.cons (.con (.int 1)) (.cons (.blt .min (.cons (.con (.int 8)) (.cons (.blt .len (.cons (.var 0) (.nil))) (.nil)))) (.nil))))) (.var 1) c_k4_at) (.cons (.ret (.con (.bl true))) (.nil)), false⟩ := rfl
/-- no integer, and how it is shown -/
def NoNum (d : D) : Prop := dat d = true ∧ isInt d = false ∧ ∃ K : Str, (∀ st, bltD .repr [d] st = .ok (.str K) st) ∧ okv false (.str (("number " : Str) ++ K)) = true ∧ ("number " : Str).length + K.length ≤ sizeLine
theorem noNum_of {d : D} {p : PyData} (e : py d = some p) (h1 : dat d = true) (h2 : isInt d = false) (hf : okv false d = true) (hb : bkv d ≤ 8000) (hd : dpv d ≤ 60) (h3 : okv false (.str (("number " : Str) ++ p.shown)) = true) (h4 : ("number " : Str).length + p.shown.length ≤ 100) : NoNum d :=
  ⟨h1, h2, p.shown, fun st => repr_val hf e hb hd st, h3, Nat.le_trans h4 (by decide)⟩
theorem noNum_dct : NoNum (.dct [] []) := ⟨rfl, rfl, "{}", fun st => by rfl, by decide +kernel, by decide +kernel⟩
theorem odds_ok : ∀ x ∈ [D.bl true, .non, .str "1", .tup [.int 1], .lst [.int 1], .dct [] []], NoNum x := by
  simp only [List.forall_mem_cons]
  refine ⟨noNum_of (p := .bool true) rfl rfl rfl ?_ ?_ ?_ ?_ ?_, noNum_of (p := .none) rfl rfl rfl ?_ ?_ ?_ ?_ ?_, noNum_of (p := .str "1") rfl rfl rfl ?_ ?_ ?_ ?_ ?_, noNum_of (p := .tuple [.int 1]) rfl rfl rfl ?_ ?_ ?_ ?_ ?_, noNum_of (p := .list [.int 1]) rfl rfl rfl ?_ ?_ ?_ ?_ ?_, noNum_dct, fun _ h => absurd h (by simp)⟩
  all_goals decide +kernel
section
variable {wf : Nat} {size : Int}
theorem am_turn {k : Nat} {b : Int} {st : Store} (hs : Sv k b st) (hb : b + 2000 ≤ 2 ^ 60) (s0 : 0 < size) (s1 : size ≤ 8) {rs : List Rule} (hr : ∀ r ∈ rs, Rc size 8 r) (hl : rs.length ≤ 24) (a : Int) (a0 a1 a4 a6 a7 : Option D) (n : Nat) :
    ∃ st', (den ⟨fnAt Tb0 csg wf (n + 13), csg, wf, (0, 0), lmAt Tb0 csg wf (n + 13)⟩ c_k4_am).s [a0, a1, some (.loc k), some (encS size rs), a4, some (.int a), a6, a7] st = .nx [a0, a1, some (.loc k), some (encS size rs), a4, some (.int a), a6, a7] st' ∧ Up k st st' ∧ Sv k (b + 70) st' := by
  have e1 : (den ⟨fnAt Tb0 csg wf (n + 13), csg, wf, (0, 0), lmAt Tb0 csg wf (n + 13)⟩ c_k4_0).e [a0, a1, some (.loc k), some (encS size rs), a4, some (.int a), a6, a7] st = .ok (dueD size rs a) st := by
    refine told_due (wf := wf) (n := n + 3) s0 s1 hr hl a ?_
    show (den ⟨fnAt Tb0 csg wf (n + 11), csg, wf, (0, 0), {}⟩ (.call 66 (.cons (.var 3) (.cons (.var 5) (.nil))))).e _ _ = _
    simp
  have e2 := due_ok (wf := wf) hr hl a st (n + 12)
  obtain ⟨K, hK⟩ := repr_fitv (fit_due s0 s1 hr hl a)
  obtain ⟨v, o1, f1, S1, p0, p1⟩ := draw_ok (T := Tb0) (wf := wf) rfl (many := 7) hs (by omega) (by omega) (by omega) (n + 12)
  have e3 := steps_ok (wf := wf) s0 s1 hr hl (v - 3) a (st.set k o1) (n + 1)
  obtain ⟨st2, e4, U2, S2⟩ := solved_ok (wf := wf) S1 (by omega) s0 s1 hr hl a (n + 1)
  refine ⟨st2, ?_, ((Up.refl hs).set o1).trans U2, S2.mono (by omega)⟩
  generalize encS size rs = G at *
  generalize dueD size rs a = X at *
  simp [c_k4_am, e1, e2, hK, f1, e3, e4]
theorem at_turn {ns : List Int} (hn : ns.length ≤ 63) {i : Nat} (hi : (i : Int) ≤ 1000) (st : Store) (v2 v3 v4 v5 v6 v7 : Option D) :
    ∃ (w2 w3 w4 w5 w6 w7 : Option D) (st' : Store), (den ⟨fnAt Tb0 csg 10000 19, csg, 10000, (0, 0), lmAt Tb0 csg 10000 19⟩ c_k4_at).s [some (.fls (ns.map D.int)), some (.int (i : Int)), v2, v3, v4, v5, v6, v7] st = .nx [some (.fls (ns.map D.int)), some (.int (i : Int)), w2, w3, w4, w5, w6, w7] st' := by
  have hz6 : 6 ≤ sizeLine := by decide
  have hz2 : 2 ≤ sizeLine := by decide
  have hz1 : 1 ≤ sizeLine := by decide
  have hz0 : 0 ≤ sizeLine := by decide
  obtain ⟨x0, x1, f1, p0, p1, p2⟩ := source_ok (T := Tb0) (wf := 10000) lbT hn (at_ := (i : Int)) (by omega) (by omega) st 18
  have hS0 : Sv st.length 0 (st ++ [.lst [.int x0, .int x1, .int 0]]) := ⟨x0, x1, 0, by rw [List.getElem?_append_right (Nat.le_refl _), Nat.sub_self]; rfl, p0, p1, p2, Int.le_refl _, Int.le_refl _⟩
  generalize st ++ [O.lst [.int x0, .int x1, .int 0]] = stS at f1 hS0
  generalize st.length = k at f1 hS0
  obtain ⟨w, o1, f2, S1, a0, a1⟩ := draw_ok (T := Tb0) (wf := 10000) rfl (many := 8) hS0 (by omega) (by omega) (by omega) 18
  obtain ⟨w', o2, f3, S2, c0, c1⟩ := draw_ok (T := Tb0) (wf := 10000) rfl (many := 2) S1 (by omega) (by omega) (by omega) 18
  rw [List.set_set] at f3 S2
  obtain ⟨reach, er, r0, r1⟩ : ∃ reach : Int, L2.atI [D.int 3, .int 59] w' = some (.int reach) ∧ 3 ≤ reach ∧ reach ≤ 59 := by
    rcases (show w' = 0 ∨ w' = 1 by omega) with rfl | rfl
    · exact ⟨3, rfl, by omega, by omega⟩
    · exact ⟨59, rfl, by omega, by omega⟩
  obtain ⟨rs, st3, f4, U3, S3, hrs0, hrl⟩ := rules_ok (T := Tb0) (wf := 10000) lbT (size := 1 + w) (reach := reach) S2 (by omega) (by omega) (by omega) r0 r1 (by omega) 15
  have z0 : 0 < 1 + w := by omega
  have z1 : 1 + w ≤ 8 := by omega
  generalize hsz : 1 + w = size at f4 hrs0 z0 z1
  have hrs : ∀ r ∈ rs, Rc size 8 r := fun r h => Rl.rc z1 (hrs0 r h).1
  obtain ⟨K, hK⟩ := repr_fitv (fitS (show 0 ≤ size by omega) z1 (fun r h => (hrs r h).up) hrl)
  have hK0 := fun s => hK s
  obtain ⟨am, st4, f5, U4, S4, hal⟩ := amounts_ok (wf := 10000) S3 (by omega) z1 hrs hrl 17
  obtain ⟨env5, st5, e5, y5, rfl, U5, S5⟩ := forGo_by (t := gdName 5) (g := none) (body := (den ⟨fnAt Tb0 csg 10000 19, csg, 10000, (0, 0), lmAt Tb0 csg 10000 19⟩ c_k4_am).s)
    (I := fun j env s => ∃ (y5 : Option D), env = [some (.fls (ns.map D.int)), some (.int (i : Int)), some (.loc k), some (encS size rs), some (.str K), y5, v6, v7] ∧ Up k st4 s ∧ Sv k (6000 + 70 * j) s)
    (am.map D.int) 0 [some (.fls (ns.map D.int)), some (.int (i : Int)), some (.loc k), some (encS size rs), some (.str K), v5, v6, v7] st4 (fun _ _ _ _ => trivial)
    (fun j d env s e ⟨y5, he, hu, hsv⟩ => by
      subst he
      have hj : j < 9 := by
        have := (List.getElem?_eq_some_iff.mp e).1
        rw [List.length_map] at this
        omega
      obtain ⟨a, ha, rfl⟩ := List.mem_map.mp (List.mem_of_getElem? e)
      rw [Nat.zero_add] at hsv ⊢
      obtain ⟨s2, g, U, S⟩ := am_turn (wf := 10000) hsv (by omega) z0 z1 hrs hrl a (some (.fls (ns.map D.int))) (some (.int (i : Int))) (some (.str K)) v6 v7 6
      exact ⟨_, _, s2, rfl, g, some (.int a), rfl, hu.trans U, S.mono (by push_cast; omega)⟩)
    ⟨v5, rfl, Up.refl S4, S4.mono (by omega)⟩
  rw [Nat.zero_add, List.length_map] at S5
  have S5 : Sv k 7000 st5 := S5.mono (by omega)
  have f6 := with_ok (wf := 10000) z0 z1 hrs hrl 0 st5 11
  rw [if_pos (fitA_zero hrs), shS_zero] at f6
  obtain ⟨u, o6, f7, S6, d0, d1⟩ := draw_ok (T := Tb0) (wf := 10000) rfl (many := 6) S5 (by omega) (by omega) (by omega) 18
  obtain ⟨odd, eo, ho1, ho2, KK, hKK, hok, hlen⟩ := atI_mem (w := u) d0 (by simpa using d1) odds_ok
  have hk6 : k < (st5.set k o6).length := S6.lt
  obtain ⟨d, st7, f8, U7, S7, A7, F7, hset⟩ := no_rules_ok (T := Tb0) (wf := 10000) rfl rfl S6 (by omega) (by omega) z1 (rows_rw (by omega) z1 hrs hrl) 15
  have e0 : encS size rs = .tup [.int size, .tup (rs.map encR)] := rfl
  rw [← e0] at f8 f4
  have g1 : (den ⟨fnAt Tb0 csg 10000 19, csg, 10000, (0, 0), lmAt Tb0 csg 10000 19⟩ c_k4_1).e [some (.fls (ns.map D.int)), some (.int (i : Int)), some (.loc k), some (encS size rs), some (.str K), y5, some odd, v7] (st5.set k o6) = .ok (.str "rules") st7 := by
    refine told_exc (wf := 10000) (e := ⟨"InvalidRules", none⟩) ?_ U7.len fun S => to_rules S _
    have q := with_norules (wf := 10000) (x := odd) (A7.datN (by omega) 5) hset st7 9
    show (den ⟨fnAt Tb0 csg 10000 17, csg, 10000, (0, 0), {}⟩ (.call 66 (.cons (.call 22 (.cons (.var 2) (.cons (.var 3) (.nil)))) (.cons (.var 6) (.nil))))).e _ _ = _
    simp [f8, q]
  have g2 : ∀ s v, (den ⟨fnAt Tb0 csg 10000 19, csg, 10000, (0, 0), lmAt Tb0 csg 10000 19⟩ c_k4_2).e [some (.fls (ns.map D.int)), some (.int (i : Int)), some (.loc k), some (encS size rs), some (.str K), y5, some odd, v] s = .ok (.str (("number " : Str) ++ KK)) s := fun s v => by
    refine told_exc (wf := 10000) (e := ⟨"InvalidNumber", some ("value", odd)⟩) ?_ rfl fun S => to_num S hKK hlen _
    have q := with_noint (wf := 10000) z0 z1 hrs hrl ho1 ho2 s 9
    show (den ⟨fnAt Tb0 csg 10000 17, csg, 10000, (0, 0), {}⟩ (.call 66 (.cons (.var 3) (.cons (.var 6) (.nil))))).e _ _ = _
    simp [q]
  have x1 := end_loc st7 [.str "rules"]
  have y1 := app_loc x1 (by rw [sizeLine_eq]; simp only [List.length_cons, List.length_nil]; omega) (.str (("number " : Str) ++ KK))
  rw [end_set] at y1
  have x2 := end_loc st7 [.str "rules", .str (("number " : Str) ++ KK)]
  have l1 := lst_loc x1
  have hkk : okv false (.lst [.str "rules", .str (("number " : Str) ++ KK)]) = true := by
    simp only [okv] at hok
    simp only [okv, okvs, hok, Bool.not_false, Bool.true_and, Bool.and_true]
    decide +kernel
  have ce := cmp_locN x2 hkk (by simp [dpv, dpvs])
  have hbn : ∀ s, binD .Add (.str "number ") (.str KK) s = .ok (.str (("number " : Str) ++ KK)) s := fun s => by
    show (if ("number " : Str).length + KK.length ≤ sizeLine then Rz.ok (D.str (("number " : Str) ++ KK)) s else .bad) = _
    rw [if_pos hlen]
  refine ⟨some (.loc k), some (encS size rs), some (.str K), y5, some odd, some (.loc st7.length), st7 ++ [O.lst [.str "rules", .str (("number " : Str) ++ KK)]], ?_⟩
  simp only [List.cons_append, List.nil_append] at y1
  generalize encS size rs = G at *
  generalize hX : ("number " : Str) ++ KK = X at *
  generalize st7 ++ [O.lst [.str "rules", .str X]] = stB at *
  generalize hA : st7 ++ [O.lst [.str "rules"]] = stA at *
  simp [c_k4_at, f1, f2, hsz, hz2, f3, er, f4, hK, f5, e5, f6, hz6, hz1, hz0, f7, eo, g1, hA, l1, g2, y1, hKK, hbn, ce]
end
theorem law_true (ns : List Int) (hn : ns.length ≤ 63) : ∃ wf st', fnAt Tb0 csg wf 20 0 [.fls (ns.map D.int)] [] = .ok (.bl true) st' := by
  refine ⟨10000, ?_⟩
  obtain ⟨m, hm, hm0, hm1⟩ : ∃ m : Int, fArgs (bltD .max) (fCons (fCon (.int 1)) (fCons (fArgs (bltD .min) (fCons (fCon (.int 8)) (fCons (fArgs (bltD .len) (fCons (fVar 0) fNil)) fNil))) fNil)) [some (.fls (ns.map D.int)), none, none, none, none, none, none, none] [] = .ok (.int m) [] ∧ 0 ≤ m ∧ m ≤ 8 := by
    refine ⟨if (if (ns.length : Int) < 8 then (ns.length : Int) else 8) > 1 then (if (ns.length : Int) < 8 then (ns.length : Int) else 8) else 1, by simp, ?_, ?_⟩
    · split <;> (try split) <;> omega
    · split <;> (try split) <;> omega
  have hsrc := rng1_of hm (show inR m by unfold inR; omega)
  obtain ⟨env2, st2, e2, v1, v2, v3, v4, v5, v6, v7, rfl⟩ := forGo_by (t := gdName 1) (g := none) (body := (den ⟨fnAt Tb0 csg 10000 19, csg, 10000, (0, 0), lmAt Tb0 csg 10000 19⟩ c_k4_at).s)
    (I := fun _ env st' => ∃ (v1 v2 v3 v4 v5 v6 v7 : Option D), env = [some (.fls (ns.map D.int)), v1, v2, v3, v4, v5, v6, v7])
    (rngL 0 m.toNat) 0 [some (.fls (ns.map D.int)), none, none, none, none, none, none, none] [] (fun _ _ _ _ => trivial)
    (fun i d env st e ⟨v1, v2, v3, v4, v5, v6, v7, he⟩ => by
      subst he
      obtain ⟨hi, rfl⟩ := rngL_get e
      obtain ⟨w2, w3, w4, w5, w6, w7, st', h⟩ := at_turn hn (i := i) (by omega) st v2 v3 v4 v5 v6 v7
      exact ⟨_, _, st', rfl, h, _, _, _, _, _, _, _, rfl⟩)
    ⟨none, none, none, none, none, none, none, rfl⟩
  refine ⟨[], ?_⟩
  rw [fnAt_of (show Tb0.lookup 0 = some s_law from rfl), s_k4_eq]
  have fin : gcR false [] (.ok (.bl true) st2) = .ok (.bl true) [] := gcR_drop (st := []) (st1 := []) (new := st2) false rfl rfl (fun i o hi => absurd hi (Nat.not_lt_zero _))
  simp [-x_rng1, runFn, startE, hsrc, e2, fin]
end L2.G4

set_option maxHeartbeats 4000000
namespace L2.G4
open PySem PySem.Spec PyProof.Rows
theorem all_mk {l : PySem.W.OpenLaw} {w : World} {K : PySem.W.Frag} {h : Heap} {mg : Str → Option Value} {fa f0 f1 f2 f3 f4 f5 f6 f7 f8 f9 f10 f11 f12 f13 f14 f15 f16 f17 f18 f19 f20 f21 f22 f23 f24 f25 f26 f27 f28 f29 f30 f31 f32 f33 f34 f35 : Addr} (X : K.In h) (HG : h.Ns mainGlobals mg) (hfa : mg "law" = some (.ref fa)) {tl : List Addr} (hB : tsB K tl = true)
    {od0 an0 od1 an1 od2 an2 od3 an3 od4 an4 od5 an5 od6 an6 od7 an7 od8 an8 od9 an9 od10 an10 od11 an11 od12 an12 od13 an13 od14 an14 od15 an15 od16 an16 od17 an17 od18 an18 od19 an19 od20 an20 od21 an21 od22 an22 od23 an23 od24 an24 od25 an25 od26 an26 od27 an27 od28 an28 od29 an29 od30 an30 od31 an31 od32 an32 od33 an33 od34 an34 od35 an35 : Option Addr} {sl0 sl1 sl2 sl3 sl4 sl5 sl6 sl7 sl8 sl9 sl10 sl11 sl12 sl13 sl14 sl15 sl16 sl17 sl18 sl19 sl20 sl21 sl22 sl23 sl24 sl25 sl26 sl27 sl28 sl29 sl30 sl31 sl32 sl33 sl34 sl35 : Array (Option Value)} {oc0 kV0 dc0 pm0 cd0 ct0 oc1 kV1 dc1 pm1 cd1 ct1 oc2 kV2 dc2 pm2 cd2 ct2 oc3 kV3 dc3 pm3 cd3 ct3 oc4 kV4 dc4 pm4 cd4 ct4 oc5 kV5 dc5 pm5 cd5 ct5 oc6 kV6 dc6 pm6 cd6 ct6 oc7 kV7 dc7 pm7 cd7 ct7 oc8 kV8 dc8 pm8 cd8 ct8 oc9 kV9 dc9 pm9 cd9 ct9 oc10 kV10 dc10 pm10 cd10 ct10 oc11 kV11 dc11 pm11 cd11 ct11 oc12 kV12 dc12 pm12 cd12 ct12 oc13 kV13 dc13 pm13 cd13 ct13 oc14 kV14 dc14 pm14 cd14 ct14 oc15 dc15 pm15 cd15 ct15 oc16 kV16 dc16 pm16 cd16 ct16 oc17 kV17 dc17 pm17 cd17 ct17 oc18 kV18 dc18 pm18 cd18 ct18 oc19 kV19 dc19 pm19 cd19 ct19 oc20 kV20 dc20 pm20 cd20 ct20 oc21 kV21 dc21 pm21 cd21 ct21 oc22 kV22 dc22 pm22 cd22 ct22 oc23 kV23 dc23 pm23 cd23 ct23 oc24 kV24 dc24 pm24 cd24 ct24 oc25 kV25 dc25 pm25 cd25 ct25 oc26 kV26 dc26 pm26 cd26 ct26 oc27 kV27 dc27 pm27 cd27 ct27 oc28 kV28 dc28 pm28 cd28 ct28 oc29 kV29 dc29 pm29 cd29 ct29 oc30 kV30 dc30 pm30 cd30 ct30 oc31 kV31 dc31 pm31 cd31 ct31 oc32 kV32 dc32 pm32 cd32 ct32 oc33 kV33 dc33 pm33 cd33 ct33 oc34 kV34 dc34 pm34 cd34 ct34 oc35 kV35 dc35 pm35 cd35 ct35 : Value} {kD15 : Addr}
    (a0 : PySem.W.nsIn K mainGlobals "law" = some (some (.ref f0)))
    (l0 : K.lookup f0 = some ⟨oc0, od0, .func (PySem.W.fnOf "law" "law" (defArgs (topS 46)) (defBody (topS 46)) (defScope (topS 46)) .none kV0 dc0 pm0 an0 cd0 ct0), sl0⟩)
    (c0 : PySem.W.codeIn K cd0 "law" = true) (k0 : PySem.W.keepIn K (.ref f0) = true)
    (a1 : PySem.W.nsIn K mainGlobals "_law_source" = some (some (.ref f1)))
    (l1 : K.lookup f1 = some ⟨oc1, od1, .func (PySem.W.fnOf "_law_source" "_law_source" (defArgs (topS 29)) (defBody (topS 29)) (defScope (topS 29)) .none kV1 dc1 pm1 an1 cd1 ct1), sl1⟩)
    (c1 : PySem.W.codeIn K cd1 "_law_source" = true) (k1 : PySem.W.keepIn K (.ref f1) = true)
    (a2 : PySem.W.nsIn K mainGlobals "_law_rules" = some (some (.ref f2)))
    (l2 : K.lookup f2 = some ⟨oc2, od2, .func (PySem.W.fnOf "_law_rules" "_law_rules" (defArgs (topS 35)) (defBody (topS 35)) (defScope (topS 35)) .none kV2 dc2 pm2 an2 cd2 ct2), sl2⟩)
    (c2 : PySem.W.codeIn K cd2 "_law_rules" = true) (k2 : PySem.W.keepIn K (.ref f2) = true)
    (a3 : PySem.W.nsIn K mainGlobals "_law_draw" = some (some (.ref f3)))
    (l3 : K.lookup f3 = some ⟨oc3, od3, .func (PySem.W.fnOf "_law_draw" "_law_draw" (defArgs (topS 30)) (defBody (topS 30)) (defScope (topS 30)) .none kV3 dc3 pm3 an3 cd3 ct3), sl3⟩)
    (c3 : PySem.W.codeIn K cd3 "_law_draw" = true) (k3 : PySem.W.keepIn K (.ref f3) = true)
    (a4 : PySem.W.nsIn K mainGlobals "_law_amounts" = some (some (.ref f4)))
    (l4 : K.lookup f4 = some ⟨oc4, od4, .func (PySem.W.fnOf "_law_amounts" "_law_amounts" (defArgs (topS 43)) (defBody (topS 43)) (defScope (topS 43)) .none kV4 dc4 pm4 an4 cd4 ct4), sl4⟩)
    (c4 : PySem.W.codeIn K cd4 "_law_amounts" = true) (k4 : PySem.W.keepIn K (.ref f4) = true)
    (a5 : PySem.W.nsIn K mainGlobals "with_delay" = some (some (.ref f5)))
    (l5 : K.lookup f5 = some ⟨oc5, od5, .func (PySem.W.fnOf "with_delay" "with_delay" (defArgs (topS 21)) (defBody (topS 21)) (defScope (topS 21)) .none kV5 dc5 pm5 an5 cd5 ct5), sl5⟩)
    (c5 : PySem.W.codeIn K cd5 "with_delay" = true) (k5 : PySem.W.keepIn K (.ref f5) = true)
    (a6 : PySem.W.nsIn K mainGlobals "_law_due" = some (some (.ref f6)))
    (l6 : K.lookup f6 = some ⟨oc6, od6, .func (PySem.W.fnOf "_law_due" "_law_due" (defArgs (topS 42)) (defBody (topS 42)) (defScope (topS 42)) .none kV6 dc6 pm6 an6 cd6 ct6), sl6⟩)
    (c6 : PySem.W.codeIn K cd6 "_law_due" = true) (k6 : PySem.W.keepIn K (.ref f6) = true)
    (a7 : PySem.W.nsIn K mainGlobals "_law_steps_right" = some (some (.ref f7)))
    (l7 : K.lookup f7 = some ⟨oc7, od7, .func (PySem.W.fnOf "_law_steps_right" "_law_steps_right" (defArgs (topS 44)) (defBody (topS 44)) (defScope (topS 44)) .none kV7 dc7 pm7 an7 cd7 ct7), sl7⟩)
    (c7 : PySem.W.codeIn K cd7 "_law_steps_right" = true) (k7 : PySem.W.keepIn K (.ref f7) = true)
    (a8 : PySem.W.nsIn K mainGlobals "_law_solved_right" = some (some (.ref f8)))
    (l8 : K.lookup f8 = some ⟨oc8, od8, .func (PySem.W.fnOf "_law_solved_right" "_law_solved_right" (defArgs (topS 45)) (defBody (topS 45)) (defScope (topS 45)) .none kV8 dc8 pm8 an8 cd8 ct8), sl8⟩)
    (c8 : PySem.W.codeIn K cd8 "_law_solved_right" = true) (k8 : PySem.W.keepIn K (.ref f8) = true)
    (a9 : PySem.W.nsIn K mainGlobals "_law_no_rules" = some (some (.ref f9)))
    (l9 : K.lookup f9 = some ⟨oc9, od9, .func (PySem.W.fnOf "_law_no_rules" "_law_no_rules" (defArgs (topS 40)) (defBody (topS 40)) (defScope (topS 40)) .none kV9 dc9 pm9 an9 cd9 ct9), sl9⟩)
    (c9 : PySem.W.codeIn K cd9 "_law_no_rules" = true) (k9 : PySem.W.keepIn K (.ref f9) = true)
    (a10 : PySem.W.nsIn K mainGlobals "_law_ring" = some (some (.ref f10)))
    (l10 : K.lookup f10 = some ⟨oc10, od10, .func (PySem.W.fnOf "_law_ring" "_law_ring" (defArgs (topS 33)) (defBody (topS 33)) (defScope (topS 33)) .none kV10 dc10 pm10 an10 cd10 ct10), sl10⟩)
    (c10 : PySem.W.codeIn K cd10 "_law_ring" = true) (k10 : PySem.W.keepIn K (.ref f10) = true)
    (a11 : PySem.W.nsIn K mainGlobals "_law_widened" = some (some (.ref f11)))
    (l11 : K.lookup f11 = some ⟨oc11, od11, .func (PySem.W.fnOf "_law_widened" "_law_widened" (defArgs (topS 34)) (defBody (topS 34)) (defScope (topS 34)) .none kV11 dc11 pm11 an11 cd11 ct11), sl11⟩)
    (c11 : PySem.W.codeIn K cd11 "_law_widened" = true) (k11 : PySem.W.keepIn K (.ref f11) = true)
    (a12 : PySem.W.nsIn K mainGlobals "_law_terms" = some (some (.ref f12)))
    (l12 : K.lookup f12 = some ⟨oc12, od12, .func (PySem.W.fnOf "_law_terms" "_law_terms" (defArgs (topS 32)) (defBody (topS 32)) (defScope (topS 32)) .none kV12 dc12 pm12 an12 cd12 ct12), sl12⟩)
    (c12 : PySem.W.codeIn K cd12 "_law_terms" = true) (k12 : PySem.W.keepIn K (.ref f12) = true)
    (a13 : PySem.W.nsIn K mainGlobals "check_rules" = some (some (.ref f13)))
    (l13 : K.lookup f13 = some ⟨oc13, od13, .func (PySem.W.fnOf "check_rules" "check_rules" (defArgs (topS 18)) (defBody (topS 18)) (defScope (topS 18)) .none kV13 dc13 pm13 an13 cd13 ct13), sl13⟩)
    (c13 : PySem.W.codeIn K cd13 "check_rules" = true) (k13 : PySem.W.keepIn K (.ref f13) = true)
    (a14 : PySem.W.nsIn K mainGlobals "is_integer" = some (some (.ref f14)))
    (l14 : K.lookup f14 = some ⟨oc14, od14, .func (PySem.W.fnOf "is_integer" "is_integer" (defArgs (topS 9)) (defBody (topS 9)) (defScope (topS 9)) .none kV14 dc14 pm14 an14 cd14 ct14), sl14⟩)
    (c14 : PySem.W.codeIn K cd14 "is_integer" = true) (k14 : PySem.W.keepIn K (.ref f14) = true)
    (a15 : PySem.W.nsIn K mainGlobals "delayed_by" = some (some (.ref f15)))
    (l15 : K.lookup f15 = some ⟨oc15, od15, .func (PySem.W.fnOf "delayed_by" "delayed_by" (defArgs (topS 20)) (defBody (topS 20)) (defScope (topS 20)) .none (.ref kD15) dc15 pm15 an15 cd15 ct15), sl15⟩)
    (c15 : PySem.W.codeIn K cd15 "delayed_by" = true) (k15 : PySem.W.keepIn K (.ref f15) = true)
    {qt15_0 : Tok} (q15_0 : PySem.W.nsIn K kD15 "factor" = some (some (.int 1 qt15_0)))
    (a16 : PySem.W.nsIn K mainGlobals "check_delays" = some (some (.ref f16)))
    (l16 : K.lookup f16 = some ⟨oc16, od16, .func (PySem.W.fnOf "check_delays" "check_delays" (defArgs (topS 19)) (defBody (topS 19)) (defScope (topS 19)) .none kV16 dc16 pm16 an16 cd16 ct16), sl16⟩)
    (c16 : PySem.W.codeIn K cd16 "check_delays" = true) (k16 : PySem.W.keepIn K (.ref f16) = true)
    (a17 : PySem.W.nsIn K mainGlobals "_law_times" = some (some (.ref f17)))
    (l17 : K.lookup f17 = some ⟨oc17, od17, .func (PySem.W.fnOf "_law_times" "_law_times" (defArgs (topS 36)) (defBody (topS 36)) (defScope (topS 36)) .none kV17 dc17 pm17 an17 cd17 ct17), sl17⟩)
    (c17 : PySem.W.codeIn K cd17 "_law_times" = true) (k17 : PySem.W.keepIn K (.ref f17) = true)
    (a18 : PySem.W.nsIn K mainGlobals "is_solution" = some (some (.ref f18)))
    (l18 : K.lookup f18 = some ⟨oc18, od18, .func (PySem.W.fnOf "is_solution" "is_solution" (defArgs (topS 27)) (defBody (topS 27)) (defScope (topS 27)) .none kV18 dc18 pm18 an18 cd18 ct18), sl18⟩)
    (c18 : PySem.W.codeIn K cd18 "is_solution" = true) (k18 : PySem.W.keepIn K (.ref f18) = true)
    (a19 : PySem.W.nsIn K mainGlobals "_law_solves" = some (some (.ref f19)))
    (l19 : K.lookup f19 = some ⟨oc19, od19, .func (PySem.W.fnOf "_law_solves" "_law_solves" (defArgs (topS 39)) (defBody (topS 39)) (defScope (topS 39)) .none kV19 dc19 pm19 an19 cd19 ct19), sl19⟩)
    (c19 : PySem.W.codeIn K cd19 "_law_solves" = true) (k19 : PySem.W.keepIn K (.ref f19) = true)
    (a20 : PySem.W.nsIn K mainGlobals "_law_delay" = some (some (.ref f20)))
    (l20 : K.lookup f20 = some ⟨oc20, od20, .func (PySem.W.fnOf "_law_delay" "_law_delay" (defArgs (topS 31)) (defBody (topS 31)) (defScope (topS 31)) .none kV20 dc20 pm20 an20 cd20 ct20), sl20⟩)
    (c20 : PySem.W.codeIn K cd20 "_law_delay" = true) (k20 : PySem.W.keepIn K (.ref f20) = true)
    (a21 : PySem.W.nsIn K mainGlobals "is_rule_set" = some (some (.ref f21)))
    (l21 : K.lookup f21 = some ⟨oc21, od21, .func (PySem.W.fnOf "is_rule_set" "is_rule_set" (defArgs (topS 17)) (defBody (topS 17)) (defScope (topS 17)) .none kV21 dc21 pm21 an21 cd21 ct21), sl21⟩)
    (c21 : PySem.W.codeIn K cd21 "is_rule_set" = true) (k21 : PySem.W.keepIn K (.ref f21) = true)
    (a22 : PySem.W.nsIn K mainGlobals "is_delay" = some (some (.ref f22)))
    (l22 : K.lookup f22 = some ⟨oc22, od22, .func (PySem.W.fnOf "is_delay" "is_delay" (defArgs (topS 11)) (defBody (topS 11)) (defScope (topS 11)) .none kV22 dc22 pm22 an22 cd22 ct22), sl22⟩)
    (c22 : PySem.W.codeIn K cd22 "is_delay" = true) (k22 : PySem.W.keepIn K (.ref f22) = true)
    (a23 : PySem.W.nsIn K mainGlobals "is_solution_by" = some (some (.ref f23)))
    (l23 : K.lookup f23 = some ⟨oc23, od23, .func (PySem.W.fnOf "is_solution_by" "is_solution_by" (defArgs (topS 26)) (defBody (topS 26)) (defScope (topS 26)) .none kV23 dc23 pm23 an23 cd23 ct23), sl23⟩)
    (c23 : PySem.W.codeIn K cd23 "is_solution_by" = true) (k23 : PySem.W.keepIn K (.ref f23) = true)
    (a24 : PySem.W.nsIn K mainGlobals "_law_holds" = some (some (.ref f24)))
    (l24 : K.lookup f24 = some ⟨oc24, od24, .func (PySem.W.fnOf "_law_holds" "_law_holds" (defArgs (topS 38)) (defBody (topS 38)) (defScope (topS 38)) .none kV24 dc24 pm24 an24 cd24 ct24), sl24⟩)
    (c24 : PySem.W.codeIn K cd24 "_law_holds" = true) (k24 : PySem.W.keepIn K (.ref f24) = true)
    (a25 : PySem.W.nsIn K mainGlobals "is_loose_rules" = some (some (.ref f25)))
    (l25 : K.lookup f25 = some ⟨oc25, od25, .func (PySem.W.fnOf "is_loose_rules" "is_loose_rules" (defArgs (topS 15)) (defBody (topS 15)) (defScope (topS 15)) .none kV25 dc25 pm25 an25 cd25 ct25), sl25⟩)
    (c25 : PySem.W.codeIn K cd25 "is_loose_rules" = true) (k25 : PySem.W.keepIn K (.ref f25) = true)
    (a26 : PySem.W.nsIn K mainGlobals "is_rule_by" = some (some (.ref f26)))
    (l26 : K.lookup f26 = some ⟨oc26, od26, .func (PySem.W.fnOf "is_rule_by" "is_rule_by" (defArgs (topS 16)) (defBody (topS 16)) (defScope (topS 16)) .none kV26 dc26 pm26 an26 cd26 ct26), sl26⟩)
    (c26 : PySem.W.codeIn K cd26 "is_rule_by" = true) (k26 : PySem.W.keepIn K (.ref f26) = true)
    (a27 : PySem.W.nsIn K mainGlobals "is_between" = some (some (.ref f27)))
    (l27 : K.lookup f27 = some ⟨oc27, od27, .func (PySem.W.fnOf "is_between" "is_between" (defArgs (topS 10)) (defBody (topS 10)) (defScope (topS 10)) .none kV27 dc27 pm27 an27 cd27 ct27), sl27⟩)
    (c27 : PySem.W.codeIn K cd27 "is_between" = true) (k27 : PySem.W.keepIn K (.ref f27) = true)
    (a28 : PySem.W.nsIn K mainGlobals "holds_by" = some (some (.ref f28)))
    (l28 : K.lookup f28 = some ⟨oc28, od28, .func (PySem.W.fnOf "holds_by" "holds_by" (defArgs (topS 25)) (defBody (topS 25)) (defScope (topS 25)) .none kV28 dc28 pm28 an28 cd28 ct28), sl28⟩)
    (c28 : PySem.W.codeIn K cd28 "holds_by" = true) (k28 : PySem.W.keepIn K (.ref f28) = true)
    (a29 : PySem.W.nsIn K mainGlobals "is_times_by" = some (some (.ref f29)))
    (l29 : K.lookup f29 = some ⟨oc29, od29, .func (PySem.W.fnOf "is_times_by" "is_times_by" (defArgs (topS 23)) (defBody (topS 23)) (defScope (topS 23)) .none kV29 dc29 pm29 an29 cd29 ct29), sl29⟩)
    (c29 : PySem.W.codeIn K cd29 "is_times_by" = true) (k29 : PySem.W.keepIn K (.ref f29) = true)
    (a30 : PySem.W.nsIn K mainGlobals "_law_side" = some (some (.ref f30)))
    (l30 : K.lookup f30 = some ⟨oc30, od30, .func (PySem.W.fnOf "_law_side" "_law_side" (defArgs (topS 37)) (defBody (topS 37)) (defScope (topS 37)) .none kV30 dc30 pm30 an30 cd30 ct30), sl30⟩)
    (c30 : PySem.W.codeIn K cd30 "_law_side" = true) (k30 : PySem.W.keepIn K (.ref f30) = true)
    (a31 : PySem.W.nsIn K mainGlobals "is_pair" = some (some (.ref f31)))
    (l31 : K.lookup f31 = some ⟨oc31, od31, .func (PySem.W.fnOf "is_pair" "is_pair" (defArgs (topS 12)) (defBody (topS 12)) (defScope (topS 12)) .none kV31 dc31 pm31 an31 cd31 ct31), sl31⟩)
    (c31 : PySem.W.codeIn K cd31 "is_pair" = true) (k31 : PySem.W.keepIn K (.ref f31) = true)
    (a32 : PySem.W.nsIn K mainGlobals "is_loose_rule" = some (some (.ref f32)))
    (l32 : K.lookup f32 = some ⟨oc32, od32, .func (PySem.W.fnOf "is_loose_rule" "is_loose_rule" (defArgs (topS 14)) (defBody (topS 14)) (defScope (topS 14)) .none kV32 dc32 pm32 an32 cd32 ct32), sl32⟩)
    (c32 : PySem.W.codeIn K cd32 "is_loose_rule" = true) (k32 : PySem.W.keepIn K (.ref f32) = true)
    (a33 : PySem.W.nsIn K mainGlobals "right_by" = some (some (.ref f33)))
    (l33 : K.lookup f33 = some ⟨oc33, od33, .func (PySem.W.fnOf "right_by" "right_by" (defArgs (topS 24)) (defBody (topS 24)) (defScope (topS 24)) .none kV33 dc33 pm33 an33 cd33 ct33), sl33⟩)
    (c33 : PySem.W.codeIn K cd33 "right_by" = true) (k33 : PySem.W.keepIn K (.ref f33) = true)
    (a34 : PySem.W.nsIn K mainGlobals "are_terms" = some (some (.ref f34)))
    (l34 : K.lookup f34 = some ⟨oc34, od34, .func (PySem.W.fnOf "are_terms" "are_terms" (defArgs (topS 13)) (defBody (topS 13)) (defScope (topS 13)) .none kV34 dc34 pm34 an34 cd34 ct34), sl34⟩)
    (c34 : PySem.W.codeIn K cd34 "are_terms" = true) (k34 : PySem.W.keepIn K (.ref f34) = true)
    (a35 : PySem.W.nsIn K mainGlobals "_law_told" = some (some (.ref f35)))
    (l35 : K.lookup f35 = some ⟨oc35, od35, .func (PySem.W.fnOf "_law_told" "_law_told" (defArgs (topS 41)) (defBody (topS 41)) (defScope (topS 41)) .none kV35 dc35 pm35 an35 cd35 ct35), sl35⟩)
    (c35 : PySem.W.codeIn K cd35 "_law_told" = true) (k35 : PySem.W.keepIn K (.ref f35) = true)
    {t0 : Tok} (m0 : PySem.W.nsIn K mainGlobals "MAX_DELAY" = some (some (.int 60 t0)))
    {t1 : Tok} (m1 : PySem.W.nsIn K mainGlobals "MAX_RULES" = some (some (.int 24 t1)))
    {t2 : Tok} (m2 : PySem.W.nsIn K mainGlobals "MAX_VARIABLES" = some (some (.int 8 t2)))
    (z0 : PySem.W.nsIn K mainGlobals "range" = some none)
    (z1 : PySem.W.nsIn K mainGlobals "max" = some none)
    (z2 : PySem.W.nsIn K mainGlobals "min" = some none)
    (z3 : PySem.W.nsIn K mainGlobals "len" = some none)
    (z4 : PySem.W.nsIn K mainGlobals "repr" = some none)
    (z5 : PySem.W.nsIn K mainGlobals "abs" = some none)
    (z6 : PySem.W.nsIn K mainGlobals "int" = some none)
    (z7 : PySem.W.nsIn K mainGlobals "tuple" = some none)
    (z8 : PySem.W.nsIn K mainGlobals "isinstance" = some none)
    (z9 : PySem.W.nsIn K mainGlobals "str" = some none)
    (z10 : PySem.W.nsIn K mainGlobals "list" = some none)
    (z11 : PySem.W.nsIn K mainGlobals "sum" = some none)
    (z12 : PySem.W.nsIn K mainGlobals "enumerate" = some none)
    (z13 : PySem.W.nsIn K mainGlobals "sorted" = some none)
    (z14 : PySem.W.nsIn K mainGlobals "bool" = some none)
    (z15 : PySem.W.nsIn K mainGlobals "all" = some none)
    (z16 : PySem.W.nsIn K mainGlobals "zip" = some none)
    {C0 fI0 xN0 : Addr} {xod0 xan0 xdd0 : Option Addr} {xnm0 xq0 : Str} {xbs0 xsu0 : List Value} {xsn0 : List Str} {xab0 : Bool} {xcol0 : Option Bool} {xa0 xb0 xc0 xd0 xe0 : Option Value} {xoc0 xkV0 xdc0 xpm0 xcd0 xct0 : Value} {xsl0 : Array (Option Value)}
    (xg0 : PySem.W.nsIn K mainGlobals "InvalidNumber" = some (some (.ref C0))) (xB0 : PySem.W.nsIn K mainGlobals "LookupError" = some none)
    (xC0 : K.lookup C0 = some (excClassObj xnm0 xq0 C0 xN0 xbs0 [.type "LookupError", .type "Exception", .type "BaseException", .type "object"] true xsn0 xsu0 xab0 xcol0 xdd0 xa0 xb0 xc0 xd0 xe0 "LookupError.__new__"))
    (xs0 : PySem.W.findIn K (.ref C0) "__setattr__" = some (some (.builtin "object.__setattr__"))) (xga0 : PySem.W.findIn K (.ref C0) "__getattribute__" = some (some (.builtin "BaseException.__getattribute__"))) (xgg0 : PySem.W.findIn K (.ref C0) "__getattr__" = some none)
    (xn0 : PySem.W.findIn K (.ref C0) "value" = some none) (xi0 : PySem.W.findIn K (.ref C0) "__init__" = some (some (.ref fI0))) (xti0 : PySem.W.typeIn K (.ref fI0) = some (.type "function"))
    (xk0 : PySem.W.keepIn K (.ref C0) = true) (xkf0 : PySem.W.keepIn K (.ref fI0) = true) (xsb0 : PySem.W.subIn K (.ref C0) (.type "BaseException") = some true) (xty0 : PySem.W.typeIn K (.ref C0) = some (.type "type")) (xhd0 : PySem.W.hasDictIn K C0 = true) (xic0 : PySem.W.isClsIn K C0 = true) (xss0 : PySem.W.subIn K (.ref C0) (.ref C0) = some true)
    (xv0 : PySem.W.findCls K (.type "LookupError") (.type "type") "__init__" = some (.val (.builtin "LookupError.__init__")))
    (xl0 : K.lookup fI0 = some ⟨xoc0, xod0, .func (PySem.W.fnOf "__init__" "InvalidNumber.__init__" (defArgs (clsS 3)) (defBody (clsS 3)) (defScope (clsS 3)) .none xkV0 xdc0 xpm0 xan0 xcd0 xct0), xsl0⟩) (xcc0 : PySem.W.codeIn K xcd0 "InvalidNumber.__init__" = true)
    {C1 fI1 xN1 : Addr} {xod1 xan1 xdd1 : Option Addr} {xnm1 xq1 : Str} {xbs1 xsu1 : List Value} {xsn1 : List Str} {xab1 : Bool} {xcol1 : Option Bool} {xa1 xb1 xc1 xd1 xe1 : Option Value} {xoc1 xkV1 xdc1 xpm1 xcd1 xct1 : Value} {xsl1 : Array (Option Value)}
    (xg1 : PySem.W.nsIn K mainGlobals "TooLarge" = some (some (.ref C1))) (xB1 : PySem.W.nsIn K mainGlobals "OverflowError" = some none)
    (xC1 : K.lookup C1 = some (excClassObj xnm1 xq1 C1 xN1 xbs1 [.type "OverflowError", .type "ArithmeticError", .type "Exception", .type "BaseException", .type "object"] true xsn1 xsu1 xab1 xcol1 xdd1 xa1 xb1 xc1 xd1 xe1 "OverflowError.__new__"))
    (xs1 : PySem.W.findIn K (.ref C1) "__setattr__" = some (some (.builtin "object.__setattr__"))) (xga1 : PySem.W.findIn K (.ref C1) "__getattribute__" = some (some (.builtin "BaseException.__getattribute__"))) (xgg1 : PySem.W.findIn K (.ref C1) "__getattr__" = some none)
    (xn1 : PySem.W.findIn K (.ref C1) "limit" = some none) (xi1 : PySem.W.findIn K (.ref C1) "__init__" = some (some (.ref fI1))) (xti1 : PySem.W.typeIn K (.ref fI1) = some (.type "function"))
    (xk1 : PySem.W.keepIn K (.ref C1) = true) (xkf1 : PySem.W.keepIn K (.ref fI1) = true) (xsb1 : PySem.W.subIn K (.ref C1) (.type "BaseException") = some true) (xty1 : PySem.W.typeIn K (.ref C1) = some (.type "type")) (xhd1 : PySem.W.hasDictIn K C1 = true) (xic1 : PySem.W.isClsIn K C1 = true) (xss1 : PySem.W.subIn K (.ref C1) (.ref C1) = some true)
    (xv1 : PySem.W.findCls K (.type "OverflowError") (.type "type") "__init__" = some (.val (.builtin "OverflowError.__init__")))
    (xl1 : K.lookup fI1 = some ⟨xoc1, xod1, .func (PySem.W.fnOf "__init__" "TooLarge.__init__" (defArgs (clsS 4)) (defBody (clsS 4)) (defScope (clsS 4)) .none xkV1 xdc1 xpm1 xan1 xcd1 xct1), xsl1⟩) (xcc1 : PySem.W.codeIn K xcd1 "TooLarge.__init__" = true)
    {D0 : Addr} (yg0 : PySem.W.nsIn K mainGlobals "InvalidRules" = some (some (.ref D0))) (ye0 : PySem.W.excIn K D0 [.type "ValueError", .type "Exception", .type "BaseException", .type "object"] "ValueError.__new__" = true) (yk0 : PySem.W.keepIn K (.ref D0) = true) (ys0 : PySem.W.subIn K (.ref D0) (.type "BaseException") = some true) (yt0 : PySem.W.typeIn K (.ref D0) = some (.type "type"))
    (w0 : PySem.W.exmOne K (.ref C1) (.ref D0) = some false)
    (w1 : PySem.W.exmOne K (.ref D0) (.ref D0) = some true)
    (w2 : PySem.W.exmOne K (.ref C0) (.ref D0) = some false)
    (w3 : PySem.W.exmOne K (.ref C1) (.ref C0) = some false)
    (w4 : PySem.W.exmOne K (.ref D0) (.ref C0) = some false)
    (w5 : PySem.W.exmOne K (.ref C0) (.ref C0) = some true)
    (w6 : PySem.W.exmOne K (.ref C1) (.ref C1) = some true)
    (w7 : PySem.W.exmOne K (.ref D0) (.ref C1) = some false)
    (w8 : PySem.W.exmOne K (.ref C0) (.ref C1) = some false)
    : ∃ fd : FuncData, (∀ (s : Shared) (u : Value), BindsTo s fd ⟨[u], []⟩ [("script", u)]) ∧ ∀ base : Heap, K.In base → base.Ns mainGlobals mg → (∀ p ∈ tsK K, LamX.TabB base mg p.1 p.2) → ∀ wf, FnG l.prog w K mg base 22 fa fd ["script"] (fnAt Tb0 csg wf 20 0) true := by
  have e := hfa.symm.trans (PySem.W.mg_of X HG a0)
  cases e
  have hF : ∀ d ∈ Pg, Fact K mg d := by
    unfold Pg
    simp only [List.forall_mem_cons]
    exact ⟨⟨fa, _, fun_mk (st := topS 46) l0 c0 k0, PySem.W.mg_of X HG a0, [], [], (fun_mk (st := topS 46) l0 c0 k0).binds (ps := ["script"]) fun _ _ _ _ _ _ us hl => match us, hl with | [_], _ => rfl, .nil, fun _ _ _ => .nil⟩,
      ⟨f1, _, fun_mk (st := topS 29) l1 c1 k1, PySem.W.mg_of X HG a1, [], [], (fun_mk (st := topS 29) l1 c1 k1).binds (ps := ["script", "at"]) fun _ _ _ _ _ _ us hl => match us, hl with | [_, _], _ => rfl, .nil, fun _ _ _ => .nil⟩,
      ⟨f2, _, fun_mk (st := topS 35) l2 c2 k2, PySem.W.mg_of X HG a2, [], [], (fun_mk (st := topS 35) l2 c2 k2).binds (ps := ["source", "size", "reach"]) fun _ _ _ _ _ _ us hl => match us, hl with | [_, _, _], _ => rfl, .nil, fun _ _ _ => .nil⟩,
      ⟨f3, _, fun_mk (st := topS 30) l3 c3 k3, PySem.W.mg_of X HG a3, [], [], (fun_mk (st := topS 30) l3 c3 k3).binds (ps := ["source", "many"]) fun _ _ _ _ _ _ us hl => match us, hl with | [_, _], _ => rfl, .nil, fun _ _ _ => .nil⟩,
      ⟨f4, _, fun_mk (st := topS 43) l4 c4 k4, PySem.W.mg_of X HG a4, [], [], (fun_mk (st := topS 43) l4 c4 k4).binds (ps := ["source", "given"]) fun _ _ _ _ _ _ us hl => match us, hl with | [_, _], _ => rfl, .nil, fun _ _ _ => .nil⟩,
      ⟨f5, _, fun_mk (st := topS 21) l5 c5 k5, PySem.W.mg_of X HG a5, [], [], (fun_mk (st := topS 21) l5 c5 k5).binds (ps := ["rules", "amount"]) fun _ _ _ _ _ _ us hl => match us, hl with | [_, _], _ => rfl, .nil, fun _ _ _ => .nil⟩,
      ⟨f6, _, fun_mk (st := topS 42) l6 c6 k6, PySem.W.mg_of X HG a6, [], [], (fun_mk (st := topS 42) l6 c6 k6).binds (ps := ["given", "amount"]) fun _ _ _ _ _ _ us hl => match us, hl with | [_, _], _ => rfl, .nil, fun _ _ _ => .nil⟩,
      ⟨f7, _, fun_mk (st := topS 44) l7 c7 k7, PySem.W.mg_of X HG a7, [], [], (fun_mk (st := topS 44) l7 c7 k7).binds (ps := ["given", "first", "second"]) fun _ _ _ _ _ _ us hl => match us, hl with | [_, _, _], _ => rfl, .nil, fun _ _ _ => .nil⟩,
      ⟨f8, _, fun_mk (st := topS 45) l8 c8 k8, PySem.W.mg_of X HG a8, [], [], (fun_mk (st := topS 45) l8 c8 k8).binds (ps := ["source", "given", "amount"]) fun _ _ _ _ _ _ us hl => match us, hl with | [_, _, _], _ => rfl, .nil, fun _ _ _ => .nil⟩,
      ⟨f9, _, fun_mk (st := topS 40) l9 c9 k9, PySem.W.mg_of X HG a9, [], [], (fun_mk (st := topS 40) l9 c9 k9).binds (ps := ["source", "given"]) fun _ _ _ _ _ _ us hl => match us, hl with | [_, _], _ => rfl, .nil, fun _ _ _ => .nil⟩,
      ⟨f10, _, fun_mk (st := topS 33) l10 c10 k10, PySem.W.mg_of X HG a10, [], [], (fun_mk (st := topS 33) l10 c10 k10).binds (ps := ["source", "size", "total"]) fun _ _ _ _ _ _ us hl => match us, hl with | [_, _, _], _ => rfl, .nil, fun _ _ _ => .nil⟩,
      ⟨f11, _, fun_mk (st := topS 34) l11 c11 k11, PySem.W.mg_of X HG a11, [], [], (fun_mk (st := topS 34) l11 c11 k11).binds (ps := ["source", "size", "row", "reach"]) fun _ _ _ _ _ _ us hl => match us, hl with | [_, _, _, _], _ => rfl, .nil, fun _ _ _ => .nil⟩,
      ⟨f12, _, fun_mk (st := topS 32) l12 c12 k12, PySem.W.mg_of X HG a12, [], [], (fun_mk (st := topS 32) l12 c12 k12).binds (ps := ["source", "size", "many", "reach"]) fun _ _ _ _ _ _ us hl => match us, hl with | [_, _, _, _], _ => rfl, .nil, fun _ _ _ => .nil⟩,
      ⟨f13, _, fun_mk (st := topS 18) l13 c13 k13, PySem.W.mg_of X HG a13, [], [], (fun_mk (st := topS 18) l13 c13 k13).binds (ps := ["rules"]) fun _ _ _ _ _ _ us hl => match us, hl with | [_], _ => rfl, .nil, fun _ _ _ => .nil⟩,
      ⟨f14, _, fun_mk (st := topS 9) l14 c14 k14, PySem.W.mg_of X HG a14, [], [], (fun_mk (st := topS 9) l14 c14 k14).binds (ps := ["value"]) fun _ _ _ _ _ _ us hl => match us, hl with | [_], _ => rfl, .nil, fun _ _ _ => .nil⟩,
      ⟨f15, _, fun_mk (st := topS 20) l15 c15 k15, PySem.W.mg_of X HG a15, (FunD.binds0 (x := "delayed_by") (qual := "delayed_by") (params := defArgs (topS 20)) (body := defBody (topS 20)) (scope := defScope (topS 20)) (ps := ["rules", "amount", "factor"]) (kws := [("factor", .int 1)]) ⟨⟨_, _, _, _, _, _, _, _, _, _, rfl, l15, c15, .inl ⟨rfl, rfl⟩, .inr ⟨kD15, rfl, by simp only [List.forall_mem_cons]; exact ⟨⟨_, q15_0, ⟨_, rfl⟩⟩, List.forall_mem_nil _⟩⟩⟩, k15⟩ 2 (by decide) rfl fun _ _ _ _ _ _ us ks hl hk => match us, ks, hl, hk with | [_, _], [_], _, _ => ⟨_, _, _, _, _, _, rfl, rfl, rfl⟩).elim fun ds h => ⟨_, ds, h.2, h.1, fun _ _ _ => .cons (.int 1) (.nil)⟩⟩,
      ⟨f16, _, fun_mk (st := topS 19) l16 c16 k16, PySem.W.mg_of X HG a16, [], [], (fun_mk (st := topS 19) l16 c16 k16).binds (ps := ["rules"]) fun _ _ _ _ _ _ us hl => match us, hl with | [_], _ => rfl, .nil, fun _ _ _ => .nil⟩,
      ⟨f17, _, fun_mk (st := topS 36) l17 c17 k17, PySem.W.mg_of X HG a17, [], [], (fun_mk (st := topS 36) l17 c17 k17).binds (ps := ["source", "size"]) fun _ _ _ _ _ _ us hl => match us, hl with | [_, _], _ => rfl, .nil, fun _ _ _ => .nil⟩,
      ⟨f18, _, fun_mk (st := topS 27) l18 c18 k18, PySem.W.mg_of X HG a18, [], [], (fun_mk (st := topS 27) l18 c18 k18).binds (ps := ["rules", "value"]) fun _ _ _ _ _ _ us hl => match us, hl with | [_, _], _ => rfl, .nil, fun _ _ _ => .nil⟩,
      ⟨f19, _, fun_mk (st := topS 39) l19 c19 k19, PySem.W.mg_of X HG a19, [], [], (fun_mk (st := topS 39) l19 c19 k19).binds (ps := ["given", "times"]) fun _ _ _ _ _ _ us hl => match us, hl with | [_, _], _ => rfl, .nil, fun _ _ _ => .nil⟩,
      ⟨f20, _, fun_mk (st := topS 31) l20 c20 k20, PySem.W.mg_of X HG a20, [], [], (fun_mk (st := topS 31) l20 c20 k20).binds (ps := ["source", "reach"]) fun _ _ _ _ _ _ us hl => match us, hl with | [_, _], _ => rfl, .nil, fun _ _ _ => .nil⟩,
      ⟨f21, _, fun_mk (st := topS 17) l21 c21 k21, PySem.W.mg_of X HG a21, [], [], (fun_mk (st := topS 17) l21 c21 k21).binds (ps := ["value"]) fun _ _ _ _ _ _ us hl => match us, hl with | [_], _ => rfl, .nil, fun _ _ _ => .nil⟩,
      ⟨f22, _, fun_mk (st := topS 11) l22 c22 k22, PySem.W.mg_of X HG a22, [], [], (fun_mk (st := topS 11) l22 c22 k22).binds (ps := ["value"]) fun _ _ _ _ _ _ us hl => match us, hl with | [_], _ => rfl, .nil, fun _ _ _ => .nil⟩,
      ⟨f23, _, fun_mk (st := topS 26) l23 c23 k23, PySem.W.mg_of X HG a23, [], [], (fun_mk (st := topS 26) l23 c23 k23).binds (ps := ["size", "rules", "times"]) fun _ _ _ _ _ _ us hl => match us, hl with | [_, _, _], _ => rfl, .nil, fun _ _ _ => .nil⟩,
      ⟨f24, _, fun_mk (st := topS 38) l24 c24 k24, PySem.W.mg_of X HG a24, [], [], (fun_mk (st := topS 38) l24 c24 k24).binds (ps := ["row", "times"]) fun _ _ _ _ _ _ us hl => match us, hl with | [_, _], _ => rfl, .nil, fun _ _ _ => .nil⟩,
      ⟨f25, _, fun_mk (st := topS 15) l25 c25 k25, PySem.W.mg_of X HG a25, [], [], (fun_mk (st := topS 15) l25 c25 k25).binds (ps := ["value"]) fun _ _ _ _ _ _ us hl => match us, hl with | [_], _ => rfl, .nil, fun _ _ _ => .nil⟩,
      ⟨f26, _, fun_mk (st := topS 16) l26 c26 k26, PySem.W.mg_of X HG a26, [], [], (fun_mk (st := topS 16) l26 c26 k26).binds (ps := ["size", "value"]) fun _ _ _ _ _ _ us hl => match us, hl with | [_, _], _ => rfl, .nil, fun _ _ _ => .nil⟩,
      ⟨f27, _, fun_mk (st := topS 10) l27 c27 k27, PySem.W.mg_of X HG a27, [], [], (fun_mk (st := topS 10) l27 c27 k27).binds (ps := ["value", "low", "high"]) fun _ _ _ _ _ _ us hl => match us, hl with | [_, _, _], _ => rfl, .nil, fun _ _ _ => .nil⟩,
      ⟨f28, _, fun_mk (st := topS 25) l28 c28 k28, PySem.W.mg_of X HG a28, [], [], (fun_mk (st := topS 25) l28 c28 k28).binds (ps := ["rule", "times"]) fun _ _ _ _ _ _ us hl => match us, hl with | [_, _], _ => rfl, .nil, fun _ _ _ => .nil⟩,
      ⟨f29, _, fun_mk (st := topS 23) l29 c29 k29, PySem.W.mg_of X HG a29, [], [], (fun_mk (st := topS 23) l29 c29 k29).binds (ps := ["size", "value"]) fun _ _ _ _ _ _ us hl => match us, hl with | [_, _], _ => rfl, .nil, fun _ _ _ => .nil⟩,
      ⟨f30, _, fun_mk (st := topS 37) l30 c30 k30, PySem.W.mg_of X HG a30, [], [], (fun_mk (st := topS 37) l30 c30 k30).binds (ps := ["row", "times"]) fun _ _ _ _ _ _ us hl => match us, hl with | [_, _], _ => rfl, .nil, fun _ _ _ => .nil⟩,
      ⟨f31, _, fun_mk (st := topS 12) l31 c31 k31, PySem.W.mg_of X HG a31, [], [], (fun_mk (st := topS 12) l31 c31 k31).binds (ps := ["value"]) fun _ _ _ _ _ _ us hl => match us, hl with | [_], _ => rfl, .nil, fun _ _ _ => .nil⟩,
      ⟨f32, _, fun_mk (st := topS 14) l32 c32 k32, PySem.W.mg_of X HG a32, [], [], (fun_mk (st := topS 14) l32 c32 k32).binds (ps := ["size", "value"]) fun _ _ _ _ _ _ us hl => match us, hl with | [_, _], _ => rfl, .nil, fun _ _ _ => .nil⟩,
      ⟨f33, _, fun_mk (st := topS 24) l33 c33 k33, PySem.W.mg_of X HG a33, [], [], (fun_mk (st := topS 24) l33 c33 k33).binds (ps := ["rule", "times"]) fun _ _ _ _ _ _ us hl => match us, hl with | [_, _], _ => rfl, .nil, fun _ _ _ => .nil⟩,
      ⟨f34, _, fun_mk (st := topS 13) l34 c34 k34, PySem.W.mg_of X HG a34, [], [], (fun_mk (st := topS 13) l34 c34 k34).binds (ps := ["size", "value"]) fun _ _ _ _ _ _ us hl => match us, hl with | [_, _], _ => rfl, .nil, fun _ _ _ => .nil⟩, List.forall_mem_nil _⟩
  have hFc : ∀ d ∈ Pc, Fact K mg d := by
    unfold Pc
    simp only [List.forall_mem_cons]
    exact ⟨⟨f35, _, fun_mk (st := topS 41) l35 c35 k35, PySem.W.mg_of X HG a35, [], [], (fun_mk (st := topS 41) l35 c35 k35).binds (ps := ["call"]) fun _ _ _ _ _ _ us hl => match us, hl with | [_], _ => rfl, .nil, fun _ _ _ => .nil⟩, List.forall_mem_nil _⟩
  have hcs : ∀ (k : Nat) (x : Str), Gg.cst.lookup k = some x → ∃ (u : Value) (v : V), mg x = some u ∧ RelV v u ∧ ∀ H r n, DV K H r n (csg k) v := by
    intro k x e
    unfold Gg at e
    simp only [List.lookup_cons, List.lookup_nil] at e
    split at e
    · rename_i q; rw [beq_iff_eq] at q; subst q; cases e; exact ⟨_, .int 60, PySem.W.mg_of X HG m0, ⟨_, rfl⟩, fun _ _ _ => .int _⟩
    split at e
    · rename_i q; rw [beq_iff_eq] at q; subst q; cases e; exact ⟨_, .int 24, PySem.W.mg_of X HG m1, ⟨_, rfl⟩, fun _ _ _ => .int _⟩
    split at e
    · rename_i q; rw [beq_iff_eq] at q; subst q; cases e; exact ⟨_, .int 8, PySem.W.mg_of X HG m2, ⟨_, rfl⟩, fun _ _ _ => .int _⟩
    cases e
  have hbn : ∀ x ∈ Gg.bns, mg x = none := by
    unfold Gg
    simp only [List.forall_mem_cons]
    exact ⟨PySem.W.mg_none_of X HG z0, PySem.W.mg_none_of X HG z1, PySem.W.mg_none_of X HG z2, PySem.W.mg_none_of X HG z3, PySem.W.mg_none_of X HG z4, PySem.W.mg_none_of X HG z5, PySem.W.mg_none_of X HG z6, PySem.W.mg_none_of X HG z7, PySem.W.mg_none_of X HG z8, PySem.W.mg_none_of X HG z9, PySem.W.mg_none_of X HG z10, PySem.W.mg_none_of X HG z11, PySem.W.mg_none_of X HG z12, PySem.W.mg_none_of X HG z13, PySem.W.mg_none_of X HG z14, PySem.W.mg_none_of X HG z15, PySem.W.mg_none_of X HG z16, List.forall_mem_nil _⟩
  have hexi : ∀ base : Heap, ∀ q ∈ Gg.exi, ExI0 l.prog w K mg base q.1 q.2 := by
    intro base
    unfold Gg
    simp only [List.forall_mem_cons]
    exact ⟨⟨_, _, _, _, C0, fI0, _, "value", exB_LookupError, ⟨⟨_, _, _, _, _, _, _, _, _, _, _, _, _, _, _, xC0, by decide +kernel⟩, xs0, xsb0, xty0, xk0⟩, xi0, xti0, initB_ok exB_LookupError ⟨PySem.W.mg_none_of X HG xB0, by decide +kernel, xv0, by decide +kernel⟩ (fun_mk (st := clsS 3) xl0 xcc0 xkf0) rfl ⟨rfl, rfl, rfl, by decide, rfl, by decide, by decide⟩ rfl (by decide) (by decide) rfl rfl rfl (by decide) (by decide) (by decide) (fun _ => ⟨_, rfl⟩) (fun _ => rfl) (fun _ => rfl), xn0, (fun_mk (st := clsS 3) xl0 xcc0 xkf0).binds (ps := ["self", "value"]) fun _ _ _ _ _ _ us hl => match us, hl with | [_, _], _ => rfl, PySem.W.mg_of X HG xg0, exm_selfG xsb0 xic0 xty0 xss0, xga0, xgg0, xhd0⟩,
      ⟨_, _, _, _, C1, fI1, _, "limit", exB_OverflowError, ⟨⟨_, _, _, _, _, _, _, _, _, _, _, _, _, _, _, xC1, by decide +kernel⟩, xs1, xsb1, xty1, xk1⟩, xi1, xti1, initB_ok exB_OverflowError ⟨PySem.W.mg_none_of X HG xB1, by decide +kernel, xv1, by decide +kernel⟩ (fun_mk (st := clsS 4) xl1 xcc1 xkf1) rfl ⟨rfl, rfl, rfl, by decide, rfl, by decide, by decide⟩ rfl (by decide) (by decide) rfl rfl rfl (by decide) (by decide) (by decide) (fun _ => ⟨_, rfl⟩) (fun _ => rfl) (fun _ => rfl), xn1, (fun_mk (st := clsS 4) xl1 xcc1 xkf1).binds (ps := ["self", "limit"]) fun _ _ _ _ _ _ us hl => match us, hl with | [_, _], _ => rfl, PySem.W.mg_of X HG xg1, exm_selfG xsb1 xic1 xty1 xss1, xga1, xgg1, xhd1⟩, List.forall_mem_nil _⟩
  have hext : ∀ x ∈ Gg.ext, ExT0 K mg x := by
    unfold Gg
    simp only [List.forall_mem_cons]
    exact ⟨⟨_, _, _, _, D0, exB_ValueError.F, ye0, PySem.W.mg_of X HG yg0, yk0, ys0, yt0⟩, List.forall_mem_nil _⟩
  have hexm : ∀ q ∈ Gg.exm, ∃ C1 C2 : Addr, mg q.1 = some (.ref C1) ∧ mg q.2.1 = some (.ref C2) ∧ PySem.W.exmOne K (.ref C1) (.ref C2) = some q.2.2 := by
    unfold Gg
    simp only [List.forall_mem_cons]
    exact ⟨⟨_, _, PySem.W.mg_of X HG xg1, PySem.W.mg_of X HG yg0, w0⟩,
      ⟨_, _, PySem.W.mg_of X HG yg0, PySem.W.mg_of X HG yg0, w1⟩,
      ⟨_, _, PySem.W.mg_of X HG xg0, PySem.W.mg_of X HG yg0, w2⟩,
      ⟨_, _, PySem.W.mg_of X HG xg1, PySem.W.mg_of X HG xg0, w3⟩,
      ⟨_, _, PySem.W.mg_of X HG yg0, PySem.W.mg_of X HG xg0, w4⟩,
      ⟨_, _, PySem.W.mg_of X HG xg0, PySem.W.mg_of X HG xg0, w5⟩,
      ⟨_, _, PySem.W.mg_of X HG xg1, PySem.W.mg_of X HG xg1, w6⟩,
      ⟨_, _, PySem.W.mg_of X HG yg0, PySem.W.mg_of X HG xg1, w7⟩,
      ⟨_, _, PySem.W.mg_of X HG xg0, PySem.W.mg_of X HG xg1, w8⟩, List.forall_mem_nil _⟩
  refine ⟨PySem.W.fnOf "law" "law" (defArgs (topS 46)) (defBody (topS 46)) (defScope (topS 46)) .none kV0 dc0 pm0 an0 cd0 ct0, fun s v => .of_eq rfl, fun base _ _ TB wf => ?_⟩
  obtain ⟨f, fd, q, hm, _, _, F⟩ := fns_ok (Pr := l.prog) (w := w) (base := base) (wf := wf) (G := Gg) (T := Tb0) (Pc := Pc) rfl rfl (List.all_eq_true.mp Pg_ok) (List.all_eq_true.mp Pc_ok) hF hFc (fun d _ hd => lamF_of X HG hB TB d hd) hcs hbn (hexi base) (hext) (hexm) 20 _ (List.mem_cons_self (l := Pg.tail))
  have ef : fa = f := by
    have z := (PySem.W.mg_of X HG a0).symm.trans hm
    cases z
    rfl
  subst ef
  obtain ⟨_, _, _, _, _, _, _, _, _, rfl, lk, _⟩ := F.ex
  have z := l0.symm.trans lk
  cases z
  exact q
end L2.G4

open PySem PySem.W PyProof.Rows
set_option maxHeartbeats 0 in
theorem PySem.Challenge.cw_latestof_k04_delays_added_holds : PySem.Challenge.rw_latestof_k04_delays_added.Holds := by
  w_on; o_law; k_head; (case hw => w_witness2)
  k_fill
  refine L2.G4.walkG (l := PySem.Challenge.rw_latestof_k04_delays_added) (n := 63) (k := 22) (gd := true) (x := "script") (F := fun wf => L2.G4.fnAt L2.G4.Tb0 L2.G4.csg wf 20 0) rfl (by decide) rfl ⟨rfl, by decide, by decide⟩ rfl (fun w h Y => PySem.W.km_in_of Y) (fun w h Y => PySem.W.km_tabs_of Y) ?hB ?F L2.G4.law_true
  case hB => intro w; kernel_rfl
  case F =>
    intro w mg fa h KX HG hmg hB
    refine' L2.G4.all_mk KX HG hmg hB ?a0 ?l0 ?c0 ?k0 ?a1 ?l1 ?c1 ?k1 ?a2 ?l2 ?c2 ?k2 ?a3 ?l3 ?c3 ?k3 ?a4 ?l4 ?c4 ?k4 ?a5 ?l5 ?c5 ?k5 ?a6 ?l6 ?c6 ?k6 ?a7 ?l7 ?c7 ?k7 ?a8 ?l8 ?c8 ?k8 ?a9 ?l9 ?c9 ?k9 ?a10 ?l10 ?c10 ?k10 ?a11 ?l11 ?c11 ?k11 ?a12 ?l12 ?c12 ?k12 ?a13 ?l13 ?c13 ?k13 ?a14 ?l14 ?c14 ?k14 ?a15 ?l15 ?c15 ?k15 ?q15_0 ?a16 ?l16 ?c16 ?k16 ?a17 ?l17 ?c17 ?k17 ?a18 ?l18 ?c18 ?k18 ?a19 ?l19 ?c19 ?k19 ?a20 ?l20 ?c20 ?k20 ?a21 ?l21 ?c21 ?k21 ?a22 ?l22 ?c22 ?k22 ?a23 ?l23 ?c23 ?k23 ?a24 ?l24 ?c24 ?k24 ?a25 ?l25 ?c25 ?k25 ?a26 ?l26 ?c26 ?k26 ?a27 ?l27 ?c27 ?k27 ?a28 ?l28 ?c28 ?k28 ?a29 ?l29 ?c29 ?k29 ?a30 ?l30 ?c30 ?k30 ?a31 ?l31 ?c31 ?k31 ?a32 ?l32 ?c32 ?k32 ?a33 ?l33 ?c33 ?k33 ?a34 ?l34 ?c34 ?k34 ?a35 ?l35 ?c35 ?k35 ?m0 ?m1 ?m2 ?z0 ?z1 ?z2 ?z3 ?z4 ?z5 ?z6 ?z7 ?z8 ?z9 ?z10 ?z11 ?z12 ?z13 ?z14 ?z15 ?z16 ?xg0 ?xB0 ?xC0 ?xs0 ?xga0 ?xgg0 ?xn0 ?xi0 ?xti0 ?xk0 ?xkf0 ?xsb0 ?xty0 ?xhd0 ?xic0 ?xss0 ?xv0 ?xl0 ?xcc0 ?xg1 ?xB1 ?xC1 ?xs1 ?xga1 ?xgg1 ?xn1 ?xi1 ?xti1 ?xk1 ?xkf1 ?xsb1 ?xty1 ?xhd1 ?xic1 ?xss1 ?xv1 ?xl1 ?xcc1 ?yg0 ?ye0 ?yk0 ?ys0 ?yt0 ?w0 ?w1 ?w2 ?w3 ?w4 ?w5 ?w6 ?w7 ?w8
    (case a0 => k_is); (case l0 => k_is); (case c0 => k_is); (case k0 => k_is); (case a1 => k_is); (case l1 => k_is); (case c1 => k_is); (case k1 => k_is); (case a2 => k_is); (case l2 => k_is); (case c2 => k_is); (case k2 => k_is); (case a3 => k_is); (case l3 => k_is); (case c3 => k_is); (case k3 => k_is); (case a4 => k_is); (case l4 => k_is); (case c4 => k_is); (case k4 => k_is); (case a5 => k_is); (case l5 => k_is); (case c5 => k_is); (case k5 => k_is); (case a6 => k_is); (case l6 => k_is); (case c6 => k_is); (case k6 => k_is); (case a7 => k_is); (case l7 => k_is); (case c7 => k_is); (case k7 => k_is); (case a8 => k_is); (case l8 => k_is); (case c8 => k_is); (case k8 => k_is); (case a9 => k_is); (case l9 => k_is); (case c9 => k_is); (case k9 => k_is); (case a10 => k_is); (case l10 => k_is); (case c10 => k_is); (case k10 => k_is); (case a11 => k_is); (case l11 => k_is); (case c11 => k_is); (case k11 => k_is); (case a12 => k_is); (case l12 => k_is); (case c12 => k_is); (case k12 => k_is); (case a13 => k_is); (case l13 => k_is); (case c13 => k_is); (case k13 => k_is); (case a14 => k_is); (case l14 => k_is); (case c14 => k_is); (case k14 => k_is); (case a15 => k_is); (case l15 => k_is); (case c15 => k_is); (case k15 => k_is); (case q15_0 => k_is); (case a16 => k_is); (case l16 => k_is); (case c16 => k_is); (case k16 => k_is); (case a17 => k_is); (case l17 => k_is); (case c17 => k_is); (case k17 => k_is); (case a18 => k_is); (case l18 => k_is); (case c18 => k_is); (case k18 => k_is); (case a19 => k_is); (case l19 => k_is); (case c19 => k_is); (case k19 => k_is); (case a20 => k_is); (case l20 => k_is); (case c20 => k_is); (case k20 => k_is); (case a21 => k_is); (case l21 => k_is); (case c21 => k_is); (case k21 => k_is); (case a22 => k_is); (case l22 => k_is); (case c22 => k_is); (case k22 => k_is); (case a23 => k_is); (case l23 => k_is); (case c23 => k_is); (case k23 => k_is); (case a24 => k_is); (case l24 => k_is); (case c24 => k_is); (case k24 => k_is); (case a25 => k_is); (case l25 => k_is); (case c25 => k_is); (case k25 => k_is); (case a26 => k_is); (case l26 => k_is); (case c26 => k_is); (case k26 => k_is); (case a27 => k_is); (case l27 => k_is); (case c27 => k_is); (case k27 => k_is); (case a28 => k_is); (case l28 => k_is); (case c28 => k_is); (case k28 => k_is); (case a29 => k_is); (case l29 => k_is); (case c29 => k_is); (case k29 => k_is); (case a30 => k_is); (case l30 => k_is); (case c30 => k_is); (case k30 => k_is); (case a31 => k_is); (case l31 => k_is); (case c31 => k_is); (case k31 => k_is); (case a32 => k_is); (case l32 => k_is); (case c32 => k_is); (case k32 => k_is); (case a33 => k_is); (case l33 => k_is); (case c33 => k_is); (case k33 => k_is); (case a34 => k_is); (case l34 => k_is); (case c34 => k_is); (case k34 => k_is); (case a35 => k_is); (case l35 => k_is); (case c35 => k_is); (case k35 => k_is); (case m0 => k_is); (case m1 => k_is); (case m2 => k_is); (case z0 => k_is); (case z1 => k_is); (case z2 => k_is); (case z3 => k_is); (case z4 => k_is); (case z5 => k_is); (case z6 => k_is); (case z7 => k_is); (case z8 => k_is); (case z9 => k_is); (case z10 => k_is); (case z11 => k_is); (case z12 => k_is); (case z13 => k_is); (case z14 => k_is); (case z15 => k_is); (case z16 => k_is); (case xg0 => k_is); (case xB0 => k_is); (case xC0 => k_is); (case xs0 => k_is); (case xga0 => k_is); (case xgg0 => k_is); (case xn0 => k_is); (case xi0 => k_is); (case xti0 => k_is); (case xk0 => k_is); (case xkf0 => k_is); (case xsb0 => k_is); (case xty0 => k_is); (case xhd0 => k_is); (case xic0 => k_is); (case xss0 => k_is); (case xv0 => k_is); (case xl0 => k_is); (case xcc0 => k_is); (case xg1 => k_is); (case xB1 => k_is); (case xC1 => k_is); (case xs1 => k_is); (case xga1 => k_is); (case xgg1 => k_is); (case xn1 => k_is); (case xi1 => k_is); (case xti1 => k_is); (case xk1 => k_is); (case xkf1 => k_is); (case xsb1 => k_is); (case xty1 => k_is); (case xhd1 => k_is); (case xic1 => k_is); (case xss1 => k_is); (case xv1 => k_is); (case xl1 => k_is); (case xcc1 => k_is); (case yg0 => k_is); (case ye0 => kernel_rfl); (case yk0 => k_is); (case ys0 => k_is); (case yt0 => k_is); (case w0 => kernel_rfl); (case w1 => kernel_rfl); (case w2 => kernel_rfl); (case w3 => kernel_rfl); (case w4 => kernel_rfl); (case w5 => kernel_rfl); (case w6 => kernel_rfl); (case w7 => kernel_rfl); (case w8 => kernel_rfl)
