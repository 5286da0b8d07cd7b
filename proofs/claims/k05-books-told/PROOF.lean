import PyProof.Rows.All
import Wide.All
import OpenK.AllK
import Wide.FinOn
import HandS.ForExc
import HandS.ForMost
import HandS.TupAny
import HandS.IsInst
import HandS.Wide
import HandS.Flow
import HandS.CallSlots
import HandS.TryMany
import HandS.Star
import HandS.ExcCtx
import HandS.Hot
import HandS.HotCalls
import HandS.ExcIs
import HandS.SuiteRaise
import HandS.SortKw
import HandS.Style
import KE.DataEq
import KE.DataCmp
import KE.DataAny
import KE.SortData
import HandS.EndBits
import HandS.Iter
import HandS.WideBits
import HandS.NamedTupSort
import HandS.IterVal
import PySem.Challenge.RW_tokenreads_k05_books_told
set_option Elab.async false
set_option linter.all false
set_option maxRecDepth 100000
set_option maxHeartbeats 4000000
/-! DL0: values as data trees, a store of mutable objects, and how they stand in HandS's abstract heap. -/
namespace DL
open PySem L2

inductive D where
  | non
  | bl (b : Bool)
  | int (i : Int)
  | str (s : Str)
  | tup (xs : List D)
  | lst (xs : List D)
  /-- a list that nobody changes (the script, a list of the module) -/
  | fz (xs : List D)
  | dct (kvs : List (D × D))
  | obj (i : Nat)
  /-- a built-in type, a class of the text, a def of the text -/
  | ty (n : String)
  | cls (c : Nat)
  | fn (f : Nat)

/-- a mutable object of the store -/
inductive Ob where
  | lst (xs : List D)
  | ins (c : Nat) (fs : List (Str × D))
abbrev Sto := List Ob
/-- an exception: its class's number, its fields -/
structure Ex where
  c : Nat
  fs : List (Str × D)
inductive Out (α : Type) where
  | ok (a : α) (S : Sto)
  | exc (e : Ex) (S : Sto)
  | stuck
def Out.bind {α β : Type} (o : Out α) (f : α → Sto → Out β) : Out β := match o with
  | .ok a S => f a S
  | .exc e S => .exc e S
  | .stuck => .stuck
abbrev Env := List (Option D)
abbrev ME := Env → Sto → Out D
abbrev MA := Env → Sto → Out (List D)
abbrev MT := Env → Sto → Out Bool

/-- where the store's objects stand -/
structure Mp where
  at_ : Nat → Addr
  n : Nat
  /-- tracked objects that no value leads to (a comprehension's list while it is made) -/
  pr : List Addr
def Mp.ob (M : Mp) (a : Addr) : Prop := ∃ i, i < M.n ∧ M.at_ i = a
def Mp.has (M : Mp) (a : Addr) : Prop := M.ob a ∨ a ∈ M.pr
/-- what the text gives: its written part, where its classes stand -/
structure Uv where
  K : PySem.W.Frag
  cl : Nat → Addr
  fn : Nat → Addr
  /-- slots that hold these objects (an except suite's error) -/
  f : List (Nat × Addr)

def KTup (K : PySem.W.Frag) (a : Addr) (xs : List V) : Prop :=
  ∃ (o : Obj) (its : Array Value) (n : Nat), K.lookup a = some o ∧ o.cls = .type "tuple" ∧ o.data = .seq its n ∧ its.size ≤ sizeLine ∧ Vals xs its.toList
def KLst (K : PySem.W.Frag) (a : Addr) (xs : List V) : Prop :=
  ∃ (o : Obj) (its : Array Value) (n : Nat), K.lookup a = some o ∧ o.cls = .type "list" ∧ o.dict = none ∧ o.data = .seq its n ∧ its.size ≤ sizeLine ∧ Vals xs its.toList
def TupAt (K : PySem.W.Frag) (M : Mp) (H : Hp) (a : Addr) (xs : List V) : Prop := (H a = some (.tup xs) ∧ ¬ M.has a) ∨ KTup K a xs
def LstAt (M : Mp) (H : Hp) (a : Addr) (xs : List V) : Prop := H a = some (.lst xs) ∧ ¬ M.has a
def FzAt (K : PySem.W.Frag) (M : Mp) (H : Hp) (a : Addr) (xs : List V) : Prop := (∃ u, H a = some u ∧ (u = .lst xs ∨ ∃ o, u = .frz o (.lst xs)) ∧ ¬ M.has a) ∨ KLst K a xs
theorem TupAt.sq {K : PySem.W.Frag} {M : Mp} {H : Hp} {a : Addr} {xs : List V} (h : TupAt K M H a xs) : SqT K H a xs := h.elim (fun z => .inl (.inl z.1)) .inr
theorem LstAt.sq {K : PySem.W.Frag} {M : Mp} {H : Hp} {a : Addr} {xs : List V} (h : LstAt M H a xs) : SqL K H a xs := .inl (.inl h.1)
theorem FzAt.sq {K : PySem.W.Frag} {M : Mp} {H : Hp} {a : Addr} {xs : List V} (h : FzAt K M H a xs) : SqL K H a xs := h.elim (fun ⟨u, z, q, _⟩ => .inl (q.elim (fun e => .inl (by rw [z, e])) fun ⟨o, e⟩ => .inr ⟨o, by rw [z, e]⟩)) .inr

mutual
inductive Rep (U : Uv) (M : Mp) (H : Hp) : V → D → Prop
  | non : Rep U M H .non .non
  | bl (b : Bool) : Rep U M H (.bl b) (.bl b)
  | int (i : Int) : Rep U M H (.int i) (.int i)
  | str (x : Str) : Rep U M H (.str x) (.str x)
  | tup {a : Addr} {xs : List V} {ds : List D} : TupAt U.K M H a xs → RepAll U M H xs ds → Rep U M H (.ref a) (.tup ds)
  | lst {a : Addr} {xs : List V} {ds : List D} : LstAt M H a xs → RepAll U M H xs ds → Rep U M H (.ref a) (.lst ds)
  | fz {a : Addr} {xs : List V} {ds : List D} : FzAt U.K M H a xs → RepAll U M H xs ds → Rep U M H (.ref a) (.fz ds)
  | dct0 {a : Addr} : H a = some (.dK []) → ¬ M.has a → Rep U M H (.ref a) (.dct [])
  | obj {i : Nat} : i < M.n → Rep U M H (.ref (M.at_ i)) (.obj i)
  | ty (n : String) : Rep U M H (.ty n) (.ty n)
  | cls (c : Nat) : Rep U M H (.ref (U.cl c)) (.cls c)
  | fn (f : Nat) : Rep U M H (.ref (U.fn f)) (.fn f)
inductive RepAll (U : Uv) (M : Mp) (H : Hp) : List V → List D → Prop
  | nil : RepAll U M H [] []
  | cons {v : V} {vs : List V} {d : D} {ds : List D} : Rep U M H v d → RepAll U M H vs ds → RepAll U M H (v :: vs) (d :: ds)
end
def FsRep (U : Uv) (M : Mp) (H : Hp) : List (Str × V) → List (Str × D) → Prop := Paired fun p q => p.1 = q.1 ∧ Rep U M H p.2 q.2

/-- the heap has grown, the store's objects may have changed -/
structure Ext (M : Mp) (H : Hp) (M' : Mp) (H' : Hp) : Prop where
  le : M.n ≤ M'.n
  same : ∀ i, i < M.n → M'.at_ i = M.at_ i
  fresh : ∀ i, M.n ≤ i → i < M'.n → H (M'.at_ i) = none
  keep : ∀ a o, H a = some o → ¬ M.ob a → H' a = some o
  live : ∀ i, i < M'.n → ∃ o, H' (M'.at_ i) = some o
  pr : M'.pr = M.pr

section
variable {K : PySem.W.Frag} {U : Uv} {M M' M1 M2 : Mp} {H H' H1 H2 : Hp} {a : Addr} {xs : List V} {v : V} {d : D}
theorem Ext.ob (e : Ext M H M' H') (h : M.ob a) : M'.ob a := by
  obtain ⟨i, hi, rfl⟩ := h
  exact ⟨i, Nat.lt_of_lt_of_le hi e.le, e.same i hi⟩
theorem Ext.nob {o : HO} (e : Ext M H M' H') (h : H a = some o) (n : ¬ M.ob a) : ¬ M'.ob a := by
  rintro ⟨i, hi, rfl⟩
  by_cases hj : i < M.n
  · exact n ⟨i, hj, (e.same i hj).symm⟩
  · have := e.fresh i (Nat.le_of_not_lt hj) hi
    rw [this] at h; cases h
theorem Mp.nob (n : ¬ M.has a) : ¬ M.ob a := fun z => n (.inl z)
theorem Ext.nhas {o : HO} (e : Ext M H M' H') (h : H a = some o) (n : ¬ M.has a) : ¬ M'.has a := fun z => z.elim (e.nob h (Mp.nob n)) fun z => n (.inr (by rw [← e.pr]; exact z))
theorem Ext.refl (live : ∀ i, i < M.n → ∃ o, H (M.at_ i) = some o) : Ext M H M H :=
  ⟨Nat.le_refl _, fun _ _ => rfl, fun i h1 h2 => absurd h2 (Nat.not_lt.mpr h1), fun _ _ h _ => h, live, rfl⟩
theorem Ext.trans (e : Ext M H M1 H1) (f : Ext M1 H1 M2 H2) : Ext M H M2 H2 where
  le := Nat.le_trans e.le f.le
  same := fun i hi => (f.same i (Nat.lt_of_lt_of_le hi e.le)).trans (e.same i hi)
  fresh := fun i h1 h2 => by
    by_cases hi : i < M1.n
    · rw [f.same i hi]; exact e.fresh i h1 hi
    · have hn := f.fresh i (Nat.le_of_not_lt hi) h2
      cases q : H (M2.at_ i) with
      | none => rfl
      | some o =>
        by_cases hm : M.ob (M2.at_ i)
        · obtain ⟨j, hj, ej⟩ := hm
          have hj1 : j < M1.n := Nat.lt_of_lt_of_le hj e.le
          obtain ⟨o', ho'⟩ := e.live j hj1
          rw [e.same j hj, ej, hn] at ho'; cases ho'
        · have := e.keep _ _ q hm
          rw [hn] at this; cases this
  keep := fun a o h n => f.keep a o (e.keep a o h n) (e.nob h n)
  live := f.live
  pr := f.pr.trans e.pr
/-- what a value's data lean on: the store's places, and the tracked objects that are none of them -/
structure Mv (M : Mp) (H : Hp) (M' : Mp) (H' : Hp) : Prop where
  le : M.n ≤ M'.n
  same : ∀ i, i < M.n → M'.at_ i = M.at_ i
  keep : ∀ a o, H a = some o → ¬ M.has a → H' a = some o ∧ ¬ M'.has a
theorem Mv.refl : Mv M H M H := ⟨Nat.le_refl _, fun _ _ => rfl, fun _ _ h n => ⟨h, n⟩⟩
theorem Mv.trans (e : Mv M H M1 H1) (f : Mv M1 H1 M2 H2) : Mv M H M2 H2 := ⟨Nat.le_trans e.le f.le, fun i hi => (f.same i (Nat.lt_of_lt_of_le hi e.le)).trans (e.same i hi), fun a o h n => let z := e.keep a o h n; f.keep a o z.1 z.2⟩
theorem Ext.mv (e : Ext M H M' H') : Mv M H M' H' := ⟨e.le, e.same, fun a o h n => ⟨e.keep a o h (Mp.nob n), e.nhas h n⟩⟩
theorem TupAt.mv (e : Mv M H M' H') (h : TupAt K M H a xs) : TupAt K M' H' a xs := h.elim (fun z => .inl (e.keep _ _ z.1 z.2)) .inr
theorem LstAt.mv (e : Mv M H M' H') (h : LstAt M H a xs) : LstAt M' H' a xs := e.keep _ _ h.1 h.2
theorem FzAt.mv (e : Mv M H M' H') (h : FzAt K M H a xs) : FzAt K M' H' a xs := h.elim (fun ⟨u, z, q, n⟩ => .inl ⟨u, (e.keep _ _ z n).1, q, (e.keep _ _ z n).2⟩) .inr
mutual
theorem Rep.mv (e : Mv M H M' H') : ∀ {v : V} {d : D}, Rep U M H v d → Rep U M' H' v d
  | _, _, .non => .non
  | _, _, .bl b => .bl b
  | _, _, .int i => .int i
  | _, _, .str x => .str x
  | _, _, .tup h r => .tup (h.mv e) (RepAll.mv e r)
  | _, _, .lst h r => .lst (h.mv e) (RepAll.mv e r)
  | _, _, .fz h r => .fz (h.mv e) (RepAll.mv e r)
  | _, _, .dct0 h n => .dct0 (e.keep _ _ h n).1 (e.keep _ _ h n).2
  | _, _, .obj h => by
    rw [← e.same _ h]
    exact .obj (Nat.lt_of_lt_of_le h e.le)
  | _, _, .ty n => .ty n
  | _, _, .cls c => .cls c
  | _, _, .fn f => .fn f
theorem RepAll.mv (e : Mv M H M' H') : ∀ {vs : List V} {ds : List D}, RepAll U M H vs ds → RepAll U M' H' vs ds
  | _, _, .nil => .nil
  | _, _, .cons h r => .cons (Rep.mv e h) (RepAll.mv e r)
end
theorem Rep.ext (e : Ext M H M' H') {v : V} {d : D} (h : Rep U M H v d) : Rep U M' H' v d := h.mv e.mv
theorem RepAll.ext (e : Ext M H M' H') {vs : List V} {ds : List D} (h : RepAll U M H vs ds) : RepAll U M' H' vs ds := h.mv e.mv
theorem FsRep.mv (e : Mv M H M' H') : ∀ {fv : List (Str × V)} {fs : List (Str × D)}, FsRep U M H fv fs → FsRep U M' H' fv fs
  | _, _, .nil => .nil
  | _, _, .cons h r => .cons ⟨h.1, h.2.mv e⟩ (FsRep.mv e r)
theorem FsRep.ext (e : Ext M H M' H') {fv : List (Str × V)} {fs : List (Str × D)} (h : FsRep U M H fv fs) : FsRep U M' H' fv fs := h.mv e.mv
end

def ObAt (U : Uv) (M : Mp) (H : Hp) (a : Addr) : Ob → Prop
  | .lst ds => ∃ vs, H a = some (.lst vs) ∧ RepAll U M H vs ds
  | .ins c fs => ∃ dx fv, H a = some (.ins (U.cl c) dx fv) ∧ FsRep U M H fv fs
theorem ObAt.there {U : Uv} {M : Mp} {H : Hp} {a : Addr} : ∀ {o : Ob}, ObAt U M H a o → ∃ u, H a = some u
  | .lst _, ⟨_, h, _⟩ => ⟨_, h⟩
  | .ins _ _, ⟨_, _, h, _⟩ => ⟨_, h⟩
structure R (U : Uv) (M : Mp) (S : Sto) (H : Hp) : Prop where
  n : M.n = S.length
  inj : ∀ i j, i < M.n → j < M.n → M.at_ i = M.at_ j → i = j
  at_ : ∀ i o, S[i]? = some o → ObAt U M H (M.at_ i) o
  prl : ∀ a ∈ M.pr, ∃ o, H a = some o
  prn : ∀ a ∈ M.pr, ¬ M.ob a
section
variable {U : Uv} {M M' M1 : Mp} {S S' S1 : Sto} {H H' H1 : Hp} {a p : Addr}
theorem R.live (r : R U M S H) : ∀ i, i < M.n → ∃ o, H (M.at_ i) = some o := fun i hi => by
  rw [r.n] at hi
  exact ObAt.there (r.at_ i _ (List.getElem?_eq_getElem hi))
theorem R.refl (r : R U M S H) : Ext M H M H := Ext.refl r.live
theorem R.nhas (r : R U M S H) (hp : H p = none) : ¬ M.has p := by
  rintro (⟨i, hi, rfl⟩ | hq)
  · obtain ⟨o, ho⟩ := r.live i hi
    rw [hp] at ho; cases ho
  · obtain ⟨o, ho⟩ := r.prl p hq
    rw [hp] at ho; cases ho
/-- a new object that the store does not hold -/
theorem R.extNew {o : HO} (r : R U M S H) (hp : H p = none) : Ext M H M (upd H p o) :=
  ⟨Nat.le_refl _, fun _ _ => rfl, fun i h1 h2 => absurd h2 (Nat.not_lt.mpr h1), fun a u h _ => by rw [upd_ne (ne_of_none h hp)]; exact h, fun i hi => by
    obtain ⟨o', ho'⟩ := r.live i hi
    exact ⟨o', by rw [upd_ne (ne_of_none ho' hp)]; exact ho'⟩, rfl⟩
theorem ObAt.ext (e : Ext M H M' H') (k : ∀ u, H a = some u → H' a = some u) : ∀ {o : Ob}, ObAt U M H a o → ObAt U M' H' a o
  | .lst _, ⟨vs, h, r⟩ => ⟨vs, k _ h, r.ext e⟩
  | .ins _ _, ⟨dx, fv, h, r⟩ => ⟨dx, fv, k _ h, r.ext e⟩
theorem R.new {o : HO} (r : R U M S H) (hp : H p = none) : R U M S (upd H p o) :=
  ⟨r.n, r.inj, fun i ob h => ObAt.ext (r.extNew hp) (fun u hu => by rw [upd_ne (ne_of_none hu hp)]; exact hu) (r.at_ i ob h), fun a ha => by
    obtain ⟨u, hu⟩ := r.prl a ha
    exact ⟨u, by rw [upd_ne (ne_of_none hu hp)]; exact hu⟩, r.prn⟩
/-- a new object of the store -/
def Mp.push (M : Mp) (p : Addr) : Mp := ⟨fun i => if i = M.n then p else M.at_ i, M.n + 1, M.pr⟩
theorem R.extPush {H' : Hp} {u : HO} (r : R U M S H) (hp : H p = none) (hk : ∀ a o, H a = some o → H' a = some o) (h' : H' p = some u) : Ext M H (M.push p) H' where
  le := Nat.le_succ _
  same := fun i hi => if_neg (Nat.ne_of_lt hi)
  fresh := fun i h1 h2 => by
    have : i = M.n := Nat.le_antisymm (Nat.le_of_lt_succ h2) h1
    show H (if i = M.n then p else M.at_ i) = none
    rw [if_pos this]; exact hp
  keep := fun a o h _ => hk a o h
  live := fun i hi => by
    show ∃ o, H' (if i = M.n then p else M.at_ i) = some o
    by_cases e : i = M.n
    · rw [if_pos e]; exact ⟨_, h'⟩
    · rw [if_neg e]
      obtain ⟨o, ho⟩ := r.live i (Nat.lt_of_le_of_ne (Nat.le_of_lt_succ hi) e)
      exact ⟨o, hk _ _ ho⟩
  pr := rfl
theorem R.push {H' : Hp} {ob : Ob} (r : R U M S H) (hp : H p = none) (hk : ∀ a o, H a = some o → H' a = some o) (h' : ObAt U (M.push p) H' p ob) : R U (M.push p) (S ++ [ob]) H' := by
  obtain ⟨u, hu⟩ := ObAt.there h'
  have e := r.extPush hp hk hu
  refine ⟨by show M.n + 1 = _; rw [List.length_append, r.n]; rfl, fun i j hi hj he => ?_, fun i o ho => ?_, fun a ha => let ⟨u, hu⟩ := r.prl a ha; ⟨u, hk _ _ hu⟩, fun a ha => ?_⟩
  rotate_left 2
  · rintro ⟨i, hi, ei⟩
    have ei' : (if i = M.n then p else M.at_ i) = a := ei
    by_cases e1 : i = M.n
    · rw [if_pos e1] at ei'
      obtain ⟨u, hu⟩ := r.prl a ha
      rw [← ei', hp] at hu; cases hu
    · rw [if_neg e1] at ei'
      exact r.prn a ha ⟨i, Nat.lt_of_le_of_ne (Nat.le_of_lt_succ hi) e1, ei'⟩
  · have old : ∀ k, k < M.n → M.at_ k ≠ p := fun k hk' z => by
      obtain ⟨o, ho⟩ := r.live k hk'
      rw [z, hp] at ho; cases ho
    have he' : (if i = M.n then p else M.at_ i) = (if j = M.n then p else M.at_ j) := he
    by_cases ei : i = M.n <;> by_cases ej : j = M.n
    · rw [ei, ej]
    · rw [if_pos ei, if_neg ej] at he'
      exact absurd he'.symm (old j (Nat.lt_of_le_of_ne (Nat.le_of_lt_succ hj) ej))
    · rw [if_neg ei, if_pos ej] at he'
      exact absurd he' (old i (Nat.lt_of_le_of_ne (Nat.le_of_lt_succ hi) ei))
    · rw [if_neg ei, if_neg ej] at he'
      exact r.inj i j (Nat.lt_of_le_of_ne (Nat.le_of_lt_succ hi) ei) (Nat.lt_of_le_of_ne (Nat.le_of_lt_succ hj) ej) he'
  · by_cases hi : i < S.length
    · rw [List.getElem?_append_left hi] at ho
      have : (M.push p).at_ i = M.at_ i := if_neg (Nat.ne_of_lt (by rw [r.n]; exact hi))
      rw [this]
      exact ObAt.ext e (fun u hu => hk _ _ hu) (r.at_ i o ho)
    · have hi' : S.length ≤ i := Nat.le_of_not_lt hi
      rw [List.getElem?_append_right hi'] at ho
      have e0 : i - S.length = 0 := by
        cases q : i - S.length with
        | zero => rfl
        | succ k => rw [q] at ho; simp at ho
      rw [e0] at ho
      have eo : ob = o := Option.some.inj ho
      subst eo
      have ei : i = M.n := by rw [r.n]; omega
      have : (M.push p).at_ i = p := if_pos ei
      rw [this]; exact h'
/-- an object of the store is written -/
theorem R.extSet {i : Nat} {o : HO} (r : R U M S H) (hi : i < M.n) : Ext M H M (upd H (M.at_ i) o) :=
  ⟨Nat.le_refl _, fun _ _ => rfl, fun i h1 h2 => absurd h2 (Nat.not_lt.mpr h1), fun a u h n => by rw [upd_ne fun z => n ⟨i, hi, z.symm⟩]; exact h, fun j hj => by
    by_cases e : M.at_ j = M.at_ i
    · exact ⟨o, by rw [e, upd_same]⟩
    · obtain ⟨o', ho'⟩ := r.live j hj
      exact ⟨o', by rw [upd_ne e]; exact ho'⟩, rfl⟩
theorem R.set {i : Nat} {o : HO} {ob : Ob} (r : R U M S H) (hi : i < M.n) (h' : ObAt U M (upd H (M.at_ i) o) (M.at_ i) ob) : R U M (S.set i ob) (upd H (M.at_ i) o) := by
  refine ⟨by rw [List.length_set]; exact r.n, r.inj, fun j oj hj => ?_, fun a ha => ?_, r.prn⟩
  rotate_left
  · obtain ⟨u, hu⟩ := r.prl a ha
    exact ⟨u, by rw [upd_ne fun z => r.prn a ha ⟨i, hi, z.symm⟩]; exact hu⟩
  by_cases e : i = j
  · subst e
    rw [List.getElem?_set_self (by rw [← r.n]; exact hi)] at hj
    cases hj; exact h'
  · rw [List.getElem?_set_ne e] at hj
    have hjl : j < M.n := by
      rw [r.n]; exact (List.getElem?_eq_some_iff.mp hj).1
    have ne : M.at_ j ≠ M.at_ i := fun z => e (r.inj _ _ hi hjl z.symm)
    exact ObAt.ext (r.extSet hi) (fun u hu => by rw [upd_ne ne]; exact hu) (r.at_ j oj hj)
end

section
variable {U : Uv} {M M' : Mp} {S : Sto} {H H' : Hp} {a p : Addr}
theorem ObAt.mv (e : Mv M H M' H') (k : ∀ u, H a = some u → H' a = some u) : ∀ {o : Ob}, ObAt U M H a o → ObAt U M' H' a o
  | .lst _, ⟨vs, h, r⟩ => ⟨vs, k _ h, r.mv e⟩
  | .ins _ _, ⟨dx, fv, h, r⟩ => ⟨dx, fv, k _ h, r.mv e⟩
/-- a private object: made, written, no longer private -/
def Mp.priv (M : Mp) (p : Addr) : Mp := ⟨M.at_, M.n, p :: M.pr⟩
theorem priv_ob : (M.priv p).ob a ↔ M.ob a := Iff.rfl
theorem priv_has : (M.priv p).has a ↔ M.ob a ∨ a = p ∨ a ∈ M.pr := by
  show M.ob a ∨ a ∈ p :: M.pr ↔ _
  rw [List.mem_cons]
theorem Mv.priv {o : HO} (hp : H p = none) : Mv M H (M.priv p) (upd H p o) := ⟨Nat.le_refl _, fun _ _ => rfl, fun a u h n => by
  have ne := ne_of_none h hp
  refine ⟨by rw [upd_ne ne]; exact h, fun z => ?_⟩
  rcases priv_has.mp z with z | z | z
  · exact n (.inl z)
  · exact ne z
  · exact n (.inr z)⟩
theorem R.priv {o : HO} (r : R U M S H) (hp : H p = none) : R U (M.priv p) S (upd H p o) :=
  ⟨r.n, r.inj, fun i ob h => ObAt.mv (Mv.priv hp) (fun u hu => by rw [upd_ne (ne_of_none hu hp)]; exact hu) (r.at_ i ob h), fun a ha => by
    rcases List.mem_cons.mp ha with rfl | ha
    · exact ⟨_, upd_same⟩
    · obtain ⟨u, hu⟩ := r.prl a ha
      exact ⟨u, by rw [upd_ne (ne_of_none hu hp)]; exact hu⟩, fun a ha z => by
    rcases List.mem_cons.mp ha with rfl | ha
    · exact r.nhas hp (.inl z)
    · exact r.prn a ha z⟩
theorem Mv.write {o : HO} (hp : p ∈ M.pr) : Mv M H M (upd H p o) := ⟨Nat.le_refl _, fun _ _ => rfl, fun a u h n => by
  have ne : a ≠ p := fun z => n (.inr (by rw [z]; exact hp))
  exact ⟨by rw [upd_ne ne]; exact h, n⟩⟩
theorem R.write {o : HO} (r : R U M S H) (hp : p ∈ M.pr) : R U M S (upd H p o) :=
  ⟨r.n, r.inj, fun i ob h => by
    have hi : i < M.n := by rw [r.n]; exact (List.getElem?_eq_some_iff.mp h).1
    exact ObAt.mv (Mv.write hp) (fun u hu => by rw [upd_ne fun z => r.prn p hp ⟨i, hi, z⟩]; exact hu) (r.at_ i ob h), fun a ha => by
    by_cases e : a = p
    · exact ⟨o, by rw [e, upd_same]⟩
    · obtain ⟨u, hu⟩ := r.prl a ha
      exact ⟨u, by rw [upd_ne e]; exact hu⟩, r.prn⟩
theorem Mv.unpriv : Mv (M.priv p) H M H := ⟨Nat.le_refl _, fun _ _ => rfl, fun a u h n => ⟨h, fun z => n (priv_has.mpr (z.elim .inl fun z => .inr (.inr z)))⟩⟩
theorem R.unpriv (r : R U (M.priv p) S H) : R U M S H :=
  ⟨r.n, r.inj, fun i ob h => ObAt.mv Mv.unpriv (fun u hu => hu) (r.at_ i ob h), fun a ha => r.prl a (List.mem_cons_of_mem _ ha), fun a ha => r.prn a (List.mem_cons_of_mem _ ha)⟩
end

/-- an exception as it stands -/
def ExAt (U : Uv) (M : Mp) (H : Hp) (e : Ex) (cv : Value) (dd : Option Addr) : Prop :=
  cv = .ref (U.cl e.c) ∧ ((e.fs = [] ∧ dd = none) ∨ ∃ d fv, e.fs ≠ [] ∧ dd = some d ∧ H d = some (.xd fv) ∧ FsRep U M H fv e.fs)

def SlotRep (U : Uv) (M : Mp) (H : Hp) (σ : St) (ρ : Env) : Prop := ∀ (i : Nat) d, ρ[i]? = some (some d) → ∃ v, σ[i]? = some (some v) ∧ Rep U M H v d
structure At (U : Uv) (M : Mp) (S : Sto) (ρ : Env) (σ : St) (H : Hp) : Prop where
  r : R U M S H
  sl : SlotRep U M H σ ρ
  len : ρ.length = σ.length
  fx : ∀ p ∈ U.f, σ[p.1]? = some (some (.ref p.2))
abbrev Nf (U : Uv) (i : Nat) : Prop := ∀ p ∈ U.f, p.1 ≠ i
section
variable {U : Uv} {M M' M1 : Mp} {S S' S1 : Sto} {H H' H1 : Hp} {ρ : Env} {σ : St}
theorem SlotRep.ext (e : Ext M H M' H') (s : SlotRep U M H σ ρ) : SlotRep U M' H' σ ρ := fun i d h => let ⟨v, h1, h2⟩ := s i d h; ⟨v, h1, h2.ext e⟩
theorem At.ext (a : At U M S ρ σ H) (e : Ext M H M' H') (r : R U M' S' H') : At U M' S' ρ σ H' := ⟨r, a.sl.ext e, a.len, a.fx⟩
theorem At.refl (a : At U M S ρ σ H) : Ext M H M H := a.r.refl
theorem At.set {i : Nat} {v : V} {d : D} (a : At U M S ρ σ H) (h : Rep U M H v d) (hf : Nf U i) : At U M S (ρ.set i (some d)) (σ.set i (some v)) H := by
  refine ⟨a.r, fun j dj hj => ?_, by rw [List.length_set, List.length_set]; exact a.len, fun p hp => by rw [List.getElem?_set_ne (hf p hp).symm]; exact a.fx p hp⟩
  by_cases e : i = j
  · subst e
    have hi : i < ρ.length := by
      have := (List.getElem?_eq_some_iff.mp hj).1
      rwa [List.length_set] at this
    rw [List.getElem?_set_self hi] at hj
    cases hj
    exact ⟨v, List.getElem?_set_self (by rw [← a.len]; exact hi), h⟩
  · rw [List.getElem?_set_ne e] at hj
    obtain ⟨w, h1, h2⟩ := a.sl j dj hj
    exact ⟨w, by rw [List.getElem?_set_ne e]; exact h1, h2⟩
theorem SlotRep.unset {i : Nat} {o : Option V} (a : SlotRep U M H σ ρ) : SlotRep U M H (σ.set i o) (ρ.set i none) := by
  intro j dj hj
  by_cases e : i = j
  · subst e
    have hi : i < ρ.length := by
      have := (List.getElem?_eq_some_iff.mp hj).1
      rwa [List.length_set] at this
    rw [List.getElem?_set_self hi] at hj
    cases hj
  · rw [List.getElem?_set_ne e] at hj
    obtain ⟨w, h1, h2⟩ := a j dj hj
    exact ⟨w, by rw [List.getElem?_set_ne e]; exact h1, h2⟩
theorem At.unset {i : Nat} {o : Option V} (a : At U M S ρ σ H) (hf : Nf U i) : At U M S (ρ.set i none) (σ.set i o) H :=
  ⟨a.r, a.sl.unset, by rw [List.length_set, List.length_set]; exact a.len, fun p hp => by rw [List.getElem?_set_ne (hf p hp).symm]; exact a.fx p hp⟩
end
/-! ### the same with other slots fixed -/
abbrev Uv.fix (U : Uv) (l : List (Nat × Addr)) : Uv := { U with f := l }
section
variable {U : Uv} {l : List (Nat × Addr)} {M : Mp} {S : Sto} {H : Hp} {ρ : Env} {σ : St}
mutual
theorem Rep.fix : ∀ {v : V} {d : D}, Rep U M H v d → Rep (U.fix l) M H v d
  | _, _, .non => .non
  | _, _, .bl b => .bl b
  | _, _, .int i => .int i
  | _, _, .str x => .str x
  | _, _, .tup h r => .tup h (RepAll.fix r)
  | _, _, .lst h r => .lst h (RepAll.fix r)
  | _, _, .fz h r => .fz h (RepAll.fix r)
  | _, _, .dct0 h n => .dct0 h n
  | _, _, .obj h => .obj h
  | _, _, .ty n => .ty n
  | _, _, .cls c => .cls (U := U.fix l) c
  | _, _, .fn f => .fn (U := U.fix l) f
theorem RepAll.fix : ∀ {vs : List V} {ds : List D}, RepAll U M H vs ds → RepAll (U.fix l) M H vs ds
  | _, _, .nil => .nil
  | _, _, .cons h r => .cons (Rep.fix h) (RepAll.fix r)
end
theorem FsRep.fix : ∀ {fv : List (Str × V)} {fs : List (Str × D)}, FsRep U M H fv fs → FsRep (U.fix l) M H fv fs
  | _, _, .nil => .nil
  | _, _, .cons h r => .cons ⟨h.1, h.2.fix⟩ (FsRep.fix r)
theorem ObAt.fix {a : Addr} : ∀ {o : Ob}, ObAt U M H a o → ObAt (U.fix l) M H a o
  | .lst _, ⟨vs, h, r⟩ => ⟨vs, h, r.fix⟩
  | .ins _ _, ⟨dx, fv, h, r⟩ => ⟨dx, fv, h, r.fix⟩
theorem R.fix (r : R U M S H) : R (U.fix l) M S H := ⟨r.n, r.inj, fun i o h => ObAt.fix (r.at_ i o h), r.prl, r.prn⟩
theorem SlotRep.fix (s : SlotRep U M H σ ρ) : SlotRep (U.fix l) M H σ ρ := fun i d h => let ⟨v, h1, h2⟩ := s i d h; ⟨v, h1, h2.fix⟩
theorem ExAt.fix {e : Ex} {cv : Value} {dd : Option Addr} (x : ExAt U M H e cv dd) : ExAt (U.fix l) M H e cv dd := ⟨x.1, x.2.elim .inl fun ⟨d, fv, h0, h1, h2, h3⟩ => .inr ⟨d, fv, h0, h1, h2, h3.fix⟩⟩
end

/-! ### what is wanted behind a mirror's outcome -/
def PostX {α β : Type} (U : Uv) (rel : Mp → Hp → β → α → Prop) (M : Mp) (H : Hp) (σ : St) (W : WX) (o : Out α) (Q : β → Hp → Prop) : Prop := match o with
  | .ok a S => ∀ M' H' b, Ext M H M' H' → R U M' S H' → rel M' H' b a → Q b H'
  | .exc e S => ∀ M' H' cv dd, Ext M H M' H' → R U M' S H' → ExAt U M' H' e cv dd → W cv dd σ H'
  | .stuck => False
def tX {α β : Type} (U : Uv) (rel : Mp → Hp → β → α → Prop) (W : WX) (m : Env → Sto → Out α) : St → Hp → (β → Hp → Prop) → Prop := fun σ H Q => ∃ M S ρ, At U M S ρ σ H ∧ PostX U rel M H σ W (m ρ S) Q
abbrev relB : Mp → Hp → Bool → Bool → Prop := fun _ _ b a => b = a
abbrev tE (U : Uv) (W : WX) (m : ME) : TE := tX U (Rep U) W m
abbrev tA (U : Uv) (W : WX) (m : MA) : TA := tX U (RepAll U) W m
abbrev tT (U : Uv) (W : WX) (m : MT) : TT := tX U relB W m
section
variable {α β α' β' : Type} {U : Uv} {rel : Mp → Hp → β → α → Prop} {rel' : Mp → Hp → β' → α' → Prop} {M M1 : Mp} {S S1 : Sto} {H H1 : Hp} {σ : St} {W : WX} {ρ : Env}
theorem PostX.ext {o : Out α} {Q : β → Hp → Prop} (e : Ext M H M1 H1) (p : PostX U rel M H σ W o Q) : PostX U rel M1 H1 σ W o Q := by
  cases o with
  | ok a S => exact fun M' H' b f r q => p M' H' b (e.trans f) r q
  | exc x S => exact fun M' H' cv dd f r q => p M' H' cv dd (e.trans f) r q
  | stuck => exact p
theorem PostX.bind {o : Out α} {f : α → Sto → Out α'} {Q : β' → Hp → Prop} {Q1 : β → Hp → Prop} (p : PostX U rel' M H σ W (o.bind f) Q)
    (h : ∀ a S1 M1 H1 b, Ext M H M1 H1 → R U M1 S1 H1 → rel M1 H1 b a → PostX U rel' M1 H1 σ W (f a S1) Q → Q1 b H1) : PostX U rel M H σ W o Q1 := by
  cases o with
  | ok a S => exact fun M' H' b e r q => h a S M' H' b e r q (PostX.ext e p)
  | exc x S => exact p
  | stuck => exact p
theorem PostX.ok {a : α} {b : β} {Q : β → Hp → Prop} (p : PostX U rel M H σ W (.ok a S) Q) (M' : Mp) (H' : Hp) (e : Ext M H M' H') (r : R U M' S H') (q : rel M' H' b a) : Q b H' := p M' H' b e r q
/-- the one rule: a part's reading, then the rest -/
theorem tX.bind {m : Env → Sto → Out α} {f : α → Sto → Out α'} {Q : β' → Hp → Prop} {Q1 : β → Hp → Prop} (a : At U M S ρ σ H) (p : PostX U rel' M H σ W ((m ρ S).bind f) Q)
    (h : ∀ x S1 M1 H1 b, Ext M H M1 H1 → At U M1 S1 ρ σ H1 → rel M1 H1 b x → PostX U rel' M1 H1 σ W (f x S1) Q → Q1 b H1) : tX U rel W m σ H Q1 :=
  ⟨M, S, ρ, a, p.bind fun x S1 M1 H1 b e r q p1 => h x S1 M1 H1 b e (a.ext e r) q p1⟩
end
section
variable {X : Cx} {e : Expr} {t t' : TE}
theorem pe_imp (h : PE X e t) (hi : ∀ σ H Q, t' σ H Q → t σ H Q) : PE X e t' := ⟨fun pins s σ H Q I q => h.run pins s σ H Q I (hi _ _ _ q)⟩
theorem pt_imp {t t' : TT} (h : PT X e t) (hi : ∀ σ H Q, t' σ H Q → t σ H Q) : PT X e t' := ⟨fun pins s σ H Q I q => h.run pins s σ H Q I (hi _ _ _ q)⟩
theorem pw_imp {t t' : TT} (h : PW X e t) (hi : ∀ σ H Q, t' σ H Q → t σ H Q) : PW X e t' := ⟨fun wh pins s σ H Q I q => h.run wh pins s σ H Q I (hi _ _ _ q)⟩
theorem pa_imp {es : List Expr} {t t' : TA} (h : PA X es t) (hi : ∀ σ H Q, t' σ H Q → t σ H Q) : PA X es t' := ⟨fun p pins s σ H Q I q => h.run p pins s σ H Q I (hi _ _ _ q)⟩
theorem ps_imp {st : Stmt} {t t' : TS} (h : PS X st t) (hi : ∀ D σ H, t' D σ H → t D σ H) : PS X st t' := ⟨fun pins s σ H D I q => h.run pins s σ H D I (hi _ _ _ q)⟩
theorem pss_imp {st : List Stmt} {t t' : TS} (h : PSs X st t) (hi : ∀ D σ H, t' D σ H → t D σ H) : PSs X st t' := ⟨fun pins s σ H D I q => h.run pins s σ H D I (hi _ _ _ q)⟩
end
end DL
/-! DL1: expressions. -/
namespace DL
open PySem L2

def lim : Nat := 1000000
theorem lim_line {n : Nat} (h : n ≤ lim) : n ≤ sizeLine := Nat.le_trans h (by rw [sizeLine_eq]; exact (by decide : lim ≤ 16777216))
def ofO {α : Type} (o : Option α) (S : Sto) : Out α := match o with
  | some d => .ok d S
  | none => .stuck
def mVar (i : Nat) : ME := fun ρ S => match ρ[i]? with
  | some (some d) => .ok d S
  | _ => .stuck
def mC (d : D) : ME := fun _ S => .ok d S
def m1 (g : Sto → D → Option D) (ma : ME) : ME := fun ρ S => (ma ρ S).bind fun x S1 => ofO (g S1 x) S1
def m2 (g : Sto → D → D → Option D) (ma mb : ME) : ME := fun ρ S => (ma ρ S).bind fun x S1 => (mb ρ S1).bind fun y S2 => ofO (g S2 x y) S2
def mN (g : Sto → List D → Option D) (ma : MA) : ME := fun ρ S => (ma ρ S).bind fun xs S1 => ofO (g S1 xs) S1
def mTst (m : ME) : MT := fun ρ S => (m ρ S).bind fun x S1 => match x with
  | .bl b => .ok b S1
  | _ => .stuck
def aNil : MA := fun _ S => .ok [] S
def aCons (m : ME) (ms : MA) : MA := fun ρ S => (m ρ S).bind fun x S1 => (ms ρ S1).bind fun xs S2 => .ok (x :: xs) S2
/-- the items of a list or a tuple -/
def seqD (S : Sto) : D → Option (List D)
  | .tup xs => some xs
  | .lst xs => some xs
  | .fz xs => some xs
  | .obj i => match S[i]? with
    | some (.lst xs) => some xs
    | _ => none
  | _ => none
def aStar (m : ME) (ms : MA) : MA := fun ρ S => (m ρ S).bind fun x S1 => match seqD S1 x with
  | some ys => (ms ρ S1).bind fun xs S2 => .ok (ys ++ xs) S2
  | none => .stuck
def mTup (ms : MA) : ME := fun ρ S => (ms ρ S).bind fun xs S1 => if xs.length ≤ lim then .ok (.tup xs) S1 else .stuck
def mLst (ms : MA) : ME := fun ρ S => (ms ρ S).bind fun xs S1 => if xs.length ≤ lim then .ok (.lst xs) S1 else .stuck

section
variable {U : Uv} {M M1 : Mp} {S : Sto} {H H1 : Hp} {σ : St} {W : WX}
theorem Rep.seq {S : Sto} {v : V} {d : D} {ds : List D} (r : R U M S H) (h : Rep U M H v d) (e : seqD S d = some ds) : ∃ a xs, v = .ref a ∧ (SqT U.K H a xs ∨ SqL U.K H a xs) ∧ RepAll U M H xs ds := by
  cases h with
  | tup h q => cases e; exact ⟨_, _, rfl, .inl h.sq, q⟩
  | lst h q => cases e; exact ⟨_, _, rfl, .inr h.sq, q⟩
  | fz h q => cases e; exact ⟨_, _, rfl, .inr h.sq, q⟩
  | obj hi =>
    rename_i i
    cases q : S[i]? with
    | none => simp only [seqD, q] at e; cases e
    | some o =>
      simp only [seqD, q] at e
      cases o with
      | lst xs =>
        cases e
        obtain ⟨vs, h1, h2⟩ := r.at_ _ _ q
        exact ⟨_, vs, rfl, .inr (.inl (.inl h1)), h2⟩
      | ins c fs => cases e
  | _ => cases e
theorem RepAll.length : ∀ {xs : List V} {ds : List D}, RepAll U M H xs ds → xs.length = ds.length
  | _, _, .nil => rfl
  | _, _, .cons _ r => by rw [List.length_cons, List.length_cons, r.length]
theorem RepAll.append : ∀ {xs ys : List V} {ds es : List D}, RepAll U M H xs ds → RepAll U M H ys es → RepAll U M H (xs ++ ys) (ds ++ es)
  | _, _, _, _, .nil, s => s
  | _, _, _, _, .cons h r, s => .cons h (r.append s)
theorem RepAll.get : ∀ {xs : List V} {ds : List D} {i : Nat} {d : D}, RepAll U M H xs ds → ds[i]? = some d → ∃ v, xs[i]? = some v ∧ Rep U M H v d
  | _, _, _, _, .nil, e => by simp at e
  | _, _, 0, _, .cons h _, e => by simp at e; subst e; exact ⟨_, rfl, h⟩
  | _, _, i + 1, _, .cons _ r, e => by
    obtain ⟨v, h1, h2⟩ := r.get (i := i) (by simpa using e)
    exact ⟨v, by simpa using h1, h2⟩
theorem RepAll.getV : ∀ {xs : List V} {ds : List D} {i : Nat} {v : V}, RepAll U M H xs ds → xs[i]? = some v → ∃ d, ds[i]? = some d ∧ Rep U M H v d
  | _, _, _, _, .nil, e => by simp at e
  | _, _, 0, _, .cons h _, e => by simp at e; subst e; exact ⟨_, rfl, h⟩
  | _, _, i + 1, _, .cons _ r, e => by
    obtain ⟨v, h1, h2⟩ := r.getV (i := i) (by simpa using e)
    exact ⟨v, by simpa using h1, h2⟩
theorem RepAll.set {v : V} {d : D} (h : Rep U M H v d) : ∀ {xs : List V} {ds : List D} (i : Nat), RepAll U M H xs ds → RepAll U M H (xs.set i v) (ds.set i d)
  | _, _, _, .nil => .nil
  | _, _, 0, .cons _ r => .cons h r
  | _, _, i + 1, .cons q r => .cons q (RepAll.set h i r)
theorem RepAll.drop : ∀ {xs : List V} {ds : List D} (n : Nat), RepAll U M H xs ds → RepAll U M H (xs.drop n) (ds.drop n)
  | _, _, 0, r => r
  | _, _, _ + 1, .nil => .nil
  | _, _, n + 1, .cons _ r => RepAll.drop n r
theorem RepAll.take : ∀ {xs : List V} {ds : List D} (n : Nat), RepAll U M H xs ds → RepAll U M H (xs.take n) (ds.take n)
  | _, _, 0, _ => .nil
  | _, _, _ + 1, .nil => .nil
  | _, _, n + 1, .cons h r => .cons h (RepAll.take n r)
theorem cut_len (xs : List V) (ds : List D) (h : xs.length = ds.length) (lo hi : Option Int) : ∃ i j, cutV xs lo hi = (xs.drop i).take j ∧ (ds.drop (HT.sIx ds.length 0 lo)).take (HT.sIx ds.length ds.length hi - HT.sIx ds.length 0 lo) = (ds.drop i).take j := ⟨_, _, rfl, by rw [h]⟩
/-- a new tuple, a new list that the store does not hold -/
theorem Rep.newTup {xs : List V} {ds : List D} {p : Addr} (r : R U M S H) (hp : H p = none) (h : RepAll U M H xs ds) : Rep U M (upd H p (.tup xs)) (.ref p) (.tup ds) :=
  .tup (.inl ⟨upd_same, r.nhas hp⟩) (h.ext (r.extNew hp))
theorem Rep.newLst {xs : List V} {ds : List D} {p : Addr} (r : R U M S H) (hp : H p = none) (h : RepAll U M H xs ds) : Rep U M (upd H p (.lst xs)) (.ref p) (.lst ds) :=
  .lst ⟨upd_same, r.nhas hp⟩ (h.ext (r.extNew hp))
end

/-! ### two-place operations, one-place ones, calls of built-ins, by data -/
/-- what comes is data d -/
abbrev Gives (U : Uv) (M : Mp) (S : Sto) (H : Hp) (d : D) (Q : VK) : Prop := ∀ M' H' v, Ext M H M' H' → R U M' S H' → Rep U M' H' v d → Q v H'
theorem Gives.here {U : Uv} {M : Mp} {S : Sto} {H : Hp} {d : D} {Q : VK} {v : V} (g : Gives U M S H d Q) (r : R U M S H) (h : Rep U M H v d) : Q v H := g M H v r.refl r h
theorem Gives.tup {U : Uv} {M : Mp} {S : Sto} {H : Hp} {ds : List D} {Q : VK} {vs : List V} {p : Addr} (g : Gives U M S H (.tup ds) Q) (r : R U M S H) (h : RepAll U M H vs ds) (hp : H p = none) : Q (.ref p) (upd H p (.tup vs)) :=
  g M _ _ (r.extNew hp) (r.new hp) (Rep.newTup r hp h)
theorem Gives.lst {U : Uv} {M : Mp} {S : Sto} {H : Hp} {ds : List D} {Q : VK} {vs : List V} {p : Addr} (g : Gives U M S H (.lst ds) Q) (r : R U M S H) (h : RepAll U M H vs ds) (hp : H p = none) : Q (.ref p) (upd H p (.lst vs)) :=
  g M _ _ (r.extNew hp) (r.new hp) (Rep.newLst r hp h)
structure OpD (U : Uv) (X : Cx) (f : Value → Value → Sem Value) (g : Sto → D → D → Option D) : Prop where
  ex : ∃ r, OpR X f r ∧ ∀ M S H x y dx dy d Q, R U M S H → Rep U M H x dx → Rep U M H y dy → g S dx dy = some d → Gives U M S H d Q → r x y H Q
structure UnD (U : Uv) (X : Cx) (f : Value → Sem Value) (g : Sto → D → Option D) : Prop where
  ex : ∃ r, UnR X f r ∧ ∀ M S H x dx d Q, R U M S H → Rep U M H x dx → g S dx = some d → Gives U M S H d Q → r x H Q
structure CallD (U : Uv) (X : Cx) (f : Value) (g : Sto → List D → Option D) : Prop where
  ex : ∃ r, CallR X f r ∧ ∀ M S H xs ds d Q, R U M S H → RepAll U M H xs ds → g S ds = some d → Gives U M S H d Q → r xs H Q
structure IxD (U : Uv) (X : Cx) (g : Sto → D → D → Option D) : Prop where
  ex : ∃ r, IxR X r ∧ ∀ M S H x y dx dy d Q, R U M S H → Rep U M H x dx → Rep U M H y dy → g S dx dy = some d → Gives U M S H d Q → r x y H Q

section
variable {X : Cx} {U : Uv} {W : WX}
theorem ofO_post {α β : Type} {rel : Mp → Hp → β → α → Prop} {M : Mp} {H : Hp} {σ : St} {o : Option α} {S : Sto} {Q : β → Hp → Prop} (p : PostX U rel M H σ W (ofO o S) Q) : ∃ d, o = some d ∧ ∀ M' H' b, Ext M H M' H' → R U M' S H' → rel M' H' b d → Q b H' := by
  cases o with
  | none => exact p.elim
  | some d => exact ⟨d, rfl, p⟩
theorem e_var (i : Nat) {x : Str} {pos : Pos} (hN : X.N[i]? = some x := by rfl) (hv : Vis X.env.scope x := by first | exact Or.inl rfl | exact Or.inr (Or.inl rfl) | exact Or.inr (Or.inr rfl)) (hd : (x == ("__debug__" : Str)) = false := by decide)
    (hcd : (x == ("__classdict__" : Str)) = false := by decide) : PE X (.Name x pos) (tE U W (mVar i)) := pe_imp (pv i hN hv hd hcd) fun σ H Q ⟨M, S, ρ, a, p⟩ => by
  unfold mVar at p
  cases e : ρ[i]? with
  | none => rw [e] at p; exact p.elim
  | some o =>
    cases o with
    | none => rw [e] at p; exact p.elim
    | some d =>
      rw [e] at p
      obtain ⟨v, h1, h2⟩ := a.sl i d e
      exact ⟨v, h1, p M H v a.refl a.r h2⟩
theorem e_c {e : Expr} {v : V} {d : D} (h : PE X e (tC v)) (hr : ∀ M H, Rep U M H v d) : PE X e (tE U W (mC d)) := pe_imp h fun σ H Q ⟨M, S, ρ, a, p⟩ => p M H v a.refl a.r (hr M H)
theorem e_int {i : Int} {j : Nat} {pos : Pos} : PE X (.Constant (.int i) j pos) (tE U W (mC (.int i))) := e_c pe_int fun _ _ => .int i
theorem e_bl {b : Bool} {j : Nat} {pos : Pos} : PE X (.Constant (.bool b) j pos) (tE U W (mC (.bl b))) := e_c pe_bl fun _ _ => .bl b
theorem e_non {j : Nat} {pos : Pos} : PE X (.Constant .none j pos) (tE U W (mC .non)) := e_c pe_non fun _ _ => .non
theorem e_str {x : Str} {j : Nat} {pos : Pos} : PE X (.Constant (.str x) j pos) (tE U W (mC (.str x))) := e_c pe_str fun _ _ => .str x
/-- a module's constant -/
theorem e_glob {x : Str} {v : V} {u : Value} {d : D} {pos : Pos} (hm : X.mg x = some u) (r : RelV v u) (hr : ∀ M H, Rep U M H v d) (hg : Gl X x := by rfl) (hd : (x == ("__debug__" : Str)) = false := by decide) : PE X (.Name x pos) (tE U W (mC d)) := e_c (pe_glob hg hm r hd) hr
/-- a built-in's name as a value -/
theorem e_bltn {x : Str} {n : String} {pos : Pos} (hm : X.mg x = none) (hv : bootBuiltins x = some (.type n)) (hg : Gl X x := by rfl) (hn : x ≠ "__name__" := by decide) (hd : (x == ("__debug__" : Str)) = false := by decide) : PE X (.Name x pos) (tE U W (mC (.ty n))) :=
  e_c (pe_bltn hg hm hv (v := .ty n) rfl hn hd) fun _ _ => .ty n

variable {a b c : Expr} {ma mb mc : ME} {ta tb tc : MT} {pos : Pos}
theorem op_post {f : Value → Value → Sem Value} {g : Sto → D → D → Option D} {r : R2} (hr : ∀ M S H x y dx dy d Q, R U M S H → Rep U M H x dx → Rep U M H y dy → g S dx dy = some d → Gives U M S H d Q → r x y H Q)
    {σ : St} {H : Hp} {Q : VK} (h : tE U W (m2 g ma mb) σ H Q) : tOp r (tE U W ma) (tE U W mb) σ H Q := by
  obtain ⟨M, S, ρ, A, p⟩ := h
  refine tX.bind A p fun x S1 M1 H1 v e1 A1 r1 p1 => tX.bind A1 p1 fun y S2 M2 H2 w e2 A2 r2 p2 => ?_
  obtain ⟨d, ed, q⟩ := ofO_post p2
  exact hr M2 S2 H2 v w x y d Q A2.r (r1.ext e2) r2 ed q
theorem e_op {op : Operator} {g : Sto → D → D → Option D} (ho : OpD U X (binaryOp op) g) (ha : PE X a (tE U W ma)) (hb : PE X b (tE U W mb)) : PE X (.BinOp a op b pos) (tE U W (m2 g ma mb)) := by
  obtain ⟨r, h1, h2⟩ := ho.ex
  exact pe_imp (pe_op h1 ha hb) fun σ H Q h => op_post (f := binaryOp op) h2 h
theorem e_cmp {op : CmpOp} {g : Sto → D → D → Option D} (ho : OpD U X (compareOp op) g) (ha : PE X a (tE U W ma)) (hb : PE X b (tE U W mb)) (hm : behindInMarks op b = false := by first | exact nomark _ | rfl | with_unfolding_all rfl) : PE X (.Compare a [op] [b] pos) (tE U W (m2 g ma mb)) := by
  obtain ⟨r, h1, h2⟩ := ho.ex
  exact pe_imp (pe_cmpR h1 ha hb hm) fun σ H Q h => op_post (f := compareOp op) h2 h
theorem tst_post {m : ME} {t : TE} (ht : ∀ σ H Q, tE U W m σ H Q → t σ H Q) {σ : St} {H : Hp} {Q : Bool → Hp → Prop} (h : tT U W (mTst m) σ H Q) : tTest t σ H Q := by
  obtain ⟨M, S, ρ, A, p⟩ := h
  refine ht σ H _ (tX.bind A p fun x S1 M1 H1 v e1 A1 r1 p1 => ?_)
  cases r1 with
  | bl k => exact ⟨k, rfl, p1 M1 H1 k A1.refl A1.r rfl⟩
  | _ => exact p1.elim
theorem t_cmp {op : CmpOp} {g : Sto → D → D → Option D} (ho : OpD U X (compareOp op) g) (ha : PE X a (tE U W ma)) (hb : PE X b (tE U W mb)) (hm : behindInMarks op b = false := by first | exact nomark _ | rfl | with_unfolding_all rfl) : PT X (.Compare a [op] [b] pos) (tT U W (mTst (m2 g ma mb))) := by
  obtain ⟨r, h1, h2⟩ := ho.ex
  exact pt_imp (pt_cmpR h1 ha hb hm) fun σ H Q h => tst_post (fun σ H Q h => op_post (f := compareOp op) h2 h) h
/-- a op b op' c -/
def mChain (g g' : Sto → D → D → Option D) (ma mb mc : ME) : ME := fun ρ S => (ma ρ S).bind fun x S1 => (mb ρ S1).bind fun y S2 => match g S2 x y with
  | some (.bl true) => (mc ρ S2).bind fun z S3 => ofO (g' S3 y z) S3
  | some (.bl false) => .ok (.bl false) S2
  | _ => .stuck
theorem chain_post {g g' : Sto → D → D → Option D} {r r' : R2} (hr : ∀ M S H x y dx dy d Q, R U M S H → Rep U M H x dx → Rep U M H y dy → g S dx dy = some d → Gives U M S H d Q → r x y H Q)
    (hr' : ∀ M S H x y dx dy d Q, R U M S H → Rep U M H x dx → Rep U M H y dy → g' S dx dy = some d → Gives U M S H d Q → r' x y H Q)
    {σ : St} {H : Hp} {Q : VK} (h : tE U W (mChain g g' ma mb mc) σ H Q) : tChain r r' (tE U W ma) (tE U W mb) (tE U W mc) σ H Q := by
  obtain ⟨M, S, ρ, A, p⟩ := h
  refine tX.bind A p fun x S1 M1 H1 v e1 A1 r1 p1 => tX.bind A1 p1 fun y S2 M2 H2 w e2 A2 r2 p2 => ?_
  cases q : g S2 x y with
  | none => rw [q] at p2; exact p2.elim
  | some d =>
    rw [q] at p2
    refine hr M2 S2 H2 v w x y d _ A2.r (r1.ext e2) r2 q fun M3 H3 z e3 R3 r3 => ?_
    cases r3 with
    | bl k =>
      refine ⟨k, rfl, ?_⟩
      cases k with
      | false => rw [if_neg (by decide)]; exact p2 M3 H3 _ e3 R3 (.bl false)
      | true =>
        rw [if_pos rfl]
        refine tX.bind (A2.ext e3 R3) (PostX.ext e3 p2) fun z S4 M4 H4 w4 e4 A4 r4 p4 => ?_
        obtain ⟨d, ed, q⟩ := ofO_post p4
        exact hr' M4 S4 H4 w w4 y z d Q A4.r ((r2.ext e3).ext e4) r4 ed q
    | _ => exact p2.elim
theorem e_chain {op op' : CmpOp} {g g' : Sto → D → D → Option D} (ho : OpD U X (compareOp op) g) (ho' : OpD U X (compareOp op') g') (ha : PE X a (tE U W ma)) (hb : PE X b (tE U W mb)) (hc : PE X c (tE U W mc))
    (hm : lastMarks [op, op'] [b, c] = false := by with_unfolding_all rfl) : PE X (.Compare a [op, op'] [b, c] pos) (tE U W (mChain g g' ma mb mc)) := by
  obtain ⟨r, h1, h2⟩ := ho.ex
  obtain ⟨r', h1', h2'⟩ := ho'.ex
  exact pe_imp (pe_chain h1 h1' ha hb hc hm) fun σ H Q h => chain_post h2 h2' h
theorem t_chain {op op' : CmpOp} {g g' : Sto → D → D → Option D} (ho : OpD U X (compareOp op) g) (ho' : OpD U X (compareOp op') g') (ha : PE X a (tE U W ma)) (hb : PE X b (tE U W mb)) (hc : PE X c (tE U W mc))
    (hm : lastMarks [op, op'] [b, c] = false := by with_unfolding_all rfl) : PT X (.Compare a [op, op'] [b, c] pos) (tT U W (mTst (mChain g g' ma mb mc))) := by
  obtain ⟨r, h1, h2⟩ := ho.ex
  obtain ⟨r', h1', h2'⟩ := ho'.ex
  exact pt_imp (pt_chain h1 h1' ha hb hc hm) fun σ H Q h => tst_post (fun σ H Q h => chain_post h2 h2' h) h

/-! ### truth -/
def truD (S : Sto) : D → Option Bool
  | .non => some false
  | .bl b => some b
  | .int i => some (i != 0)
  | .str s => if s.length ≤ lim then some ((s.length : Int) != 0) else none
  | .dct [] => some false
  | d => (seqD S d).map fun xs => !xs.isEmpty
theorem isE_of {U : Uv} {M : Mp} {H : Hp} {xs : List V} {ds : List D} (r : RepAll U M H xs ds) : (!xs.isEmpty) = !ds.isEmpty := by
  cases r <;> rfl
theorem Rep.tru {M : Mp} {S : Sto} {H : Hp} {v : V} {d : D} {k : Bool} (r : R U M S H) (h : Rep U M H v d) (e : truD S d = some k) : TruV U.K v H k := by
  have sq : ∀ ds, seqD S d = some ds → (!ds.isEmpty) = k → TruV U.K v H k := fun ds e1 e2 => by
    obtain ⟨a, xs, rfl, q, ra⟩ := h.seq r e1
    rw [← e2, ← isE_of ra]
    rcases q with q | q
    · exact .inr (.inl ⟨xs, q, rfl⟩)
    · exact .inl ⟨xs, q, rfl⟩
  cases h with
  | non => cases e; rfl
  | bl b => cases e; rfl
  | int i => cases e; rfl
  | str x =>
    simp only [truD] at e
    by_cases hl : x.length ≤ lim
    · rw [if_pos hl] at e
      cases e
      exact ⟨lim_line hl, rfl⟩
    · rw [if_neg hl] at e; cases e
  | tup h q => cases e; exact sq _ rfl rfl
  | lst h q => cases e; exact sq _ rfl rfl
  | fz h q => cases e; exact sq _ rfl rfl
  | dct0 h n => cases e; exact .inr (.inr ⟨[], h, rfl⟩)
  | obj hi =>
    rename_i i
    change (seqD S (.obj i)).map _ = _ at e
    cases q : seqD S (.obj i) with
    | none => rw [q] at e; cases e
    | some xs => rw [q] at e; exact sq xs q (Option.some.inj e)
  | _ => cases e
def mTru (m : ME) : MT := fun ρ S => (m ρ S).bind fun x S1 => ofO (truD S1 x) S1
theorem t_tru (ha : PE X a (tE U W ma)) (hK : X.K = U.K := by rfl) (he : ∀ whole, isTrue a X.env whole = (do let v ← whole; standAt a.pos; holding [v] (truthy v)) := by intro _; rfl) : PT X a (tT U W (mTru ma)) :=
  pt_imp (pt_truth ha he) fun σ H Q ⟨M, S, ρ, A, p⟩ => tX.bind A p fun x S1 M1 H1 v e1 A1 r1 p1 => by
    obtain ⟨k, ek, q⟩ := ofO_post p1
    rw [hK]
    exact ⟨k, r1.tru A1.r ek, q M1 H1 k A1.refl A1.r rfl⟩
/-! ### and, or, not -/
def tAnd' (t u : MT) : MT := fun ρ S => (t ρ S).bind fun b S1 => if b = true then u ρ S1 else .ok false S1
def tOr' (t u : MT) : MT := fun ρ S => (t ρ S).bind fun b S1 => if b = true then .ok true S1 else u ρ S1
def tNot' (t : MT) : MT := fun ρ S => (t ρ S).bind fun b S1 => .ok (!b) S1
theorem and_post {σ : St} {H : Hp} {Q : Bool → Hp → Prop} (h : tT U W (tAnd' ta tb) σ H Q) : tAnd (tT U W ta) (tT U W tb) σ H Q := by
  obtain ⟨M, S, ρ, A, p⟩ := h
  refine tX.bind A p fun x S1 M1 H1 k e1 A1 r1 p1 => ?_
  subst r1
  cases k with
  | true => exact ⟨M1, S1, ρ, A1, p1⟩
  | false => exact p1 M1 H1 _ A1.refl A1.r rfl
theorem or_post {σ : St} {H : Hp} {Q : Bool → Hp → Prop} (h : tT U W (tOr' ta tb) σ H Q) : tOr (tT U W ta) (tT U W tb) σ H Q := by
  obtain ⟨M, S, ρ, A, p⟩ := h
  refine tX.bind A p fun x S1 M1 H1 k e1 A1 r1 p1 => ?_
  subst r1
  cases k with
  | false => exact ⟨M1, S1, ρ, A1, p1⟩
  | true => exact p1 M1 H1 _ A1.refl A1.r rfl
theorem w_and1 (h : PT X a (tT U W ta)) : PW X (.BoolOp .And [a] pos) (tT U W ta) := pw_and1 h
theorem w_or1 (h : PT X a (tT U W ta)) : PW X (.BoolOp .Or [a] pos) (tT U W ta) := pw_or1 h
theorem w_and {rest : List Expr} (ha : PT X a (tT U W ta)) (hb : PW X (.BoolOp .And (b :: rest) pos) (tT U W tb)) : PW X (.BoolOp .And (a :: b :: rest) pos) (tT U W (tAnd' ta tb)) := pw_imp (pw_and ha hb) fun _ _ _ => and_post
theorem w_or {rest : List Expr} (ha : PT X a (tT U W ta)) (hb : PW X (.BoolOp .Or (b :: rest) pos) (tT U W tb)) : PW X (.BoolOp .Or (a :: b :: rest) pos) (tT U W (tOr' ta tb)) := pw_imp (pw_or ha hb) fun _ _ _ => or_post
theorem t_not (ha : PT X a (tT U W ta)) : PT X (.UnaryOp .Not a pos) (tT U W (tNot' ta)) := pt_imp (pt_not ha) fun σ H Q ⟨M, S, ρ, A, p⟩ => tX.bind A p fun x S1 M1 H1 k e1 A1 r1 p1 => by
  subst r1
  exact p1 M1 H1 _ A1.refl A1.r rfl
/-- .. as values -/
def mAnd (ma mb : ME) : ME := fun ρ S => (ma ρ S).bind fun x S1 => match truD S1 x with
  | some true => mb ρ S1
  | some false => .ok x S1
  | none => .stuck
def mOr (ma mb : ME) : ME := fun ρ S => (ma ρ S).bind fun x S1 => match truD S1 x with
  | some true => .ok x S1
  | some false => mb ρ S1
  | none => .stuck
def mNot (ma : ME) : ME := fun ρ S => (ma ρ S).bind fun x S1 => match truD S1 x with
  | some b => .ok (.bl (!b)) S1
  | none => .stuck
theorem e_one {op : BoolOp} (h : PE X a (tE U W ma)) : PE X (.BoolOp op [a] pos) (tE U W ma) := pe_one h
theorem e_and {rest : List Expr} (ha : PE X a (tE U W ma)) (hb : PE X (.BoolOp .And (b :: rest) pos) (tE U W mb)) (hK : X.K = U.K := by rfl) : PE X (.BoolOp .And (a :: b :: rest) pos) (tE U W (mAnd ma mb)) :=
  pe_imp (pe_andT ha hb) fun σ H Q ⟨M, S, ρ, A, p⟩ => tX.bind A p fun x S1 M1 H1 v e1 A1 r1 p1 => by
    rw [hK]
    cases q : truD S1 x with
    | none => rw [q] at p1; exact p1.elim
    | some k =>
      rw [q] at p1
      refine ⟨k, r1.tru A1.r q, ?_⟩
      cases k with
      | true => exact ⟨M1, S1, ρ, A1, p1⟩
      | false => exact p1 M1 H1 _ A1.refl A1.r r1
theorem e_or {rest : List Expr} (ha : PE X a (tE U W ma)) (hb : PE X (.BoolOp .Or (b :: rest) pos) (tE U W mb)) (hK : X.K = U.K := by rfl) : PE X (.BoolOp .Or (a :: b :: rest) pos) (tE U W (mOr ma mb)) :=
  pe_imp (pe_orT ha hb) fun σ H Q ⟨M, S, ρ, A, p⟩ => tX.bind A p fun x S1 M1 H1 v e1 A1 r1 p1 => by
    rw [hK]
    cases q : truD S1 x with
    | none => rw [q] at p1; exact p1.elim
    | some k =>
      rw [q] at p1
      refine ⟨k, r1.tru A1.r q, ?_⟩
      cases k with
      | false => exact ⟨M1, S1, ρ, A1, p1⟩
      | true => exact p1 M1 H1 _ A1.refl A1.r r1
theorem e_not (ha : PE X a (tE U W ma)) (hK : X.K = U.K := by rfl) : PE X (.UnaryOp .Not a pos) (tE U W (mNot ma)) :=
  pe_imp (pe_notT ha) fun σ H Q ⟨M, S, ρ, A, p⟩ => tX.bind A p fun x S1 M1 H1 v e1 A1 r1 p1 => by
    rw [hK]
    cases q : truD S1 x with
    | none => rw [q] at p1; exact p1.elim
    | some k =>
      rw [q] at p1
      exact ⟨k, r1.tru A1.r q, p1 M1 H1 _ A1.refl A1.r (.bl _)⟩
def mIf (t : MT) (ma mb : ME) : ME := fun ρ S => (t ρ S).bind fun k S1 => if k = true then ma ρ S1 else mb ρ S1
theorem e_if (hc : PT X c (tT U W tc)) (ha : PE X a (tE U W ma)) (hb : PE X b (tE U W mb)) : PE X (.IfExp c a b pos) (tE U W (mIf tc ma mb)) :=
  pe_imp (pe_ifExp hc ha hb) fun σ H Q ⟨M, S, ρ, A, p⟩ => tX.bind A p fun x S1 M1 H1 k e1 A1 r1 p1 => by
    subst r1
    cases k with
    | true => exact ⟨M1, S1, ρ, A1, p1⟩
    | false => exact ⟨M1, S1, ρ, A1, p1⟩
theorem e_un {op : UnaryOp} {g : Sto → D → Option D} (ho : UnD U X (unaryOp op) g) (ha : PE X a (tE U W ma)) : PE X (.UnaryOp op a pos) (tE U W (m1 g ma)) := by
  obtain ⟨r, h1, h2⟩ := ho.ex
  exact pe_imp (pe_un h1 ha) fun σ H Q ⟨M, S, ρ, A, p⟩ => tX.bind A p fun x S1 M1 H1 v e1 A1 r1 p1 => by
    obtain ⟨d, ed, q⟩ := ofO_post p1
    exact h2 M1 S1 H1 v x d Q A1.r r1 ed q
/-! ### argument lists, displays -/
variable {e : Expr} {es : List Expr} {m : ME} {ms : MA}
theorem a_nil : PA X [] (tA U W aNil) := pa_imp pa_nil fun σ H Q ⟨M, S, ρ, A, p⟩ => p M H [] A.refl A.r .nil
theorem a_cons (h : PE X e (tE U W m)) (hr : PA X es (tA U W ms)) (hs : starEach (e :: es) X.env = (false, eval e X.env) :: starEach es X.env := by rfl) : PA X (e :: es) (tA U W (aCons m ms)) :=
  pa_imp (pa_cons h hr hs) fun σ H Q ⟨M, S, ρ, A, p⟩ => tX.bind A p fun x S1 M1 H1 v e1 A1 r1 p1 => tX.bind A1 p1 fun xs S2 M2 H2 vs e2 A2 r2 p2 => p2 M2 H2 _ A2.refl A2.r (.cons (r1.ext e2) r2)
theorem a_star {q : Pos} (h : PE X e (tE U W m)) (hr : PA X es (tA U W ms)) (hK : X.K = U.K := by rfl) (hs : starEach (.Starred e q :: es) X.env = (true, eval e X.env) :: starEach es X.env := by rfl) : PA X (.Starred e q :: es) (tA U W (aStar m ms)) :=
  pa_imp (StX.pa_star h hr hs) fun σ H Q ⟨M, S, ρ, A, p⟩ => tX.bind A p fun x S1 M1 H1 v e1 A1 r1 p1 => by
    cases q : seqD S1 x with
    | none => rw [q] at p1; exact p1.elim
    | some ys =>
      rw [q] at p1
      obtain ⟨a, xs, rfl, hq, ra⟩ := r1.seq A1.r q
      rw [hK]
      exact ⟨a, xs, rfl, hq, tX.bind A1 p1 fun zs S2 M2 H2 vs e2 A2 r2 p2 => p2 M2 H2 _ A2.refl A2.r ((ra.ext e2).append r2)⟩
theorem e_tup {k : Nat} (h : PA X es (tA U W ms)) : PE X (.Tuple es k pos) (tE U W (mTup ms)) :=
  pe_imp (pe_tup h) fun σ H Q ⟨M, S, ρ, A, p⟩ => tX.bind A p fun xs S1 M1 H1 vs e1 A1 r1 p1 => by
    by_cases hl : xs.length ≤ lim
    · rw [if_pos hl] at p1
      exact ⟨lim_line (by rw [r1.length]; exact hl), fun q hq => Gives.tup p1 A1.r r1 hq⟩
    · rw [if_neg hl] at p1; exact p1.elim
theorem e_lst (h : PA X es (tA U W ms)) : PE X (.List es pos) (tE U W (mLst ms)) :=
  pe_imp (pe_lst h) fun σ H Q ⟨M, S, ρ, A, p⟩ => tX.bind A p fun xs S1 M1 H1 vs e1 A1 r1 p1 => by
    by_cases hl : xs.length ≤ lim
    · rw [if_pos hl] at p1
      exact ⟨lim_line (by rw [r1.length]; exact hl), fun q hq => Gives.lst p1 A1.r r1 hq⟩
    · rw [if_neg hl] at p1; exact p1.elim
/-- .. a new list of the store -/
def mLstO (ms : MA) : ME := fun ρ S => (ms ρ S).bind fun xs S1 => if xs.length ≤ lim then .ok (.obj S1.length) (S1 ++ [.lst xs]) else .stuck
theorem Gives.pushL {M : Mp} {S : Sto} {H : Hp} {σ : St} {ds : List D} {Q : VK} {vs : List V} {p : Addr} (g : PostX U (Rep U) M H σ W (.ok (.obj S.length) (S ++ [.lst ds])) Q) (r : R U M S H) (h : RepAll U M H vs ds) (hp : H p = none) : Q (.ref p) (upd H p (.lst vs)) := by
  have hk : ∀ a o, H a = some o → upd H p (.lst vs) a = some o := fun a o z => by rw [upd_ne (ne_of_none z hp)]; exact z
  have e := r.extPush (u := .lst vs) hp hk upd_same
  have e1 : (M.push p).at_ S.length = p := by show (if _ then _ else _) = _; rw [if_pos r.n.symm]
  refine g (M.push p) _ _ e (r.push hp hk ⟨vs, upd_same, h.ext e⟩) ?_
  have z : Rep U (M.push p) (upd H p (.lst vs)) (.ref ((M.push p).at_ S.length)) (.obj S.length) := .obj (by show _ < M.n + 1; rw [r.n]; exact Nat.lt_succ_self _)
  rw [e1] at z; exact z
theorem e_lstO (h : PA X es (tA U W ms)) : PE X (.List es pos) (tE U W (mLstO ms)) :=
  pe_imp (pe_lst h) fun σ H Q ⟨M, S, ρ, A, p⟩ => tX.bind A p fun xs S1 M1 H1 vs e1 A1 r1 p1 => by
    by_cases hl : xs.length ≤ lim
    · rw [if_pos hl] at p1
      exact ⟨lim_line (by rw [r1.length]; exact hl), fun q hq => Gives.pushL p1 A1.r r1 hq⟩
    · rw [if_neg hl] at p1; exact p1.elim
/-! ### calls of built-ins -/
variable {x : Str} {q pos' : Pos} {id T : String} {g : Sto → List D → Option D}
theorem call_post {r : List V → Hp → VK → Prop} (hr : ∀ M S H xs ds d Q, R U M S H → RepAll U M H xs ds → g S ds = some d → Gives U M S H d Q → r xs H Q) {σ : St} {H : Hp} {Q : VK} (h : tE U W (mN g ms) σ H Q) : tCB r (tA U W ms) σ H Q := by
  obtain ⟨M, S, ρ, A, p⟩ := h
  refine tX.bind A p fun xs S1 M1 H1 vs e1 A1 r1 p1 => ?_
  obtain ⟨d, ed, q⟩ := ofO_post p1
  exact hr M1 S1 H1 vs xs d Q A1.r r1 ed q
theorem e_callB (hc : CallD U X (.builtin id) g) (hm : X.mg x = none) (hv : bootBuiltins x = some (.builtin id)) (ha : PA X (e :: es) (tA U W ms)) (hg : Gl X x := by rfl) (hn : x ≠ "__name__" := by decide) (hdb : (x == ("__debug__" : Str)) = false := by decide)
    (he : starEach (e :: es) X.env = (false, eval e X.env) :: starEach es X.env := by rfl) (hpl : (backTo pos (starEach es X.env)).any (·.1) = false := by rfl) : PE X (.Call (.Name x q) (e :: es) [] pos) (tE U W (mN g ms)) := by
  obtain ⟨r, h1, h2⟩ := hc.ex
  exact pe_imp (pe_callB h1 hg hm hv ha hn hdb he hpl) fun σ H Q h => call_post h2 h
theorem e_callT (hc : CallD U X (.type T) g) (hm : X.mg x = none) (hv : bootBuiltins x = some (.type T)) (ha : PA X (e :: es) (tA U W ms)) (hg : Gl X x := by rfl) (hn : x ≠ "__name__" := by decide) (hdb : (x == ("__debug__" : Str)) = false := by decide)
    (he : starEach (e :: es) X.env = (false, eval e X.env) :: starEach es X.env := by rfl) (hpl : (backTo pos (starEach es X.env)).any (·.1) = false := by rfl) : PE X (.Call (.Name x q) (e :: es) [] pos) (tE U W (mN g ms)) := by
  obtain ⟨r, h1, h2⟩ := hc.ex
  exact pe_imp (pe_callTy h1 hg hm hv ha hn hdb he hpl) fun σ H Q h => call_post h2 h
/-! ### subscripts, slices -/
theorem e_ix {g : Sto → D → D → Option D} (ho : IxD U X g) (ha : PE X a (tE U W ma)) (hb : PE X b (tE U W mb)) (hs : PlainIx b := by exact fun _ _ => rfl) : PE X (.Subscript a b pos) (tE U W (m2 g ma mb)) := by
  obtain ⟨r, h1, h2⟩ := ho.ex
  exact pe_imp (pe_ix h1 ha hb hs) fun σ H Q h => op_post (f := fun v u => getItem v u) h2 h
abbrev MO := Env → Sto → Out (Option Int)
abbrev relO : Mp → Hp → Option Int → Option Int → Prop := fun _ _ b a => b = a
abbrev tO (U : Uv) (W : WX) (m : MO) : TO := tX U relO W m
def oNone : MO := fun _ S => .ok none S
def oSome (m : ME) : MO := fun ρ S => (m ρ S).bind fun x S1 => match x with
  | .int i => .ok (some i) S1
  | _ => .stuck
theorem po_imp {o : Option Expr} {t t' : TO} (h : PO X o t) (hi : ∀ σ H Q, t' σ H Q → t σ H Q) : PO X o t' := ⟨fun pins s σ H Q I q => h.run pins s σ H Q I (hi _ _ _ q)⟩
theorem o_none : PO X none (tO U W oNone) := po_imp po_none fun σ H Q ⟨M, S, ρ, A, p⟩ => p M H none A.refl A.r rfl
theorem o_some (h : PE X e (tE U W m)) : PO X (some e) (tO U W (oSome m)) := po_imp (po_some h) fun σ H Q ⟨M, S, ρ, A, p⟩ => tX.bind A p fun x S1 M1 H1 v e1 A1 r1 p1 => by
  cases r1 with
  | int i => exact ⟨i, rfl, p1 M1 H1 _ A1.refl A1.r rfl⟩
  | _ => exact p1.elim
def cutD (ds : List D) (lo hi : Option Int) : List D := (ds.drop (HT.sIx ds.length 0 lo)).take (HT.sIx ds.length ds.length hi - HT.sIx ds.length 0 lo)
theorem RepAll.cut {M : Mp} {H : Hp} {xs : List V} {ds : List D} (r : RepAll U M H xs ds) (lo hi : Option Int) : RepAll U M H (cutV xs lo hi) (cutD ds lo hi) := by
  unfold cutV cutD
  rw [r.length]
  exact (r.drop _).take _
def slD (S : Sto) (d : D) (lo hi : Option Int) : Option D := match d with
  | .tup xs => some (.tup (cutD xs lo hi))
  | .str z => if z.length ≤ lim then some (.str (cutS z lo hi)) else none
  | d => (seqD S d).map fun xs => .lst (cutD xs lo hi)
def mSl (m : ME) (lo hi : MO) : ME := fun ρ S => (m ρ S).bind fun x S1 => (lo ρ S1).bind fun l S2 => (hi ρ S2).bind fun u S3 => ofO (slD S3 x l u) S3
end
end DL
/-! DL2: operators and built-ins by data. -/
namespace DL
open PySem L2

/-! ### data as the library's data -/
mutual
def toPy : D → PyData
  | .non => .none
  | .bl b => .bool b
  | .int i => .int i
  | .str s => .str s
  | .tup xs => .tuple (toPyAll xs)
  | .lst xs => .list (toPyAll xs)
  | .fz xs => .list (toPyAll xs)
  | .dct _ => .dict []
  | .obj _ => .dict []
  | .ty _ => .dict []
  | .cls _ => .dict []
  | .fn _ => .dict []
def toPyAll : List D → List PyData
  | [] => []
  | x :: xs => toPy x :: toPyAll xs
end
/-- an object of the store that is a list: as one -/
def resD (S : Sto) : D → D
  | .obj i => match S[i]? with
    | some (.lst xs) => .lst xs
    | _ => .obj i
  | d => d
def pl (d : D) : Bool := (toPy d).plain
def deq (a b : D) : Bool := PyData.eqv (toPy a) (toPy b)
def dep (d : D) : Nat := (toPy d).depth
def okEq (a b : D) : Bool := pl a && pl b && decide (min (dep a) (dep b) ≤ 60)
def eqO (S : Sto) (x y : D) : Option D := if okEq (resD S x) (resD S y) then some (.bl (deq (resD S x) (resD S y))) else none
def neO (S : Sto) (x y : D) : Option D := if okEq (resD S x) (resD S y) then some (.bl (!deq (resD S x) (resD S y))) else none

section
variable {U : Uv} {M : Mp} {H : Hp} {S : Sto}
mutual
theorem Rep.dp : ∀ {d : D} {v : V}, Rep U M H v d → pl d = true → Dp U.K H v (toPy d)
  | _, _, .non, _ => .non
  | _, _, .bl b, _ => .bl b
  | _, _, .int i, _ => .int i
  | _, _, .str x, _ => .str x
  | _, _, .tup h r, p => .tup h.sq (RepAll.dp r p)
  | _, _, .lst h r, p => .lst h.sq (RepAll.dp r p)
  | _, _, .fz h r, p => .lst h.sq (RepAll.dp r p)
  | _, _, .dct0 _ _, p => nomatch p
  | _, _, .obj _, p => nomatch p
  | _, _, .ty _, p => nomatch p
  | _, _, .cls _, p => nomatch p
  | _, _, .fn _, p => nomatch p
theorem RepAll.dp : ∀ {ds : List D} {vs : List V}, RepAll U M H vs ds → PyData.plainAll (toPyAll ds) = true → DpAll U.K H vs (toPyAll ds)
  | _, _, .nil, _ => .nil
  | d :: ds, _, .cons h r, p => by
    have p' : (toPy d).plain = true ∧ PyData.plainAll (toPyAll ds) = true := by simpa [toPyAll, PyData.plainAll] using p
    exact .cons (Rep.dp h p'.1) (RepAll.dp r p'.2)
end
theorem Rep.res {v : V} {d : D} (r : R U M S H) (h : Rep U M H v d) (p : pl (resD S d) = true) : Dp U.K H v (toPy (resD S d)) := by
  cases h with
  | obj hi =>
    rename_i i
    cases q : S[i]? with
    | none => simp only [resD, q] at p; cases p
    | some o =>
      cases o with
      | lst xs =>
        simp only [resD, q] at p ⊢
        obtain ⟨vs, h1, h2⟩ := r.at_ _ _ q
        exact .lst (.inl (.inl h1)) (RepAll.dp h2 p)
      | ins c fs => simp only [resD, q] at p; cases p
  | non => exact Rep.dp (M := M) .non p
  | bl b => exact Rep.dp (M := M) (.bl b) p
  | int i => exact Rep.dp (M := M) (.int i) p
  | str x => exact Rep.dp (M := M) (.str x) p
  | tup h q => exact Rep.dp (.tup h q) p
  | lst h q => exact Rep.dp (.lst h q) p
  | fz h q => exact Rep.dp (.fz h q) p
  | dct0 h q => exact Rep.dp (.dct0 h q) p
  | ty n => exact Rep.dp (M := M) (.ty n) p
  | cls n => exact Rep.dp (M := M) (.cls n) p
  | fn n => exact Rep.dp (M := M) (.fn n) p
end
section
variable {X : Cx} {U : Uv} {k : Nat}
theorem okEq_room {A : Around} {a b : D} (hr : Room k A) (h : okEq a b = true) : (toPy a).plain = true ∧ (toPy b).plain = true ∧ A.units + min (toPy a).depth (toPy b).depth < cLine := by
  unfold okEq pl at h
  simp only [Bool.and_eq_true, decide_eq_true_eq] at h
  refine ⟨h.1.1, h.1.2, ?_⟩
  have := hr.un
  have h2 : min (toPy a).depth (toPy b).depth ≤ 60 := h.2
  omega
theorem o_eq (hr : Room k X.A) (hK : X.K = U.K := by rfl) : OpD U X (compareOp .Eq) eqO := ⟨fun x y H Q => ∃ d e, Dp X.K H x d ∧ Dp X.K H y e ∧ d.plain = true ∧ e.plain = true ∧ X.A.units + min d.depth e.depth < cLine ∧ Q (.bl (PyData.eqv d e)) H,
  fun pins s σ H x y v u Q I rx ry ⟨d, e, hd, he, pd, pe, hu, q⟩ => by
    obtain ⟨as, r1⟩ := Dp.reads I d x v hd rx
    obtain ⟨bs, r2⟩ := Dp.reads I e y u he ry
    exact PySem.SeqAt.eq_plain r1 r2 pd pe hu ⟨.bl _, H, I, rfl, q⟩,
  fun M S H x y dx dy d Q r hx hy e g => by
    unfold eqO at e
    by_cases hk : okEq (resD S dx) (resD S dy) = true
    · rw [if_pos hk] at e
      cases e
      obtain ⟨p1, p2, hu⟩ := okEq_room hr hk
      rw [hK]
      exact ⟨_, _, hx.res r p1, hy.res r p2, p1, p2, hu, g.here r (.bl _)⟩
    · rw [if_neg hk] at e; cases e⟩
theorem o_ne (hr : Room k X.A) (hK : X.K = U.K := by rfl) : OpD U X (compareOp .NotEq) neO := ⟨fun x y H Q => ∃ d e, Dp X.K H x d ∧ Dp X.K H y e ∧ d.plain = true ∧ e.plain = true ∧ X.A.units + min d.depth e.depth < cLine ∧ Q (.bl (!PyData.eqv d e)) H,
  fun pins s σ H x y v u Q I rx ry ⟨d, e, hd, he, pd, pe, hu, q⟩ => by
    obtain ⟨as, r1⟩ := Dp.reads I d x v hd rx
    obtain ⟨bs, r2⟩ := Dp.reads I e y u he ry
    exact PySem.SeqAt.ne_plain r1 r2 pd pe hu ⟨.bl _, H, I, rfl, q⟩,
  fun M S H x y dx dy d Q r hx hy e g => by
    unfold neO at e
    by_cases hk : okEq (resD S dx) (resD S dy) = true
    · rw [if_pos hk] at e
      cases e
      obtain ⟨p1, p2, hu⟩ := okEq_room hr hk
      rw [hK]
      exact ⟨_, _, hx.res r p1, hy.res r p2, p1, p2, hu, g.here r (.bl _)⟩
    · rw [if_neg hk] at e; cases e⟩
end
end DL
/-! DL2b: operators and built-ins by data, further. -/
namespace DL
open PySem L2

/-! ### ints, texts, lists, tuples: + - * // % ** -/
def catS (x y : Str) : Option D := if x.length + y.length ≤ lim then some (.str (x ++ y)) else none
def addO (S : Sto) (x y : D) : Option D := match x, y with
  | .int i, .int j => some (.int (i + j))
  | .str a, .str b => catS a b
  | .tup xs, .tup ys => if xs.length + ys.length ≤ lim then some (.tup (xs ++ ys)) else none
  | .lst xs, .lst ys => if xs.length + ys.length ≤ lim then some (.lst (xs ++ ys)) else none
  | .obj i, .lst ys => match S[i]? with
    | some (.lst xs) => if xs.length + ys.length ≤ lim then some (.lst (xs ++ ys)) else none
    | _ => none
  | .lst xs, .obj j => match S[j]? with
    | some (.lst ys) => if xs.length + ys.length ≤ lim then some (.lst (xs ++ ys)) else none
    | _ => none
  | .obj i, .obj j => match S[i]?, S[j]? with
    | some (.lst xs), some (.lst ys) => if xs.length + ys.length ≤ lim then some (.lst (xs ++ ys)) else none
    | _, _ => none
  | _, _ => none
def subO (_ : Sto) (x y : D) : Option D := match x, y with
  | .int i, .int j => some (.int (i - j))
  | _, _ => none
def mulO (S : Sto) (x y : D) : Option D := match x, y with
  | .int i, .int j => if i.natAbs.log2 + j.natAbs.log2 < 1000000 then some (.int (i * j)) else none
  | .lst xs, .int k => if -(2 ^ 63) ≤ k ∧ k < 2 ^ 63 ∧ xs.length * k.toNat ≤ lim then some (.lst (List.replicate k.toNat xs).flatten) else none
  | _, _ => none
def fdivO (_ : Sto) (x y : D) : Option D := match x, y with
  | .int i, .int j => if 0 < j ∧ j.natAbs.log2 < 9000 then some (.int (i / j)) else none
  | _, _ => none
def modO (_ : Sto) (x y : D) : Option D := match x, y with
  | .int i, .int j => if 0 < j then some (.int (i % j)) else none
  | _, _ => none
def powO (_ : Sto) (x y : D) : Option D := match x, y with
  | .int i, .int j => if 0 ≤ j ∧ (Builtin.Int.intBits i : Int) * j ≤ 2 ^ 27 then some (.int (i ^ j.toNat)) else none
  | _, _ => none
def negO (_ : Sto) (x : D) : Option D := match x with
  | .int i => some (.int (-i))
  | _ => none

section
variable {U : Uv} {M : Mp} {H : Hp} {S : Sto}
theorem Rep.intV {v : V} {i : Int} (h : Rep U M H v (.int i)) : v = .int i := by cases h; rfl
theorem Rep.strV {v : V} {x : Str} (h : Rep U M H v (.str x)) : v = .str x := by cases h; rfl
theorem Rep.blV {v : V} {b : Bool} (h : Rep U M H v (.bl b)) : v = .bl b := by cases h; rfl
theorem Rep.nonV {v : V} (h : Rep U M H v .non) : v = .non := by cases h; rfl
theorem Rep.tyV {v : V} {n : String} (h : Rep U M H v (.ty n)) : v = .ty n := by cases h; rfl
theorem Rep.tupV {v : V} {ds : List D} (h : Rep U M H v (.tup ds)) : ∃ a xs, v = .ref a ∧ TupAt U.K M H a xs ∧ RepAll U M H xs ds := by cases h with | tup h r => exact ⟨_, _, rfl, h, r⟩
theorem Rep.lstV {v : V} {ds : List D} (h : Rep U M H v (.lst ds)) : ∃ a xs, v = .ref a ∧ H a = some (.lst xs) ∧ RepAll U M H xs ds := by cases h with | lst h r => exact ⟨_, _, rfl, h.1, r⟩
theorem Rep.objL {v : V} {i : Nat} {ds : List D} (r : R U M S H) (h : Rep U M H v (.obj i)) (e : S[i]? = some (.lst ds)) : ∃ a xs, v = .ref a ∧ H a = some (.lst xs) ∧ RepAll U M H xs ds ∧ a = M.at_ i ∧ i < M.n := by
  cases h with
  | obj hi =>
    obtain ⟨vs, h1, h2⟩ := r.at_ _ _ e
    exact ⟨_, vs, rfl, h1, h2, rfl, hi⟩
theorem Rep.toTup {a : Addr} {xs : List V} {ds : List D} (h : TupAt U.K M H a xs) (r : RepAll U M H xs ds) : Rep U M H (.ref a) (.tup ds) := .tup h r
end

section
variable {X : Cx} {U : Uv}
theorem ofR {f : Value → Value → Sem Value} {g : Sto → D → D → Option D} (r : R2) (h : OpR X f r) (k : ∀ M S H x y dx dy d Q, R U M S H → Rep U M H x dx → Rep U M H y dy → g S dx dy = some d → Gives U M S H d Q → r x y H Q) : OpD U X f g := ⟨r, h, k⟩
theorem nil_iff {U : Uv} {M : Mp} {H : Hp} {xs : List V} {ds : List D} (r : RepAll U M H xs ds) : xs = [] ↔ ds = [] := by cases r <;> simp
theorem o_add (hK : X.K = U.K := by rfl) : OpD U X (binaryOp .Add) addO := by
  refine ofR _ (op_add.or (op_add_str.or (op_catA.or op_cat))) fun M S H x y dx dy d Q r hx hy e g => ?_
  have lists : ∀ (a b : Addr) (xs ys : List V) (ds es : List D), x = .ref a → y = .ref b → H a = some (.lst xs) → H b = some (.lst ys) → RepAll U M H xs ds → RepAll U M H ys es →
      (if ds.length + es.length ≤ lim then some (D.lst (ds ++ es)) else none) = some d → rCat x y H Q := fun a b xs ys ds es ex ey ha hb ra rb he => by
    by_cases hl : ds.length + es.length ≤ lim
    · rw [if_pos hl] at he
      cases he
      exact ⟨a, b, xs, ys, ex, ey, ha, hb, lim_line (by rw [ra.length, rb.length]; exact hl), fun p hp => g.lst r (ra.append rb) hp⟩
    · rw [if_neg hl] at he; cases he
  unfold addO at e
  split at e
  · cases e
    exact .inl ⟨_, _, hx.intV, hy.intV, g.here r (.int _)⟩
  · rename_i a b
    unfold catS at e
    by_cases hl : a.length + b.length ≤ lim
    · rw [if_pos hl] at e
      cases e
      exact .inr (.inl ⟨_, _, hx.strV, hy.strV, lim_line hl, g.here r (.str _)⟩)
    · rw [if_neg hl] at e; cases e
  · rename_i ds es
    by_cases hl : ds.length + es.length ≤ lim
    · rw [if_pos hl] at e
      cases e
      obtain ⟨a, xs, rfl, ha, ra⟩ := hx.tupV
      obtain ⟨b, ys, rfl, hb, rb⟩ := hy.tupV
      refine .inr (.inr (.inl ⟨a, b, xs, ys, rfl, rfl, by rw [hK]; exact ha.sq, by rw [hK]; exact hb.sq, lim_line (by rw [ra.length, rb.length]; exact hl), fun en => ?_, fun en em => ?_, fun _ _ p hp => g.tup r (ra.append rb) hp⟩))
      · have : ds = [] := (nil_iff ra).mp en
        subst this
        exact g.here r (.tup hb rb)
      · have : es = [] := (nil_iff rb).mp em
        subst this
        rw [List.append_nil] at g
        exact g.here r (.tup ha ra)
    · rw [if_neg hl] at e; cases e
  · obtain ⟨a, xs, rfl, ha, ra⟩ := hx.lstV
    obtain ⟨b, ys, rfl, hb, rb⟩ := hy.lstV
    exact .inr (.inr (.inr (lists a b xs ys _ _ rfl rfl ha hb ra rb e)))
  · split at e
    · rename_i q
      obtain ⟨a, xs, rfl, ha, ra, _⟩ := hx.objL r q
      obtain ⟨b, ys, rfl, hb, rb⟩ := hy.lstV
      exact .inr (.inr (.inr (lists a b xs ys _ _ rfl rfl ha hb ra rb e)))
    · cases e
  · split at e
    · rename_i q
      obtain ⟨a, xs, rfl, ha, ra⟩ := hx.lstV
      obtain ⟨b, ys, rfl, hb, rb, _⟩ := hy.objL r q
      exact .inr (.inr (.inr (lists a b xs ys _ _ rfl rfl ha hb ra rb e)))
    · cases e
  · split at e
    · rename_i q1 q2
      obtain ⟨a, xs, rfl, ha, ra, _⟩ := hx.objL r q1
      obtain ⟨b, ys, rfl, hb, rb, _⟩ := hy.objL r q2
      exact .inr (.inr (.inr (lists a b xs ys _ _ rfl rfl ha hb ra rb e)))
    · cases e
  · cases e
theorem o_sub : OpD U X (binaryOp .Sub) subO := ofR _ op_sub fun M S H x y dx dy d Q r hx hy e g => by
  unfold subO at e
  split at e
  · cases e; exact ⟨_, _, hx.intV, hy.intV, g.here r (.int _)⟩
  · cases e
theorem RepAll.rep {M : Mp} {H : Hp} {xs : List V} {ds : List D} (h : RepAll U M H xs ds) : ∀ k : Nat, RepAll U M H (List.replicate k xs).flatten (List.replicate k ds).flatten
  | 0 => .nil
  | k + 1 => by
    rw [List.replicate_succ, List.replicate_succ, List.flatten_cons, List.flatten_cons]
    exact h.append (RepAll.rep h k)
theorem o_mul : OpD U X (binaryOp .Mult) mulO := ofR _ (op_mulW.or op_rep) fun M S H x y dx dy d Q r hx hy e g => by
  unfold mulO at e
  split at e
  · split at e
    · rename_i hc
      cases e; exact .inl ⟨_, _, hx.intV, hy.intV, hc, g.here r (.int _)⟩
    · cases e
  · split at e
    · rename_i hc
      cases e
      obtain ⟨a, xs, rfl, ha, ra⟩ := hx.lstV
      exact .inr ⟨a, _, xs, rfl, hy.intV, ha, hc.1, hc.2.1, lim_line (by rw [ra.length]; exact hc.2.2), fun p hp => g.lst r (ra.rep _) hp⟩
    · cases e
  · cases e
theorem o_fdiv : OpD U X (binaryOp .FloorDiv) fdivO := ofR _ op_fdivW fun M S H x y dx dy d Q r hx hy e g => by
  unfold fdivO at e
  split at e
  · split at e
    · rename_i hc
      cases e; exact ⟨_, _, hx.intV, hy.intV, hc, g.here r (.int _)⟩
    · cases e
  · cases e
theorem o_mod : OpD U X (binaryOp .Mod) modO := ofR _ op_mod fun M S H x y dx dy d Q r hx hy e g => by
  unfold modO at e
  split at e
  · split at e
    · rename_i hc
      cases e; exact ⟨_, _, hx.intV, hy.intV, hc, g.here r (.int _)⟩
    · cases e
  · cases e
def CPowW (i j : Int) : Prop := 0 ≤ j ∧ (Builtin.Int.intBits i : Int) * j ≤ 2 ^ 27
theorem op_powW : OpR X (binaryOp .Pow) (rI CPowW fun i j => .int (i ^ j.toNat)) := opI fun i j t u s Q E h q => PyProof.Rows.pow_int h.1 h.2 q
theorem o_pow : OpD U X (binaryOp .Pow) powO := ofR _ op_powW fun M S H x y dx dy d Q r hx hy e g => by
  unfold powO at e
  split at e
  · split at e
    · rename_i hc
      cases e; exact ⟨_, _, hx.intV, hy.intV, hc, g.here r (.int _)⟩
    · cases e
  · cases e
theorem u_neg : UnD U X (unaryOp .USub) negO := ⟨_, un_neg, fun M S H x dx d Q r hx e g => by
  unfold negO at e
  split at e
  · cases e; exact ⟨_, hx.intV, g.here r (.int _)⟩
  · cases e⟩

/-! ### is None; order -/
def isNon : D → Bool
  | .non => true
  | _ => false
def isNO (_ : Sto) (x y : D) : Option D := match y with
  | .non => some (.bl (isNon x))
  | _ => none
def notNO (_ : Sto) (x y : D) : Option D := match y with
  | .non => some (.bl (!isNon x))
  | _ => none
theorem Rep.isN {M : Mp} {H : Hp} {v : V} {d : D} (h : Rep U M H v d) : decide (v = .non) = isNon d := by cases h <;> simp [isNon]
theorem o_is : OpD U X (compareOp .Is) isNO := ofR _ op_isN fun M S H x y dx dy d Q r hx hy e g => by
  unfold isNO at e
  split at e
  · cases e
    exact ⟨hy.nonV, by rw [hx.isN]; exact g.here r (.bl _)⟩
  · cases e
theorem o_isnot : OpD U X (compareOp .IsNot) notNO := ofR _ op_notN fun M S H x y dx dy d Q r hx hy e g => by
  unfold notNO at e
  split at e
  · cases e
    refine ⟨hy.nonV, ?_⟩
    rw [hx.isN]
    exact g.here r (.bl _)
  · cases e
/-- two data that < takes -/
def okLt (x y : D) : Bool := PySem.W.alike (toPy x) (toPy y) && (match x with | .non => false | _ => true) && decide (min (dep x) (dep y) ≤ 60) && pl x && pl y
def dlt (x y : D) : Bool := PySem.W.dataLt (toPy x) (toPy y)
def ltO (S : Sto) (x y : D) : Option D := if okLt (resD S x) (resD S y) then some (.bl (dlt (resD S x) (resD S y))) else none
def gtO (S : Sto) (x y : D) : Option D := if okLt (resD S x) (resD S y) then some (.bl (dlt (resD S y) (resD S x))) else none
def leO (S : Sto) (x y : D) : Option D := if okLt (resD S x) (resD S y) then some (.bl (!dlt (resD S y) (resD S x))) else none
def geO (S : Sto) (x y : D) : Option D := if okLt (resD S x) (resD S y) then some (.bl (!dlt (resD S x) (resD S y))) else none
def rLtD (K : PySem.W.Frag) (A : Around) (f : PyData → PyData → Bool) : R2 := fun x y H Q => ∃ d e, Dp K H x d ∧ Dp K H y e ∧ PySem.W.alike d e = true ∧ d ≠ .none ∧ A.units + min d.depth e.depth < cLine ∧ Q (.bl (f d e)) H
theorem okLt_of {k : Nat} {A : Around} {a b : D} (hr : Room k A) (h : okLt a b = true) : PySem.W.alike (toPy a) (toPy b) = true ∧ toPy a ≠ .none ∧ A.units + min (toPy a).depth (toPy b).depth < cLine ∧ pl a = true ∧ pl b = true := by
  unfold okLt at h
  simp only [Bool.and_eq_true, decide_eq_true_eq] at h
  obtain ⟨⟨⟨⟨h1, h2⟩, h3⟩, h4⟩, h5⟩ := h
  refine ⟨h1, ?_, ?_, h4, h5⟩
  · intro e
    cases a <;> simp [toPy] at e h2
  · have := hr.un
    have h2 : min (toPy a).depth (toPy b).depth ≤ 60 := h3
    omega
theorem o_ltD {k : Nat} {op : CmpOp} {f : PyData → PyData → Bool} {g : Sto → D → D → Option D} (hr : Room k X.A)
    (rule : ∀ {A : Around} {E : Value → Shared → Prop} {s : Shared} {a b : Value} {da db : PyData} {as bs : List Addr} {Q : Value → Shared → Prop}, Reads s.heap a da as → Reads s.heap b db bs → PySem.W.alike da db = true → da ≠ .none → A.units + min da.depth db.depth < cLine → Q (.bool (f da db)) s → wpAny (model X.prog X.w) A (compareOp op a b) Q E s)
    (hg : ∀ S x y, g S x y = if okLt (resD S x) (resD S y) then some (.bl (f (toPy (resD S x)) (toPy (resD S y)))) else none) (hK : X.K = U.K) : OpD U X (compareOp op) g :=
  ofR (rLtD X.K X.A f) (fun pins s σ H x y v u Q I rx ry ⟨d, e, hd, he, hal, hn, hu, q⟩ => by
    obtain ⟨as, r1⟩ := Dp.reads I d x v hd rx
    obtain ⟨bs, r2⟩ := Dp.reads I e y u he ry
    exact rule r1 r2 hal hn hu ⟨.bl _, H, I, rfl, q⟩) fun M S H x y dx dy d Q r hx hy e g => by
    rw [hg] at e
    by_cases hk : okLt (resD S dx) (resD S dy) = true
    · rw [if_pos hk] at e
      cases e
      obtain ⟨h1, h2, h3, h4, h5⟩ := okLt_of hr hk
      rw [hK]
      exact ⟨_, _, hx.res r h4, hy.res r h5, h1, h2, h3, g.here r (.bl _)⟩
    · rw [if_neg hk] at e; cases e
theorem o_lt {k : Nat} (hr : Room k X.A) (hK : X.K = U.K := by rfl) : OpD U X (compareOp .Lt) ltO := o_ltD (f := fun a b => PySem.W.dataLt a b) hr (fun a b c d e f => PySem.W.lt_data a b c d e f) (fun _ _ _ => rfl) hK
theorem o_gt {k : Nat} (hr : Room k X.A) (hK : X.K = U.K := by rfl) : OpD U X (compareOp .Gt) gtO := o_ltD (f := fun a b => PySem.W.dataLt b a) hr (fun a b c d e f => PySem.W.gt_data a b c d e f) (fun _ _ _ => rfl) hK
theorem o_le {k : Nat} (hr : Room k X.A) (hK : X.K = U.K := by rfl) : OpD U X (compareOp .LtE) leO := o_ltD (f := fun a b => !PySem.W.dataLt b a) hr (fun a b c d e f => PySem.W.le_data a b c d e f) (fun _ _ _ => rfl) hK
theorem o_ge {k : Nat} (hr : Room k X.A) (hK : X.K = U.K := by rfl) : OpD U X (compareOp .GtE) geO := o_ltD (f := fun a b => !PySem.W.dataLt a b) hr (fun a b c d e f => PySem.W.ge_data a b c d e f) (fun _ _ _ => rfl) hK
end
end DL
/-! DL2c: in, built-ins, subscripts, slices, isinstance by data. -/
namespace PySem.SeqAt
open AutoSeq1 (wpAny_loadPart')
open MeetsSeq
theorem dl_tuple_declines_dict (l b : Addr) (items : Array Value) (n : Nat) (dd dd2 : Option Addr) (sl sl2 : Array (Option Value)) (es : Array DictEntry) (ep : Nat) :
    Meets (Builtin.«tuple.__eq__» ⟨[.ref l, .ref b], []⟩) (fun _ R s => s.heap.get? l = some { cls := .type "tuple", dict := dd, data := .seq items n, slots := sl } ∧ s.heap.get? b = some { cls := .type "dict", dict := dd2, data := .dict es ep, slots := sl2 } ∧ R (.ok (.ret .notImplemented)) s) :=
  .of_wp fun prog w A R s h => by obtain ⟨hp, g, d, tk, os⟩ := s; obtain ⟨hl, hb, h⟩ := h; have f1 := F.sub_dict_tuple; wp_walk using wpAny_loadPart' hl, wpAny_loadPart' hb; exact ⟨_, rfl, h⟩
theorem dl_dict_declines_tuple (l b : Addr) (items : Array Value) (n : Nat) (dd dd2 : Option Addr) (sl sl2 : Array (Option Value)) (es : Array DictEntry) (ep : Nat) :
    Meets (Builtin.«dict.__eq__» ⟨[.ref b, .ref l], []⟩) (fun _ R s => s.heap.get? l = some { cls := .type "tuple", dict := dd, data := .seq items n, slots := sl } ∧ s.heap.get? b = some { cls := .type "dict", dict := dd2, data := .dict es ep, slots := sl2 } ∧ R (.ok (.ret .notImplemented)) s) :=
  .of_wp fun prog w A R s h => by obtain ⟨hp, g, d, tk, os⟩ := s; obtain ⟨hl, hb, h⟩ := h; have f1 := F.sub_tuple_dict; wp_walk using wpAny_loadPart' hl, wpAny_loadPart' hb; exact ⟨_, rfl, h⟩
section
variable {A : Around} {s : Shared}
theorem dl_RcAt_tuple_dict {l b : Addr} {items : Array Value} {dd2 : Option Addr} {sl2 : Array (Option Value)} {es : Array DictEntry} {ep : Nat} (hl : s.heap.IsTuple l items) (ho2 : s.heap.get? b = some { cls := .type "dict", dict := dd2, data := .dict es ep, slots := sl2 }) (hu : A.units < cLine) : RcAt A s (.ref l) (.ref b) false := fun prog w E Q h => by
  obtain ⟨⟨cls, dd, data, sl⟩, ho, hc, n, hd⟩ := id hl
  simp only at hc hd
  subst hc hd
  have hne : l ≠ b := fun e => by
    subst e
    rw [ho] at ho2
    have := congrArg Obj.cls (Option.some.inj ho2)
    simp at this
  exact (rc_eq_decline_or (k := false) ⟨_, ho, rfl⟩ ⟨_, ho2, rfl⟩ (by decide) F.sub_dict_tuple F.slot_tuple_eq F.slot_dict_eq_refl
    (fun _ hq => call_meets F.slot_tuple_eq ⟨_, ho, rfl⟩ F.entry_tuple_eq (F.args_tuple_eq_2 _ _) (dl_tuple_declines_dict l b items n dd dd2 sl sl2 es ep) ⟨ho, ho2, hq⟩)
    (fun _ hq => call_meets F.slot_dict_eq_refl ⟨_, ho2, rfl⟩ F.entry_dict_eq (F.args_dict_eq_2 _ _) (dl_dict_declines_tuple l b items n dd dd2 sl sl2 es ep) ⟨ho, ho2, hq⟩)
    (fun _ hq => wpAny_isSame_ref_other' hne ho ho2 (by simp) hq) (.inr hu) h)
theorem dl_EqAt_tuple_dict {l b : Addr} {items : Array Value} {dd2 : Option Addr} {sl2 : Array (Option Value)} {es : Array DictEntry} {ep : Nat} (hl : s.heap.IsTuple l items) (ho2 : s.heap.get? b = some { cls := .type "dict", dict := dd2, data := .dict es ep, slots := sl2 }) (hu : A.units < cLine) : EqAt A s (.ref l) (.ref b) false :=
  .of_refs (fun e => by
    obtain ⟨o, ho, hc, n, hd⟩ := id hl
    subst e
    rw [ho] at ho2
    have e2 := Option.some.inj ho2
    rw [e2] at hc
    simp at hc) (dl_RcAt_tuple_dict hl ho2 hu)
end
end PySem.SeqAt
namespace DL
open PySem L2

def isTup : D → Bool
  | .tup _ => true
  | _ => false
def isDct0 : D → Bool
  | .dct [] => true
  | _ => false
/-- x in c: the items of a list or a tuple; one sign of a text, or a text in a text -/
def inS (x z : Str) : Bool := !(Builtin.Str.occurrences z x 0 z.length 1).isEmpty
def okIn (ys : List D) (x : D) : Bool := (PyData.plainAll (toPyAll ys) && pl x && decide (min (PyData.depthAll (toPyAll ys)) (dep x) ≤ 60)) || (isDct0 x && ys.all isTup)
def inO (S : Sto) (x c : D) : Option Bool := match c with
  | .str z => match x with
    | .str y => some (inS y z)
    | _ => none
  | c => match seqD S c with
    | some ys => if okIn ys x then some (ys.any fun y => deq y x) else none
    | none => none
def inD (S : Sto) (x c : D) : Option D := (inO S x c).map .bl
def ninD (S : Sto) (x c : D) : Option D := (inO S x c).map fun b => .bl (!b)
def rIn1 (K : PySem.W.Frag) (A : Around) (neg : Bool) : R2 := fun x c H Q => ∃ d xs, Dp K H x d ∧ (Dp K H c (.list xs) ∨ Dp K H c (.tuple xs)) ∧ d.plain = true ∧ PyData.plainAll xs = true ∧ A.units + 1 + min (PyData.depthAll xs) d.depth < cLine ∧ Q (.bl (if neg = true then !(xs.any fun y => PyData.eqv y d) else xs.any fun y => PyData.eqv y d)) H
def rIn2 (K : PySem.W.Frag) (A : Around) (neg : Bool) : R2 := fun x c H Q => ∃ a l xs, x = .ref a ∧ c = .ref l ∧ H a = some (.dK []) ∧ (SqT K H l xs ∨ SqL K H l xs) ∧ (∀ v ∈ xs, ∃ b ys, v = .ref b ∧ SqT K H b ys) ∧ A.units + 1 < cLine ∧ Q (.bl neg) H
section
variable {X : Cx} {U : Uv} {k : Nat}
theorem toPyAll_any (f : PyData → Bool) : ∀ ys : List D, (toPyAll ys).any f = ys.any fun y => f (toPy y)
  | [] => rfl
  | y :: ys => by
    show (f (toPy y) || (toPyAll ys).any f) = (f (toPy y) || ys.any fun y => f (toPy y))
    rw [toPyAll_any f ys]
theorem op_in1 (neg : Bool) : OpR X (compareOp (if neg = true then .NotIn else .In)) (rIn1 X.K X.A neg) := fun pins s σ H x y v u Q I rx ry ⟨d, xs, hd, hc, pd, pxs, hu, q⟩ => by
  obtain ⟨bs, r2⟩ := Dp.reads I d x v hd rx
  rcases hc with hc | hc
  · obtain ⟨as, r1⟩ := Dp.reads I _ y u hc ry
    cases neg with
    | false => exact SeqAt.in_list_data r1 r2 pxs pd hu ⟨.bl _, H, I, rfl, q⟩
    | true => exact SeqAt.notIn_list_data r1 r2 pxs pd hu ⟨.bl _, H, I, rfl, q⟩
  · obtain ⟨as, r1⟩ := Dp.reads I _ y u hc ry
    cases neg with
    | false => exact SeqAt.in_tuple_data r1 r2 pxs pd hu ⟨.bl _, H, I, rfl, q⟩
    | true => exact SeqAt.notIn_tuple_data r1 r2 pxs pd hu ⟨.bl _, H, I, rfl, q⟩
theorem anyF {us : Array Value} : us.any (fun _ => false) = false := by
  rw [← Array.any_toList]; simp
theorem vals_mem : ∀ {xs : List V} {us : List Value} {u : Value}, Vals xs us → u ∈ us → ∃ v, v ∈ xs ∧ RelV v u
  | _, _, _, .nil, h => nomatch h
  | x :: xs, _, u, .cons r t, h => by
    rcases List.mem_cons.mp h with rfl | h
    · exact ⟨x, List.mem_cons_self, r⟩
    · obtain ⟨v, hv, rv⟩ := vals_mem t h
      exact ⟨v, List.mem_cons_of_mem _ hv, rv⟩
theorem op_in2 (neg : Bool) : OpR X (compareOp (if neg = true then .NotIn else .In)) (rIn2 X.K X.A neg) := fun pins s σ H x y v u Q I rx ry ⟨a, l, xs, ex, ey, ha, hs, hi, hu, q⟩ => by
  subst ex ey
  obtain rfl : v = Value.ref a := rx
  obtain rfl : u = Value.ref l := ry
  obtain ⟨_, _, vs, _, o, es, ep, ho, ext, hdat, _⟩ := I.hok _ _ ha
  obtain ⟨e1, e2, e3⟩ := ext
  obtain ⟨cls, dd, data, sl⟩ := o
  simp only at e1 e2 e3 hdat
  subst e1 e2 e3 hdat
  have eqs : ∀ {its : List Value}, Vals xs its → ∀ y, y ∈ its.toArray → SeqAt.EqAt X.A.in1 s y (.ref a) ((fun _ => false : Value → Bool) y) := fun {its} r y hy => by
    obtain ⟨w, hw, rw'⟩ := vals_mem r (by simpa using hy)
    obtain ⟨b, ys, rfl, hb⟩ := hi w hw
    obtain rfl : y = Value.ref b := rw'
    obtain ⟨its', _, tp, _⟩ := I.tuple hb
    exact SeqAt.dl_EqAt_tuple_dict tp ho hu
  rcases hs with hs | hs
  · obtain ⟨its, r, tp, _⟩ := I.tuple hs
    cases neg with
    | false => exact SeqAt.in_tupleAt _ tp (eqs r) (by rw [anyF]; exact ⟨.bl _, H, I, rfl, q⟩)
    | true => exact SeqAt.notIn_tupleAt _ tp (eqs r) (by rw [anyF]; exact ⟨.bl _, H, I, rfl, q⟩)
  · obtain ⟨its, r, tp, _⟩ := I.list hs
    cases neg with
    | false => exact SeqAt.in_listAt _ (PlainL.isList tp) (eqs r) (by rw [anyF]; exact ⟨.bl _, H, I, rfl, q⟩)
    | true => exact SeqAt.notIn_listAt _ (PlainL.isList tp) (eqs r) (by rw [anyF]; exact ⟨.bl _, H, I, rfl, q⟩)
theorem op_in3 (neg : Bool) : OpR X (compareOp (if neg = true then .NotIn else .In)) (fun x y H Q => ∃ i j, x = .str i ∧ y = .str j ∧ Q (.bl (if neg = true then !(inS i j) else inS i j)) H) := by
  cases neg with
  | false => exact fun pins s σ H x y v u Q I rx ry ⟨i, j, h1, h2, q⟩ => op_in_str pins s σ H x y v u Q I rx ry ⟨i, j, h1, h2, q⟩
  | true => exact fun pins s σ H x y v u Q I rx ry ⟨i, j, h1, h2, q⟩ => L2.op_notIn_str pins s σ H x y v u Q I rx ry ⟨i, j, h1, h2, q⟩
theorem in_read {M : Mp} {S : Sto} {H : Hp} {x y : V} {dx dy : D} {b : Bool} {Q : VK} (hr : Room k X.A) (hK : X.K = U.K) (neg : Bool) (r : R U M S H) (hx : Rep U M H x dx) (hy : Rep U M H y dy) (e : inO S dx dy = some b) (q : Q (.bl (if neg = true then !b else b)) H) :
    rIn1 X.K X.A neg x y H Q ∨ rIn2 X.K X.A neg x y H Q ∨ ∃ i j, x = .str i ∧ y = .str j ∧ Q (.bl (if neg = true then !(inS i j) else inS i j)) H := by
  have seq : ∀ ys, seqD S dy = some ys → (if okIn ys dx = true then some (ys.any fun y => deq y dx) else none) = some b → rIn1 X.K X.A neg x y H Q ∨ rIn2 X.K X.A neg x y H Q := fun ys es e => by
    by_cases hk : okIn ys dx = true
    · rw [if_pos hk] at e
      cases e
      have hun := hr.un
      unfold okIn at hk
      rw [Bool.or_eq_true] at hk
      rcases hk with hk | hk
      · simp only [Bool.and_eq_true, decide_eq_true_eq] at hk
        refine .inl ⟨toPy dx, toPyAll ys, by rw [hK]; exact hx.dp hk.1.2, ?_, hk.1.2, hk.1.1, ?_, ?_⟩
        · obtain ⟨a, xs, rfl, hs, ra⟩ := hy.seq r es
          rw [hK]
          rcases hs with hs | hs
          · exact .inr (.tup hs (RepAll.dp ra hk.1.1))
          · exact .inl (.lst hs (RepAll.dp ra hk.1.1))
        · have : min (PyData.depthAll (toPyAll ys)) (toPy dx).depth ≤ 60 := hk.2
          omega
        · rw [toPyAll_any]; exact q
      · rw [Bool.and_eq_true] at hk
        obtain ⟨h1, h2⟩ := hk
        cases hx with
        | dct0 hd nd =>
          obtain ⟨l, xs, rfl, hs, ra⟩ := hy.seq r es
          have hany : (ys.any fun y => deq y (.dct [])) = false := by
            rw [List.any_eq_false]
            intro z hz
            have := List.all_eq_true.mp h2 z hz
            cases z <;> simp [isTup] at this
            simp [deq, toPy, PyData.eqv]
          rw [hany] at q
          refine .inr ⟨_, l, xs, rfl, rfl, hd, by rw [hK]; exact hs, fun v hv => ?_, by omega, by cases neg <;> exact q⟩
          obtain ⟨i, hi⟩ := List.getElem?_of_mem hv
          obtain ⟨d, hd', rd⟩ := ra.getV hi
          have := List.all_eq_true.mp h2 d (List.mem_of_getElem? hd')
          cases rd with
          | tup ht _ => exact ⟨_, _, rfl, by rw [hK]; exact ht.sq⟩
          | _ => cases this
        | _ => cases h1
    · rw [if_neg hk] at e; cases e
  have seq' : (match seqD S dy with
    | some ys => if okIn ys dx then some (ys.any fun y => deq y dx) else none
    | none => none) = some b → rIn1 X.K X.A neg x y H Q ∨ rIn2 X.K X.A neg x y H Q := fun e => by
    cases es : seqD S dy with
    | none => rw [es] at e; cases e
    | some ys => rw [es] at e; exact seq ys es e
  cases dy with
  | str z =>
    simp only [inO] at e
    cases dx with
    | str w => cases e; exact .inr (.inr ⟨w, z, hx.strV, hy.strV, q⟩)
    | _ => cases e
  | _ => exact (seq' e).elim .inl fun z => .inr (.inl z)
theorem o_in (hr : Room k X.A) (hK : X.K = U.K := by rfl) : OpD U X (compareOp .In) inD := ofR _ ((op_in1 false).or ((op_in2 false).or (op_in3 false))) fun M S H x y dx dy d Q r hx hy e g => by
  unfold inD at e
  cases h : inO S dx dy with
  | none => rw [h] at e; cases e
  | some b =>
    rw [h] at e
    cases e
    exact in_read hr hK false r hx hy h (g.here r (.bl _))
theorem o_nin (hr : Room k X.A) (hK : X.K = U.K := by rfl) : OpD U X (compareOp .NotIn) ninD := ofR _ ((op_in1 true).or ((op_in2 true).or (op_in3 true))) fun M S H x y dx dy d Q r hx hy e g => by
  unfold ninD at e
  cases h : inO S dx dy with
  | none => rw [h] at e; cases e
  | some b =>
    rw [h] at e
    cases e
    exact in_read hr hK true r hx hy h (g.here r (.bl _))
end
end DL
/-! DL2d: built-ins, subscripts, slices, isinstance by data. -/
namespace DL
open PySem L2

def lenG (S : Sto) (ds : List D) : Option D := match ds with
  | [.str z] => if z.length ≤ lim then some (.int z.length) else none
  | [d] => (seqD S d).map fun xs => .int xs.length
  | _ => none
def absG (_ : Sto) (ds : List D) : Option D := match ds with
  | [.int i] => some (.int (if i < 0 then -i else i))
  | _ => none
def maxG (_ : Sto) (ds : List D) : Option D := match ds with
  | [.int i, .int j] => some (.int (if j > i then j else i))
  | _ => none
def minG (_ : Sto) (ds : List D) : Option D := match ds with
  | [.int i, .int j] => some (.int (if j < i then j else i))
  | _ => none
def intG (_ : Sto) (ds : List D) : Option D := match ds with
  | [.int i] => some (.int i)
  | [.bl b] => some (.int (if b then 1 else 0))
  | _ => none
def blsD : List D → Option (List Bool)
  | [] => some []
  | .bl b :: r => (blsD r).map (b :: ·)
  | _ => none
def allG (S : Sto) (ds : List D) : Option D := match ds with
  | [.lst xs] => (blsD xs).map fun bs => .bl (bs.all id)
  | _ => none
def anyG (S : Sto) (ds : List D) : Option D := match ds with
  | [.lst xs] => (blsD xs).map fun bs => .bl (bs.any id)
  | _ => none
def listG (S : Sto) (ds : List D) : Option D := match ds with
  | [d] => (seqD S d).map .lst
  | _ => none
def tupleG (S : Sto) (ds : List D) : Option D := match ds with
  | [d] => (seqD S d).map .tup
  | _ => none
def strG (_ : Sto) (ds : List D) : Option D := match ds with
  | [.int i] => if i.natAbs.log2 < 1920 then some (.str (toString i)) else none
  | [.str x] => some (.str x)
  | _ => none

section
variable {U : Uv} {M : Mp} {H : Hp} {S : Sto}
theorem RepAll.one {vs : List V} {d : D} (h : RepAll U M H vs [d]) : ∃ v, vs = [v] ∧ Rep U M H v d := by
  cases h with | cons h r => cases r; exact ⟨_, rfl, h⟩
theorem RepAll.two {vs : List V} {d e : D} (h : RepAll U M H vs [d, e]) : ∃ v w, vs = [v, w] ∧ Rep U M H v d ∧ Rep U M H w e := by
  cases h with | cons h r => cases r with | cons h2 r => cases r; exact ⟨_, _, rfl, h, h2⟩
theorem RepAll.bls : ∀ {vs : List V} {ds : List D} {bs : List Bool}, RepAll U M H vs ds → blsD ds = some bs → vs = bs.map V.bl
  | _, _, _, .nil, e => by cases e; rfl
  | _, d :: ds, bs, .cons h r, e => by
    cases h with
    | bl b =>
      simp only [blsD] at e
      cases q : blsD ds with
      | none => rw [q] at e; cases e
      | some cs =>
        rw [q] at e
        cases e
        rw [RepAll.bls r q]
        rfl
    | _ => simp [blsD] at e
end
section
variable {X : Cx} {U : Uv} {k : Nat}
theorem ofC {f : Value} {g : Sto → List D → Option D} (r : List V → Hp → VK → Prop) (h : CallR X f r) (k : ∀ M S H xs ds d Q, R U M S H → RepAll U M H xs ds → g S ds = some d → Gives U M S H d Q → r xs H Q) : CallD U X f g := ⟨r, h, k⟩
theorem c_len (hK : X.K = U.K := by rfl) : CallD U X (.builtin "len") lenG := ofC _ call_len fun M S H xs ds d Q r hx e g => by
  have sq : ∀ d0 z, ds = [d0] → seqD S d0 = some z → d = .int z.length → ∃ x n, xs = [x] ∧ LenV X.K x H n ∧ Q (.int n) H := fun d0 z e1 e2 e3 => by
    subst e1 e3
    obtain ⟨v, rfl, hv⟩ := hx.one
    obtain ⟨a, us, rfl, hs, ra⟩ := hv.seq r e2
    rw [hK]
    refine ⟨_, z.length, rfl, ?_, g.here r (.int _)⟩
    rcases hs with hs | hs
    · exact .inr ⟨us, hs, ra.length.symm⟩
    · exact .inl ⟨us, hs, ra.length.symm⟩
  unfold lenG at e
  split at e
  · rename_i z
    by_cases hl : z.length ≤ lim
    · rw [if_pos hl] at e
      cases e
      obtain ⟨v, rfl, hv⟩ := hx.one
      cases hv
      exact ⟨_, z.length, rfl, ⟨lim_line hl, rfl⟩, g.here r (.int _)⟩
    · rw [if_neg hl] at e; cases e
  · rename_i d0 _
    cases q : seqD S d0 with
    | none => rw [q] at e; cases e
    | some z => rw [q] at e; exact sq d0 z rfl q (Option.some.inj e).symm
  · cases e
theorem c_abs : CallD U X (.builtin "abs") absG := ofC _ call_abs fun M S H xs ds d Q r hx e g => by
  unfold absG at e
  split at e
  · cases e
    obtain ⟨v, rfl, hv⟩ := hx.one
    cases hv
    exact ⟨_, rfl, g.here r (.int _)⟩
  · cases e
theorem c_max (hc : X.calm = true := by rfl) : CallD U X (.builtin "max") maxG := ofC _ (call_max2 hc) fun M S H xs ds d Q r hx e g => by
  unfold maxG at e
  split at e
  · cases e
    obtain ⟨v, w, rfl, hv, hw⟩ := hx.two
    cases hv; cases hw
    exact ⟨_, _, rfl, g.here r (.int _)⟩
  · cases e
theorem c_min (hc : X.calm = true := by rfl) : CallD U X (.builtin "min") minG := ofC _ (call_min2 hc) fun M S H xs ds d Q r hx e g => by
  unfold minG at e
  split at e
  · cases e
    obtain ⟨v, w, rfl, hv, hw⟩ := hx.two
    cases hv; cases hw
    exact ⟨_, _, rfl, g.here r (.int _)⟩
  · cases e
theorem c_int : CallD U X (.type "int") intG := ofC _ call_int1 fun M S H xs ds d Q r hx e g => by
  unfold intG at e
  split at e
  · cases e
    obtain ⟨v, rfl, hv⟩ := hx.one
    cases hv
    exact .inl ⟨_, rfl, g.here r (.int _)⟩
  · cases e
    obtain ⟨v, rfl, hv⟩ := hx.one
    cases hv
    exact .inr ⟨_, rfl, g.here r (.int _)⟩
  · cases e
theorem c_all (hc : X.calm = true := by rfl) (hK : X.K = U.K := by rfl) : CallD U X (.builtin "all") allG := ofC _ (cr_all hc) fun M S H xs ds d Q r hx e g => by
  unfold allG at e
  split at e
  · rename_i ys
    cases q : blsD ys with
    | none => rw [q] at e; cases e
    | some bs =>
      rw [q] at e
      cases e
      obtain ⟨v, rfl, hv⟩ := hx.one
      cases hv with
      | lst h ra =>
        rw [hK]
        refine ⟨_, bs, rfl, ?_, g.here r (.bl _)⟩
        rw [← ra.bls q]; exact h.sq
  · cases e
theorem c_any (hc : X.calm = true := by rfl) (hK : X.K = U.K := by rfl) : CallD U X (.builtin "any") anyG := ofC _ (cr_any hc) fun M S H xs ds d Q r hx e g => by
  unfold anyG at e
  split at e
  · rename_i ys
    cases q : blsD ys with
    | none => rw [q] at e; cases e
    | some bs =>
      rw [q] at e
      cases e
      obtain ⟨v, rfl, hv⟩ := hx.one
      cases hv with
      | lst h ra =>
        rw [hK]
        refine ⟨_, bs, rfl, ?_, g.here r (.bl _)⟩
        rw [← ra.bls q]; exact h.sq
  · cases e
theorem c_list (hK : X.K = U.K := by rfl) : CallD U X (.type "list") listG := ofC _ call_list_of fun M S H xs ds d Q r hx e g => by
  unfold listG at e
  split at e
  · rename_i d0
    cases q : seqD S d0 with
    | none => rw [q] at e; cases e
    | some z =>
      rw [q] at e
      cases e
      obtain ⟨v, rfl, hv⟩ := hx.one
      obtain ⟨a, us, rfl, hs, ra⟩ := hv.seq r q
      rw [hK]
      exact ⟨a, us, rfl, hs.symm, fun l hl => g.lst r ra hl⟩
  · cases e
theorem c_tuple (hK : X.K = U.K := by rfl) : CallD U X (.type "tuple") tupleG := ofC _ call_tuple_of fun M S H xs ds d Q r hx e g => by
  unfold tupleG at e
  split at e
  · rename_i d0
    cases q : seqD S d0 with
    | none => rw [q] at e; cases e
    | some z =>
      rw [q] at e
      cases e
      obtain ⟨v, rfl, hv⟩ := hx.one
      rw [hK]
      cases hv with
      | tup h ra => cases q; exact ⟨_, _, rfl, .inr ⟨h.sq, g.here r (.tup h ra)⟩⟩
      | lst h ra => cases q; exact ⟨_, _, rfl, .inl ⟨h.sq, fun l hl => g.tup r ra hl⟩⟩
      | fz h ra => cases q; exact ⟨_, _, rfl, .inl ⟨h.sq, fun l hl => g.tup r ra hl⟩⟩
      | obj hi =>
        rename_i i
        cases qs : S[i]? with
        | none => simp only [seqD, qs] at q; cases q
        | some o =>
          simp only [seqD, qs] at q
          cases o with
          | lst zs =>
            cases q
            obtain ⟨vs, h1, h2⟩ := r.at_ _ _ qs
            exact ⟨_, vs, rfl, .inl ⟨.inl (.inl h1), fun l hl => g.tup r h2 hl⟩⟩
          | ins c fs => cases q
      | _ => cases q
  · cases e
theorem call_str1 : CallR X (.type "str") (fun xs H Q => ∃ i, xs = [.int i] ∧ i.natAbs.log2 < 1920 ∧ Q (.str (toString i)) H) := call_str_int
/-! ### subscripts -/
def ixO (S : Sto) (x y : D) : Option D := match y with
  | .int i => match x with
    | .str z => if z.length ≤ lim then (atI z.cps.toList i).map fun c => .str ⟨#[c]⟩ else none
    | d => (seqD S d).bind fun xs => atI xs i
  | _ => none
theorem RepAll.atI {M : Mp} {H : Hp} {xs : List V} {ds : List D} {i : Int} {d : D} (h : RepAll U M H xs ds) (e : L2.atI ds i = some d) : ∃ v, L2.atI xs i = some v ∧ Rep U M H v d := by
  unfold L2.atI at e ⊢
  rw [h.length]
  cases q : ixN ds.length i with
  | none => rw [q] at e; cases e
  | some j => rw [q] at e; exact h.get e
theorem i_ix (hK : X.K = U.K := by rfl) : IxD U X ixO := ⟨rIx X.K, ix_seq, fun M S H x y dx dy d Q r hx hy e g => by
  unfold ixO at e
  split at e
  · rename_i i
    obtain rfl := hy.intV
    have sq : (seqD S dx).bind (fun xs => L2.atI xs i) = some d → rIx X.K x (.int i) H Q := fun e => by
      cases q : seqD S dx with
      | none => rw [q] at e; cases e
      | some zs =>
        rw [q] at e
        obtain ⟨a, us, rfl, hs, ra⟩ := hx.seq r q
        obtain ⟨v, hv, rv⟩ := RepAll.atI ra e
        rw [hK]
        rcases hs with hs | hs
        · exact .inr (.inl ⟨a, us, i, v, rfl, rfl, hs, hv, g.here r rv⟩)
        · exact .inl ⟨a, us, i, v, rfl, rfl, hs, hv, g.here r rv⟩
    cases dx with
    | str z =>
      by_cases hl : z.length ≤ lim
      · simp only [if_pos hl] at e
        cases q : L2.atI z.cps.toList i with
        | none => rw [q] at e; cases e
        | some c =>
          rw [q] at e
          cases e
          exact .inr (.inr ⟨z, i, c, hx.strV, rfl, lim_line hl, q, g.here r (.str _)⟩)
      · simp only [if_neg hl] at e; cases e
    | _ => exact sq e
  · cases e⟩
/-! ### slices -/
variable {W : WX} {e : Expr} {m : ME} {lo hi : Option Expr} {ml mh : MO} {pos p2 : Pos}
theorem e_slice (h : PE X e (tE U W m)) (hl : PO X lo (tO U W ml)) (hh : PO X hi (tO U W mh)) (hK : X.K = U.K := by rfl) : PE X (.Subscript e (.Slice lo hi none p2) pos) (tE U W (mSl m ml mh)) :=
  pe_imp (pe_slice (sl_list.or (sl_tupA.or sl_str)) h hl hh) fun σ H Q ⟨M, S, ρ, A, p⟩ =>
    tX.bind A p fun x S1 M1 H1 v e1 A1 r1 p1 => tX.bind A1 p1 fun l S2 M2 H2 lv e2 A2 r2 p2 => tX.bind A2 p2 fun u S3 M3 H3 uv e3 A3 r3 p3 => by
      subst r2 r3
      obtain ⟨d, ed, g⟩ := ofO_post p3
      have hv := (r1.ext e2).ext e3
      have lists : ∀ a us zs, v = .ref a → SqL U.K H3 a us → RepAll U M3 H3 us zs → d = .lst (cutD zs lv uv) → rSlL X.K v lv uv H3 Q := fun a us zs ev hs ra ed => by
        subst ed
        rw [hK]
        exact ⟨a, us, ev, hs, fun q hq => Gives.lst g A3.r (ra.cut _ _) hq⟩
      cases hv with
      | tup ht ra =>
        cases ed
        rename_i a0 xs0 ds0
        refine .inr (.inl ⟨_, _, rfl, by rw [hK]; exact ht.sq, fun hw => ?_, fun _ q hq => Gives.tup g A3.r (ra.cut _ _) hq⟩)
        have hd : cutD ds0 lv uv = ds0 := by
          unfold cutD
          rw [← ra.length, hw.1, hw.2]
          rw [List.drop_zero, Nat.sub_zero, ra.length, List.take_length]
        rw [hd] at g
        exact Gives.here g A3.r (.tup ht ra)
      | str z =>
        simp only [slD] at ed
        by_cases hl : z.length ≤ lim
        · rw [if_pos hl] at ed
          cases ed
          exact .inr (.inr ⟨z, rfl, lim_line hl, Gives.here g A3.r (.str _)⟩)
        · rw [if_neg hl] at ed; cases ed
      | lst ht ra => cases ed; exact .inl (lists _ _ _ rfl ht.sq ra rfl)
      | fz ht ra => cases ed; exact .inl (lists _ _ _ rfl ht.sq ra rfl)
      | obj hi =>
        rename_i i
        change (seqD S3 (.obj i)).map _ = _ at ed
        cases qs : S3[i]? with
        | none => simp only [seqD, qs] at ed; cases ed
        | some o =>
          simp only [seqD, qs] at ed
          cases o with
          | lst zs =>
            cases ed
            obtain ⟨vs, h1, h2⟩ := A3.r.at_ _ _ qs
            exact .inl (lists _ vs zs rfl (.inl (.inl h1)) h2 rfl)
          | ins c fs => cases ed
      | _ => cases ed
end
/-! ### isinstance of data -/
inductive Tc where
  | non | bl | int | str | tup | lst | dct
def Tc.nm : Tc → String
  | .non => "NoneType" | .bl => "bool" | .int => "int" | .str => "str" | .tup => "tuple" | .lst => "list" | .dct => "dict"
def tcOf (n : String) : Option Tc := if n = "bool" then some .bl else if n = "int" then some .int else if n = "str" then some .str else if n = "tuple" then some .tup else if n = "list" then some .lst else if n = "dict" then some .dct else none
def Tc.sub : Tc → Tc → Bool
  | .bl, .bl => true | .bl, .int => true | .int, .int => true | .str, .str => true | .tup, .tup => true | .lst, .lst => true | .dct, .dct => true | .non, .non => true
  | _, _ => false
theorem tc_ok (a b : Tc) (h : b.nm ≠ "NoneType") : kitB a.nm b.nm = some (a.sub b) := by
  cases b with
  | non => exact absurd rfl h
  | _ => cases a <;> decide +kernel
theorem tcOf_ok {n : String} {c : Tc} (h : tcOf n = some c) : c.nm = n ∧ c.nm ≠ "NoneType" := by
  unfold tcOf at h
  repeat' split at h
  all_goals first | (cases h; subst_vars; exact ⟨rfl, by decide⟩) | cases h
def tcD (S : Sto) : D → Option Tc
  | .non => some .non
  | .bl _ => some .bl
  | .int _ => some .int
  | .str _ => some .str
  | .tup _ => some .tup
  | .lst _ => some .lst
  | .fz _ => some .lst
  | .dct [] => some .dct
  | .obj i => match S[i]? with
    | some (.lst _) => some .lst
    | _ => none
  | _ => none
def isiAny (S : Sto) (t : Tc) : List D → Option Bool
  | [] => some false
  | .ty n :: r => match tcOf n with
    | some c => (isiAny S t r).map fun b => t.sub c || b
    | none => none
  | _ => none
def isiG (S : Sto) (ds : List D) : Option D := match ds with
  | [x, .ty n] => (tcD S x).bind fun t => (tcOf n).map fun c => .bl (t.sub c)
  | [x, .tup cs] => (tcD S x).bind fun t => (isiAny S t cs).map .bl
  | _ => none
section
variable {X : Cx} {U : Uv} {k : Nat} {M : Mp} {S : Sto} {H : Hp}
theorem Rep.tyx {v : V} {d : D} {t : Tc} (r : R U M S H) (h : Rep U M H v d) (e : tcD S d = some t) : TyX U.K H v (.type t.nm) := by
  cases h with
  | non => cases e; exact .base .non
  | bl b => cases e; exact .base (.bl b)
  | int i => cases e; exact .base (.int i)
  | str x => cases e; exact .base (.str x)
  | tup h ra =>
    cases e
    rcases h with h | ⟨o, its, n, hl, hc, hd, _⟩
    · exact .base (.tup h.1)
    · exact .kTuple hl hc
  | lst h ra => cases e; exact .base (.lst h.1)
  | fz h ra =>
    cases e
    rcases h with ⟨u, h, rfl | ⟨o, rfl⟩, _⟩ | ⟨o, its, n, hl, hc, hd, _⟩
    · exact .base (.lst h)
    · exact .base (.frz h)
    · exact .kList hl hc
  | dct0 h n => cases e; exact .base (.dK h)
  | obj hi =>
    rename_i i
    cases qs : S[i]? with
    | none => simp only [tcD, qs] at e; cases e
    | some o =>
      simp only [tcD, qs] at e
      cases o with
      | lst zs =>
        cases e
        obtain ⟨vs, h1, h2⟩ := r.at_ _ _ qs
        exact .base (.lst h1)
      | ins c fs => cases e
  | _ => cases e
theorem isiAny_ok {K : PySem.W.Frag} {t : Tc} : ∀ {cs : List D} {vs : List V} {b : Bool}, RepAll U M H vs cs → isiAny S t cs = some b → ∃ us, Paired ClsV vs us ∧ PySem.W.kitAny K (.type t.nm) us = some b
  | _, _, _, .nil, e => by cases e; exact ⟨[], .nil, kitAny_nil⟩
  | c :: cs, _, b, .cons (v := v) (vs := vs) h r, e => by
    cases h with
    | ty n =>
      simp only [isiAny] at e
      cases q : tcOf n with
      | none => rw [q] at e; cases e
      | some cc =>
        rw [q] at e
        obtain ⟨e1, e2⟩ := tcOf_ok q
        have h1 : PySem.W.kitOne K (.type t.nm) (.type n) = some (t.sub cc) := by rw [← e1]; exact kit_ty (tc_ok t cc e2)
        simp only at e
        cases q2 : isiAny S t cs with
        | none => rw [q2] at e; cases e
        | some b2 =>
          rw [q2] at e
          cases e
          obtain ⟨us, p, ha⟩ := isiAny_ok r q2
          refine ⟨.type n :: us, .cons (.ty n) p, kitAny_cons h1 (fun z => ?_) (fun z => by rw [z]; rfl)⟩
          rw [z]; exact ha
    | _ => simp [isiAny] at e
theorem c_isi (hK : X.K = U.K := by rfl) : CallD U X (.builtin "isinstance") isiG := ofC _ (call_isi.or (call_isiT.or call_isiK)) fun M S H xs ds d Q r hx e g => by
  unfold isiG at e
  split at e
  · rename_i x n
    cases q1 : tcD S x with
    | none => rw [q1] at e; cases e
    | some t =>
      rw [q1] at e
      cases q2 : tcOf n with
      | none => rw [q2] at e; cases e
      | some c =>
        rw [q2] at e
        cases e
        obtain ⟨e1, e2⟩ := tcOf_ok q2
        obtain ⟨v, w, rfl, hv, hw⟩ := hx.two
        cases hw
        rw [hK]
        exact .inl ⟨v, _, _, _, _, rfl, .ty n, hv.tyx r q1, by rw [← e1]; exact kit_ty (tc_ok t c e2), g.here r (.bl _)⟩
  · rename_i x cs
    cases q1 : tcD S x with
    | none => rw [q1] at e; cases e
    | some t =>
      rw [q1] at e
      cases q2 : isiAny S t cs with
      | none =>
        have e' : (isiAny S t cs).map D.bl = some d := e
        rw [q2] at e'; cases e'
      | some b =>
        have e' : (isiAny S t cs).map D.bl = some d := e
        rw [q2] at e'
        cases e'
        obtain ⟨v, w, rfl, hv, hw⟩ := hx.two
        rw [hK]
        cases hw with
        | tup ht ra =>
          obtain ⟨us, p, ha⟩ := isiAny_ok (K := U.K) ra q2
          rcases ht with ht | ⟨o, its, n, hl, hc, hd, _, hv2⟩
          · exact .inr (.inl ⟨v, _, _, _, us, b, rfl, ht.1, p, hv.tyx r q1, ha, g.here r (.bl _)⟩)
          · have eu : its.toList = us := ClsV.all p hv2
            obtain ⟨cls, dd, data, sl⟩ := o
            simp only at hc hd
            subst hc hd
            have ei : its = us.toArray := by rw [← eu]
            subst ei
            exact .inr (.inr ⟨v, _, _, us, n, sl, _, b, rfl, hl, hv.tyx r q1, ha, g.here r (.bl _)⟩)
  · cases e
end
end DL
/-! DL3: statements, what is walked, loops, comprehensions. -/
namespace DL
open PySem L2

/-- a statement's outcome -/
inductive OS where
  | nx (ρ : Env) (S : Sto)
  | rt (d : D) (S : Sto)
  | bk (ρ : Env) (S : Sto)
  | ct (ρ : Env) (S : Sto)
  | exc (e : Ex) (ρ : Env) (S : Sto)
  | stuck
abbrev MS := Env → Sto → OS
def OS.of {α : Type} (o : Out α) (ρ : Env) (k : α → Sto → OS) : OS := match o with
  | .ok a S => k a S
  | .exc e S => .exc e ρ S
  | .stuck => .stuck
def OS.seq (o : OS) (k : MS) : OS := match o with
  | .nx ρ S => k ρ S
  | o => o
def PostS (U : Uv) (M : Mp) (H : Hp) (W : WX) (o : OS) (Dn : Ends) : Prop := match o with
  | .nx ρ S => ∀ M' H' σ', Ext M H M' H' → At U M' S ρ σ' H' → Dn.nx σ' H'
  | .rt d S => ∀ M' H' v, Ext M H M' H' → R U M' S H' → Rep U M' H' v d → Dn.rt v H'
  | .bk ρ S => ∀ M' H' σ', Ext M H M' H' → At U M' S ρ σ' H' → Dn.bk σ' H'
  | .ct ρ S => ∀ M' H' σ', Ext M H M' H' → At U M' S ρ σ' H' → Dn.ct σ' H'
  | .exc e ρ S => ∀ M' H' σ' cv dd, Ext M H M' H' → At U M' S ρ σ' H' → ExAt U M' H' e cv dd → W cv dd σ' H'
  | .stuck => False
def tS (U : Uv) (W : WX) (m : MS) : TS := fun Dn σ H => ∃ M S ρ, At U M S ρ σ H ∧ PostS U M H W (m ρ S) Dn
section
variable {U : Uv} {M M1 : Mp} {S S1 : Sto} {H H1 : Hp} {σ : L2.St} {W : WX} {ρ : Env} {Dn : Ends}
theorem PostS.ext {o : OS} (e : Ext M H M1 H1) (p : PostS U M H W o Dn) : PostS U M1 H1 W o Dn := by
  cases o with
  | nx ρ S => exact fun M' H' σ' f a => p M' H' σ' (e.trans f) a
  | rt d S => exact fun M' H' v f r q => p M' H' v (e.trans f) r q
  | bk ρ S => exact fun M' H' σ' f a => p M' H' σ' (e.trans f) a
  | ct ρ S => exact fun M' H' σ' f a => p M' H' σ' (e.trans f) a
  | exc x ρ S => exact fun M' H' σ' cv dd f a q => p M' H' σ' cv dd (e.trans f) a q
  | stuck => exact p
/-- an expression's reading within a statement -/
theorem tX.ofS {α β : Type} {rel : Mp → Hp → β → α → Prop} {m : Env → Sto → Out α} {k : α → Sto → OS} {Q1 : β → Hp → Prop} (a : At U M S ρ σ H) (p : PostS U M H W (OS.of (m ρ S) ρ k) Dn)
    (h : ∀ x S1 M1 H1 b, Ext M H M1 H1 → At U M1 S1 ρ σ H1 → rel M1 H1 b x → PostS U M1 H1 W (k x S1) Dn → Q1 b H1) : tX U rel W m σ H Q1 := by
  refine ⟨M, S, ρ, a, ?_⟩
  cases q : m ρ S with
  | ok x S1 =>
    rw [q] at p
    exact fun M1 H1 b e r z => h x S1 M1 H1 b e (a.ext e r) z (PostS.ext e p)
  | exc x S1 =>
    rw [q] at p
    exact fun M1 H1 cv dd e r z => p M1 H1 σ cv dd e (a.ext e r) z
  | stuck => rw [q] at p; exact p
/-- a statement, then the rest -/
theorem PostS.seq {o : OS} {k : MS} (p : PostS U M H W (o.seq k) Dn) : PostS U M H W o { Dn with nx := tS U W k Dn } := by
  cases o with
  | nx ρ S => exact fun M' H' σ' f a => ⟨M', S, ρ, a, PostS.ext f p⟩
  | rt d S => exact p
  | bk ρ S => exact p
  | ct ρ S => exact p
  | exc x ρ S => exact p
  | stuck => exact p
end
/-! ### statements -/
section
variable {X : Cx} {U : Uv} {W : WX} {st : Stmt} {rest : List Stmt} {e : Expr} {m : ME} {t : MT} {ms mu : MS} {pos : Pos}
def sNil : MS := fun ρ S => .nx ρ S
def sSeq (a b : MS) : MS := fun ρ S => (a ρ S).seq b
theorem ss_nil : PSs X [] (tS U W sNil) := pss_imp pss_nil fun Dn σ H ⟨M, S, ρ, A, p⟩ => p M H σ A.refl A
theorem ss_cons (h1 : PS X st (tS U W ms)) (h2 : PSs X rest (tS U W mu)) : PSs X (st :: rest) (tS U W (sSeq ms mu)) := pss_imp (pss_cons h1 h2) fun Dn σ H ⟨M, S, ρ, A, p⟩ => ⟨M, S, ρ, A, PostS.seq p⟩
theorem ss_one (h1 : PS X st (tS U W ms)) : PSs X [st] (tS U W ms) := pss_one h1
theorem s_pass : PS X (.Pass pos) (tS U W sNil) := ps_imp ps_pass fun Dn σ H ⟨M, S, ρ, A, p⟩ => p M H σ A.refl A
def sBreak : MS := fun ρ S => .bk ρ S
def sCont : MS := fun ρ S => .ct ρ S
theorem s_break : PS X (.Break pos) (tS U W sBreak) := ps_imp ps_break fun Dn σ H ⟨M, S, ρ, A, p⟩ => p M H σ A.refl A
theorem s_cont : PS X (.Continue pos) (tS U W sCont) := ps_imp ps_continue fun Dn σ H ⟨M, S, ρ, A, p⟩ => p M H σ A.refl A
def sDrop (m : ME) : MS := fun ρ S => .of (m ρ S) ρ fun _ S1 => .nx ρ S1
theorem s_expr (he : PE X e (tE U W m)) (hs : swapsWith e none pos.line X.env = pure false := by rfl) : PS X (.Expr e pos) (tS U W (sDrop m)) :=
  ps_imp (ps_expr he hs) fun Dn σ H ⟨M, S, ρ, A, p⟩ => tX.ofS A p fun x S1 M1 H1 v e1 A1 r1 p1 => p1 M1 H1 σ A1.refl A1
def sRet (m : ME) : MS := fun ρ S => .of (m ρ S) ρ fun d S1 => .rt d S1
theorem s_ret (he : PE X e (tE U W m)) : PS X (.Return (some e) pos) (tS U W (sRet m)) :=
  ps_imp (ps_ret he) fun Dn σ H ⟨M, S, ρ, A, p⟩ => tX.ofS A p fun x S1 M1 H1 v e1 A1 r1 p1 => p1 M1 H1 v A1.refl A1.r r1
def sRetN : MS := fun _ S => .rt .non S
theorem s_retN : PS X (.Return none pos) (tS U W sRetN) := ps_imp ps_retN fun Dn σ H ⟨M, S, ρ, A, p⟩ => p M H .non A.refl A.r .non
def sIf (t : MT) (a b : MS) : MS := fun ρ S => .of (t ρ S) ρ fun k S1 => if k = true then a ρ S1 else b ρ S1
theorem s_if {c : Expr} {a b : List Stmt} (hc : PT X c (tT U W t)) (ha : PSs X a (tS U W ms)) (hb : PSs X b (tS U W mu)) : PS X (.If c a b pos) (tS U W (sIf t ms mu)) :=
  ps_imp (ps_if hc ha hb) fun Dn σ H ⟨M, S, ρ, A, p⟩ => tX.ofS A p fun x S1 M1 H1 k e1 A1 r1 p1 => by
    subst r1
    cases k with
    | true => exact ⟨M1, S1, ρ, A1, p1⟩
    | false => exact ⟨M1, S1, ρ, A1, p1⟩
/-! ### targets -/
abbrev Bd := D → Env → Option Env
/-- but for these slots the same -/
def But (l : List Nat) (σ σ' : L2.St) : Prop := σ'.length = σ.length ∧ ∀ i, i ∉ l → σ'[i]? = σ[i]?
theorem But.refl {l : List Nat} {σ : L2.St} : But l σ σ := ⟨rfl, fun _ _ => rfl⟩
theorem But.trans {l l' : List Nat} {σ σ1 σ2 : L2.St} (a : But l σ σ1) (b : But l' σ1 σ2) : But (l ++ l') σ σ2 := ⟨b.1.trans a.1, fun i hi => (b.2 i fun z => hi (List.mem_append_right _ z)).trans (a.2 i fun z => hi (List.mem_append_left _ z))⟩
theorem But.set {i : Nat} {σ : L2.St} {o : Option V} : But [i] σ (σ.set i o) := ⟨List.length_set, fun j hj => List.getElem?_set_ne fun z => hj (by rw [← z]; exact List.mem_singleton.mpr rfl)⟩
def tG (U : Uv) (l : List Nat) (b : Bd) : TG := fun v σ H Q => ∃ M S ρ d ρ', At U M S ρ σ H ∧ Rep U M H v d ∧ b d ρ = some ρ' ∧ ∀ σ', At U M S ρ' σ' H → But l σ σ' → Q σ' H
theorem pg_imp {tg : Expr} {g g' : TG} (h : PG X tg g) (hi : ∀ v σ H Q, g' v σ H Q → g v σ H Q) : PG X tg g' := ⟨fun pins s σ H v u Q I r q => h.run pins s σ H v u Q I r (hi _ _ _ _ q)⟩
def bName (i : Nat) : Bd := fun d ρ => some (ρ.set i (some d))
theorem g_name (i : Nat) {x : Str} (hN : X.N.Nodup) (hi : X.N[i]? = some x := by rfl) (hx : Loc X.env.scope x := by first | exact Or.inl rfl | exact Or.inr rfl) (hf : X.fn x = true ∨ X.env.scope.names.lookup x = some .local := by first | exact .inl rfl | exact .inr rfl | assumption) (hn : Nf U i := by exact fun _ h => absurd h List.not_mem_nil) : PG X (.Name x pos) (tG U [i] (bName i)) :=
  pg_imp (pg_name hN hi hx hf) fun v σ H Q ⟨M, S, ρ, d, ρ', A, r, e, q⟩ => by
    cases e
    exact q _ (A.set r hn) But.set
abbrev Bds := List D → Env → Option Env
def tGs (U : Uv) (l : List Nat) (b : Bds) : TGs := fun vs σ H Q => ∃ M S ρ ds ρ', At U M S ρ σ H ∧ RepAll U M H vs ds ∧ b ds ρ = some ρ' ∧ ∀ σ', At U M S ρ' σ' H → But l σ σ' → Q σ' H
def bNil : Bds := fun ds ρ => match ds with
  | [] => some ρ
  | _ => none
def bCons (b : Bd) (bs : Bds) : Bds := fun ds ρ => match ds with
  | d :: r => (b d ρ).bind fun ρ' => bs r ρ'
  | [] => none
def bTup (n : Nat) (bs : Bds) : Bd := fun d ρ => match d with
  | .tup ds => if ds.length = n then bs ds ρ else none
  | _ => none
theorem pgs_imp {ts : List Expr} {g g' : TGs} (h : PGs X ts g) (hi : ∀ v σ H Q, g' v σ H Q → g v σ H Q) : PGs X ts g' := ⟨fun pins s σ H v u Q I r q => h.run pins s σ H v u Q I r (hi _ _ _ _ q)⟩
theorem gs_nil : PGs X [] (tGs U [] bNil) := pgs_imp pgs_nil fun vs σ H Q ⟨M, S, ρ, ds, ρ', A, r, e, q⟩ => by
  cases r with
  | nil => cases e; exact ⟨rfl, q _ A But.refl⟩
  | cons _ _ => cases e
theorem gs_cons {tg : Expr} {es : List Expr} {b : Bd} {bs : Bds} {l l' : List Nat} (h1 : PG X tg (tG U l b)) (h2 : PGs X es (tGs U l' bs)) (hs : (assignEach (tg :: es) X.env).map (·.2) = assign tg X.env :: (assignEach es X.env).map (·.2) := by rfl) : PGs X (tg :: es) (tGs U (l ++ l') (bCons b bs)) :=
  pgs_imp (pgs_cons h1 h2 hs) fun vs σ H Q ⟨M, S, ρ, ds, ρ', A, r, e, q⟩ => by
    cases r with
    | nil => cases e
    | @cons v vs d ds h r =>
      change (b d ρ).bind _ = _ at e
      cases q1 : b d ρ with
      | none => rw [q1] at e; cases e
      | some ρ1 =>
        rw [q1] at e
        exact ⟨v, vs, rfl, M, S, ρ, d, ρ1, A, h, q1, fun σ' A' b1 => ⟨M, S, ρ1, ds, ρ', A', r, e, fun σ2 A2 b2 => q σ2 A2 (b1.trans b2)⟩⟩
theorem g_tup {es : List Expr} {k n : Nat} {bs : Bds} {l : List Nat} (h : PGs X es (tGs U l bs)) (hc : X.calm = true := by rfl) (hn : (assignEach es X.env).length = n := by rfl) (hst : (assignEach es X.env).findIdx? (·.1) = none := by rfl) (hK : X.K = U.K := by rfl) : PG X (.Tuple es k pos) (tG U l (bTup n bs)) :=
  pg_imp (pg_tup hc h hn hst) fun v σ H Q ⟨M, S, ρ, d, ρ', A, r, e, q⟩ => by
    cases r with
    | @tup a xs ds ht ra =>
      change (if ds.length = n then bs ds ρ else none) = _ at e
      by_cases hl : ds.length = n
      · rw [if_pos hl] at e
        rw [hK]
        exact ⟨a, xs, rfl, ht.sq, by rw [ra.length]; exact hl, M, S, ρ, ds, ρ', A, ra, e, q⟩
      · rw [if_neg hl] at e; cases e
    | _ => cases e
def sAsg (m : ME) (b : Bd) : MS := fun ρ S => .of (m ρ S) ρ fun d S1 => match b d ρ with
  | some ρ' => .nx ρ' S1
  | none => .stuck
theorem s_asg {tg : Expr} {b : Bd} {l : List Nat} (he : PE X e (tE U W m)) (hg : PG X tg (tG U l b)) (hs : swapsWithSole [tg] e pos.line X.env = pure false := by rfl) (hw : swappedStores [tg] e X.env = pure none := by rfl) (h1 : (assignEach [tg] X.env).map (·.2) = [assign tg X.env] := by rfl) :
    PS X (.Assign [tg] e pos) (tS U W (sAsg m b)) :=
  ps_imp (ps_asg he hg hs hw h1) fun Dn σ H ⟨M, S, ρ, A, p⟩ => tX.ofS A p fun x S1 M1 H1 v e1 A1 r1 p1 => by
    cases q : b x ρ with
    | none => rw [q] at p1; exact p1.elim
    | some ρ' =>
      rw [q] at p1
      exact ⟨M1, S1, ρ, x, ρ', A1, r1, q, fun σ' A' _ => p1 M1 H1 σ' A1.refl A'⟩
def sSet (i : Nat) (m : ME) : MS := fun ρ S => .of (m ρ S) ρ fun d S1 => .nx (ρ.set i (some d)) S1
theorem s_set (i : Nat) {x : Str} {pos' : Pos} (hN : X.N.Nodup) (he : PE X e (tE U W m)) (hi : X.N[i]? = some x := by rfl) (hx : Loc X.env.scope x := by first | exact Or.inl rfl | exact Or.inr rfl) (hs : swapsWith e (some (.Name x pos')) pos.line X.env = pure false := by rfl)
    (hf : X.fn x = true ∨ X.env.scope.names.lookup x = some .local := by first | exact .inl rfl | exact .inr rfl | assumption) (hn : Nf U i := by exact fun _ h => absurd h List.not_mem_nil) : PS X (.Assign [.Name x pos'] e pos) (tS U W (sSet i m)) :=
  ps_imp (ps_set hN hi hx he hs hf) fun Dn σ H ⟨M, S, ρ, A, p⟩ => tX.ofS A p fun x S1 M1 H1 v e1 A1 r1 p1 => p1 M1 H1 _ A1.refl (A1.set r1 hn)
/-- a, b = e1, e2 -/
def sPar (i j : Nat) (ms : MA) : MS := fun ρ S => .of (ms ρ S) ρ fun ds S1 => match ds with
  | [d, e] => .nx ((ρ.set i (some d)).set j (some e)) S1
  | _ => .stuck
theorem s_par (i j : Nat) {x y : Str} {a b : Expr} {ma : MA} {px py pt : Pos} {kt k2 : Nat} {pt2 : Pos} (hN : X.N.Nodup) (ha : PA X [a, b] (tA U W ma)) (hc : X.calm = true := by rfl) (hi : X.N[i]? = some x := by rfl) (hj : X.N[j]? = some y := by rfl) (hij : i ≠ j := by decide)
    (hx : X.env.scope.names.lookup x = some .local := by rfl) (hy : X.env.scope.names.lookup y = some .local := by rfl)
    (hw : swappedStores [.Tuple [.Name x px, .Name y py] kt pt] (.Tuple [a, b] k2 pt2) X.env = pure (some [x, y]) := by rfl)
    (hs : swapsWithSole [.Tuple [.Name x px, .Name y py] kt pt] (.Tuple [a, b] k2 pt2) pos.line X.env = pure false := by rfl) (hn : Nf U i := by exact fun _ h => absurd h List.not_mem_nil) (hn2 : Nf U j := by exact fun _ h => absurd h List.not_mem_nil) :
    PS X (.Assign [.Tuple [.Name x px, .Name y py] kt pt] (.Tuple [a, b] k2 pt2) pos) (tS U W (sPar i j ma)) :=
  ps_imp (ps_par hc hN hi hj hij hx hy ha hw hs) fun Dn σ H ⟨M, S, ρ, A, p⟩ => tX.ofS A p fun ds S1 M1 H1 vs e1 A1 r1 p1 => by
    cases r1 with
    | nil => exact p1.elim
    | cons h1 r1 => cases r1 with
      | nil => exact p1.elim
      | cons h2 r1 => cases r1 with
        | cons _ _ => exact p1.elim
        | nil => exact ⟨_, _, rfl, p1 M1 H1 _ A1.refl ((A1.set h1 hn).set h2 hn2)⟩
/-- o[i] = e, a list of the store -/
def sSub (m mo mi : ME) : MS := fun ρ S => .of (m ρ S) ρ fun d S1 => .of (mo ρ S1) ρ fun o S2 => .of (mi ρ S2) ρ fun i S3 => match o, i with
  | .obj n, .int k => match S3[n]? with
    | some (.lst xs) => match ixN xs.length k with
      | some j => .nx ρ (S3.set n (.lst (xs.set j d)))
      | none => .stuck
    | _ => .stuck
  | _, _ => .stuck
theorem s_sub {o i : Expr} {mo mi : ME} {pos' : Pos} (he : PE X e (tE U W m)) (ho : PE X o (tE U W mo)) (hi : PE X i (tE U W mi))
    (ha : ∀ v, assign (.Subscript o i pos') X.env v = (do
      let ov ← holding [v] (eval o X.env)
      let iv ← holding [v, ov] (eval i X.env)
      standAt pos'
      holding [v, ov, iv] (setItem ov iv v)
      release [v, ov, iv] []) := by intro _; rfl)
    (hs : swapsWithSole [.Subscript o i pos'] e pos.line X.env = pure false := by rfl) (hw : swappedStores [.Subscript o i pos'] e X.env = pure none := by rfl) (h1 : (assignEach [.Subscript o i pos'] X.env).map (·.2) = [assign (.Subscript o i pos') X.env] := by rfl) :
    PS X (.Assign [.Subscript o i pos'] e pos) (tS U W (sSub m mo mi)) :=
  ps_imp (ps_asg he (pg_sub ho hi set_list ha) hs hw h1) fun Dn σ H ⟨M, S, ρ, A, p⟩ => tX.ofS A p fun d S1 M1 H1 v e1 A1 r1 p1 => tX.ofS A1 p1 fun dO S2 M2 H2 ov e2 A2 r2 p2 => tX.ofS A2 p2 fun dI S3 M3 H3 iv e3 A3 r3 p3 => by
    have r2' := r2.ext e3
    have r1' := (r1.ext e2).ext e3
    cases dO with
    | obj n =>
      cases dI with
      | int k =>
        simp only at p3
        cases q : S3[n]? with
        | none => rw [q] at p3; exact p3.elim
        | some ob =>
          rw [q] at p3
          cases ob with
          | ins c fs => exact p3.elim
          | lst xs =>
            simp only at p3
            obtain ⟨a, vs, rfl, hH, ra, ea, hn⟩ := r2'.objL A3.r q
            cases q2 : ixN xs.length k with
            | none => rw [q2] at p3; exact p3.elim
            | some j =>
              rw [q2] at p3
              refine ⟨a, vs, k, j, rfl, r3.intV, hH, by rw [ra.length]; exact q2, ?_⟩
              subst ea
              have ex := A3.r.extSet (o := .lst (vs.set j v)) hn
              have R3 := A3.r.set (o := .lst (vs.set j v)) (ob := .lst (xs.set j d)) hn ⟨_, upd_same, (ra.set r1' j).ext ex⟩
              exact p3 M3 _ _ ex (A3.ext ex R3)
      | _ => exact p3.elim
    | _ => exact p3.elim
/-- xs.append(e), a list of the store -/
def sApp (mo m : ME) : MS := fun ρ S => .of (mo ρ S) ρ fun o S1 => match o with
  | .obj n => match S1[n]? with
    | some (.lst _) => .of (m ρ S1) ρ fun d S2 => match S2[n]? with
      | some (.lst xs) => if xs.length < lim then .nx ρ (S2.set n (.lst (xs ++ [d]))) else .stuck
      | _ => .stuck
    | _ => .stuck
  | _ => .stuck
theorem s_app {o : Expr} {mo : ME} {apos cpos : Pos} (ho : PE X o (tE U W mo)) (he : PE X e (tE U W m)) (hK : X.K = U.K := by rfl)
    (hbase : attributeBase o "append" X.env (eval o X.env) = eval o X.env := by rfl) (hfew : ((backTo cpos (starEach [e] X.env)).all (fun x => !x.1) && (backToKw cpos (keywordEach [] X.env)).all (fun x => x.1.isSome)
      && decide ([e].length + ([] : List Keyword).length + (if ([] : List Keyword).isEmpty then 0 else 1) < 30)) = true := by rfl)
    (hline : (apos.endLine == cpos.line) = true := by rfl) (hst : starEach [e] X.env = (false, eval e X.env) :: starEach [] X.env := by rfl) (hpl : (backTo cpos (starEach [] X.env)).any (·.1) = false := by rfl)
    (hs : swapsWith (.Call (.Attribute o "append" apos) [e] [] cpos) none pos.line X.env = pure false := by rfl) : PS X (.Expr (.Call (.Attribute o "append" apos) [e] [] cpos) pos) (tS U W (sApp mo m)) :=
  ps_imp (ps_expr (pe_bm PySem.F.plainAttrs_list PySem.F.slot_list_append PySem.F.type_list_append mt_append ho (pa_cons he pa_nil hst) hbase hfew hline hst hpl) hs) fun Dn σ H ⟨M, S, ρ, A, p⟩ => tX.ofS A p fun dO S1 M1 H1 ov e1 A1 r1 p1 => by
    cases r1 with
    | @obj n hn1 =>
      simp only at p1
      cases q1 : S1[n]? with
      | none => rw [q1] at p1; exact p1.elim
      | some ob1 =>
        rw [q1] at p1
        cases ob1 with
        | ins c fs => exact p1.elim
        | lst xs1 =>
          obtain ⟨vs1, hH1, _⟩ := A1.r.at_ _ _ q1
          refine ⟨.inl ⟨rfl, vs1, .inl (.inl hH1)⟩, ?_⟩
          refine tX.ofS A1 p1 fun d S2 M2 H2 v e2 A2 r2 p2 => ?_
          cases q : S2[n]? with
          | none => rw [q] at p2; exact p2.elim
          | some ob =>
            rw [q] at p2
            cases ob with
            | ins c fs => exact p2.elim
            | lst xs =>
              simp only at p2
              have hn2 : n < M2.n := Nat.lt_of_lt_of_le hn1 e2.le
              obtain ⟨vs, hH, ra⟩ := A2.r.at_ _ _ q
              by_cases hl : xs.length < lim
              · rw [if_pos hl] at p2
                rw [← e2.same n hn1]
                have hl2 : vs.length < sizeLine := by
                  rw [ra.length]
                  exact Nat.lt_of_lt_of_le hl (lim_line (Nat.le_refl _))
                refine ⟨_, vs, v, rfl, rfl, hH, hl2, ?_⟩
                have ex := A2.r.extSet (o := .lst (vs ++ [v])) hn2
                have R3 := A2.r.set (o := .lst (vs ++ [v])) (ob := .lst (xs ++ [d])) hn2 ⟨_, upd_same, (ra.append (.cons r2 .nil)).ext ex⟩
                exact p2 M2 _ _ ex (A2.ext ex R3)
              · rw [if_neg hl] at p2; exact p2.elim
    | _ => exact p1.elim
end
end DL
/-! DL4: what is walked, for loops, list comprehensions. -/
namespace DL
open PySem L2

/-- a walk that gives these items -/
structure Yields (U : Uv) (M : Mp) (H : Hp) (J : It) (ds : List D) : Prop where
  go : ∀ M' S' H' k, Mv M H M' H' → R U M' S' H' → k < ds.length → J.go k H'
  yld : ∀ M' S' H' k x H'', Mv M H M' H' → R U M' S' H' → k < ds.length → J.yld k H' x H'' → ∃ d, ds[k]? = some d ∧ Ext M' H' M' H'' ∧ R U M' S' H'' ∧ Rep U M' H'' x d
  stop : ∀ M' S' H', Mv M H M' H' → R U M' S' H' → J.stop ds.length H'
abbrev MI := Env → Sto → Out (List D)
abbrev tI (U : Uv) (W : WX) (m : MI) : TI := tX U (Yields U) W m
section
variable {U : Uv} {M M1 : Mp} {S S1 : Sto} {H H1 : Hp}
theorem Yields.ext {J : It} {ds : List D} (e : Ext M H M1 H1) (y : Yields U M H J ds) : Yields U M1 H1 J ds :=
  ⟨fun M' S' H' k f => y.go M' S' H' k (e.mv.trans f), fun M' S' H' k x H'' f => y.yld M' S' H' k x H'' (e.mv.trans f), fun M' S' H' f => y.stop M' S' H' (e.mv.trans f)⟩
theorem yields_list {a : Addr} {xs : List V} {ds : List D} (h : ∀ M' H', Mv M H M' H' → SqL U.K H' a xs) (ra : RepAll U M H xs ds) : Yields U M H (Itl U.K a) ds where
  go := fun M' S' H' k f r hk => by
    have hk' : k < xs.length := by rw [ra.length]; exact hk
    exact ⟨xs, _, h M' H' f, List.getElem?_eq_getElem hk'⟩
  yld := fun M' S' H' k x H'' f r hk hy => by
    obtain ⟨rfl, hy⟩ := hy
    obtain ⟨d, h1, h2⟩ := (ra.mv f).getV (hy xs (h M' _ f))
    exact ⟨d, h1, r.refl, r, h2⟩
  stop := fun M' S' H' f r => ⟨xs, h M' H' f, by rw [ra.length]; exact Nat.le_refl _⟩
theorem yields_tup {a : Addr} {xs : List V} {ds : List D} (h : TupAt U.K M H a xs) (ra : RepAll U M H xs ds) : Yields U M H (Itt U.K a) ds where
  go := fun M' S' H' k f r hk => by
    have hk' : k < xs.length := by rw [ra.length]; exact hk
    exact ⟨xs, _, (h.mv f).sq, List.getElem?_eq_getElem hk'⟩
  yld := fun M' S' H' k x H'' f r hk hy => by
    obtain ⟨rfl, hy⟩ := hy
    obtain ⟨d, h1, h2⟩ := (ra.mv f).getV (hy xs (h.mv f).sq)
    exact ⟨d, h1, r.refl, r, h2⟩
  stop := fun M' S' H' f r => ⟨xs, (h.mv f).sq, by rw [ra.length]; exact Nat.le_refl _⟩
def rangeD (lo : Int) (n : Nat) : List D := (List.range n).map fun i => .int (lo + (i : Nat))
theorem rangeD_length (lo : Int) (n : Nat) : (rangeD lo n).length = n := by unfold rangeD; rw [List.length_map, List.length_range]
theorem yields_range (lo : Int) (n : Nat) : Yields U M H (Itr lo n) (rangeD lo n) where
  go := fun M' S' H' k f r hk => by rw [rangeD_length] at hk; exact hk
  yld := fun M' S' H' k x H'' f r hk hy => by
    rw [rangeD_length] at hk
    obtain ⟨rfl, rfl⟩ := hy
    refine ⟨.int (lo + (k : Nat)), ?_, r.refl, r, .int _⟩
    unfold rangeD
    rw [List.getElem?_map, List.getElem?_range hk]
    rfl
  stop := fun M' S' H' f r => by rw [rangeD_length]; exact Nat.le_refl _
def signsD (x : Str) : List D := x.cps.toList.map fun c => .str ⟨#[c]⟩
theorem yields_str (x : Str) : Yields U M H (Its x) (signsD x) where
  go := fun M' S' H' k f r hk => by unfold signsD at hk; rw [List.length_map] at hk; show k < x.cps.size; simpa using hk
  yld := fun M' S' H' k y H'' f r hk hy => by
    obtain ⟨rfl, c, hc, rfl⟩ := hy
    refine ⟨.str ⟨#[c]⟩, ?_, r.refl, r, .str _⟩
    unfold signsD
    have : x.cps.toList[k]? = some c := by simpa using hc
    rw [List.getElem?_map, this]
    rfl
  stop := fun M' S' H' f r => by unfold signsD; rw [List.length_map]; show x.cps.size ≤ x.cps.toList.length; simp
end
theorem pi_imp {X : Cx} {tg e : Expr} {w w' : TI} (h : PI X tg e w) (hi : ∀ σ H R, w' σ H R → w σ H R) : PI X tg e w' := ⟨fun pins s σ H R I q => h.run pins s σ H R I (hi _ _ _ q)⟩
theorem pi_or {X : Cx} {tg e : Expr} {w w' : TI} (h : PI X tg e w) (h' : PI X tg e w') : PI X tg e (fun σ H R => w σ H R ∨ w' σ H R) := ⟨fun pins s σ H R I q => q.elim (h.run pins s σ H R I) (h'.run pins s σ H R I)⟩
/-- a list or a tuple (not one of the store's), a text -/
def seqI : D → Option (List D)
  | .tup xs => some xs
  | .lst xs => some xs
  | .fz xs => some xs
  | .str x => some (signsD x)
  | _ => none
def iSeq (m : ME) : MI := fun ρ S => (m ρ S).bind fun x S1 => ofO (seqI x) S1
def iRange1 (m : ME) : MI := fun ρ S => (m ρ S).bind fun x S1 => match x with
  | .int j => if -(2 ^ 62) ≤ j ∧ j < 2 ^ 62 then .ok (rangeD 0 j.toNat) S1 else .stuck
  | _ => .stuck
def iRange2 (ma mb : ME) : MI := fun ρ S => (ma ρ S).bind fun x S1 => (mb ρ S1).bind fun y S2 => match x, y with
  | .int i, .int j => if -(2 ^ 62) ≤ i ∧ i < 2 ^ 62 ∧ -(2 ^ 62) ≤ j ∧ j < 2 ^ 62 then .ok (rangeD i (j - i).toNat) S2 else .stuck
  | _, _ => .stuck
section
variable {X : Cx} {U : Uv} {W : WX} {tg e a b : Expr} {m ma mb : ME} {q pos : Pos}
theorem i_seq (he : PE X e (tE U W m)) (hK : X.K = U.K := by rfl) : PI X tg e (tI U W (iSeq m)) := by
  refine ⟨fun pins s σ H R I h => ?_⟩
  obtain ⟨M, S, ρ, A, p⟩ := h
  -- by what the mirror says it is
  have key : ∀ w : TI, PI X tg e w → w σ H R → wpAny (model X.prog X.w) X.A (eval e X.env) (fun v s1 => wpAny (model X.prog X.w) X.A (pyIter v) (PIE X pins σ tg R) X.xe s1) X.xe s := fun w hw hr => hw.run pins s σ H R I hr
  cases q : m ρ S with
  | stuck =>
    unfold iSeq at p; rw [q] at p; exact p.elim
  | exc x S1 =>
    refine key _ (pi_list he) ⟨M, S, ρ, A, ?_⟩
    unfold iSeq at p
    rw [q] at p ⊢
    exact p
  | ok d S1 =>
    unfold iSeq at p
    rw [q] at p
    have p' : PostX U (Yields U) M H σ W (ofO (seqI d) S1) R := p
    obtain ⟨ds, ed, g⟩ := ofO_post p'
    cases d with
    | tup xs =>
      cases ed
      refine key _ (pi_tup he) ⟨M, S, ρ, A, ?_⟩
      rw [q]
      intro M' H' v ee rr h
      cases h with
      | tup ht ra =>
        rw [hK]
        exact ⟨_, rfl, ⟨_, ht.sq⟩, g M' H' _ ee rr (yields_tup ht ra)⟩
    | lst xs =>
      cases ed
      refine key _ (pi_list he) ⟨M, S, ρ, A, ?_⟩
      rw [q]
      intro M' H' v ee rr h
      cases h with
      | lst ht ra =>
        rw [hK]
        refine ⟨_, rfl, ⟨_, ht.sq⟩, g M' H' _ ee rr ?_⟩
        exact yields_list (fun M2 H2 f => (ht.mv f).sq) ra
    | fz xs =>
      cases ed
      refine key _ (pi_list he) ⟨M, S, ρ, A, ?_⟩
      rw [q]
      intro M' H' v ee rr h
      cases h with
      | fz ht ra =>
        rw [hK]
        refine ⟨_, rfl, ⟨_, ht.sq⟩, g M' H' _ ee rr ?_⟩
        exact yields_list (fun M2 H2 f => (ht.mv f).sq) ra
    | str x =>
      cases ed
      refine key _ (pi_str he) ⟨M, S, ρ, A, ?_⟩
      rw [q]
      intro M' H' v ee rr h
      cases h
      exact ⟨x, rfl, g M' H' _ ee rr (yields_str x)⟩
    | _ => cases ed
theorem i_range1 (hm : X.mg "range" = none) (ha : PE X a (tE U W ma)) (hg : Gl X "range" := by rfl) (hs : starEach [a] X.env = [(false, eval a X.env)] := by rfl) (hs1 : starEach [a] X.env = (false, eval a X.env) :: starEach [] X.env := by rfl) : PI X tg (.Call (.Name "range" q) [a] [] pos) (tI U W (iRange1 ma)) :=
  pi_imp (pi_range1 hg hm (pa_cons ha pa_nil hs1) hs) fun σ H R' ⟨M, S, ρ, A, p⟩ => tX.bind A p fun x S1 M1 H1 v e1 A1 r1 p1 => by
    cases r1 with
    | int j =>
      by_cases hb : -(2 ^ 62) ≤ j ∧ j < 2 ^ 62
      · simp only [if_pos hb] at p1
        exact ⟨j, rfl, hb.1, hb.2, p1 M1 H1 _ A1.refl A1.r (yields_range 0 _)⟩
      · simp only [if_neg hb] at p1; exact p1.elim
    | _ => exact p1.elim
theorem i_range2 (hm : X.mg "range" = none) (ha : PE X a (tE U W ma)) (hb' : PE X b (tE U W mb)) (hg : Gl X "range" := by rfl) (hs : starEach [a, b] X.env = [(false, eval a X.env), (false, eval b X.env)] := by rfl) (hs2 : starEach [b] X.env = [(false, eval b X.env)] := by rfl)
    (h1 : starEach [a, b] X.env = (false, eval a X.env) :: starEach [b] X.env := by rfl) (h2 : starEach [b] X.env = (false, eval b X.env) :: starEach [] X.env := by rfl) : PI X tg (.Call (.Name "range" q) [a, b] [] pos) (tI U W (iRange2 ma mb)) :=
  pi_imp (pi_range2 hg hm (pa_cons ha (pa_cons hb' pa_nil h2) h1) hs hs2) fun σ H R' ⟨M, S, ρ, A, p⟩ => tX.bind A p fun x S1 M1 H1 v e1 A1 r1 p1 => tX.bind A1 p1 fun y S2 M2 H2 w e2 A2 r2 p2 => by
    cases r1 with
    | int i =>
      cases r2 with
      | int j =>
        by_cases hb : -(2 ^ 62) ≤ i ∧ i < 2 ^ 62 ∧ -(2 ^ 62) ≤ j ∧ j < 2 ^ 62
        · simp only [if_pos hb] at p2
          exact ⟨i, j, rfl, hb, p2 M2 H2 _ A2.refl A2.r (yields_range i _)⟩
        · simp only [if_neg hb] at p2; exact p2.elim
      | _ => exact p2.elim
    | _ => cases r2 <;> exact p2.elim
/-! ### for -/
def forL (b : Bd) (body : MS) : List D → MS
  | [], ρ, S => .nx ρ S
  | d :: ds, ρ, S => match b d ρ with
    | none => .stuck
    | some ρ1 => match body ρ1 S with
      | .nx ρ2 S2 => forL b body ds ρ2 S2
      | .ct ρ2 S2 => forL b body ds ρ2 S2
      | .bk ρ2 S2 => .nx ρ2 S2
      | .rt d S2 => .rt d S2
      | .exc e ρ2 S2 => .exc e ρ2 S2
      | .stuck => .stuck
def sFor (src : MI) (b : Bd) (body : MS) : MS := fun ρ S => .of (src ρ S) ρ fun ds S1 => forL b body ds ρ S1
variable {body : List Stmt} {src : MI} {bd : Bd} {mb' : MS} {l : List Nat}
theorem s_for {iter : Expr} (hi : PI X tg iter (tI U W src)) (hg : PG X tg (tG U l bd)) (hb : PSs X body (tS U W mb')) (hp : PassesOwn (model X.prog X.w) X.A X.env X.xe) (hc : X.calm = true := by rfl) (hs : ∀ x, foldedSetIterable iter X.env x = pure x := by intro _; rfl) :
    PS X (.For tg iter body [] pos) (tS U W (sFor src bd mb')) :=
  ps_imp (ps_for hp hc hi hg hb hs) fun Dn σ H ⟨M, S, ρ, A, p⟩ => tX.ofS A p fun ds S1 M1 H1 J e1 A1 y p1 => by
    refine ⟨fun k m σ H => m = ds.length - k ∧ k ≤ ds.length ∧ ∃ M' S' ρ', Ext M1 H1 M' H ∧ At U M' S' ρ' σ H ∧ PostS U M' H W (forL bd mb' (ds.drop k) ρ' S') Dn,
      ⟨_, rfl, Nat.zero_le _, M1, S1, ρ, A1.refl, A1, p1⟩, fun k m σ' H' ⟨em, hk, M', S', ρ', f, A', p'⟩ => ?_⟩
    by_cases hl : k < ds.length
    · have hd : ds.drop k = ds[k] :: ds.drop (k + 1) := List.drop_eq_getElem_cons hl
      rw [hd] at p'
      refine .inr ⟨y.go M' S' H' k f.mv A'.r hl, fun σ2 H2 => ds.length - (k + 1) < m ∧ k + 1 ≤ ds.length ∧ ∃ M2 S2 ρ2, Ext M1 H1 M2 H2 ∧ At U M2 S2 ρ2 σ2 H2 ∧ PostS U M2 H2 W (forL bd mb' (ds.drop (k + 1)) ρ2 S2) Dn,
        fun σ2 H2 ⟨h1, h2, h3⟩ => ⟨_, h1, rfl, h2, h3⟩, fun x H2 hy => ?_⟩
      have hm : ds.length - (k + 1) < m := by omega
      obtain ⟨d, hd2, g, R2, rd⟩ := y.yld M' S' H' k x H2 f.mv A'.r hl hy
      have ed : ds[k] = d := by
        rw [List.getElem?_eq_getElem hl] at hd2
        exact Option.some.inj hd2
      rw [ed] at p'
      have A2 := A'.ext g R2
      have p2 := PostS.ext g p'
      cases q : bd d ρ' with
      | none =>
        simp only [forL, q] at p2
        exact p2.elim
      | some ρ1 =>
        simp only [forL, q] at p2
        refine ⟨M', S', ρ', d, ρ1, A2, rd, q, fun σ3 A3 _ => ⟨M', S', ρ1, A3, ?_⟩⟩
        cases q2 : mb' ρ1 S' with
        | nx ρ2 S2 =>
          rw [q2] at p2
          exact fun M4 H4 σ4 f4 A4 => ⟨hm, hl, M4, S2, ρ2, (f.trans g).trans f4, A4, PostS.ext f4 p2⟩
        | ct ρ2 S2 =>
          rw [q2] at p2
          exact fun M4 H4 σ4 f4 A4 => ⟨hm, hl, M4, S2, ρ2, (f.trans g).trans f4, A4, PostS.ext f4 p2⟩
        | bk ρ2 S2 => rw [q2] at p2; exact p2
        | rt d2 S2 => rw [q2] at p2; exact p2
        | exc e2 ρ2 S2 => rw [q2] at p2; exact p2
        | stuck => rw [q2] at p2; exact p2
    · have ek : k = ds.length := Nat.le_antisymm hk (Nat.le_of_not_lt hl)
      subst ek
      rw [List.drop_length] at p'
      exact .inl ⟨y.stop M' S' H' f.mv A'.r, p' M' H' σ' A'.refl A'⟩
end
/-! ### list comprehensions -/
def Out.bindN {α β : Type} (o : Out α) (f : α → Sto → Out β) : Out β := match o with
  | .ok a S => f a S
  | _ => .stuck
def wipeE (ρ : Env) : List Nat → Env
  | [] => ρ
  | v :: vs => (wipeE ρ vs).set v none
def lcL (b : Bd) (t : MT) (m : ME) (ρ : Env) : List D → List D → Sto → Out (List D)
  | [], acc, S => .ok acc S
  | d :: ds, acc, S => match b d ρ with
    | none => .stuck
    | some ρ1 => (t ρ1 S).bindN fun k S1 => if k = true then (m ρ1 S1).bindN fun x S2 => if acc.length < lim then lcL b t m ρ ds (acc ++ [x]) S2 else .stuck else lcL b t m ρ ds acc S1
def mLcL (src : MI) (b : Bd) (t : MT) (m : ME) (vs : List Nat) : Env → Sto → Out (List D) := fun ρ S => (src ρ S).bind fun ds S1 => lcL b t m (wipeE ρ vs) ds [] S1
def mLc (src : MI) (b : Bd) (t : MT) (m : ME) (vs : List Nat) : ME := fun ρ S => (mLcL src b t m vs ρ S).bind fun xs S1 => .ok (.lst xs) S1
def mYes : MT := fun _ S => .ok true S
abbrev W0 : WX := fun _ _ _ _ => False
section
variable {U : Uv} {M M1 Mq : Mp} {S : Sto} {H H1 H2 : Hp} {σ : L2.St} {ρ : Env} {p : Addr} {vs : List Nat}
theorem At.wipe (a : At U M S ρ σ H) : ∀ vs : List Nat, (∀ i ∈ vs, Nf U i) → At U M S (wipeE ρ vs) (wipe σ vs) H
  | [], _ => a
  | v :: vs, h => (At.wipe a vs fun i hi => h i (List.mem_cons_of_mem _ hi)).unset (h v List.mem_cons_self)
theorem wipe_in {i : Nat} : ∀ {vs : List Nat}, i ∈ vs → (wipe σ vs)[i]? = if i < σ.length then some none else none
  | v :: vs, h => by
    unfold wipe
    by_cases e : v = i
    · subst e
      by_cases hl : v < σ.length
      · rw [if_pos hl, List.getElem?_set_self (by rw [wipe_length]; exact hl)]
      · rw [if_neg hl, List.getElem?_eq_none (by rw [List.length_set, wipe_length]; exact Nat.le_of_not_lt hl)]
    · rw [List.getElem?_set_ne e]
      exact wipe_in ((List.mem_cons.mp h).resolve_left fun z => e z.symm)
theorem wipe_but {σ' : L2.St} {l : List Nat} (b : But l (wipe σ vs) σ') (h : ∀ i ∈ l, i ∈ vs) : wipe σ' vs = wipe σ vs := by
  apply List.ext_getElem?
  intro i
  by_cases hi : i ∈ vs
  · rw [wipe_in hi, wipe_in hi, b.1, wipe_length]
  · rw [wipe_out hi, b.2 i fun z => hi (h i z)]
theorem mvPriv (e : Ext M1 H1 Mq H) (hp : H1 p = none) : Mv M1 H1 (Mq.priv p) H := ⟨e.le, e.same, fun a o h n => ⟨e.keep a o h (Mp.nob n), fun z => by
  rcases priv_has.mp z with z | z | z
  · exact e.nob h (Mp.nob n) z
  · exact ne_of_none h hp z
  · exact n (.inr (by rw [← e.pr]; exact z))⟩⟩
theorem extWrite {o : HO} (e : Ext M1 H1 Mq H) (hp : H1 p = none) (hn : ¬ Mq.ob p) : Ext M1 H1 Mq (upd H p o) := ⟨e.le, e.same, e.fresh, fun a u h n => by rw [upd_ne (ne_of_none h hp)]; exact e.keep a u h n, fun i hi => by
  obtain ⟨u, hu⟩ := e.live i hi
  exact ⟨u, by rw [upd_ne fun z => hn ⟨i, hi, z⟩]; exact hu⟩, e.pr⟩
theorem Ext.unpriv {M' : Mp} {H' : Hp} (e : Ext (M.priv p) H M' H') : ∃ M2, M' = Mp.priv M2 p ∧ Ext M H M2 H' := by
  obtain ⟨at', n', pr'⟩ := M'
  have epr : pr' = p :: M.pr := e.pr
  subst epr
  exact ⟨⟨at', n', M.pr⟩, rfl, ⟨e.le, e.same, e.fresh, e.keep, e.live, rfl⟩⟩
end
section
variable {X : Cx} {U : Uv} {W : WX} {src : MI} {bd : Bd} {mt : MT} {me : ME} {vs l : List Nat}
theorem lc_post (hl : ∀ i ∈ l, i ∈ vs) (hn : ∀ i ∈ vs, Nf U i) {σ : L2.St} {H : Hp} {Q : VK} (h : tE U W (mLc src bd mt me vs) σ H Q) : tLc (tI U W src) (tG U l bd) (tT U W0 mt) (tE U W0 me) vs σ H Q := by
  obtain ⟨M, S, ρ, A, p⟩ := h
  have p' : PostX U (Rep U) M H σ W ((src ρ S).bind fun ds S1 => (lcL bd mt me (wipeE ρ vs) ds [] S1).bind fun xs S2 => .ok (.lst xs) S2) Q := by
    unfold mLc mLcL at p
    cases q : src ρ S with
    | ok a S1 => rw [q] at p; exact p
    | exc x S1 => rw [q] at p; exact p
    | stuck => rw [q] at p; exact p
  refine tX.bind A p' fun ds S1 M1 H1 J e1 A1 y p1 => fun D hD => ?_
  refine ⟨fun k m H => m = ds.length - k ∧ k ≤ ds.length ∧ ∃ Mq S' acc accD, Ext M1 H1 Mq H ∧ R U (Mq.priv D) S' H ∧ H D = some (.lst acc) ∧ RepAll U (Mq.priv D) H acc accD ∧ SlotRep U (Mq.priv D) H (wipe σ vs) (wipeE ρ vs) ∧
      PostX U (Rep U) M1 H1 σ W ((lcL bd mt me (wipeE ρ vs) (ds.drop k) accD S').bind fun xs S2 => .ok (.lst xs) S2) Q,
    ⟨_, rfl, Nat.zero_le _, M1, S1, [], [], A1.r.extNew hD, A1.r.priv hD, upd_same, .nil, fun i d h => ?_, p1⟩, fun k m H3 ⟨em, hk, Mq, S', acc, accD, f, R3, hHD, ra, sl, p3⟩ => ?_⟩
  · obtain ⟨v, h1, h2⟩ := (A1.wipe vs hn).sl i d h
    exact ⟨v, h1, h2.mv (Mv.priv hD)⟩
  have hnob : ∀ {M' : Mp} {S' : Sto} {H' : Hp}, R U (M'.priv D) S' H' → ¬ M'.ob D := fun r => r.prn D List.mem_cons_self
  by_cases hlt : k < ds.length
  · have hd : ds.drop k = ds[k] :: ds.drop (k + 1) := List.drop_eq_getElem_cons hlt
    rw [hd] at p3
    have mv3 : Mv M1 H1 (Mq.priv D) H3 := mvPriv f hD
    refine .inr ⟨y.go _ S' H3 k mv3 R3 hlt, fun H4 => ds.length - (k + 1) < m ∧ k + 1 ≤ ds.length ∧ ∃ Mq S' acc accD, Ext M1 H1 Mq H4 ∧ R U (Mq.priv D) S' H4 ∧ H4 D = some (.lst acc) ∧ RepAll U (Mq.priv D) H4 acc accD ∧ SlotRep U (Mq.priv D) H4 (wipe σ vs) (wipeE ρ vs) ∧
      PostX U (Rep U) M1 H1 σ W ((lcL bd mt me (wipeE ρ vs) (ds.drop (k + 1)) accD S').bind fun xs S2 => .ok (.lst xs) S2) Q,
      fun H4 ⟨h1, h2, h3⟩ => ⟨_, h1, rfl, h2, h3⟩, fun x H4 hy => ?_⟩
    have hm : ds.length - (k + 1) < m := by omega
    obtain ⟨d, hd2, g, R4, rd⟩ := y.yld _ S' H3 k x H4 mv3 R3 hlt hy
    have ed : ds[k] = d := by
      rw [List.getElem?_eq_getElem hlt] at hd2
      exact Option.some.inj hd2
    rw [ed] at p3
    obtain ⟨Mx, ex, g'⟩ := g.unpriv
    have eMx : Mx = Mq := by
      obtain ⟨a1, n1, q1⟩ := Mx
      obtain ⟨a2, n2, q2⟩ := Mq
      unfold Mp.priv at ex
      injection ex with e1 e2 e3
      injection e3 with _ e3
      subst e1 e2 e3; rfl
    subst eMx
    have A4 : At U (Mx.priv D) S' (wipeE ρ vs) (wipe σ vs) H4 := ⟨R4, sl.ext g, (A1.wipe vs hn).len, (A1.wipe vs hn).fx⟩
    cases q : bd d (wipeE ρ vs) with
    | none =>
      simp only [lcL, q] at p3
      exact p3.elim
    | some ρ1 =>
      simp only [lcL, q] at p3
      refine ⟨Mx.priv D, S', wipeE ρ vs, d, ρ1, A4, rd, q, fun σ5 A5 b5 => ⟨wipe_but b5 hl, ?_⟩⟩
      refine ⟨Mx.priv D, S', ρ1, A5, ?_⟩
      cases q2 : mt ρ1 S' with
      | exc e S6 => rw [q2] at p3; exact p3.elim
      | stuck => rw [q2] at p3; exact p3.elim
      | ok kk S6 =>
        rw [q2] at p3
        intro M6 H6 b e6 R6 eb
        have eb' : b = kk := eb
        subst eb'
        obtain ⟨Mq6, em6, f6⟩ := e6.unpriv
        subst em6
        have f16 := (f.trans g').trans f6
        have e36 := g.trans e6
        have hD6 : H6 D = some (.lst acc) := e36.keep _ _ hHD (R3.prn D List.mem_cons_self)
        have p6 := p3
        cases b with
        | false =>
          rw [if_neg (by decide)]
          exact ⟨hm, hlt, Mq6, S6, acc, accD, f16, R6, hD6, ra.ext e36, sl.ext e36, p6⟩
        | true =>
          rw [if_pos rfl]
          refine ⟨Mq6.priv D, S6, ρ1, A5.ext e6 R6, ?_⟩
          change PostX U (Rep U) M1 H1 σ W (((me ρ1 S6).bindN fun x S2 => if accD.length < lim then lcL bd mt me (wipeE ρ vs) (ds.drop (k + 1)) (accD ++ [x]) S2 else .stuck).bind fun xs S2 => .ok (.lst xs) S2) Q at p6
          cases q7 : me ρ1 S6 with
          | exc e S7 => rw [q7] at p6; exact p6.elim
          | stuck => rw [q7] at p6; exact p6.elim
          | ok z S7 =>
            rw [q7] at p6
            intro M7 H7 v7 e7 R7 r7
            obtain ⟨Mq7, em7, f7⟩ := e7.unpriv
            subst em7
            have hD7 : H7 D = some (.lst acc) := e7.keep _ _ hD6 (R6.prn D List.mem_cons_self)
            have e37 := e36.trans e7
            by_cases hlim : accD.length < lim
            · have p7 : PostX U (Rep U) M1 H1 σ W ((lcL bd mt me (wipeE ρ vs) (ds.drop (k + 1)) (accD ++ [z]) S7).bind fun xs S2 => .ok (.lst xs) S2) Q := by
                change PostX U (Rep U) M1 H1 σ W ((if accD.length < lim then lcL bd mt me (wipeE ρ vs) (ds.drop (k + 1)) (accD ++ [z]) S7 else .stuck).bind _) Q at p6
                rw [if_pos hlim] at p6; exact p6
              have hpr : D ∈ (Mq7.priv D).pr := List.mem_cons_self
              have f17 := f16.trans f7
              refine ⟨acc, hD7, ?_, hm, hlt, Mq7, S7, acc ++ [v7], accD ++ [z], extWrite f17 hD (hnob R7), R7.write hpr, upd_same, ((ra.ext e37).append (.cons r7 .nil)).mv (Mv.write hpr), fun i d h => ?_, p7⟩
              · rw [(ra.ext e37).length]
                exact Nat.lt_of_lt_of_le hlim (lim_line (Nat.le_refl _))
              · obtain ⟨v, h1, h2⟩ := sl i d h
                exact ⟨v, h1, (h2.ext e37).mv (Mv.write hpr)⟩
            · change PostX U (Rep U) M1 H1 σ W ((if accD.length < lim then lcL bd mt me (wipeE ρ vs) (ds.drop (k + 1)) (accD ++ [z]) S7 else .stuck).bind _) Q at p6
              rw [if_neg hlim] at p6; exact p6.elim
  · have ek : k = ds.length := Nat.le_antisymm hk (Nat.le_of_not_lt hlt)
    subst ek
    rw [List.drop_length] at p3
    refine .inl ⟨y.stop _ S' H3 (mvPriv f hD) R3, ?_⟩
    have hnh : ¬ Mq.has D := fun z => z.elim (hnob R3) fun z => by
      rw [f.pr] at z
      obtain ⟨u, hu⟩ := A1.r.prl D z
      rw [hD] at hu; cases hu
    exact p3 Mq H3 _ f R3.unpriv (.lst ⟨hHD, hnh⟩ (ra.mv Mv.unpriv))
end
end DL
/-! DL5: comprehensions, calls of defs, the rule for a def. -/
namespace DL
open PySem L2
section
variable {X : Cx} {U : Uv} {W : WX} {src : MI} {bd : Bd} {mt : MT} {me : ME} {l : List Nat}
/-- [elt for tg in iter if ..] -/
theorem e_lc {elt tg iter : Expr} {ifs : List Expr} {scope : Scope} (own : List (Str × Nat)) {pos : Pos} (hN : X.N.Nodup) (hi : PI X tg iter (tI U W src)) (ok : BlkOk X.N X.env.scope scope own)
    (hg : ∀ (s : Shared) (H : Hp) (C : Addr) (cl : List (Str × Addr)) (fp : List Addr), PG (X.blk s H scope (compEnvC scope cl C X.env) fp) tg (tG U l bd)) (ht : ∀ (s : Shared) (H : Hp) (C : Addr) (cl : List (Str × Addr)) (fp : List Addr), PTs (X.blk s H scope (compEnvC scope cl C X.env) fp) ifs (tT U W0 mt))
    (he : ∀ (s : Shared) (H : Hp) (C : Addr) (cl : List (Str × Addr)) (fp : List Addr), PE (X.blk s H scope (compEnvC scope cl C X.env) fp) elt (tE U W0 me)) (hc : X.calm = true := by rfl) (hl : ∀ i ∈ l, i ∈ own.map (·.2) := by decide) (hn : ∀ i ∈ own.map (·.2), Nf U i := by exact fun _ _ _ h => absurd h List.not_mem_nil)
    (hs : ∀ x, foldedSetIterable iter X.env x = pure x := by intro _; rfl) : PE X (.ListComp elt [⟨tg, iter, ifs, 0⟩] scope pos) (tE U W (mLc src bd mt me (own.map (·.2)))) :=
  pe_imp (pe_lc hc hN hi ok hg ht he hs) fun σ H Q h => lc_post hl hn h
theorem ts_nil : PTs X [] (tT U W mYes) := ⟨fun pins s σ H Q I h => by
  obtain ⟨M, S, ρ, A, p⟩ := h
  exact pts_nil.run pins s σ H Q I (p M H true A.refl A.r rfl)⟩
theorem ts_one {c : Expr} (h : PT X c (tT U W mt)) : PTs X [c] (tT U W mt) := pts_one h
/-- y = [..], on one line -/
theorem s_setLc (i : Nat) {y : Str} {py : Pos} {elt tg iter : Expr} {ifs : List Expr} {scope : Scope} (own : List (Str × Nat)) {pos spos : Pos} (hN : X.N.Nodup) (hi : PI X tg iter (tI U W src)) (ok : BlkOk X.N X.env.scope scope own)
    (hg : ∀ (s : Shared) (H : Hp) (C : Addr) (cl : List (Str × Addr)) (fp : List Addr), PG (X.blk s H scope (compEnvC scope cl C X.env) fp) tg (tG U l bd)) (ht : ∀ (s : Shared) (H : Hp) (C : Addr) (cl : List (Str × Addr)) (fp : List Addr), PTs (X.blk s H scope (compEnvC scope cl C X.env) fp) ifs (tT U W0 mt))
    (he : ∀ (s : Shared) (H : Hp) (C : Addr) (cl : List (Str × Addr)) (fp : List Addr), PE (X.blk s H scope (compEnvC scope cl C X.env) fp) elt (tE U W0 me)) (hc : X.calm = true := by rfl) (hy : X.N[i]? = some y := by rfl) (hyl : X.env.scope.names.lookup y = some .local := by rfl)
    (hk : X.env.scope.kind = .function := by rfl) (hln : (py.line == pos.line) = true := by rfl) (ha : (scope.names.any fun (n, k) => n == y && (k == .local || k == .cell)) = false := by rfl)
    (hl : ∀ i ∈ l, i ∈ own.map (·.2) := by decide) (hn : ∀ i ∈ own.map (·.2), Nf U i := by exact fun _ _ _ h => absurd h List.not_mem_nil) (hn2 : Nf U i := by exact fun _ h => absurd h List.not_mem_nil)
    (hs : ∀ x, foldedSetIterable iter X.env x = pure x := by intro _; rfl) : PS X (.Assign [.Name y py] (.ListComp elt [⟨tg, iter, ifs, 0⟩] scope pos) spos) (tS U W (sSet i (mLc src bd mt me (own.map (·.2))))) :=
  ps_imp (ps_setLc hc hN hy hyl (sw_true hk hyl hln ha) hi ok hg ht he hs) fun Dn σ H ⟨M, S, ρ, A, p⟩ => by
    refine lc_post (U := U) (W := W) hl hn (tX.ofS A p fun x S1 M1 H1 v e1 A1 r1 p1 => ?_)
    exact p1 M1 H1 _ A1.refl (A1.set r1 hn2)
end
/-! ### what a def does: its mirror -/
abbrev Mi := List D → Sto → Out D
def spF (U : Uv) (np : Nat) (F : Mi) : Sp := fun vs H Q E => ∃ M S ds, R U M S H ∧ RepAll U M H vs ds ∧ ds.length = np ∧ PostX U (Rep U) M H [] (fun cv dd _ H' => E cv dd H') (F ds S) Q
def mCall (F : Mi) (ms : MA) : ME := fun ρ S => (ms ρ S).bind F
section
variable {U : Uv} {W : WX} {M : Mp} {S : Sto} {H : Hp} {σ : L2.St} {ds : List D} {vs : List V} {Q : VK} {np : Nat} {F : Mi}
theorem sp_in (r : R U M S H) (ra : RepAll U M H vs ds) (hl : ds.length = np) (p : PostX U (Rep U) M H σ W (F ds S) Q) : spF U np F vs H Q (fun cv dd H' => W cv dd σ H') := by
  refine ⟨M, S, ds, r, ra, hl, ?_⟩
  revert p
  cases F ds S <;> exact fun p => p
end
/-- a def that does what F does -/
structure Does (P : Program) (w : World) (K : PySem.W.Frag) (mg : Str → Option Value) (base : Heap) (U : Uv) (k : Nat) (x : Str) (f : Addr) (fd : FuncData) (ps : List Str) (F : Mi) : Prop where
  fn : FnOk P w K mg base (L2N.CX P w) k f fd ps (spF U ps.length F)
  mg_ : mg x = some (.ref f)
  kp : PySem.W.keepIn K (.ref f) = true
  b : Binds K fd ps []
/-- these, in another order -/
def pick {α : Type} : List Nat → List α → Option (List α)
  | [], _ => some []
  | i :: is, l => match l[i]?, pick is l with
    | some x, some r => some (x :: r)
    | _, _ => none
theorem vals_getD {vs : List V} {us : List Value} (r : Vals vs us) : ∀ {i : Nat} {x : V}, vs[i]? = some x → ∃ u, us[i]? = some u ∧ RelV x u := by
  induction r with
  | nil => intro i x q; simp at q
  | cons h1 h2 ih =>
    intro i x q
    cases i with
    | zero => simp at q; subst q; exact ⟨_, rfl, h1⟩
    | succ i => simp at q; exact ih q
theorem pick_rel {vs : List V} {us : List Value} (r : Vals vs us) : ∀ {is : List Nat} {ws : List V}, pick is vs = some ws → ∃ zs, pick is us = some zs ∧ Vals ws zs
  | [], _, h => by cases h; exact ⟨[], rfl, .nil⟩
  | i :: is, ws, h => by
    unfold pick at h
    cases q : vs[i]? with
    | none => rw [q] at h; cases h
    | some x =>
      cases q2 : pick is vs with
      | none => rw [q, q2] at h; cases h
      | some rr =>
        rw [q, q2] at h
        cases h
        obtain ⟨u, h1, h2⟩ : ∃ u, us[i]? = some u ∧ RelV x u := by
          clear q2
          exact vals_getD r q
        obtain ⟨zs, h3, h4⟩ := pick_rel r q2
        exact ⟨u :: zs, by unfold pick; rw [h1, h3], .cons h2 h4⟩
theorem pick_repA {U : Uv} {M : Mp} {H : Hp} {vs : List V} {ds : List D} (r : RepAll U M H vs ds) : ∀ {is : List Nat} {es : List D}, pick is ds = some es → ∃ ws, pick is vs = some ws ∧ RepAll U M H ws es
  | [], _, h => by cases h; exact ⟨[], rfl, .nil⟩
  | i :: is, es, h => by
    unfold pick at h
    cases q : ds[i]? with
    | none => rw [q] at h; cases h
    | some x =>
      cases q2 : pick is ds with
      | none => rw [q, q2] at h; cases h
      | some rr =>
        rw [q, q2] at h
        cases h
        obtain ⟨u, h1, h2⟩ := r.get q
        obtain ⟨zs, h3, h4⟩ := pick_repA r q2
        exact ⟨u :: zs, by unfold pick; rw [h1, h3], .cons h2 h4⟩
/-- how a call with n positional values and keywords named ks binds -/
def KwB (K : PySem.W.Frag) (fd : FuncData) (ps ks : List Str) (n : Nat) (is : List Nat) : Prop :=
  ∀ (s : Shared) (us ws zs : List Value), K.In s.heap → us.length = n → ws.length = ks.length → pick is (us ++ ws) = some zs → BindsTo s fd ⟨us, ks.zip ws⟩ (ps.zip zs)
section
variable {X : Cx} {U : Uv} {W : WX} {k j np : Nat} {F : Mi} {x : Str} {e : Expr} {es : List Expr} {ms : MA} {p pos : Pos} {f : Addr} {fd : FuncData} {ps ks : List Str}
/-- x(e, ..), as many arguments as parameters -/
theorem e_call (G : Does X.prog X.w X.K X.mg X.base U k x f fd ps F) (tk : L2N.Takes X W) (hr : Room j X.A) (ha : PA X (e :: es) (tA U W ms)) (hn : ∀ ρ S ds S1, ms ρ S = .ok ds S1 → ds.length = ps.length) (hk : k ≤ j := by decide) (hg : Gl X x := by rfl) (hdb : (x == ("__debug__" : Str)) = false := by decide)
    (he : starEach (e :: es) X.env = (false, eval e X.env) :: starEach es X.env := by rfl) (hpl : (backTo pos (starEach es X.env)).any (·.1) = false := by rfl) : PE X (.Call (.Name x p) (e :: es) [] pos) (tE U W (mCall F ms)) := by
  refine pe_imp (pe_callS G.fn (hr.mono hk) hg G.mg_ G.kp G.b (fun σ => L2N.passAt tk σ) ha hdb he hpl) fun σ H Q ⟨M, S, ρ, A, q⟩ => ⟨M, S, ρ, A, ?_⟩
  show PostX U (RepAll U) M H σ W (ms ρ S) _
  have q : PostX U (Rep U) M H σ W ((ms ρ S).bind F) Q := q
  cases e1 : ms ρ S with
  | ok ds S1 =>
    rw [e1] at q
    exact fun M' H' vs ex r ra => sp_in r ra (hn _ _ _ _ e1) (PostX.ext ex q)
  | exc x S1 => rw [e1] at q; exact q
  | stuck => rw [e1] at q; exact q
theorem len_nil : ∀ (ρ : Env) (S : Sto) (ds : List D) (S1 : Sto), aNil ρ S = .ok ds S1 → ds.length = 0 := fun _ _ _ _ h => by cases h; rfl
theorem len_cons {m : ME} {ms : MA} {n : Nat} (hr : ∀ ρ S ds S1, ms ρ S = .ok ds S1 → ds.length = n) : ∀ ρ S ds S1, aCons m ms ρ S = .ok ds S1 → ds.length = n + 1 := fun ρ S ds S1 h => by
  unfold aCons at h
  cases e1 : m ρ S with
  | ok d S2 =>
    rw [e1] at h
    change (ms ρ S2).bind _ = _ at h
    cases e2 : ms ρ S2 with
    | ok es S3 =>
      rw [e2] at h
      cases h
      rw [List.length_cons, hr _ _ _ _ e2]
    | _ => rw [e2] at h; cases h
  | _ => rw [e1] at h; cases h
/-- x() -/
theorem e_call0 (G : Does X.prog X.w X.K X.mg X.base U k x f fd [] F) (tk : L2N.Takes X W) (hr : Room j X.A) (hk : k ≤ j := by decide) (hg : Gl X x := by rfl) (hdb : (x == ("__debug__" : Str)) = false := by decide) : PE X (.Call (.Name x p) [] [] pos) (tE U W (mCall F aNil)) := by
  refine ⟨fun pins s σ H Q I h => ?_⟩
  obtain ⟨M, S, ρ, A, q⟩ := h
  refine wpAny_Call_Name_kw (ld_glob I hg G.mg_ ?_ hdb)
  exact PySem.W.callWith_K0 I.kIn G.kp (run_fnS (E := WE W) (us := []) G.fn (hr.mono hk) G.b (L2N.passAt tk σ) I .nil (sp_in A.r .nil rfl q))
/-- x(.., k = e, ..): the values of both, then picked -/
def mCallK (F : Mi) (is : List Nat) (ms mk : MA) : ME := fun ρ S => (ms ρ S).bind fun ds S1 => (mk ρ S1).bind fun es S2 => match pick is (ds ++ es) with
  | some zs => F zs S2
  | none => .stuck
theorem pk_imp {kws : List Keyword} {t t' : TA} (h : PK X kws t) (hi : ∀ σ H Q, t' σ H Q → t σ H Q) : PK X kws t' := ⟨fun p pins s σ H Q I q => h.run p pins s σ H Q I (hi _ _ _ q)⟩
theorem k_nil : PK X [] (tA U W aNil) := pk_imp pk_nil fun σ H Q ⟨M, S, ρ, A, p⟩ => p M H [] A.refl A.r .nil
theorem k_cons {nm : Option Str} {kpos : Pos} {kws : List Keyword} {m : ME} (h : PE X e (tE U W m)) (hr : PK X kws (tA U W ms)) : PK X (⟨nm, e, kpos⟩ :: kws) (tA U W (aCons m ms)) :=
  pk_imp (pk_cons h hr) fun σ H Q ⟨M, S, ρ, A, p⟩ => tX.bind A p fun x S1 M1 H1 v e1 A1 r1 p1 => tX.bind A1 p1 fun xs S2 M2 H2 vs e2 A2 r2 p2 => p2 M2 H2 _ A2.refl A2.r (.cons (r1.ext e2) r2)
theorem run_fnKS {pins : List (Addr × Obj)} {σ : L2.St} {H : Hp} {s : Shared} {Q : VK} {us ws : List Value} {vs zs es : List V} {n : Nat} {is : List Nat} {sp : Sp} {E : L2.St → XK} (G : FnOk X.prog X.w X.K X.mg X.base (L2N.CX X.prog X.w) k f fd ps sp) (hr : Room k X.A) (hb : KwB X.K fd ps ks n is) (hx : PassesAt (L2N.CX X.prog X.w) X σ (E σ))
    (I : Inv X pins σ H s) (r : Vals vs us) (rz : Vals zs ws) (l1 : us.length = n) (l2 : ws.length = ks.length) (hp : pick is (vs ++ zs) = some es) (h : sp es H Q (E σ)) : wpAny (model X.prog X.w) X.A (call (.ref f) us (ks.zip ws)) (EP X pins σ Q) X.xe s := by
  obtain ⟨ys, h1, h2⟩ := pick_rel (r.append rz) hp
  refine wpAny_call (codeAny_mono (G.run X.A X.stack s H ⟨us, ks.zip ws⟩ ys es Q (E σ) hr I.env0 (hb s us ws ys I.kIn l1 l2 h1) h2 h) fun r s' hq => ?_)
  cases r with
  | error e => exact hx pins H s e s' I hq
  | ok fl =>
    cases fl with
    | ret u => exact I.after hq
    | next => exact False.elim hq
    | brk => exact False.elim hq
    | cont => exact False.elim hq
theorem pick_len {α : Type} : ∀ {is : List Nat} {l zs : List α}, pick is l = some zs → zs.length = is.length
  | [], _, _, h => by cases h; rfl
  | i :: is, l, zs, h => by
    unfold pick at h
    cases q : l[i]? with
    | none => rw [q] at h; cases h
    | some x =>
      cases q2 : pick is l with
      | none => rw [q, q2] at h; cases h
      | some rr =>
        rw [q, q2] at h
        cases h
        rw [List.length_cons, List.length_cons, pick_len q2]
theorem callK_post {n : Nat} {is : List Nat} {mk : MA} {M : Mp} {S : Sto} {H : Hp} {σ : L2.St} {ρ : Env} {Q : VK} {R' : List V → List V → Hp → Prop} (A : At U M S ρ σ H) (q : PostX U (Rep U) M H σ W (mCallK F is ms mk ρ S) Q) (hn : ∀ ρ S ds S1, ms ρ S = .ok ds S1 → ds.length = n) (hm : ∀ ρ S ds S1, mk ρ S = .ok ds S1 → ds.length = ks.length) (hi : is.length = ps.length)
    (hR : ∀ vs zs es H1, vs.length = n → zs.length = ks.length → pick is (vs ++ zs) = some es → spF U ps.length F es H1 Q (WE W σ) → R' vs zs H1) : tA U W ms σ H fun vs H1 => tA U W mk σ H1 fun zs H2 => R' vs zs H2 := by
  refine ⟨M, S, ρ, A, ?_⟩
  show PostX U (RepAll U) M H σ W (ms ρ S) _
  unfold mCallK at q
  cases e1 : ms ρ S with
  | exc x S1 => rw [e1] at q; exact q
  | stuck => rw [e1] at q; exact q
  | ok ds S1 =>
    rw [e1] at q
    intro M1 H1 vs x1 r1 ra
    refine ⟨M1, S1, ρ, A.ext x1 r1, ?_⟩
    show PostX U (RepAll U) M1 H1 σ W (mk ρ S1) _
    change PostX U (Rep U) M H σ W ((mk ρ S1).bind _) Q at q
    cases e2 : mk ρ S1 with
    | exc x S2 => rw [e2] at q; exact PostX.ext x1 q
    | stuck => rw [e2] at q; exact q
    | ok es S2 =>
      rw [e2] at q
      change PostX U (Rep U) M H σ W (match pick is (ds ++ es) with | some zs => F zs S2 | none => .stuck) Q at q
      intro M2 H2 zs x2 r2 rz
      cases e3 : pick is (ds ++ es) with
      | none => rw [e3] at q; exact q.elim
      | some qs =>
        rw [e3] at q
        obtain ⟨ws, h1, h2⟩ := pick_repA ((ra.ext x2).append rz) e3
        exact hR vs zs ws H2 (by rw [ra.length]; exact hn _ _ _ _ e1) (by rw [rz.length]; exact hm _ _ _ _ e2) h1 (sp_in r2 h2 (by rw [pick_len e3]; exact hi) (PostX.ext (x1.trans x2) q))
/-- x(k = e, ..) -/
theorem e_callK0 {kws : List Keyword} {mk : MA} (is : List Nat) (G : Does X.prog X.w X.K X.mg X.base U k x f fd ps F) (hb : KwB X.K fd ps ks 0 is) (tk : L2N.Takes X W) (hr : Room j X.A) (hkw : PK X kws (tA U W mk)) (hm : ∀ ρ S ds S1, mk ρ S = .ok ds S1 → ds.length = ks.length)
    (hk : k ≤ j := by decide) (hi : is.length = ps.length := by rfl) (hg : Gl X x := by rfl) (hall : (backToKw pos (keywordEach kws X.env)).all (·.1.isSome) = true := by rfl) (hks : (backToKw pos (keywordEach kws X.env)).filterMap (·.1) = ks := by rfl) (hdb : (x == ("__debug__" : Str)) = false := by decide)
    (hpl : ((backTo pos (starEach [] X.env)).any (·.1) || (backToKw pos (keywordEach kws X.env)).any (·.1.isNone)) = false := by rfl) : PE X (.Call (.Name x p) [] kws pos) (tE U W (mCallK F is aNil mk)) := by
  refine ⟨fun pins s σ H Q I h => ?_⟩
  obtain ⟨M, S, ρ, A, q⟩ := h
  refine wpAny_Call_Name_kw (ld_glob I hg G.mg_ ?_ hdb)
  refine PySem.W.callWith_KW0 (h₀ := X.base) I.ok.mod.kin G.kp hall ?_ hpl
  have z := callK_post (ks := ks) (ps := ps) (n := 0) (R' := fun vs zs H2 => vs = [] ∧ zs.length = ks.length ∧ ∃ es, pick is ([] ++ zs) = some es ∧ spF U ps.length F es H2 Q (WE W σ)) A q len_nil hm hi fun vs zs es H1 h1 h2 h3 h4 => by
    cases vs with
    | cons _ _ => cases h1
    | nil => exact ⟨rfl, h2, es, h3, h4⟩
  obtain ⟨M0, S0, ρ0, A0, z0⟩ := z
  have z1 := z0 M0 H [] A0.refl A0.r .nil
  refine thn (hkw.run pos pins s σ H _ I z1) fun ws s2 ⟨zs, H2, I2, rz, _, l2, es, h3, h4⟩ => ⟨I2.kIn, ?_⟩
  rw [hks]
  exact run_fnKS (E := WE W) (us := []) (vs := []) G.fn (hr.mono hk) hb (L2N.passAt tk σ) I2 .nil rz rfl (rz.length.symm.trans l2) h3 h4
/-- x(e, .., k = e, ..) -/
theorem e_callK {kws : List Keyword} {mk : MA} {n : Nat} (is : List Nat) (G : Does X.prog X.w X.K X.mg X.base U k x f fd ps F) (hb : KwB X.K fd ps ks n is) (tk : L2N.Takes X W) (hr : Room j X.A) (ha : PA X (e :: es) (tA U W ms)) (hkw : PK X kws (tA U W mk)) (hn : ∀ ρ S ds S1, ms ρ S = .ok ds S1 → ds.length = n) (hm : ∀ ρ S ds S1, mk ρ S = .ok ds S1 → ds.length = ks.length)
    (hk : k ≤ j := by decide) (hi : is.length = ps.length := by rfl) (hg : Gl X x := by rfl) (hall : (backToKw pos (keywordEach kws X.env)).all (·.1.isSome) = true := by rfl) (hks : (backToKw pos (keywordEach kws X.env)).filterMap (·.1) = ks := by rfl) (hdb : (x == ("__debug__" : Str)) = false := by decide)
    (he : starEach (e :: es) X.env = (false, eval e X.env) :: starEach es X.env := by rfl) (hpl : ((backTo pos (starEach (e :: es) X.env)).any (·.1) || (backToKw pos (keywordEach kws X.env)).any (·.1.isNone)) = false := by rfl) : PE X (.Call (.Name x p) (e :: es) kws pos) (tE U W (mCallK F is ms mk)) := by
  refine ⟨fun pins s σ H Q I h => ?_⟩
  obtain ⟨M, S, ρ, A, q⟩ := h
  refine wpAny_Call_Name_kw (ld_glob I hg G.mg_ ?_ hdb)
  have z := callK_post (ks := ks) (ps := ps) (n := n) (R' := fun vs zs H2 => vs.length = n ∧ zs.length = ks.length ∧ ∃ es, pick is (vs ++ zs) = some es ∧ spF U ps.length F es H2 Q (WE W σ)) A q hn hm hi fun vs zs es H1 h1 h2 h3 h4 => ⟨h1, h2, es, h3, h4⟩
  refine PySem.W.callWith_KW (h₀ := X.base) I.ok.mod.kin G.kp hall (thn (ha.run pos pins s σ H _ I z) fun us s1 ⟨vs, H1, I1, r, q1⟩ => ?_) hpl he
  refine thn (hkw.run pos pins s1 σ H1 _ I1 q1) fun ws s2 ⟨zs, H2, I2, rz, l1, l2, es, h3, h4⟩ => ⟨I2.kIn, ?_⟩
  rw [hks]
  exact run_fnKS (E := WE W) (us := us) (vs := vs) G.fn (hr.mono hk) hb (L2N.passAt tk σ) I2 r rz (r.length.symm.trans l1) (rz.length.symm.trans l2) h3 h4
end
/-! ### the rule for a def -/
def runD (n : Nat) (ms : MS) : Mi := fun ds S => match ms (ds.map some ++ List.replicate (n - ds.length) none) S with
  | .nx _ S' => .ok .non S'
  | .rt d S' => .ok d S'
  | .exc e _ S' => .exc e S'
  | _ => .stuck
theorem start_rep {U : Uv} {M : Mp} {H : Hp} (n : Nat) : ∀ {vs : List V} {ds : List D}, RepAll U M H vs ds → SlotRep U M H (vs.map some ++ List.replicate n none) (ds.map some ++ List.replicate n none)
  | _, _, .nil => by
    intro i d h
    have h' : (List.replicate n (none : Option D))[i]? = some (some d) := h
    rw [List.getElem?_replicate] at h'
    by_cases c : i < n
    · rw [if_pos c] at h'; cases h'
    · rw [if_neg c] at h'; cases h'
  | _, _, @RepAll.cons _ _ _ v vs d ds h r => by
    intro i e he
    cases i with
    | zero =>
      have he' : some (some d) = some (some e) := he
      cases he'
      exact ⟨v, rfl, h⟩
    | succ i => exact start_rep n r i e he
section
variable {P : Program} {w : World} {K : PySem.W.Frag} {mg : Str → Option Value} {base : Heap} {U : Uv}
theorem fn_def {x qual : Str} {st : Stmt} {f : Addr} {fd : FuncData} {N ps : List Str} {k : Nat} {ms : MS} (F : L2.Fun K x qual st f fd) (S : FnScope N ps (defScope st)) (hf : U.f = [])
    (body : ∀ (cdv : Value) (A : Around) (outer : List PySem.Env) (s : Shared) (H : Hp) (E : XK), Room k (A.deeper (PyProof.Rows.envOfC qual (defScope st) s.heap.objs.size f cdv)) →
      PSs (cxOf (L2N.CX P w) P w K mg base N qual (defScope st) f cdv A outer s H E) (defBody st) (tS U (fun cls d _ H => E cls d H) ms)) : FnOk P w K mg base (L2N.CX P w) (k + 1) f fd ps (spF U ps.length (runD N.length ms)) := by
  obtain ⟨oc, od, kV, doc, pm, an, cdv, ct, osl, rfl, lk, hcd⟩ := F.ex
  refine fn_of lk hcd S (fun vs H Q E ⟨M, S', ds, r, ra, hl, p⟩ => by rw [ra.length]; exact hl) fun A outer s H vs Q E hr ⟨M, S', ds, r, ra, hl, p⟩ => ⟨_, body cdv A outer s H E hr, M, S', ds.map some ++ List.replicate (N.length - ds.length) none, ⟨r, ?_, ?_, fun p hp => ?_⟩, ?_⟩
  · unfold L2.start
    rw [ra.length]
    exact start_rep _ ra
  · unfold L2.start
    simp only [List.length_append, List.length_map, List.length_replicate, ra.length]
  · rw [hf] at hp; cases hp
  · unfold runD at p
    generalize ms (ds.map some ++ List.replicate (N.length - ds.length) none) S' = o at p
    cases o with
    | nx ρ S1 => exact fun M' H' σ' ex A' => p M' H' .non ex A'.r .non
    | rt d S1 => exact p
    | bk ρ S1 => exact p.elim
    | ct ρ S1 => exact p.elim
    | exc e ρ S1 => exact fun M' H' σ' cv dd ex A' xa => p M' H' cv dd ex A'.r xa
    | stuck => exact p.elim
theorem ok_def {x : Str} {st : Stmt} {f : Addr} {fd : FuncData} {N ps : List Str} {k : Nat} {ms : MS} (F : L2.Fun K x x st f fd) (hm : mg x = some (.ref f)) (hb : Binds K fd ps []) (S : FnScope N ps (defScope st)) (hf : U.f = [])
    (body : ∀ (cdv : Value) (A : Around) (outer : List PySem.Env) (s : Shared) (H : Hp) (E : XK), Room k (A.deeper (PyProof.Rows.envOfC x (defScope st) s.heap.objs.size f cdv)) →
      PSs (cxOf (L2N.CX P w) P w K mg base N x (defScope st) f cdv A outer s H E) (defBody st) (tS U (fun cls d _ H => E cls d H) ms)) : Does P w K mg base U (k + 1) x f fd ps (runD N.length ms) :=
  ⟨fn_def F S hf body, hm, F.kp, hb⟩
theorem Does.mono {j k : Nat} {x : Str} {f : Addr} {fd : FuncData} {ps : List Str} {F : Mi} (G : Does P w K mg base U j x f fd ps F) (h : j ≤ k) : Does P w K mg base U k x f fd ps F := ⟨G.fn.mono h, G.mg_, G.kp, G.b⟩
end
/-! ### raise -/
/-- an own exception class without own __init__ -/
structure ExCls (K : PySem.W.Frag) (mg : Str → Option Value) (C : Addr) (x : Str) : Prop where
  q : PySem.W.excIn K C [.type "ValueError", .type "Exception", .type "BaseException", .type "object"] "ValueError.__new__" = true
  g : mg x = some (.ref C)
  k : PySem.W.keepIn K (.ref C) = true
  b : PySem.W.subIn K (.ref C) (.type "BaseException") = some true
  t : PySem.W.typeIn K (.ref C) = some (.type "type")
def sRaise (c : Nat) : MS := fun ρ S => .exc ⟨c, []⟩ ρ S
section
variable {X : Cx} {U : Uv} {W : WX}
theorem s_raise (c : Nat) {x m : Str} {j : Nat} {p p2 pos pos' : Pos} (C : ExCls X.K X.mg (U.cl c) x) (tk : L2N.Takes X W) (hc : X.calm = true := by rfl) (hg : Gl X x := by rfl) (hdb : (x == ("__debug__" : Str)) = false := by decide) :
    PS X (.Raise (some (.Call (.Name x p) [.Constant (.str m) j p2] [] pos)) none pos') (tS U W (sRaise c)) :=
  ps_imp (L2N.ps_raise hc tk (L2N.pmk_own PySem.F.excBase_ValueError C.q C.g C.k (raises_own C.b C.t) hg hdb)) fun Dn σ H ⟨M, S, ρ, A, p⟩ => p M H σ _ _ A.refl A ⟨rfl, .inl ⟨rfl, rfl⟩⟩
end
end DL
/-! DL6: try / except with several clauses, with and without a name; what an except suite may do. -/
/-! ### a pair taken apart while an exception is handled -/
namespace DL
open PySem PySem.Spec PyProof.Rows HotX
section
variable {P : Program} {w : World} {A : Around} {Ex : Value → Shared → Prop} {s : Shared} {it tp x1 : Addr}
/-- a new StopIteration is raised and caught again: what stood stands -/
theorem stop_hot {α : Type} {Q : α → Shared → Prop} {E : Value → Shared → Prop} (hot : HotAt A x1 s.heap)
    (h : ∀ (e : Addr) h', (∀ b o, s.heap.get? b = some o → h'.get? b = some o) → (∃ oe, h'.get? e = some oe ∧ oe.cls = .type "StopIteration") → E (.ref e) { s with heap := h' }) :
    wpAny (model P w) A (do let x ← newExc (.type "StopIteration") []; raiseNew x) Q E s := by
  obtain ⟨hh, o1, vs1, g1, d1, c1⟩ := hot
  simp only [newExc, newTuple]
  refine wpAny_bind (wpAny_bind (wpAny_newObj_type (wpAny_bind (m := firstArgMember _ _) (wpAny_of_eq (a := Value.none) (by first | rfl | (simp only [firstArgMember]; rfl)) (wpAny_newObj_type ?_ (by size_fits)))) (by size_fits)))
  have g2 : ∀ (b : Addr) o, s.heap.get? b = some o → ((s.heap.push { cls := .type "tuple", data := .seq #[] }).get? b) = some o := fun b o e => Heap.get?_push_of_some _ e
  refine raiseNew_hot ⟨hh, o1, vs1, Heap.get?_push_of_some _ (g2 _ _ g1), d1, c1⟩ (Nat.ne_of_lt (Heap.lt_size (g2 _ _ g1))) (Heap.get?_push_size _ rfl) rfl (by simp; omega) (h _ _ (fun b o e => ?_) ⟨_, Heap.get?_update_self _ (Heap.get?_push_size _ rfl) rfl, rfl⟩)
  exact (Heap.get?_update_other _ _ (Nat.ne_of_gt (Heap.lt_size (g2 b o e)))).trans (Heap.get?_push_of_some _ (g2 b o e))
theorem tup_end_hot {i : Nat} {its : Array Value} {Q : Option Value → Shared → Prop} (hot : HotAt A x1 s.heap) (ne : x1 ≠ it) (I : IsTupIter s.heap it tp i) (T : IsTup s.heap tp its) (over : its[i]? = none)
    (q : ∀ h', Heap.ExtBut it s.heap h' → Q none { s with heap := h' }) : wpAny (model P w) A (pyNext (.ref it)) Q Ex s := by
  obtain ⟨oi, gi, ci, di⟩ := id I
  obtain ⟨ot, gt, _, n, dt⟩ := id T
  obtain ⟨hh, o1, vs1, g1, d1, c1⟩ := id hot
  unfold pyNext
  refine wpAny_bind (wpAny_attempt (wpAny_callSpecial?_slot (name := Str.ofString "__next__") I.typeIs slot_tupleiter_next (wpAny_call_entry slot_tupleiter_next I.typeIs entry_tupleiter_next (wpAny_bind (m := field (.ref it) 0) (wpAny_field gi di (x := .ref tp) rfl ?_)) (args_tupleiter_next _))))
  rw [if_neg (by simp)]
  refine wpAny_bind (m := field (.ref it) 1) (wpAny_field gi di (x := .int i 0) rfl (wpAny_bind (m := seqItems? (.ref tp)) (wpAny_seqItems gt dt ?_)))
  simp only [Int.toNat_natCast, over]
  have same := Heap.SameBut.update s.heap it (Obj.mapFields (·.setIfInBounds 0 Value.none))
  refine wpAny_bind (wpAny_rule (wpAny_bind (wpAny_setField gi di (by simp) ?_)))
  refine stop_hot (s := { s with heap := s.heap.update it (Obj.mapFields (·.setIfInBounds 0 Value.none)) }) ⟨hh, o1, vs1, (same.2 x1 ne).trans g1, d1, c1⟩ fun e h' keep there => ?_
  exact wpAny_bind (wpAny_isInstance (T := "StopIteration") (b := true) there isSubtype_stop (wpAny_pure (q h' fun b o hb g => keep b o ((same.2 b hb).trans g))))
theorem unpack_hot {its : Array Value} {Q : List Value → Shared → Prop} (hot : HotAt A x1 s.heap) (T : IsTup s.heap tp its) (q : ∀ h', Heap.ExtBut s.heap.objs.size s.heap h' → Q its.toList { s with heap := h' }) :
    wpAny (model P w) A (unpackItems (.ref tp) its.size none) Q Ex s := by
  obtain ⟨hh, o1, vs1, g1, d1, c1⟩ := id hot
  obtain ⟨ot, gt, _⟩ := id T
  have nt : tp ≠ s.heap.objs.size := Nat.ne_of_lt (Heap.lt_size gt)
  have n1 : x1 ≠ s.heap.objs.size := Nat.ne_of_lt (Heap.lt_size g1)
  unfold unpackItems notIterableAtAll
  refine wpAny_bind (wpAny_bind (wpAny_specialOf T.typeIs slot_tuple_iter.lookup (wpAny_pure ?_)))
  rw [if_neg (by simp)]
  refine wpAny_bind (wpAny_holding (iter_tuple T (wpAny_bind (wpAny_holding (draw_tuple nt its.size 0 _ _ ⟨_, Heap.get?_push_size _ rfl, rfl, rfl⟩ (T.push _) (by omega) fun h2 I2 sb => ?_)))))
  have all : (its.toList.drop 0).take its.size = its.toList := by rw [List.drop_zero, List.take_of_length_le (by simp)]
  rw [all, if_neg (by simp)]
  have up : ∀ b o, b ≠ s.heap.objs.size → s.heap.get? b = some o → h2.get? b = some o := fun b o hb g => sb.extBut b o hb (Heap.get?_push_of_some _ g)
  refine wpAny_bind (wpAny_holding (tup_end_hot (x1 := x1) ⟨hh, o1, vs1, up x1 o1 n1 g1, d1, c1⟩ n1 I2 ((T.push _).extBut sb.extBut nt) (by simp) fun h3 ext => ?_))
  simp only [Option.isSome_none, Bool.false_eq_true, if_false]
  exact wpAny_pure (q h3 fun b o hb g => ext b o hb (up b o hb g))
end
end DL
namespace DL
open PySem PySem.Spec PyProof.Rows HotX L2
/-- a, b = x, y where an exception is handled -/
theorem ps_parHot {X : Cx} {i j : Nat} {x y : Str} {a b : Expr} {ta : TA} {px py pt p2 : Pos} {k1 k2 : Nat} (hot : L2H.HotC X) (nd : X.N.Nodup) (hi : X.N[i]? = some x) (hj : X.N[j]? = some y) (ne : i ≠ j) (lx : X.env.scope.names.lookup x = some .local) (ly : X.env.scope.names.lookup y = some .local) (args : PA X [a, b] ta)
    (sw : swappedStores [.Tuple [.Name x px, .Name y py] k1 pt] (.Tuple [a, b] k2 p2) X.env = pure (some [x, y])) (so : swapsWithSole [.Tuple [.Name x px, .Name y py] k1 pt] (.Tuple [a, b] k2 p2) pos.line X.env = pure false) :
    PS X (.Assign [.Tuple [.Name x px, .Name y py] k1 pt] (.Tuple [a, b] k2 p2) pos) (tPar i j ta) := ⟨fun pins s σ H D I h => by
  rw [exec_Assign_arm]
  refine wpAny_bind (wpAny_standAt ?_)
  rw [so]
  refine wpAny_bind (wpAny_pure ?_)
  rw [if_neg Bool.false_ne_true]
  refine wpAny_bind (Tuple_ (thn (args.run p2 pins s σ H _ I h) fun us s1 ⟨_, H1, I1, vals, v, w, ev, done⟩ => ?_))
  subst ev
  obtain ⟨u1, u2, rfl, r1, r2⟩ := vals2 vals
  refine wpAny_newObj_type ?_ (by show 2 ≤ sizeLine; decide)
  rw [sw]
  refine wpAny_bind (wpAny_pure ?_)
  have J : Inv X pins σ H1 { s1 with heap := s1.heap.push { cls := .type "tuple", data := .seq [u1, u2].toArray } } := I1.kept (t' := s1.toks) fun _ _ g => Heap.get?_push_of_some _ g
  obtain ⟨x1, at1⟩ := hot.at J
  refine wpAny_bind (m := rule "assign.swapped-stores") (wpAny_rule (wpAny_bind (m := unpackItems (.ref s1.heap.objs.size) 2 none) (unpack_hot (its := #[u1, u2]) at1 (IsTup.new s1.heap _) fun h2 ext => ?_)))
  have J2 := J.kept (h' := h2) (t' := s1.toks) fun b o g => ext b o (Nat.ne_of_lt (Heap.lt_size g)) g
  refine wpAny_bind (m := assignInOrder [fun v => bindName X.env y v, fun v => bindName X.env x v] [u2, u1]) (assignInOrder_cons (wpAny_bindName (store_ok J2 nd hj (.inl ly) r2 (fun s3 J3 => assignInOrder_cons (wpAny_bindName (store_ok J3 nd hi (.inl lx) r1 (fun s4 J4 => assignInOrder_nil (wpAny_pure ⟨_, H1, ?_, done⟩)) (.inr lx)))) (.inr ly))))
  rw [List.set_comm _ _ ne]
  exact J4⟩
end DL
namespace DL
open PySem L2
theorem takes0N {X : Cx} : L2N.Takes X W0 := fun _ _ ⟨_, _, _, _, _, _, _, _, _, _, _, _, _, _, _, _, w⟩ => w.elim
theorem hot_suite {X : Cx} {a : Addr} {oe : Obj} {cls : Value} {d : Option Addr} {pn : List (Addr × Obj)} (hz : L2N.Zn cls d oe) (hv : ∃ vs, oe.data = .fields vs) : L2H.HotC (X.suite a ((a, oe) :: pn)) :=
  let ⟨vs, e⟩ := hv
  ⟨(a, oe), ⟨rfl, vs, e, hz.2.2 vs e⟩, List.mem_cons_self⟩
/-! ### try, by mirrors -/
structure Hd where
  catch_ : Nat → Option Bool
  slot : Option Nat
  su : Ex → MS
def noX (o : OS) : OS := match o with
  | .exc _ _ _ => .stuck
  | o => o
def unO (i : Nat) (o : OS) : OS := match o with
  | .nx ρ S => .nx (ρ.set i none) S
  | .bk ρ S => .bk (ρ.set i none) S
  | .ct ρ S => .ct (ρ.set i none) S
  | .rt d S => .rt d S
  | _ => .stuck
def tryH : List Hd → Ex → Env → Sto → OS
  | [], e, ρ, S => .exc e ρ S
  | h :: r, e, ρ, S => match h.catch_ e.c with
    | none => .stuck
    | some false => tryH r e ρ S
    | some true => match h.slot with
      | none => noX (h.su e ρ S)
      | some i => if i < ρ.length then unO i (h.su e (ρ.set i none) S) else .stuck
def sTry (mb : MS) (hs : List Hd) : MS := fun ρ S => match mb ρ S with
  | .exc e ρ' S' => tryH hs e ρ' S'
  | o => o
abbrev tsD (U U' : Addr → Uv) (su : Ex → MS) : Addr → Value → Option Addr → TS := fun a cls d Dn σ H => ∃ e : Ex, cls = .ref ((U a).cl e.c) ∧ (e.fs = [] → d = none) ∧ tS (U' a) W0 (su e) Dn σ H
section
variable {U : Uv} {M : Mp} {S : Sto} {ρ : Env} {σ : L2.St} {H : Hp} {i : Nat} {a : Addr}
theorem At.fixed (hf : U.f = []) (A : At U M S ρ σ H) (hi : i < ρ.length) : At (U.fix [(i, a)]) M S (ρ.set i none) (σ.set i (some (.ref a))) H :=
  ⟨A.r.fix, SlotRep.fix (SlotRep.unset A.sl), by rw [List.length_set, List.length_set]; exact A.len, fun p hp => by
    rcases List.mem_singleton.mp hp with rfl
    exact List.getElem?_set_self (by rw [← A.len]; exact hi)⟩
theorem At.unfixed (hf : U.f = []) (A : At (U.fix [(i, a)]) M S ρ σ H) : At U M S (ρ.set i none) (σ.set i none) H :=
  ⟨R.fix (U := U.fix [(i, a)]) (l := U.f) A.r, SlotRep.fix (U := U.fix [(i, a)]) (l := U.f) (SlotRep.unset A.sl), by rw [List.length_set, List.length_set]; exact A.len, fun p hp => by rw [hf] at hp; cases hp⟩
end
/-- one clause with a name: what it wishes of the body's exceptions -/
theorem try1_post {U : Uv} {K : PySem.W.Frag} {c : Value} {i : Nat} {ca : Nat → Option Bool} {su : Ex → MS} (hf : U.f = []) (hm : ∀ k b, ca k = some b → PySem.W.exmOne K (.ref (U.cl k)) c = some b) {M : Mp} {S : Sto} {ρ : Env} {σ : L2.St} {H : Hp} {W : WX} {Dn : Ends} {e : Ex} {cv : Value} {dd : Option Addr}
    (A : At U M S ρ σ H) (xa : ExAt U M H e cv dd) (p : PostS U M H W (tryH [⟨ca, some i, su⟩] e ρ S) Dn) : wAs K c i (tsD (fun _ => U) (fun a => U.fix [(i, a)]) su) W Dn cv dd σ H := by
  have hd0 : e.fs = [] → dd = none := fun z => xa.2.elim (fun q => q.2) fun ⟨_, _, n, _⟩ => absurd z n
  have ecv := xa.1
  unfold tryH at p
  cases q : ca e.c with
  | none => simp only [q] at p; exact p.elim
  | some b =>
    refine ⟨b, by rw [ecv]; exact hm _ _ q, fun eb a ha => ?_, fun eb => ?_⟩
    · subst eb
      simp only [q] at p
      by_cases hl : i < ρ.length
      · rw [if_pos hl] at p
        refine ⟨e, ecv, hd0, M, S, ρ.set i none, A.fixed hf hl, ?_⟩
        revert p
        cases su e (ρ.set i none) S with
        | nx ρ2 S2 => exact fun p M' H' σ' ex A' => p M' H' _ ex (A'.unfixed hf)
        | bk ρ2 S2 => exact fun p M' H' σ' ex A' => p M' H' _ ex (A'.unfixed hf)
        | ct ρ2 S2 => exact fun p M' H' σ' ex A' => p M' H' _ ex (A'.unfixed hf)
        | rt d S2 => exact fun p M' H' v ex r rd => p M' H' v ex (R.fix (U := U.fix [(i, a)]) (l := U.f) r) (Rep.fix (U := U.fix [(i, a)]) (l := U.f) rd)
        | exc e2 ρ2 S2 => exact fun p => p.elim
        | stuck => exact fun p => p.elim
      · rw [if_neg hl] at p; exact p.elim
    · subst eb
      simp only [q] at p
      exact p M H σ cv dd A.refl A xa
section
variable {X : Cx} {U : Uv} {W : WX} {body suite : List Stmt} {b₀ : Stmt} {pos pos' np : Pos} {mb : MS} {x n : Str} {c : Value} {ca : Nat → Option Bool} {su : Ex → MS}
theorem s_try (i : Nat) (nd : X.N.Nodup) (tk : L2N.Takes X W) (hb : ∀ (W : WX) (pn : List (Addr × Obj)) (xe : Value → Shared → Prop), L2N.Takes (X.tr pn xe) W → PassesOwn (model X.prog X.w) X.A X.env xe → PSs (X.tr pn xe) body (tS U W mb)) (hc : Names X x c) (hm : ∀ k b, ca k = some b → PySem.W.exmOne X.K (.ref (U.cl k)) c = some b)
    (hsu : ∀ (a : Addr) (oe : Obj) (e : Ex) (d : Option Addr) (pn : List (Addr × Obj)), L2N.Zn (.ref (U.cl e.c)) d oe → (∃ vs, oe.data = .fields vs) → (e.fs = [] → d = none) → PSs (X.suite a ((a, oe) :: pn)) (b₀ :: suite) (tS (U.fix [(i, a)]) W0 (su e))) (hf : U.f = [])
    (hi : X.N[i]? = some n := by rfl) (hln : X.env.kindOf n = some .local := by rfl) (hst : X.stack = X.env :: X.outer := by rfl) (hfr : X.env.frame = some X.env.locals := by rfl) : PS X (.Try body [.ExceptHandler (some (.Name x np)) (some n) (b₀ :: suite) pos'] [] [] pos) (tS U W (sTry mb [⟨ca, some i, su⟩])) :=
  ps_imp (L2N.ps_try_as (tb := fun W => tS U W mb) (ts := tsD (fun _ => U) (fun a => U.fix [(i, a)]) su) hst hfr nd hi hln hc tk hb fun a oe cls d pn hz hv => ⟨fun pins s σ H Dn I ⟨e, e1, e2, t⟩ => by subst e1; exact (hsu a oe e d pn hz hv e2).run pins s σ H Dn I t⟩) fun Dn σ H ⟨M, S, ρ, A, p⟩ => by
    refine ⟨M, S, ρ, A, ?_⟩
    unfold sTry at p
    cases q : mb ρ S with
    | exc e ρ2 S2 =>
      rw [q] at p
      exact fun M' H' σ' cv dd ex A' xa => try1_post hf hm A' xa (PostS.ext ex p)
    | nx ρ2 S2 => rw [q] at p; exact p
    | bk ρ2 S2 => rw [q] at p; exact p
    | ct ρ2 S2 => rw [q] at p; exact p
    | rt d S2 => rw [q] at p; exact p
    | stuck => rw [q] at p; exact p
/-- a, b = e1, e2 within an except suite -/
theorem s_parH (i j : Nat) {x y : Str} {a b : Expr} {ma : MA} {px py pt : Pos} {kt k2 : Nat} {pt2 : Pos} (hc : L2H.HotC X) (hN : X.N.Nodup) (ha : PA X [a, b] (tA U W ma)) (hn : Nf U i) (hn2 : Nf U j) (hi : X.N[i]? = some x := by rfl) (hj : X.N[j]? = some y := by rfl) (hij : i ≠ j := by decide)
    (hx : X.env.scope.names.lookup x = some .local := by rfl) (hy : X.env.scope.names.lookup y = some .local := by rfl)
    (hw : swappedStores [.Tuple [.Name x px, .Name y py] kt pt] (.Tuple [a, b] k2 pt2) X.env = pure (some [x, y]) := by rfl)
    (hs : swapsWithSole [.Tuple [.Name x px, .Name y py] kt pt] (.Tuple [a, b] k2 pt2) pos.line X.env = pure false := by rfl) :
    PS X (.Assign [.Tuple [.Name x px, .Name y py] kt pt] (.Tuple [a, b] k2 pt2) pos) (tS U W (sPar i j ma)) :=
  ps_imp (ps_parHot hc hN hi hj hij hx hy ha hw hs) fun Dn σ H ⟨M, S, ρ, A, p⟩ => tX.ofS A p fun ds S1 M1 H1 vs e1 A1 r1 p1 => by
    cases r1 with
    | nil => exact p1.elim
    | cons h1 r1 => cases r1 with
      | nil => exact p1.elim
      | cons h2 r1 => cases r1 with
        | cons _ _ => exact p1.elim
        | nil => exact ⟨_, _, rfl, p1 M1 H1 _ A1.refl ((A1.set h1 hn).set h2 hn2)⟩
end
end DL
/-! DL7: sorted, of data, with and without a def as its key. -/
namespace DL
open PySem PySem.Spec PySem.Calls PyProof.Rows PySem.W PySem.SeqAt
/-- u reads as d -/
abbrev Rds (h : Heap) (u : Value) (d : PyData) : Prop := ∃ as, Reads h u d as
section
variable {P : Program} {w : World} {A : Around} {s : Shared}
/-- tuple.__lt__ of two tuples, by what their items say -/
theorem tupLt_call {E Q : Value → Shared → Prop} {p q : Addr} {us ws : Array Value} {eq lt : Nat → Bool} (hp : s.heap.IsTuple p us) (hq : s.heap.IsTuple q ws) (ie : ∀ n (x : n < us.size) (y : n < ws.size), EqAt A.in1 s us[n] ws[n] (eq n))
    (il : ∀ n (x : n < us.size) (y : n < ws.size), eq n = false → RcLt A.in1 s us[n] ws[n] (lt n)) (z : Q (.bool (firstLt eq lt (decide (us.size < ws.size)) (List.range (min us.size ws.size)))) s) : wpAny (model P w) A (call (.builtin "tuple.__lt__") [.ref p, .ref q]) Q E s := by
  obtain ⟨⟨op, _, vp, _⟩, gp, cp, np, dp⟩ := hp
  obtain ⟨⟨oq, _, vq, _⟩, gq, cq, nq, dq⟩ := hq
  have cp' : op = _ := cp
  have cq' : oq = _ := cq
  have dp' : vp = _ := dp
  have dq' : vq = _ := dq
  subst cp' cq' dp' dq'
  exact call_meets F.slot_tuple_lt ⟨_, gp, rfl⟩ F.entry_tuple_lt (F.args_tuple_lt_2 _ _) (tuple_ltAt p q us ws np nq _ _ _ _ eq lt) ⟨gp, gq, ie, il, z⟩
/-- two tuples as keys of one type -/
theorem tupLt_key {E : Value → Shared → Prop} {xs ys : List PyData} {u v : Value} {Q : Bool → Shared → Prop} (ru : Rds s.heap u (.tuple xs)) (rv : Rds s.heap v (.tuple ys)) (al : alike (.tuple xs) (.tuple ys) = true) (room : A.units + min (PyData.tuple xs).depth (PyData.tuple ys).depth < cLine)
    (q : Q (dataLt (.tuple xs) (.tuple ys)) s) : wpAny (model P w) A (oneLt' true u v) Q E s := by
  obtain ⟨au, ru⟩ := ru
  obtain ⟨av, rv⟩ := rv
  have al' : alikeAll xs ys = true := by simpa only [alike] using al
  cases ru with
  | @tuple p op us np _ bu gp cp dp ip =>
    cases rv with
    | @tuple p' oq ws nq _ bv gq cq dq iq =>
      have lu : us.size = xs.length := (Array.length_toList (xs := us)).symm.trans (ReadsAll.length _ _ _ ip)
      have lw : ws.size = ys.length := (Array.length_toList (xs := ws)).symm.trans (ReadsAll.length _ _ _ iq)
      have q' : Q (firstLt (pairEq xs ys) (fun n => dataLt (xs.getD n .none) (ys.getD n .none)) (decide (us.size < ws.size)) (List.range (min us.size ws.size))) s := by
        rw [lu, lw, firstLt_toks xs ys al', ← dataLt_tuple]; exact q
      rw [oneLt'_eq, if_pos rfl]
      refine wpAny_bind (wpAny_cRoomFor (room_here room) (wpAny_bind (wpAny_callSpecialIfBound?_slot (T := "tuple") ⟨_, gp, cp⟩ F.slot_tuple_lt (tupLt_call ⟨_, gp, cp, _, dp⟩ ⟨_, gq, cq, _, dq⟩ (fun n x y => ?_) (fun n x y ne => ?_) (wpAny_truthy_bool q')))))
      · exact eqAt_alikeAll xs ys A.in1 s us.toList ws.toList _ _ ip iq al' (room_in room) n x y
      · exact rcLt_alikeAll xs ys A.in1 s us.toList ws.toList _ _ ip iq al' (room_in room) n x y ne
/-- the first items of keys that are tuples: none of an empty one -/
theorem tup_firsts : ∀ {us : List Value} {ds : List PyData}, EachIs (Rds s.heap) us ds → (∀ d ∈ ds, ∃ xs, d = .tuple xs) →
    ∃ fs : List (Option Value), (ds.head? = some (.tuple []) → fs.head? = some none) ∧ ∀ (M : Model) (E : Value → Shared → Prop) (Q : List (Option Value) → Shared → Prop), Q fs s → wpAny M A (us.mapM firstOfTuple') Q E s
  | _, _, .nil, _ => ⟨[], fun z => (by cases z), fun M E Q q => by rw [List.mapM_nil]; exact wpAny_pure q⟩
  | _, _, .cons (b := d) ⟨_, r⟩ more, tu => by
    obtain ⟨fs, _, run⟩ := tup_firsts more fun x m => tu x (List.mem_cons_of_mem _ m)
    obtain ⟨xs, rfl⟩ := tu d List.mem_cons_self
    cases r with
    | @tuple p o its n _ _ g cl dt ri =>
      refine ⟨its[0]? :: fs, fun z => ?_, fun M E Q q => ?_⟩
      · have nil : xs = [] := by simpa using z
        subst nil
        have none_ : its[0]? = none := Array.getElem?_eq_none (Nat.le_of_eq ((Array.length_toList (xs := its)).symm.trans (ReadsAll.length _ _ _ ri)))
        rw [none_]; rfl
      · have ty : Looks M s.heap (typeOf (.ref p)) (.type "tuple") := cl ▸ (Looks.ld g).andThen .now
        rw [List.mapM_cons, kas_first_eq]
        refine wpAny_bind (wpAny_bind (ty.here ?_))
        rw [if_neg (by decide)]
        exact wpAny_bind (listItems_at g dt (wpAny_pure (wpAny_bind (run M E _ (wpAny_pure q)))))
/-- tuples can be sorted, too, where the first of them is empty -/
theorem sorts_tups {us : List Value} {ds : List PyData} (rd : EachIs (Rds s.heap) us ds) (al : AllAlike ds) (tu : ∀ d ∈ ds, ∃ xs, d = .tuple xs) (first : ds.head? = some (.tuple [])) (deep : ∀ d ∈ ds, A.units + d.depth < cLine) : SortsAt P w A s (dataKind s.heap ds) us where
  keys := fun v m => let ⟨_, md, _, r⟩ := rd.left v m; ⟨_, dataKind_some al md r⟩
  kind := by
    refine ⟨oneType', fun E x y kx ky Q hx hy q => ?_, fun two E Q q => ?_⟩
    · obtain ⟨dx, ax, mx, rx, ex⟩ := dataKind_inv hx
      obtain ⟨dy, ay, my, ry, ey⟩ := dataKind_inv hy
      subst ex ey
      have a := al dx mx dy my
      have dp := deep dx mx
      obtain ⟨xs, rfl⟩ := tu dx mx
      obtain ⟨ys, rfl⟩ := tu dy my
      exact tupLt_key ⟨_, rx⟩ ⟨_, ry⟩ a (by omega) q
    · obtain ⟨fs, hd, run⟩ := tup_firsts (A := A) rd tu
      have fst := hd first
      match fs, fst with
      | none :: more, _ =>
        have allT : ∀ v ∈ us, Looks (model P w) s.heap (typeOf v) (.type "tuple") := fun v m => by
          obtain ⟨d, md, _, r⟩ := rd.left v m
          obtain ⟨xs, rfl⟩ := tu d md
          exact looks_reads r
        have one : ∀ (vs : List Value), 2 ≤ vs.length → ((vs.map fun _ => Value.type "tuple").toArray[0]? = some (.type "tuple")) ∧ ((vs.map fun _ => Value.type "tuple").toArray.all (· == Value.type "tuple")) = true := fun vs l => by
          cases vs with
          | nil => simp at l
          | cons v r => exact ⟨rfl, by simp⟩
        obtain ⟨o1, o2⟩ := one us two
        rw [keyKind'_eq, List.mapM_toArray, map_eq_pure_bind]
        refine wpAny_bind (wpAny_bind (run _ _ _ (wpAny_pure ?_)))
        simp only [List.all_toArray, List.all_cons, Option.isSome_none, Bool.false_and, Bool.false_eq_true, if_false]
        rw [if_neg (by simp), oneTypeOnly'_eq, List.mapM_toArray, map_eq_pure_bind]
        refine wpAny_bind (wpAny_bind (wpAny_bind (kas_mapM (r := Value.type "tuple") us (fun v m Q' q' => (allT v m).here q') (wpAny_pure ?_))))
        rw [o1]
        simp only [o2, if_true]
        exact wpAny_pure (wpAny_pure q)
end
end DL
namespace PySem.W
open PySem PySem.SeqAt PyProof.Rows
/-- data that sort takes -/
def SortOk (ds : List PyData) : Prop := Sortable ds ∨ ((∀ d, d ∈ ds → ∃ xs, d = .tuple xs) ∧ ds.head? = some (.tuple []))
theorem dl_sortsAt {P : Program} {w : World} {A : Around} {s : Shared} {us : List Value} {ds : List PyData} (rd : EachIs (DL.Rds s.heap) us ds) (al : AllAlike ds) (ok : SortOk ds) (deep : ∀ d ∈ ds, A.units + d.depth < cLine) : SortsAt P w A s (dataKind s.heap ds) us :=
  ok.elim (fun z => SortsAt.data rd al z deep) fun z => DL.sorts_tups rd al z.1 z.2 deep
end PySem.W
namespace L2
open PySem PySem.Spec PyProof.Rows PySem.W
/-- values and their data -/
def rSortD (K : PySem.W.Frag) (A : Around) : List V → Hp → VK → Prop := fun vs H Q => ∃ (β : Type) (a : Addr) (bs : List β) (f : β → V) (enc : β → PyData), vs = [V.ref a] ∧ SqL K H a (bs.map f) ∧ (∀ b ∈ bs, Dp K H (f b) (enc b)) ∧ AllAlike (bs.map enc) ∧ SortOk (bs.map enc) ∧ bs.length ≤ sizeLine ∧
  (∀ b ∈ bs, A.units + 2 + (enc b).depth < cLine) ∧ ∀ p, H p = none → Q (.ref p) (upd H p (.lst ((bs.mergeSort (dataLe false enc)).map f)))
theorem each_vals {β : Type} {f : β → V} : ∀ {bs : List β} {us : List Value}, Vals (bs.map f) us → EachIs (fun u b => RelV (f b) u) us bs
  | [], _, r => by cases r; exact .nil
  | b :: bs, _, r => by
    cases r with
    | cons h t => exact .cons h (each_vals t)
theorem vals_each {β : Type} {f : β → V} : ∀ {bs : List β} {us : List Value}, EachIs (fun u b => RelV (f b) u) us bs → Vals (bs.map f) us
  | _, _, .nil => .nil
  | _, _, .cons h t => .cons h (vals_each t)
theorem each_reads {X : Cx} {pins : List (Addr × Obj)} {σ : St} {H : Hp} {s : Shared} {β : Type} {f : β → V} {enc : β → PyData} (I : Inv X pins σ H s) : ∀ {bs : List β} {us : List Value}, Vals (bs.map f) us → (∀ b ∈ bs, Dp X.K H (f b) (enc b)) → EachIs (fun u b => ∃ as, Reads s.heap u (enc b) as) us bs
  | [], _, r, _ => by cases r; exact .nil
  | b :: bs, _, r, h => by
    cases r with
    | cons h1 t => exact .cons (Dp.reads I _ _ _ (h b List.mem_cons_self) h1) (each_reads I t fun b hb => h b (List.mem_cons_of_mem _ hb))
theorem cr_sortD {X : Cx} : CallR X (.builtin "sorted") (rSortD X.K X.A) := by
  intro pins s σ H vs us Q I r h
  obtain ⟨β, a, bs, f, enc, rfl, hs, hd, hal, hk, hL, hu, q⟩ := h
  obtain ⟨its, rv, hl, hz⟩ := I.list hs
  rw [Vals.ref1 r]
  have rd2 : EachIs (fun u b => DL.Rds (sortingHeap (copyHeap s.heap its) (s.heap.objs.size + 1) its) u (enc b)) its bs := (each_reads I rv hd).mono fun _ _ ⟨as, r⟩ => ⟨as, PyProof.Rows.Reads.keeps (fun _ _ => sorting_copy_old) r⟩
  have lb : its.length = bs.length := rv.length.symm.trans (List.length_map ..)
  have h2 := sortVals_data false (each_vals rv) rd2 hal
  refine sorted_vals hl.isList (dl_sortsAt (s := { s with heap := sortingHeap (copyHeap s.heap its) (s.heap.objs.size + 1) its }) (each_map (R := DL.Rds (sortingHeap (copyHeap s.heap its) (s.heap.objs.size + 1) its)) enc rd2) hal hk fun d m => ?_) (by rw [lb]; exact hL) ?_
  · obtain ⟨b, mb, rfl⟩ := List.mem_map.mp m
    exact hu b mb
  generalize sortVals (dataKind (sortingHeap (copyHeap s.heap its) (s.heap.objs.size + 1) its) (bs.map enc)) false its its = out at h2 ⊢
  obtain ⟨ep, he'⟩ := PyProof.Rows.sortedAll_at s.heap its out.toArray
  have hlen : ((bs.mergeSort (dataLe false enc)).map f).length ≤ sizeLine := by
    rw [List.length_map, List.length_mergeSort]; exact hL
  exact ⟨.ref _, upd H (s.heap.objs.size + 1) (.lst ((bs.mergeSort (dataLe false enc)).map f)), I.laid (t' := s.toks) (fun _ _ => PyProof.Rows.sortedAll_old) (Nat.le_succ _) ⟨hlen, out, ep, vals_each h2, he'⟩, rfl, q _ (I.hok.fresh (Nat.le_succ _))⟩
end L2
namespace DL
open PySem L2
/-- a list's items -/
def seqL (S : Sto) : D → Option (List D)
  | .tup _ => none
  | d => seqD S d
def tupB : PyData → Bool
  | .tuple _ => true
  | _ => false
def tupNE : PyData → Bool
  | .tuple (_ :: _) => true
  | _ => false
def okSort (ps : List PyData) : Bool := ps.all (fun a => a.plain && decide (a.depth ≤ 60) && ps.all fun b => PySem.W.alike a b) && decide (ps.length ≤ lim) &&
  (ps.all tupNE || ps.all (fun a => !tupB a && !(match a with | .none => true | _ => false)) || (ps.all tupB && (match ps with | .tuple [] :: _ => true | _ => false)))
/-- sorting that the kernel can do -/
def ins {α : Type} (le : α → α → Bool) (a : α) : List α → List α
  | [] => [a]
  | b :: r => if le a b then a :: b :: r else b :: ins le a r
def isort {α : Type} (le : α → α → Bool) : List α → List α
  | [] => []
  | a :: l => ins le a (isort le l)
theorem ins_app {α : Type} {le : α → α → Bool} {a : α} : ∀ {l1 l2 : List α}, (∀ b ∈ l1, le a b = false) → (∀ b ∈ l2, le a b = true) → ins le a (l1 ++ l2) = l1 ++ a :: l2
  | [], [], _, _ => rfl
  | [], b :: r, _, h => by
    show (if le a b then a :: b :: r else b :: ins le a r) = _
    rw [if_pos (h b List.mem_cons_self)]; rfl
  | b :: l1, l2, h1, h2 => by
    show (if le a b then a :: b :: (l1 ++ l2) else b :: ins le a (l1 ++ l2)) = _
    rw [if_neg (by rw [h1 b List.mem_cons_self]; decide), ins_app (fun c hc => h1 c (List.mem_cons_of_mem _ hc)) h2]; rfl
theorem isort_eq {α : Type} {le : α → α → Bool} (T : PySem.W.TotalLe le) : ∀ l : List α, isort le l = l.mergeSort le
  | [] => by simp [isort]
  | a :: l => by
    have tot : ∀ a b, (le a b || le b a) = true := fun a b => by rw [Bool.or_eq_true]; exact T.total a b
    obtain ⟨l1, l2, h1, h2, h3⟩ := List.mergeSort_cons T.trans tot a l
    have pw := List.pairwise_mergeSort T.trans tot (a :: l)
    rw [h1] at pw
    have h4 : ∀ b ∈ l2, le a b = true := fun b hb => List.rel_of_pairwise_cons (List.pairwise_append.mp pw).2.1 hb
    show ins le a (isort le l) = _
    rw [isort_eq T l, h2, h1]
    exact ins_app (fun b hb => by simpa using h3 b hb) h4
def sortD (ds : List D) : List D := isort (PySem.W.dataLe false toPy) ds
def sortedG (S : Sto) (ds : List D) : Option D := match ds with
  | [d] => (seqL S d).bind fun xs => if okSort (xs.map toPy) then some (.lst (sortD xs)) else none
  | _ => none
theorem okSort_of {ps : List PyData} (h : okSort ps = true) : PySem.W.AllAlike ps ∧ PySem.W.SortOk ps ∧ ps.length ≤ lim ∧ ∀ d ∈ ps, d.plain = true ∧ d.depth ≤ 60 := by
  unfold okSort at h
  simp only [Bool.and_eq_true, List.all_eq_true, decide_eq_true_eq, Bool.or_eq_true] at h
  obtain ⟨⟨h1, h2⟩, h3⟩ := h
  refine ⟨fun d hd d' hd' => (h1 d hd).2 d' hd', ?_, h2, fun d hd => (h1 d hd).1⟩
  rcases h3 with (h3 | h3) | h3
  · refine .inl (.inl fun d hd => ?_)
    have := h3 d hd
    match d, this with
    | .tuple (x :: r), _ => exact ⟨x, r, rfl⟩
  · refine .inl (.inr fun d hd => ?_)
    have := h3 d hd
    refine ⟨fun e => ?_, fun xs e => ?_⟩
    · subst e; simp at this
    · subst e; simp [tupB] at this
  · refine .inr ⟨fun d hd => ?_, ?_⟩
    · have := h3.1 d hd
      match d, this with
      | .tuple xs, _ => exact ⟨xs, rfl⟩
    · have := h3.2
      match ps, this with
      | .tuple [] :: _, _ => rfl
section
variable {U : Uv} {M : Mp} {H : Hp} {S : Sto}
theorem Rep.seqL' {v : V} {d : D} {ds : List D} (r : R U M S H) (h : Rep U M H v d) (e : seqL S d = some ds) : ∃ a xs, v = .ref a ∧ SqL U.K H a xs ∧ RepAll U M H xs ds := by
  cases d with
  | tup xs => cases e
  | lst xs =>
    cases e
    obtain ⟨a, ys, h1, h2, h3⟩ := h.lstV
    exact ⟨a, ys, h1, .inl (.inl h2), h3⟩
  | fz xs =>
    cases e
    cases h with
    | fz hf ra => exact ⟨_, _, rfl, hf.sq, ra⟩
  | obj i =>
    have e' : (match S[i]? with | some (.lst xs) => some xs | _ => none) = some ds := e
    cases q : S[i]? with
    | none => rw [q] at e'; cases e'
    | some o =>
      rw [q] at e'
      cases o with
      | ins _ _ => cases e'
      | lst xs =>
        cases e'
        obtain ⟨a, ys, h1, h2, h3, _⟩ := h.objL r q
        exact ⟨a, ys, h1, .inl (.inl h2), h3⟩
  | _ => cases e
theorem RepAll.zipV : ∀ {vs : List V} {ds : List D}, RepAll U M H vs ds → ((vs.zip ds).map (·.1)) = vs ∧ ((vs.zip ds).map (·.2)) = ds ∧ ∀ b ∈ vs.zip ds, Rep U M H b.1 b.2
  | _, _, .nil => ⟨rfl, rfl, fun b hb => by cases hb⟩
  | v :: vs, d :: ds, .cons h r => by
    obtain ⟨h1, h2, h3⟩ := RepAll.zipV r
    refine ⟨by simp only [List.zip_cons_cons, List.map_cons, h1], by simp only [List.zip_cons_cons, List.map_cons, h2], fun b hb => ?_⟩
    rcases List.mem_cons.mp hb with rfl | hb
    · exact h
    · exact h3 b hb
theorem RepAll.ofZip : ∀ {bs : List (V × D)}, (∀ b ∈ bs, Rep U M H b.1 b.2) → RepAll U M H (bs.map (·.1)) (bs.map (·.2))
  | [], _ => .nil
  | b :: bs, h => .cons (h b List.mem_cons_self) (RepAll.ofZip fun b hb => h b (List.mem_cons_of_mem _ hb))
theorem sortD_zip {bs : List (V × D)} : (bs.mergeSort (PySem.W.dataLe false fun b => toPy b.2)).map (·.2) = sortD (bs.map (·.2)) := by
  unfold sortD
  rw [isort_eq (le := PySem.W.dataLe false toPy) (PySem.W.sortLe_total _ _ _)]
  exact List.map_mergeSort (fun _ _ _ _ => rfl)
end
section
variable {X : Cx} {U : Uv} {k : Nat}
theorem c_sorted (hr : Room k X.A) (hK : X.K = U.K := by rfl) : CallD U X (.builtin "sorted") sortedG :=
  ofC (rSortD X.K X.A) cr_sortD fun M S H xs ds d Q r ra e g => by
    match ds, ra, e with
    | [d0], ra, e =>
      obtain ⟨v, rfl, h⟩ := ra.one
      have e' : ((seqL S d0).bind fun xs => if okSort (xs.map toPy) then some (D.lst (sortD xs)) else none) = some d := e
      cases q : seqL S d0 with
      | none => rw [q] at e'; cases e'
      | some ys =>
        rw [q] at e'
        change (if okSort (ys.map toPy) then some (D.lst (sortD ys)) else none) = some d at e'
        by_cases hk : okSort (ys.map toPy) = true
        · rw [if_pos hk] at e'
          cases e'
          obtain ⟨k1, k2, k3, k4⟩ := okSort_of hk
          obtain ⟨a, vs, rfl, hs, rv⟩ := h.seqL' r q
          obtain ⟨z1, z2, z3⟩ := rv.zipV
          have zm : (vs.zip ys).map (fun b => toPy b.2) = ys.map toPy := by
            rw [show (vs.zip ys).map (fun b => toPy b.2) = ((vs.zip ys).map (·.2)).map toPy from by rw [List.map_map]; rfl, z2]
          refine ⟨V × D, a, vs.zip ys, (·.1), fun b => toPy b.2, rfl, by rw [z1, hK]; exact hs, fun b hb => ?_, by rw [zm]; exact k1, by rw [zm]; exact k2, ?_, fun b hb => ?_, fun p hp => ?_⟩
          · rw [hK]
            exact (z3 b hb).dp (k4 _ (by rw [← zm]; exact List.mem_map.mpr ⟨b, hb, rfl⟩)).1
          · have : (vs.zip ys).length = ys.length := by
              have z := congrArg List.length z2
              rwa [List.length_map] at z
            rw [this]
            rw [List.length_map] at k3
            exact lim_line k3
          · have hd := (k4 _ (by rw [← zm]; exact List.mem_map.mpr ⟨b, hb, rfl⟩)).2
            have h1 := hr.un
            have h2 : (toPy b.2).depth ≤ 60 := hd
            show X.A.units + 2 + (toPy b.2).depth < cLine
            omega
          · have rr : RepAll U M H (((vs.zip ys).mergeSort (PySem.W.dataLe false fun b => toPy b.2)).map (·.1)) (sortD ys) := by
              have := RepAll.ofZip (U := U) (M := M) (H := H) (bs := (vs.zip ys).mergeSort (PySem.W.dataLe false fun b => toPy b.2)) fun b hb => z3 b (List.mem_mergeSort.mp hb)
              rwa [sortD_zip, z2] at this
            exact g.lst r rr hp
        · rw [if_neg hk] at e'; cases e'
end
end DL
/-! ### sorted(xs, key=f), f a def -/
namespace L2
open PySem PySem.Spec PyProof.Rows PySem.W
/-- an object no longer tracked -/
def hide (H : Hp) (k : Addr) : Hp := fun b => if b = k then none else H b
/-- all objects of a heap but these and those of the base -/
def others (h base : Heap) (ex : List Addr) : List (Addr × Obj) := (List.range h.objs.size).filterMap fun b => if b ∈ ex then none else match base.get? b, h.get? b with
  | none, some o => some (b, o)
  | _, _ => none
theorem oth_mem {h base : Heap} {ex : List Addr} {p : Addr × Obj} (m : p ∈ others h base ex) : h.get? p.1 = some p.2 ∧ p.1 ∉ ex ∧ base.get? p.1 = none := by
  obtain ⟨b, _, e⟩ := List.mem_filterMap.mp m
  by_cases q : b ∈ ex
  · rw [if_pos q] at e; cases e
  · rw [if_neg q] at e
    cases q1 : base.get? b with
    | some _ => rw [q1] at e; cases e
    | none =>
      cases q2 : h.get? b with
      | none => rw [q1, q2] at e; cases e
      | some o =>
        rw [q1, q2] at e
        cases e
        exact ⟨q2, q, q1⟩
theorem oth_all {h base : Heap} {ex : List Addr} {b : Addr} {o : Obj} (e : h.get? b = some o) (n : b ∉ ex) (nb : base.get? b = none) : (b, o) ∈ others h base ex :=
  List.mem_filterMap.mpr ⟨b, List.mem_range.mpr (Heap.lt_size e), by rw [if_neg n, nb, e]⟩
theorem ns_one {h : Heap} {a : Addr} {m m' : Str → Option Value} (x : h.Ns a m) (y : h.Ns a m') : m = m' := by
  obtain ⟨o, es, ep, g1, d1, _, e1⟩ := x
  obtain ⟨o2, es2, ep2, g2, d2, _, e2⟩ := y
  rw [g1] at g2
  cases g2
  rw [d1] at d2
  cases d2
  funext x
  exact (e1 x).symm.trans (e2 x)
/-- the sort's end, seen from here: all that stood stands, the keys' list is gone, the list is tracked -/
theorem Inv.sorted {X : Cx} {pins : List (Addr × Obj)} {σ : St} {H : Hp} {s : Shared} {h' : Heap} {a kS : Addr} {o : HO} {m : Str → Option Value} {t' : Nat} (I : Inv X pins σ H s) (F : FpOk X pins H a) (FK : FpOk X pins (hide H kS) kS) (hns : s.heap.Ns X.env.locals m) (hns' : h'.Ns X.env.locals m)
    (ks : ∃ xs, H kS = some (.lst xs)) (keep : ∀ b u, b ≠ a → b ≠ kS → b ≠ X.env.locals → s.heap.get? b = some u → h'.get? b = some u) (new : ObjOk X.prog X.w (upd (hide H kS) a o) h' a o) : Inv X pins σ (upd (hide H kS) a o) { s with heap := h', toks := t' } := by
  obtain ⟨f0, f1, f2, f3, f4, f5⟩ := F
  obtain ⟨_, k1, k2, k3, k4, k5⟩ := FK
  obtain ⟨xs, hk⟩ := ks
  have tr : ∀ b u, H b = some u → b ≠ kS → upd (hide H kS) a o b = some u := fun b u e n => by
    rw [upd_ne fun z => by rw [z, f0] at e; cases e]
    show (if b = kS then none else H b) = _
    rw [if_neg n]; exact e
  have un : ∀ b, b ≠ a → H b = none → upd (hide H kS) a o b = none := fun b n e => by
    rw [upd_ne n]
    show (if b = kS then none else H b) = _
    by_cases q : b = kS
    · rw [if_pos q]
    · rw [if_neg q]; exact e
  have outA : ∀ b, b ∉ [a, kS] → b ≠ a ∧ b ≠ kS := fun b hb => ⟨fun z => hb (by simp [z]), fun z => hb (by simp [z])⟩
  refine I.step (g' := s.gens) (d' := s.drawn) (ch := [a, kS]) (fun b hb => ?_) (fun b u hL _ hc e _ => keep b u (outA b hc).1 (outA b hc).2 hL e) (fun b u hL _ hc e _ => ⟨u.slots, keep b u (outA b hc).1 (outA b hc).2 hL e⟩) (fun b _ hc _ n => un b (outA b hc).1 n)
    (fun b u hc e => ?_) (fun b xs e => tr b _ e fun z => by rw [z, hk] at e; cases e) (fun b u v e => tr b _ e fun z => by rw [z, hk] at e; cases e) (fun b ps e => ⟨#[], by rw [tr b _ e fun z => by rw [z, hk] at e; cases e]; simp⟩) (fun m2 hm => by rw [← ns_one hns hm]; exact hns') (fun b u e => ?_) I.bare
  · rcases List.mem_cons.mp hb with rfl | hb
    · exact ⟨f3, f1, f4, f5⟩
    · rw [List.mem_singleton.mp hb]; exact ⟨k3, k1, k4, k5⟩
  · by_cases hL : b = X.env.locals
    · obtain ⟨o', _, _, g, _⟩ := hns'
      exact ⟨o', by rw [hL]; exact g⟩
    · exact ⟨u, keep b u (outA b hc).1 (outA b hc).2 hL e⟩
  · by_cases hb : b = a
    · subst hb; rw [upd_same] at e; cases e; exact new
    · rw [upd_ne hb] at e
      have e1 : (if b = kS then none else H b) = some u := e
      by_cases q : b = kS
      · rw [if_pos q] at e1; cases e1
      · rw [if_neg q] at e1
        have nL : ∀ c v, H c = some v → c ≠ X.env.locals := fun c v z y => by rw [y, I.free] at z; cases z
        refine (I.hok b u e1).stay (fun c v hc g => ?_) (fun c g => tr c _ g fun z => by rw [z, hk] at g; cases g) fun c ys g => tr c _ g fun z => by rw [z, hk] at g; cases g
        rcases hc with z | z
        · rw [z] at g ⊢; exact keep b v hb q (nL b _ e1) g
        · exact keep c v (fun y => by rw [y, f0] at z; cases z) (fun y => by rw [y, hk] at z; cases z) (nL c _ z) g
/-- what a key def's calls want: Pv by the turn, the keys so far, the heap; the keys' list at kS -/
def rSortK (K : PySem.W.Frag) (A : Around) (sp : Sp) (E : XK) (x : V) (H : Hp) (Q : VK) : Prop := ∃ (l : Addr) (xs : List V), x = V.ref l ∧ SqL K H l xs ∧ ∀ kS, H kS = none → ∃ Pv : Nat → List V → Hp → Prop, Pv 0 [] (upd H kS (.lst [])) ∧ (∀ i ks H', Pv i ks H' → H' kS = some (.lst ks)) ∧
  (∀ i y ks H', xs[i]? = some y → Pv i ks H' → sp [y] H' (fun k H'' => H'' kS = some (.lst ks) ∧ Pv (i + 1) (ks ++ [k]) (upd H'' kS (.lst (ks ++ [k])))) E) ∧
  (∀ ks H', Pv xs.length ks H' → ∃ (β : Type) (bs : List β) (fk fv : β → V) (enc : β → PyData), ks = bs.map fk ∧ xs = bs.map fv ∧ (∀ b ∈ bs, Dp K H' (fk b) (enc b)) ∧ AllAlike (bs.map enc) ∧ SortOk (bs.map enc) ∧ (∀ b ∈ bs, A.units + 2 + (enc b).depth < cLine) ∧
    ∀ p, H' p = none → p ≠ kS → Q (.ref p) (upd (hide H' kS) p (.lst ((bs.mergeSort (dataLe false enc)).map fv))))
theorem Around.units_in2 {A : Around} : A.in1.in1.units ≤ A.units + 2 := by
  show A.units + 1 + 1 ≤ A.units + 2
  exact Nat.le_refl _
theorem run_sortK {X : Cx} {pins : List (Addr × Obj)} {σ : St} {H : Hp} {s : Shared} {CX : CXT} {k : Nat} {f : Addr} {fd : FuncData} {ps : List Str} {sp : Sp} {E : XK} {x : V} {u : Value} {Q : VK}
    (F : FnOk X.prog X.w X.K X.mg X.base CX k f fd ps sp) (hr : Room (k + 2) X.A) (hb : Binds X.K fd ps []) (hE : ∀ outer H s e s', ¬ CX outer H s E e s') (I : Inv X pins σ H s) (rx : RelV x u) (h : rSortK X.K X.A sp E x H Q) :
    wpAny (model X.prog X.w) X.A (call (.builtin "sorted") [u] [(Str.ofString "key", .ref f)]) (EP X pins σ Q) X.xe s := by
  obtain ⟨l, xs, rfl, hs, hk⟩ := h
  cases rx
  obtain ⟨its, rv, hl, hz⟩ := I.list hs
  have hzi : its.length ≤ sizeLine := by rw [← rv.length]; exact hz
  refine sorted_of_sort hl.isList hzi (ksk_s1 _ _) (fun _ => ksk_l1 _ _) fun E' => ?_
  rw [ksk_t1]
  generalize hh0 : copyHeap s.heap its = h0
  have old0 : ∀ b o, s.heap.get? b = some o → h0.get? b = some o := fun b o q => by rw [← hh0]; exact copyHeap_old q
  have a0 : h0.get? (s.heap.objs.size + 1) = some (seqObj "list" its.toArray 0) := by rw [← hh0]; exact copyHeap_at s.heap its
  generalize ha : s.heap.objs.size + 1 = a at a0 ⊢
  have hane : ∀ b o, s.heap.get? b = some o → b ≠ a := fun b o q z => by
    have h1 := Heap.lt_size q
    rw [z, ← ha] at h1
    exact absurd h1 (Nat.not_lt.mpr (Nat.le_succ _))
  obtain ⟨e1, ho1⟩ : ∃ e1, (h0.update a (Obj.mapSeq fun _ => (#[] : Array Value))).get? a = some (seqObj "list" #[] e1) := ⟨_, get?_update_seq a0 fun _ => #[]⟩
  have old1 : ∀ b o, s.heap.get? b = some o → (h0.update a (Obj.mapSeq fun _ => (#[] : Array Value))).get? b = some o := fun b o q => by
    rw [(Heap.SameBut.update h0 a _).2 b (hane b o q)]; exact old0 b o q
  unfold ksk_tree
  refine wpAny_bind (listItems_at a0 rfl ?_)
  refine wpAny_bind (listUpdate_at a0 rfl ?_ (by rw [List.size_toArray]; exact hzi) (Nat.zero_le _))
  refine wpAny_bind (seqEpoch_at ho1 rfl ?_)
  refine wpAny_bind (wpAny_newTuple ?_ (by show its.length ≤ _; exact hzi))
  refine wpAny_bind (wpAny_newList ?_ (Nat.zero_le _))
  refine wpAny_holding ?_
  generalize hh1 : h0.update a (Obj.mapSeq fun _ => (#[] : Array Value)) = h1 at ho1 old1 ⊢
  show wpAny _ _ (ksk_rest a (.ref f) false its.toArray e1 (.ref (h1.push (seqObj "tuple" its.toArray 0)).objs.size)) _ _ { s with heap := (h1.push (seqObj "tuple" its.toArray 0)).push (seqObj "list" #[] 0) }
  generalize hh2 : h1.push (seqObj "tuple" its.toArray 0) = h2
  have old2 : ∀ b o, s.heap.get? b = some o → h2.get? b = some o := fun b o q => by rw [← hh2]; exact Heap.get?_push_of_some _ (old1 b o q)
  have a2 : h2.get? a = some (seqObj "list" #[] e1) := by rw [← hh2]; exact Heap.get?_push_of_some _ ho1
  have I2 : Inv X pins σ H { s with heap := h2 } := I.kept (t' := s.toks) old2
  have nk : H h2.objs.size = none := I2.hok.fresh (Nat.le_refl _)
  have nka : h2.objs.size ≠ a := Nat.ne_of_gt (Heap.lt_size a2)
  have I3 : Inv X pins σ (upd H h2.objs.size (.lst [])) { s with heap := h2.push (seqObj "list" #[] 0) } := I2.laid (t' := s.toks) (fun b o q => Heap.get?_push_of_some _ q) (Nat.le_refl _) ⟨Nat.zero_le _, [], 0, .nil, Heap.get?_push_size _ rfl⟩
  have hna : H a = none := I.hok.fresh (by rw [← ha]; exact Nat.le_succ _)
  have fpa : FpOk X pins H a := I.fpOk (by rw [← ha]; exact Nat.le_succ _) hna
  have fk0 : FpOk X pins H h2.objs.size := I2.fpOk (Nat.le_refl _) nk
  have hbase : X.base.get? a = none := by
    cases q : X.base.get? a with
    | none => rfl
    | some o => exact absurd rfl (hane a o (I.bk a o q))
  obtain ⟨Pv, p0, pk, pstep, pdone⟩ := hk h2.objs.size nk
  generalize hkS : h2.objs.size = kS at nk nka I3 p0 pk pstep pdone fk0 ⊢
  have Ip : ∀ {H' : Hp} {s' : Shared}, Inv X pins σ H' s' → s'.heap.get? a = some (seqObj "list" #[] e1) → H' a = none → Inv X (pins ++ [(a, seqObj "list" #[] e1)]) σ H' s' := fun {H' s'} I' h1 h2 => I'.pins_of fun p hp => by
    rcases List.mem_append.mp hp with hp | hp
    · exact I'.pin p (List.mem_append_right _ hp)
    · rcases List.mem_singleton.mp hp with rfl
      exact ⟨h1, h2, fpa.2.1, fpa.2.2.1, fun v z => by cases z⟩
  have Iq : ∀ {H' : Hp} {s' : Shared}, Inv X (pins ++ [(a, seqObj "list" #[] e1)]) σ H' s' → s'.heap.get? a = some (seqObj "list" #[] e1) ∧ H' a = none := fun {H' s'} I' => by
    have z := I'.pin (a, seqObj "list" #[] e1) (List.mem_append_right _ (List.mem_append_right _ List.mem_cons_self))
    exact ⟨z.1, z.2.1⟩
  have I4 := Ip I3 (Heap.get?_push_of_some _ a2) (by rw [upd_ne (Ne.symm nka)]; exact hna)
  unfold ksk_rest
  refine wpAny_bind (wpAny_rule ?_)
  first
    | rw [List.forIn_toArray]
    | (rw [← Array.forIn_toList]; simp only [List.toList_toArray])
    | rw [← Array.forIn_toList]
  refine wpAny_bind (ksk_fold (fun i s' => ∃ H' ks, Inv X (pins ++ [(a, seqObj "list" #[] e1)]) σ H' s' ∧ Pv i ks H' ∧ ks.length = i) its 0 _ ⟨_, [], I4, p0, rfl⟩ ?step ?done)
  case step =>
    rintro j y s' hy ⟨H', ks, I', pv, hkl⟩
    simp only [Nat.zero_add] at pv hkl ⊢
    obtain ⟨yv, hyv, ryv⟩ : ∃ yv, xs[j]? = some yv ∧ RelV yv y := by
      have : ∀ {vs : List V} {us : List Value} {i : Nat} {u : Value}, Vals vs us → us[i]? = some u → ∃ v, vs[i]? = some v ∧ RelV v u := by
        intro vs us i u r
        induction r generalizing i with
        | nil => intro q; simp at q
        | cons h1 h2 ih =>
          intro q
          cases i with
          | zero => simp at q; subst q; exact ⟨_, rfl, h1⟩
          | succ i => simp at q; exact ih q
      exact this rv hy
    have hq := pstep j yv ks H' hyv pv
    have hl1 : ([yv] : List V).length = ps.length := F.len _ _ _ _ hq
    have bb := hb s' [y] I'.kIn (by rw [List.append_nil]; exact hl1)
    rw [List.append_nil] at bb
    refine wpAny_bind (wpAny_attempt (wpAny_mono (wpAny_call (E := fun _ _ => False) (Q := EP X (pins ++ [(a, seqObj "list" #[] e1)]) σ fun k H'' => H'' kS = some (.lst ks) ∧ Pv (j + 1) (ks ++ [k]) (upd H'' kS (.lst (ks ++ [k])))) (codeAny_mono (F.run X.A.in1.in1 X.stack s' H' ⟨[y], []⟩ [y] [yv] _ E hr.in1.in1 I'.env0.in1.in1 bb (.cons ryv .nil) hq) fun r s'' hr' => ?_)) (fun v s'' he => ?_) fun _ _ hF => hF.elim))
    · cases r with
      | error e => exact hE _ _ _ _ _ hr'
      | ok fl =>
        cases fl with
        | ret u => exact I'.after hr'
        | next => exact False.elim hr'
        | brk => exact False.elim hr'
        | cont => exact False.elim hr'
    · obtain ⟨kv, H2, J, rk, hks, pv2⟩ := he
      try dsimp only
      obtain ⟨kz, kits, kn, krv, kob⟩ := J.hok kS _ hks
      have kl : kits.length = j := by rw [← krv.length, hkl]
      have jlt : j < its.length := (List.getElem?_eq_some_iff.mp hy).1
      refine wpAny_bind (listUpdate_at kob rfl ?_ (by rw [List.size_toArray]; omega) (by rw [Array.size_push, List.size_toArray]; omega))
      obtain ⟨c2, hc2⟩ : ∃ c2, (s''.heap.update kS (Obj.mapSeq (·.push v))).get? kS = some (seqObj "list" (kits.toArray.push v) c2) := ⟨_, get?_update_seq kob (·.push v)⟩
      refine wpAny_pure ⟨rfl, upd H2 kS (.lst (ks ++ [kv])), ks ++ [kv], ?_, pv2, by rw [List.length_append, hkl]; rfl⟩
      refine J.write (e := kS) (t' := s''.toks) (by rw [hks]; trivial) (.inl rfl) (fun b u hb hu => by rw [(Heap.SameBut.update s''.heap kS _).2 b hb]; exact hu) ⟨_, hc2⟩ ⟨?_, kits ++ [v], c2, krv.append (.cons rk .nil), ?_⟩
      · rw [List.length_append, hkl]
        show j + 1 ≤ sizeLine
        omega
      · rw [hc2]
        simp
  case done =>
    rintro s' ⟨H', ks, I', pv, hkl⟩
    simp only [Nat.zero_add] at pv hkl
    obtain ⟨ga, na⟩ := Iq I'
    have J : Inv X pins σ H' s' := I'.unpinned
    have hks := pk _ _ _ pv
    obtain ⟨kz, kits, kn, krv, kob⟩ := J.hok kS _ hks
    rw [← rv.length] at pv hkl
    obtain ⟨β, bs, fk, fv, enc, ek, ex, hd, hal, hso, hu, q⟩ := pdone ks H' pv
    subst ek ex
    have kl : kits.length = its.length := by rw [← krv.length, hkl, rv.length]
    have hrd := each_reads J krv hd
    try dsimp only
    refine wpAny_bind (listItems_at kob rfl ?_)
    obtain ⟨m, fr⟩ := J.fr
    have nbase : ∀ b, (∃ u, H' b = some u) → X.base.get? b = none := fun b ⟨u, hu⟩ => by
      cases q : X.base.get? b with
      | none => rfl
      | some o => rw [(J.bs b o q).2] at hu; cases hu
    have kL : kS ≠ X.env.locals := fun z => by rw [z, J.free] at hks; cases hks
    have N : News X.base X.env.locals s'.heap (others s'.heap X.base [X.env.locals, kS, a] ++ [(kS, seqObj "list" kits.toArray kn), (a, seqObj "list" #[] e1)]) := fun p hp => by
      rcases List.mem_append.mp hp with hp | hp
      · obtain ⟨g, n, nb⟩ := oth_mem hp
        exact ⟨g, fun z => n (by simp [z]), nb⟩
      · rcases List.mem_cons.mp hp with rfl | hp
        · exact ⟨kob, kL, nbase kS ⟨_, hks⟩⟩
        · rw [List.mem_singleton.mp hp]; exact ⟨ga, fpa.2.1, hbase⟩
    refine key_end (vs := its) (e := kn) (e1 := e1) (κ := dataKind s'.heap (bs.map enc)) fr N nka (fun p hp z => (oth_mem hp).2.1 (by simp [z])) (fun p hp z => (oth_mem hp).2.1 (by simp [z])) ?_ (by rw [List.size_toArray]; exact kl) hzi fun h3 tk c3 fr3 N3 => ⟨rfl, ?_⟩
    · rw [List.toList_toArray]
      refine dl_sortsAt (each_map (R := fun v d => ∃ as, Reads s'.heap v d as) enc hrd) hal hso fun d hd => ?_
      obtain ⟨b, hb, rfl⟩ := List.mem_map.mp hd
      exact hu b hb
    · rw [List.toList_toArray] at N3
      have hout := keyedOut_each (rev := false) (R := fun u b => RelV (fv b) u) (bs := bs) enc ⟨s'.heap, kits, hal, rfl, each_map (R := fun v d => ∃ as, Reads s'.heap v d as) enc hrd⟩ (each_vals rv)
      generalize sortVals (dataKind s'.heap (bs.map enc)) false kits its = out at hout N3
      have ha3 := (N3 _ List.mem_cons_self).1
      have keep : ∀ b u, b ≠ a → b ≠ kS → b ≠ X.env.locals → s'.heap.get? b = some u → h3.get? b = some u := fun b u n1 n2 n3 g => by
        cases q : X.base.get? b with
        | none => exact (N3 (b, u) (List.mem_cons_of_mem _ (oth_all g (by simp [n1, n2, n3]) q))).1
        | some o =>
          have z := J.bk b o q
          rw [g] at z
          cases z
          exact fr3.keep b _ q
      have fk : FpOk X pins (hide H' kS) kS := ⟨if_pos rfl, kL, fun z => by
        have := J.stkFree
        cases q : X.base.get? kS with
        | some o => rw [nbase kS ⟨_, hks⟩] at q; cases q
        | none => exact fk0.2.2.1 z, fk0.2.2.2.1, fk0.2.2.2.2.1, fk0.2.2.2.2.2⟩
      have K2 := J.sorted (t' := tk) (o := .lst ((bs.mergeSort (dataLe false enc)).map fv)) ⟨na, fpa.2⟩ fk fr.ns fr3.ns ⟨_, hks⟩ keep ⟨by rw [List.length_map, List.length_mergeSort]; rw [List.length_map] at hz; exact hz, out, c3, vals_each hout, ha3⟩
      exact ⟨.ref a, _, K2, rfl, q a na nka.symm⟩
end L2
/-! DL8: sorted(xs, key=f), by mirrors; isinstance of an exception in its suite. -/
namespace DL
open PySem L2
def keysL (F : Mi) : List D → Sto → Option (List D × Sto)
  | [], S => some ([], S)
  | x :: xs, S => match F [x] S with
    | .ok k S1 => match keysL F xs S1 with
      | some (ks, S2) => some (k :: ks, S2)
      | none => none
    | _ => none
def sortK (ks xs : List D) : List D := (isort (PySem.W.dataLe false fun b => toPy b.1) (ks.zip xs)).map (·.2)
def mSortKW (fin : List D → Sto → Out D) (F : Mi) (m : ME) : ME := fun ρ S => (m ρ S).bind fun d S1 => match seqL S1 d with
  | some xs => match keysL F xs S1 with
    | some (ks, S2) => if okSort (ks.map toPy) then fin (sortK ks xs) S2 else .stuck
    | none => .stuck
  | none => .stuck
abbrev finL : List D → Sto → Out D := fun xs S => .ok (.lst xs) S
abbrev finO : List D → Sto → Out D := fun xs S => .ok (.obj S.length) (S ++ [.lst xs])
theorem keysL_cons {F : Mi} {x : D} {xs : List D} {S : Sto} {ks : List D} {S2 : Sto} (h : keysL F (x :: xs) S = some (ks, S2)) : ∃ k S1 r, F [x] S = .ok k S1 ∧ ks = k :: r ∧ keysL F xs S1 = some (r, S2) := by
  unfold keysL at h
  cases q : F [x] S with
  | ok k S1 =>
    rw [q] at h
    simp only at h
    cases q2 : keysL F xs S1 with
    | none => rw [q2] at h; cases h
    | some p =>
      obtain ⟨r, S3⟩ := p
      rw [q2] at h
      cases h
      exact ⟨k, S1, r, rfl, rfl, q2⟩
  | exc e S1 => rw [q] at h; cases h
  | stuck => rw [q] at h; cases h
theorem keysL_len {F : Mi} : ∀ {xs : List D} {S : Sto} {ks : List D} {S2 : Sto}, keysL F xs S = some (ks, S2) → ks.length = xs.length
  | [], _, _, _, h => by cases h; rfl
  | x :: xs, _, _, _, h => by
    obtain ⟨k, S1, r, _, rfl, h2⟩ := keysL_cons h
    rw [List.length_cons, List.length_cons, keysL_len h2]
section
variable {U : Uv} {M : Mp} {H : Hp}
theorem zip4 : ∀ {ks vs : List V} {kd xd : List D}, RepAll U M H ks kd → RepAll U M H vs xd → ks.length = vs.length →
    (((ks.zip kd).zip (vs.zip xd)).map fun b => b.1.1) = ks ∧ (((ks.zip kd).zip (vs.zip xd)).map fun b => b.2.1) = vs ∧ (((ks.zip kd).zip (vs.zip xd)).map fun b => (b.1.2, b.2.2)) = kd.zip xd ∧ (((ks.zip kd).zip (vs.zip xd)).map fun b => b.1.2) = kd ∧
      ∀ b ∈ (ks.zip kd).zip (vs.zip xd), Rep U M H b.1.1 b.1.2 ∧ Rep U M H b.2.1 b.2.2
  | _, _, _, _, .nil, .nil, _ => ⟨rfl, rfl, rfl, rfl, fun b hb => by cases hb⟩
  | _, _, _, _, .nil, .cons _ _, h => by cases h
  | _, _, _, _, .cons _ _, .nil, h => by cases h
  | _, _, _, _, .cons h1 r1, .cons h2 r2, h => by
    obtain ⟨a1, a2, a3, a4, a5⟩ := zip4 r1 r2 (by simpa using h)
    refine ⟨by simp only [List.zip_cons_cons, List.map_cons, a1], by simp only [List.zip_cons_cons, List.map_cons, a2], by simp only [List.zip_cons_cons, List.map_cons, a3], by simp only [List.zip_cons_cons, List.map_cons, a4], fun b hb => ?_⟩
    rcases List.mem_cons.mp hb with rfl | hb
    · exact ⟨h1, h2⟩
    · exact a5 b hb
theorem RepAll.ofMap {β : Type} {f : β → V} {g : β → D} : ∀ {bs : List β}, (∀ b ∈ bs, Rep U M H (f b) (g b)) → RepAll U M H (bs.map f) (bs.map g)
  | [], _ => .nil
  | b :: bs, h => .cons (h b List.mem_cons_self) (RepAll.ofMap fun b hb => h b (List.mem_cons_of_mem _ hb))
end
section
variable {X : Cx} {U : Uv} {W : WX} {k j : Nat} {F : Mi} {x : Str} {e : Expr} {m : ME} {p pos : Pos} {f : Addr} {fd : FuncData} {pn : Str}
theorem sortK_post {fin : List D → Sto → Out D} (hfin : ∀ {M : Mp} {S : Sto} {H : Hp} {σ : L2.St} {Q : VK} {vs : List V} {ds : List D} {p : Addr}, PostX U (Rep U) M H σ W (fin ds S) Q → R U M S H → RepAll U M H vs ds → H p = none → Q (.ref p) (upd H p (.lst vs)))
    (hr : Room j X.A) (hK : X.K = U.K) {σ : L2.St} {H : Hp} {Q : VK} (h : tE U W (mSortKW fin F m) σ H Q) : tE U W m σ H fun v H1 => rSortK X.K X.A (spF U 1 F) (fun _ _ _ => False) v H1 Q := by
  obtain ⟨M, S, ρ, A, p⟩ := h
  refine tX.bind A p fun d S1 M1 H1 v e1 A1 r1 p1 => ?_
  cases q : seqL S1 d with
  | none => simp only [q] at p1; exact p1.elim
  | some xs =>
    simp only [q] at p1
    cases q2 : keysL F xs S1 with
    | none => simp only [q2] at p1; exact p1.elim
    | some kk =>
      obtain ⟨kd, S2⟩ := kk
      simp only [q2] at p1
      by_cases hok : okSort (kd.map toPy) = true
      · rw [if_pos hok] at p1
        obtain ⟨k1, k2, k3, k4⟩ := okSort_of hok
        obtain ⟨a, vs, rfl, hs, rv⟩ := r1.seqL' A1.r q
        have hl : kd.length = xs.length := keysL_len q2
        refine ⟨a, vs, rfl, by rw [hK]; exact hs, fun kS hkS => ?_⟩
        have hnob : ∀ {M' : Mp} {S' : Sto} {H' : Hp}, R U (M'.priv kS) S' H' → ¬ M'.ob kS := fun r => r.prn kS List.mem_cons_self
        refine ⟨fun i ks H' => ∃ Mq S', Ext M1 H1 Mq H' ∧ R U (Mq.priv kS) S' H' ∧ H' kS = some (.lst ks) ∧ RepAll U (Mq.priv kS) H' ks (kd.take i) ∧ keysL F (xs.drop i) S' = some (kd.drop i, S2),
          ⟨M1, S1, A1.r.extNew hkS, A1.r.priv hkS, upd_same, .nil, q2⟩, fun i ks H' ⟨_, _, _, _, z, _⟩ => z, fun i y ks H' hy ⟨Mq, S', f0, R3, hHD, ra, hkl⟩ => ?_, fun ks H' ⟨Mq, S', f0, R3, hHD, ra, hkl⟩ => ?_⟩
        · obtain ⟨dy, hdy, rdy⟩ := rv.getV hy
          have hlt : i < xs.length := (List.getElem?_eq_some_iff.mp hdy).1
          have hd : xs.drop i = dy :: xs.drop (i + 1) := by
            rw [List.drop_eq_getElem_cons hlt]
            rw [List.getElem?_eq_getElem hlt] at hdy
            rw [Option.some.inj hdy]
          rw [hd] at hkl
          obtain ⟨kk, S1', rr, hF, ekk, hkl2⟩ := keysL_cons hkl
          have hlk : i < kd.length := by rw [hl]; exact hlt
          have hdk := List.drop_eq_getElem_cons hlk
          rw [hdk] at ekk
          obtain ⟨ek1, ek2⟩ := List.cons.inj ekk
          refine ⟨Mq.priv kS, S', [dy], R3, .cons (rdy.mv (mvPriv f0 hkS)) .nil, rfl, ?_⟩
          rw [hF]
          intro M4 H4 b e4 R4 rb
          obtain ⟨M5, em, f5⟩ := e4.unpriv
          subst em
          have hD4 : H4 kS = some (.lst ks) := e4.keep _ _ hHD (R3.prn kS List.mem_cons_self)
          have hpr : kS ∈ (M5.priv kS).pr := List.mem_cons_self
          have f15 := f0.trans f5
          refine ⟨hD4, M5, S1', extWrite f15 hkS (hnob R4), R4.write hpr, upd_same, ?_, ?_⟩
          · have et : kd.take (i + 1) = kd.take i ++ [kk] := by
              rw [List.take_add_one, List.getElem?_eq_getElem hlk, ek1]; rfl
            rw [et]
            exact ((ra.ext e4).append (.cons rb .nil)).mv (Mv.write hpr)
          · rw [hkl2, ek2]
        · have evl : vs.length = xs.length := rv.length
          rw [evl, ← hl] at ra
          rw [List.take_length] at ra
          rw [evl, List.drop_length] at hkl
          obtain ⟨_, eS⟩ := Prod.mk.inj (Option.some.inj hkl)
          subst eS
          have rv' := rv.mv (mvPriv f0 hkS)
          obtain ⟨z1, z2, z3, z4, z5⟩ := zip4 ra rv' (by rw [ra.length, evl, hl])
          have zm : ((ks.zip kd).zip (vs.zip xs)).map (fun b => toPy b.1.2) = kd.map toPy := by
            rw [show ((ks.zip kd).zip (vs.zip xs)).map (fun b => toPy b.1.2) = (((ks.zip kd).zip (vs.zip xs)).map fun b => b.1.2).map toPy from by rw [List.map_map]; rfl, z4]
          refine ⟨(V × D) × (V × D), (ks.zip kd).zip (vs.zip xs), fun b => b.1.1, fun b => b.2.1, fun b => toPy b.1.2, z1.symm, z2.symm, fun b hb => ?_, by rw [zm]; exact k1, by rw [zm]; exact k2, fun b hb => ?_, fun p hp npk => ?_⟩
          · rw [hK]
            exact (z5 b hb).1.dp (k4 _ (by rw [← zm]; exact List.mem_map.mpr ⟨b, hb, rfl⟩)).1
          · have hd := (k4 _ (by rw [← zm]; exact List.mem_map.mpr ⟨b, hb, rfl⟩)).2
            have h1 := hr.un
            have h2 : (toPy b.1.2).depth ≤ 60 := hd
            show X.A.units + 2 + (toPy b.1.2).depth < cLine
            omega
          · have mvh : Mv (Mq.priv kS) H' Mq (hide H' kS) := ⟨Nat.le_refl _, fun _ _ => rfl, fun b o g n => by
              have nk : b ≠ kS := fun z => n (priv_has.mpr (.inr (.inl z)))
              refine ⟨?_, fun z => n (priv_has.mpr (z.elim .inl fun z => .inr (.inr z)))⟩
              show (if b = kS then none else H' b) = _
              rw [if_neg nk]; exact g⟩
            have kp : ∀ b o, b ≠ kS → H' b = some o → hide H' kS b = some o := fun b o n g => by
              show (if b = kS then none else H' b) = _
              rw [if_neg n]; exact g
            have R5 : R U Mq S' (hide H' kS) := ⟨R3.n, R3.inj, fun i ob h => by
                have hi : i < Mq.n := Nat.lt_of_lt_of_eq (List.getElem?_eq_some_iff.mp h).1 R3.n.symm
                exact ObAt.mv mvh (fun u hu => kp _ _ (fun z => hnob R3 ⟨i, hi, z⟩) hu) (R3.at_ i ob h),
              fun b hb => by
                have nk : b ≠ kS := fun z => by
                  rw [f0.pr] at hb
                  obtain ⟨u, hu⟩ := A1.r.prl b hb
                  rw [z, hkS] at hu; cases hu
                obtain ⟨u, hu⟩ := R3.prl b (List.mem_cons_of_mem _ hb)
                exact ⟨u, kp b u nk hu⟩,
              fun b hb z => R3.prn b (List.mem_cons_of_mem _ hb) z⟩
            have ex : Ext M1 H1 Mq (hide H' kS) := ⟨f0.le, f0.same, f0.fresh, fun b o g n => kp b o (fun z => by rw [z, hkS] at g; cases g) (f0.keep b o g n), fun i hi => by
              obtain ⟨u, hu⟩ := f0.live i hi
              exact ⟨u, kp _ u (fun z => hnob R3 ⟨i, hi, z⟩) hu⟩, f0.pr⟩
            refine hfin (PostX.ext ex p1) R5 ?_ (by
              show (if p = kS then none else H' p) = none
              rw [if_neg npk]; exact hp)
            have rr : RepAll U (Mq.priv kS) H' ((((ks.zip kd).zip (vs.zip xs)).mergeSort (PySem.W.dataLe false fun b => toPy b.1.2)).map fun b => b.2.1) (sortK kd xs) := by
              have z := RepAll.ofMap (U := U) (M := Mq.priv kS) (H := H') (f := fun b : (V × D) × (V × D) => b.2.1) (g := fun b => b.2.2) (bs := ((ks.zip kd).zip (vs.zip xs)).mergeSort (PySem.W.dataLe false fun b => toPy b.1.2)) fun b hb => (z5 b (List.mem_mergeSort.mp hb)).2
              have es : (((ks.zip kd).zip (vs.zip xs)).mergeSort (PySem.W.dataLe false fun b => toPy b.1.2)).map (fun b => b.2.2) = sortK kd xs := by
                unfold sortK
                rw [isort_eq (le := PySem.W.dataLe false fun b : D × D => toPy b.1) (PySem.W.sortLe_total _ _ _)]
                have zs := List.map_mergeSort (l := (ks.zip kd).zip (vs.zip xs)) (f := fun b : (V × D) × (V × D) => (b.1.2, b.2.2)) (r := PySem.W.dataLe false fun b : (V × D) × (V × D) => toPy b.1.2) (s := PySem.W.dataLe false fun b : D × D => toPy b.1) (fun _ _ _ _ => rfl)
                rw [z3] at zs
                rw [← zs, List.map_map]
                rfl
              rw [es] at z
              exact z
            exact rr.mv mvh
      · rw [if_neg hok] at p1; exact p1.elim
theorem cr_sortKD {f : Addr} {fd : FuncData} {ps : List Str} {sp : Sp} (G : FnOk X.prog X.w X.K X.mg X.base (L2N.CX X.prog X.w) k f fd ps sp) (hb : Binds X.K fd ps []) (hr : Room (k + 2) X.A) :
    CallRK X (.builtin "sorted") [Str.ofString "key"] (fun xs zs H Q => ∃ v, xs = [v] ∧ zs = [.ref f] ∧ rSortK X.K X.A sp (fun _ _ _ => False) v H Q) := by
  intro pins s σ H xs zs us ws Q I r rz ⟨v, e1, e2, h⟩
  subst e1 e2
  obtain ⟨u, rfl, ru⟩ := vals1 r
  obtain ⟨u2, rfl, ru2⟩ := vals1 rz
  obtain rfl : u2 = Value.ref f := ru2
  exact run_sortK G hr hb (fun outer H s e s' ⟨_, _, _, _, _, _, _, _, _, _, _, _, z⟩ => z) I ru h
theorem finL_ok {M : Mp} {S : Sto} {H : Hp} {σ : L2.St} {Q : VK} {vs : List V} {ds : List D} {p : Addr} (g : PostX U (Rep U) M H σ W (finL ds S) Q) (r : R U M S H) (h : RepAll U M H vs ds) (hp : H p = none) : Q (.ref p) (upd H p (.lst vs)) :=
  g M _ _ (r.extNew hp) (r.new hp) (Rep.newLst r hp h)
theorem e_sortKW {fin : List D → Sto → Out D} (hfin : ∀ {M : Mp} {S : Sto} {H : Hp} {σ : L2.St} {Q : VK} {vs : List V} {ds : List D} {p : Addr}, PostX U (Rep U) M H σ W (fin ds S) Q → R U M S H → RepAll U M H vs ds → H p = none → Q (.ref p) (upd H p (.lst vs)))
    {q2 kpos : Pos} (G : Does X.prog X.w X.K X.mg X.base U k x f fd [pn] F) (he : PE X e (tE U W m)) (hm : X.mg "sorted" = none) (hr : Room j X.A) (hk : k + 2 ≤ j := by decide) (hK : X.K = U.K := by rfl) (hg : Gl X x := by rfl) (hg2 : Gl X "sorted" := by rfl) (hdb : (x == ("__debug__" : Str)) = false := by decide)
    (hst : starEach [e] X.env = (false, eval e X.env) :: starEach [] X.env := by rfl) (hst2 : backTo pos (starEach [e] X.env) = (false, eval e X.env) :: backTo pos (starEach [] X.env) := by rfl) (hpl : (backTo pos (starEach [e] X.env)).any (·.1) = false := by rfl)
    (hall : (backToKw pos (keywordEach [⟨some "key", .Name x q2, kpos⟩] X.env)).all (·.1.isSome) = true := by rfl) (hnone : (backToKw pos (keywordEach [⟨some "key", .Name x q2, kpos⟩] X.env)).any (·.1.isNone) = false := by rfl)
    (hks : (backToKw pos (keywordEach [⟨some "key", .Name x q2, kpos⟩] X.env)).filterMap (·.1) = [Str.ofString "key"] := by rfl) : PE X (.Call (.Name "sorted" p) [e] [⟨some "key", .Name x q2, kpos⟩] pos) (tE U W (mSortKW fin F m)) :=
  pe_imp (pe_callBK (cr_sortKD G.fn G.b (hr.mono hk)) hg2 hm PyProof.Rows.boot_sorted (pa_cons he pa_nil hst) (pk_cons (pe_glob (v := .ref f) hg G.mg_ rfl hdb) pk_nil) (by decide) (by decide) hst2 hpl hall hnone hks) fun σ H Q h => by
    obtain ⟨M, S, ρ, A, p⟩ := sortK_post hfin hr hK h
    exact ⟨M, S, ρ, A, (by
      revert p
      cases m ρ S with
      | ok d S1 => exact fun p M' H' b ex r rb => ⟨b, rfl, rfl, p M' H' b ex r rb⟩
      | exc x S1 => exact fun p => p
      | stuck => exact fun p => p)⟩
theorem e_sortK {q2 kpos : Pos} (G : Does X.prog X.w X.K X.mg X.base U k x f fd [pn] F) (he : PE X e (tE U W m)) (hm : X.mg "sorted" = none) (hr : Room j X.A) (hk : k + 2 ≤ j := by decide) (hK : X.K = U.K := by rfl) (hg : Gl X x := by rfl) (hg2 : Gl X "sorted" := by rfl) (hdb : (x == ("__debug__" : Str)) = false := by decide)
    (hst : starEach [e] X.env = (false, eval e X.env) :: starEach [] X.env := by rfl) (hst2 : backTo pos (starEach [e] X.env) = (false, eval e X.env) :: backTo pos (starEach [] X.env) := by rfl) (hpl : (backTo pos (starEach [e] X.env)).any (·.1) = false := by rfl)
    (hall : (backToKw pos (keywordEach [⟨some "key", .Name x q2, kpos⟩] X.env)).all (·.1.isSome) = true := by rfl) (hnone : (backToKw pos (keywordEach [⟨some "key", .Name x q2, kpos⟩] X.env)).any (·.1.isNone) = false := by rfl)
    (hks : (backToKw pos (keywordEach [⟨some "key", .Name x q2, kpos⟩] X.env)).filterMap (·.1) = [Str.ofString "key"] := by rfl) : PE X (.Call (.Name "sorted" p) [e] [⟨some "key", .Name x q2, kpos⟩] pos) (tE U W (mSortKW finL F m)) :=
  e_sortKW finL_ok G he hm hr hk hK hg hg2 hdb hst hst2 hpl hall hnone hks
/-- .. a new list of the store -/
theorem e_sortKO {q2 kpos : Pos} (G : Does X.prog X.w X.K X.mg X.base U k x f fd [pn] F) (he : PE X e (tE U W m)) (hm : X.mg "sorted" = none) (hr : Room j X.A) (hk : k + 2 ≤ j := by decide) (hK : X.K = U.K := by rfl) (hg : Gl X x := by rfl) (hg2 : Gl X "sorted" := by rfl) (hdb : (x == ("__debug__" : Str)) = false := by decide)
    (hst : starEach [e] X.env = (false, eval e X.env) :: starEach [] X.env := by rfl) (hst2 : backTo pos (starEach [e] X.env) = (false, eval e X.env) :: backTo pos (starEach [] X.env) := by rfl) (hpl : (backTo pos (starEach [e] X.env)).any (·.1) = false := by rfl)
    (hall : (backToKw pos (keywordEach [⟨some "key", .Name x q2, kpos⟩] X.env)).all (·.1.isSome) = true := by rfl) (hnone : (backToKw pos (keywordEach [⟨some "key", .Name x q2, kpos⟩] X.env)).any (·.1.isNone) = false := by rfl)
    (hks : (backToKw pos (keywordEach [⟨some "key", .Name x q2, kpos⟩] X.env)).filterMap (·.1) = [Str.ofString "key"] := by rfl) : PE X (.Call (.Name "sorted" p) [e] [⟨some "key", .Name x q2, kpos⟩] pos) (tE U W (mSortKW finO F m)) :=
  e_sortKW (fun g r h hp => Gives.pushL g r h hp) G he hm hr hk hK hg hg2 hdb hst hst2 hpl hall hnone hks
end
/-! ### isinstance of the exception that a suite holds -/
section
variable {X : Cx} {U : Uv} {W : WX}
theorem e_isE {a : Addr} {oe : Obj} {pn : List (Addr × Obj)} (i : Nat) {n cn : Str} {q p1 p2 pos : Pos} {C C' : Addr} {b : Bool} (ec : ExcC X.K C) (hz : Zc (.ref C) none oe) (hf : ∃ vs, oe.data = .fields vs) (hm : X.mg "isinstance" = none)
    (hmc : X.mg cn = some (.ref C')) (hb : PySem.W.kitOne X.K (.ref C) (.ref C') = some b) (hU : (i, a) ∈ U.f) (hN : X.N[i]? = some n := by rfl) (hv : Vis X.env.scope n := by first | exact Or.inl rfl | exact Or.inr (Or.inl rfl) | exact Or.inr (Or.inr rfl))
    (hg : Gl X "isinstance" := by rfl) (hgc : Gl X cn := by rfl) (hd : (n == ("__debug__" : Str)) = false := by decide) (hcd : (n == ("__classdict__" : Str)) = false := by decide) (hdc : (cn == ("__debug__" : Str)) = false := by decide)
    (he : starEach [Expr.Name n p1, Expr.Name cn p2] X.env = (false, eval (Expr.Name n p1) X.env) :: starEach [Expr.Name cn p2] X.env := by rfl) (he2 : starEach [Expr.Name cn p2] X.env = (false, eval (Expr.Name cn p2) X.env) :: starEach [] X.env := by rfl)
    (hpl : (backTo pos (starEach [Expr.Name cn p2] X.env)).any (·.1) = false := by rfl) : PE (X.suite a ((a, oe) :: pn)) (.Call (.Name "isinstance" q) [.Name n p1, .Name cn p2] [] pos) (tE U W (mC (.bl b))) :=
  pe_imp (pe_callB (call_isE ec hz hf) hg hm PyProof.Rows.boot_isinstance (pa_cons (pv i hN hv hd hcd) (pa_cons (pe_glob (v := .ref C') hgc hmc rfl hdc) pa_nil he2) he) (by decide) (by decide) he hpl) fun σ H Q ⟨M, S, ρ, A, p⟩ => by
    exact ⟨_, A.fx _ hU, .ref C', .ref C', b, rfl, fun _ h => h, hb, p M H _ A.refl A.r (.bl b)⟩
end
end DL
/-! DL9: what the generated texts use. -/
namespace DL
open PySem L2
/-- a module's constant -/
def GC (K : PySem.W.Frag) (mg : Str → Option Value) (U : Uv) (x : Str) (d : D) : Prop := ∃ u v, mg x = some u ∧ RelV v u ∧ ∀ M H, Rep U M H v d
theorem GC.fix {K : PySem.W.Frag} {mg : Str → Option Value} {U : Uv} {x : Str} {d : D} {l : List (Nat × Addr)} (h : GC K mg U x d) : GC K mg (U.fix l) x d := let ⟨u, v, h1, h2, h3⟩ := h; ⟨u, v, h1, h2, fun M H => (h3 M H).fix⟩
section
variable {X : Cx} {U : Uv} {W : WX}
theorem e_gc {x : Str} {d : D} {pos : Pos} (h : GC X.K X.mg U x d) (hg : Gl X x := by rfl) (hd : (x == ("__debug__" : Str)) = false := by decide) : PE X (.Name x pos) (tE U W (mC d)) := by
  obtain ⟨u, v, hm, r, hr⟩ := h
  exact e_glob hm r hr hg hd
def sStuck : MS := fun _ _ => .stuck
theorem ss_stuck {st : List Stmt} : PSs X st (tS U W sStuck) := ⟨fun pins s σ H D I ⟨_, _, _, _, p⟩ => p.elim⟩
/-- by the class of the exception that a suite holds -/
def selX (e : Ex) (c : Nat) (m1 m2 : MS) : MS := if e.c = c ∧ e.fs = [] then m1 else m2
theorem ss_sel {U0 : Uv} {e : Ex} {st : List Stmt} {m1 m2 : MS} {d : Option Addr} {oe : Obj} (c : Nat) (hz : L2N.Zn (.ref (U0.cl e.c)) d oe) (hd : e.fs = [] → d = none) (h : L2N.Zn (.ref (U0.cl c)) none oe → PSs X st (tS U W m1)) (h2 : PSs X st (tS U W m2)) : PSs X st (tS U W (selX e c m1 m2)) := by
  unfold selX
  by_cases q : e.c = c ∧ e.fs = []
  · rw [if_pos q]
    obtain ⟨rfl, q2⟩ := q
    have := hd q2
    subst this
    exact h hz
  · rw [if_neg q]; exact h2
/-- what never answers -/
theorem does_stuck {P : Program} {w : World} {K : PySem.W.Frag} {mg : Str → Option Value} {base : Heap} {k : Nat} {x : Str} {f : Addr} {fd : FuncData} {ps : List Str} (hm : mg x = some (.ref f)) (kp : PySem.W.keepIn K (.ref f) = true) (hb : Binds K fd ps []) : Does P w K mg base U k x f fd ps (fun _ _ => .stuck) :=
  ⟨⟨fun vs H Q E ⟨_, _, _, _, _, _, p⟩ => p.elim, fun A outer s H args us vs Q E _ _ _ _ ⟨_, _, _, _, _, _, p⟩ => p.elim⟩, hm, kp, hb⟩
/-- xs[::-1] of a list -/
def mRev (m : ME) : ME := fun ρ S => (m ρ S).bind fun d S1 => match seqL S1 d with
  | some xs => .ok (.lst xs.reverse) S1
  | none => .stuck
theorem RepAll.rev {M : Mp} {H : Hp} : ∀ {vs : List V} {ds : List D}, RepAll U M H vs ds → RepAll U M H vs.reverse ds.reverse
  | _, _, .nil => .nil
  | v :: vs, d :: ds, .cons h r => by
    rw [List.reverse_cons, List.reverse_cons]
    exact (RepAll.rev r).append (.cons h .nil)
theorem e_rev {e : Expr} {m : ME} {k : Nat} {p1 p2 p3 pos : Pos} (he : PE X e (tE U W m)) (hK : X.K = U.K := by rfl) : PE X (.Subscript e (.Slice none none (some (.UnaryOp .USub (.Constant (.int 1) k p1) p2)) p3) pos) (tE U W (mRev m)) :=
  pe_imp (pe_revL he) fun σ H Q ⟨M, S, ρ, A, p⟩ => tX.bind A p fun d S1 M1 H1 v e1 A1 r1 p1 => by
    cases q : seqL S1 d with
    | none => simp only [q] at p1; exact p1.elim
    | some xs =>
      simp only [q] at p1
      obtain ⟨a, vs, rfl, hs, rv⟩ := r1.seqL' A1.r q
      rw [hK]
      exact ⟨a, vs, rfl, hs, fun p hp => Gives.lst p1 A1.r rv.rev hp⟩
theorem e_dct0 {pos : Pos} : PE X (.Dict [] [] pos) (tE U W (mC (.dct []))) :=
  pe_imp pe_dnewK fun σ H Q ⟨M, S, ρ, A, p⟩ => fun d hd => p M _ _ (A.r.extNew hd) (A.r.new hd) (.dct0 upd_same (A.r.nhas hd))
end
end DL
/-! DL10: the law's own head. -/
namespace DL
open PySem L2
theorem kwb_of {K : PySem.W.Frag} {x qual : Str} {st : Stmt} {f : Addr} {fd : FuncData} {ps ks : List Str} {n : Nat} {is : List Nat} (F : L2.Fun K x qual st f fd)
    (h : ∀ (kV doc pm : Value) (an : Option Addr) (cdv ct : Value) (us ws zs : List Value), us.length = n → ws.length = ks.length → pick is (us ++ ws) = some zs → bindArgs (PySem.W.fnOf x qual (defArgs st) (defBody st) (defScope st) .none kV doc pm an cdv ct) ⟨us, ks.zip ws⟩ = pure (ps.zip zs)) : KwB K fd ps ks n is := by
  obtain ⟨oc, od, kV, doc, pm, an, cdv, ct, osl, rfl, lk, hcd⟩ := F.ex
  exact fun s us ws zs _ h1 h2 h3 => .of_eq (h kV doc pm an cdv ct us ws zs h1 h2 h3)
theorem kit_of {K : PySem.W.Frag} {C C' : Addr} {b : Bool} (h : PySem.W.subIn K (.ref C) (.ref C') = some b) (hs : PySem.W.subIn K (.ref C) (.ref C) = some true) (hd : PySem.W.hasDictIn K C' = true) (ht : PySem.W.typeIn K (.ref C') = some (.type "type")) : PySem.W.kitOne K (.ref C) (.ref C') = some b := by
  unfold PySem.W.kitOne
  by_cases e : ((Value.ref C) == (Value.ref C')) = true
  · rw [if_pos e]
    have e' : Value.ref C = Value.ref C' := beq_iff_eq.mp e
    rw [e'] at hs h
    rw [hs] at h
    exact h
  · rw [if_neg e]
    obtain ⟨cd, hc, _⟩ := PySem.W.any_some hd
    have e2 : ((PySem.W.clsIn K C').isSome && PySem.W.typeIn K (.ref C') == some (.type "type")) = true := by rw [hc, ht] <;> rfl
    show (if ((PySem.W.clsIn K C').isSome && PySem.W.typeIn K (.ref C') == some (.type "type")) = true then PySem.W.subIn K (.ref C) (.ref C') else none) = some b
    rw [if_pos e2]
    exact h
section
variable {K : PySem.W.Frag} {h : Heap} {mg : Str → Option Value} {U : Uv} {x : Str}
theorem gc_str {s : Str} {t : Tok} (X : K.In h) (G : h.Ns mainGlobals mg) (a : PySem.W.nsIn K mainGlobals x = some (some (.str s t))) : GC K mg U x (.str s) := ⟨_, .str s, PySem.W.mg_of X G a, ⟨t, rfl⟩, fun _ _ => .str s⟩
theorem gc_int {i : Int} {t : Tok} (X : K.In h) (G : h.Ns mainGlobals mg) (a : PySem.W.nsIn K mainGlobals x = some (some (.int i t))) : GC K mg U x (.int i) := ⟨_, .int i, PySem.W.mg_of X G a, ⟨t, rfl⟩, fun _ _ => .int i⟩
theorem gc_tup {a : Addr} {vs : List V} {ds : List D} {dd : Option Addr} {its : Array Value} {n : Nat} {sl : Array (Option Value)} (X : K.In h) (G : h.Ns mainGlobals mg) (hK : U.K = K) (e : PySem.W.nsIn K mainGlobals x = some (some (.ref a)))
    (l : K.lookup a = some ⟨.type "tuple", dd, .seq its n, sl⟩) (hv : Vals vs its.toList) (hz : vs.length ≤ lim) (hr : ∀ M H, RepAll U M H vs ds) : GC K mg U x (.tup ds) :=
  ⟨_, .ref a, PySem.W.mg_of X G e, rfl, fun M H => .tup (.inr ⟨_, its, n, by rw [hK]; exact l, rfl, rfl, by
    have z : vs.length = its.toList.length := hv.length
    rw [← Array.length_toList, ← z]
    exact lim_line hz, hv⟩) (hr M H)⟩
end
theorem vals_strs : ∀ {xs : List (Str × Tok)}, Vals (xs.map fun p => V.str p.1) (xs.map fun p => Value.str p.1 p.2)
  | [] => .nil
  | p :: r => .cons ⟨p.2, rfl⟩ vals_strs
theorem rep_strs {U : Uv} {M : Mp} {H : Hp} : ∀ {xs : List Str}, RepAll U M H (xs.map V.str) (xs.map D.str)
  | [] => .nil
  | x :: r => .cons (.str x) rep_strs
/-- the law's promise: of the written part alone -/
def spLaw (K : PySem.W.Frag) : Sp := fun vs H Q _ => ∃ (a : Addr) (ns : List Int), vs = [.ref a] ∧ SqL K H a (ns.map V.int) ∧ ns.length ≤ 63 ∧ (∀ z ∈ ns, Builtin.Int.intBits z ≤ 1048576) ∧ ∀ H', Q (.bl true) H'
abbrev scr (ns : List Int) : D := .fz (ns.map D.int)
theorem rep_ints {U : Uv} {M : Mp} {H : Hp} : ∀ {xs : List Int}, RepAll U M H (xs.map V.int) (xs.map D.int)
  | [] => .nil
  | x :: r => .cons (.int x) rep_ints
theorem law_imp {K : PySem.W.Frag} {U : Uv} {F : Mi} (hK : U.K = K) (law : ∀ ns : List Int, ns.length ≤ 63 → (∀ z ∈ ns, Builtin.Int.intBits z ≤ 1048576) → ∃ S, F [scr ns] [] = .ok (.bl true) S) : ∀ vs H Q E, spLaw K vs H Q E → spF U 1 F vs H Q E := by
  rintro vs H Q E ⟨a, ns, rfl, hs, hl, hb, q⟩
  obtain ⟨S, e⟩ := law ns hl hb
  refine ⟨⟨fun _ => 0, 0, []⟩, [], [scr ns], ⟨rfl, fun i j hi => absurd hi (Nat.not_lt_zero _), fun i o h => (by simp at h), fun a ha => (by cases ha), fun a ha => (by cases ha)⟩, .cons (.fz ?_ rep_ints) .nil, rfl, ?_⟩
  · have nh : ¬ (⟨fun _ => 0, 0, []⟩ : Mp).has a := fun z => z.elim (fun ⟨i, hi, _⟩ => absurd hi (Nat.not_lt_zero _)) fun z => (by cases z)
    rcases hs with (h | ⟨o, h⟩) | h
    · exact .inl ⟨_, h, .inl rfl, nh⟩
    · exact .inl ⟨_, h, .inr ⟨o, rfl⟩, nh⟩
    · rw [hK]; exact .inr h
  · rw [e]
    intro M' H' b ex r rb
    cases rb
    exact q H'
theorem walk {l : PySem.W.OpenLaw} {q : Program} {loose : List Str} {XP : (Str → Option Value) → Heap → Prop} {YP : World → Heap → Prop} {d : DefRec} {K : Params → PySem.W.Frag} (k : Nat) (hn : l.most = some 63) (hdf : d.params.defaults = []) (hr : Room k callerA)
    (hY : ∀ (w : World) (h : Heap), YP w h → (K w.params).In h)
    (F : ∀ (w : World) (mg : Str → Option Value) (fa : Addr) (h : Heap), (K w.params).In h → h.Ns mainGlobals mg → mg d.name = some (.ref fa) →
      ∃ fd : FuncData, (∀ (s : Shared) (u : Value), BindsTo s fd ⟨[u], []⟩ [("script", u)]) ∧ ∀ base : Heap, (K w.params).In base → base.Ns mainGlobals mg → FnOk l.prog w (K w.params) mg base (L2N.CX l.prog w) k fa fd ["script"] (spLaw (K w.params))) :
    PySem.W.WalkO q loose XP YP l.row.toRowW d [] (fun f vs => PySem.call f vs) :=
  L2.walk_ofB (n := 63) (k := k) (x := "script") (CX := fun w => L2N.CX l.prog w) (sp := fun w => spLaw (K w.params)) hn (by decide) hdf hr hY F (fun _ _ a ns hl hb _ hS => ⟨a, ns, rfl, hS, hl, hb, fun _ => rfl⟩) fun _ _ _ _ _ ⟨_, _, _, _, _, _, _, _, _, _, _, _, z⟩ => z
end DL
/-! DL11: plain tools over mirrors: equality of data, loops, the cask and its tap. -/
namespace DL
open PySem L2
mutual
def eqD : D → D → Bool
  | .non, .non => true
  | .bl a, .bl b => a == b
  | .int a, .int b => a == b
  | .str a, .str b => decide (a = b)
  | .tup a, .tup b => eqDs a b
  | .lst a, .lst b => eqDs a b
  | .fz a, .fz b => eqDs a b
  | .dct [], .dct [] => true
  | .obj a, .obj b => a == b
  | .ty a, .ty b => a == b
  | .cls a, .cls b => a == b
  | .fn a, .fn b => a == b
  | _, _ => false
def eqDs : List D → List D → Bool
  | [], [] => true
  | a :: r, b :: t => eqD a b && eqDs r t
  | _, _ => false
end
mutual
theorem eqD_ok : ∀ (a b : D), eqD a b = true → a = b
  | .non, b, h => by cases b <;> simp [eqD] at h; rfl
  | .bl a, b, h => by cases b <;> simp [eqD] at h; rw [h]
  | .int a, b, h => by cases b <;> simp [eqD] at h; rw [h]
  | .str a, b, h => by cases b <;> simp [eqD] at h; rw [h]
  | .tup a, b, h => by
    cases b <;> simp [eqD] at h
    rw [eqDs_ok a _ h]
  | .lst a, b, h => by
    cases b <;> simp [eqD] at h
    rw [eqDs_ok a _ h]
  | .fz a, b, h => by
    cases b <;> simp [eqD] at h
    rw [eqDs_ok a _ h]
  | .dct a, b, h => by
    cases b with
    | dct k =>
      cases a with
      | nil => cases k with
        | nil => rfl
        | cons _ _ => simp [eqD] at h
      | cons _ _ => simp [eqD] at h
    | _ => cases a <;> simp [eqD] at h
  | .obj a, b, h => by cases b <;> simp [eqD] at h; rw [h]
  | .ty a, b, h => by cases b <;> simp [eqD] at h; rw [h]
  | .cls a, b, h => by cases b <;> simp [eqD] at h; rw [h]
  | .fn a, b, h => by cases b <;> simp [eqD] at h; rw [h]
theorem eqDs_ok : ∀ (a b : List D), eqDs a b = true → a = b
  | [], [], _ => rfl
  | [], _ :: _, h => by simp [eqDs] at h
  | _ :: _, [], h => by simp [eqDs] at h
  | a :: r, b :: t, h => by
    simp only [eqDs, Bool.and_eq_true] at h
    rw [eqD_ok a b h.1, eqDs_ok r t h.2]
end
/-- a loop's invariant, no break, no return -/
theorem forL_inv {b : Bd} {body : MS} (I : Env → Sto → Prop) : ∀ (ds : List D), (∀ d ∈ ds, ∀ ρ S, I ρ S → ∃ ρ1, b d ρ = some ρ1 ∧ ∃ ρ2 S2, body ρ1 S = .nx ρ2 S2 ∧ I ρ2 S2) → ∀ ρ S, I ρ S → ∃ ρ' S', forL b body ds ρ S = .nx ρ' S' ∧ I ρ' S'
  | [], _, ρ, S, h => ⟨ρ, S, rfl, h⟩
  | d :: ds, hs, ρ, S, h => by
    obtain ⟨ρ1, e1, ρ2, S2, e2, h2⟩ := hs d List.mem_cons_self ρ S h
    obtain ⟨ρ3, S3, e3, h3⟩ := forL_inv I ds (fun d hd => hs d (List.mem_cons_of_mem _ hd)) ρ2 S2 h2
    exact ⟨ρ3, S3, by simp only [forL, e1, e2, e3], h3⟩
theorem seq_nx {a b : MS} {ρ ρ1 : Env} {S S1 : Sto} (h : a ρ S = .nx ρ1 S1) : sSeq a b ρ S = b ρ1 S1 := by
  show (a ρ S).seq b = _
  rw [h]; rfl
theorem seq_rt {a b : MS} {ρ : Env} {S S1 : Sto} {d : D} (h : a ρ S = .rt d S1) : sSeq a b ρ S = .rt d S1 := by
  show (a ρ S).seq b = _
  rw [h]; rfl
theorem seq_exc {a b : MS} {ρ ρ1 : Env} {S S1 : Sto} {e : Ex} (h : a ρ S = .exc e ρ1 S1) : sSeq a b ρ S = .exc e ρ1 S1 := by
  show (a ρ S).seq b = _
  rw [h]; rfl
theorem set_ok {i : Nat} {m : ME} {ρ : Env} {S S1 : Sto} {d : D} (h : m ρ S = .ok d S1) : sSet i m ρ S = .nx (ρ.set i (some d)) S1 := by
  show OS.of (m ρ S) ρ _ = _
  rw [h]; rfl
theorem ret_ok {m : ME} {ρ : Env} {S S1 : Sto} {d : D} (h : m ρ S = .ok d S1) : sRet m ρ S = .rt d S1 := by
  show OS.of (m ρ S) ρ _ = _
  rw [h]; rfl
theorem if_t {t : MT} {a b : MS} {ρ : Env} {S S1 : Sto} (h : t ρ S = .ok true S1) : sIf t a b ρ S = a ρ S1 := by
  show OS.of (t ρ S) ρ _ = _
  rw [h]; rfl
theorem if_f {t : MT} {a b : MS} {ρ : Env} {S S1 : Sto} (h : t ρ S = .ok false S1) : sIf t a b ρ S = b ρ S1 := by
  show OS.of (t ρ S) ρ _ = _
  rw [h]; rfl
theorem mem_rangeD {lo : Int} {n : Nat} {d : D} (h : d ∈ rangeD lo n) : ∃ i : Nat, i < n ∧ d = .int (lo + i) := by
  unfold rangeD at h
  obtain ⟨i, hi, rfl⟩ := List.mem_map.mp h
  exact ⟨i, List.mem_range.mp hi, rfl⟩
/-! ### the cask -/
/-- the cask's object at c -/
structure Cask (S : Sto) (c : Nat) (k : Int) : Prop where
  ex : ∃ a b : Int, S[c]? = some (.lst [.int a, .int b, .int k]) ∧ 0 ≤ a ∧ 0 ≤ b ∧ b < 10 ^ 60 ∧ 0 ≤ k
def tapM : MS := (sSeq (sIf (mTst (m2 gtO (m2 ixO (mVar 0) (mC (.int 0))) (mC (.int 0))))
  (sSeq (sSet 2 (m2 modO (mN intG (aCons (m2 ixO (mVar 0) (mC (.int 0))) aNil)) (mVar 1)))
  (sSeq (sSub (m2 fdivO (m2 ixO (mVar 0) (mC (.int 0))) (mVar 1)) (mVar 0) (mC (.int 0)))
  (sRet (mVar 2))))
  sNil)
  (sSeq (sSub (m2 addO (m2 ixO (mVar 0) (mC (.int 2))) (mC (.int 1))) (mVar 0) (mC (.int 2)))
  (sSeq (sSet 3 (m2 modO (m2 powO (mN intG (aCons (m2 addO (m2 ixO (mVar 0) (mC (.int 1))) (m2 mulO (mC (.int 30011)) (m2 ixO (mVar 0) (mC (.int 2))))) aNil)) (mC (.int 2))) (m2 addO (m2 powO (mC (.int 10)) (mC (.int 39))) (mC (.int 3)))))
  (sSeq (sSet 3 (m2 modO (m2 powO (mN intG (aCons (m2 addO (mVar 3) (m2 mulO (mC (.int 500009)) (m2 ixO (mVar 0) (mC (.int 2))))) aNil)) (mC (.int 3))) (m2 addO (m2 powO (mC (.int 10)) (mC (.int 40))) (mC (.int 121)))))
  (sRet (m2 modO (m2 fdivO (mVar 3) (mC (.int 131072))) (mVar 1)))))))
def tapF : Mi := runD 4 tapM
theorem log2_lt {n m : Nat} (hm : 0 < m) (h : n < 2 ^ m) : n.log2 < m := by
  by_cases z : n = 0
  · subst z; simpa using hm
  · exact (Nat.log2_lt z).mpr h
theorem intBits_lt {i : Int} {m : Nat} (h0 : 0 ≤ i) (h : i < 2 ^ m) : Builtin.Int.intBits i ≤ m := PyProof.Rows.intBits_le (by
  have : ((i.natAbs : Nat) : Int) < ((2 ^ m : Nat) : Int) := by
    rw [Int.natAbs_of_nonneg h0]; push_cast; exact h
  exact Int.ofNat_lt.mp this)
section
variable {S : Sto} {i j : Int}
theorem gtO_int : gtO S (.int i) (.int j) = some (.bl (decide (j < i))) := by
  show (if okLt (.int i) (.int j) then some (D.bl (dlt (.int j) (.int i))) else none) = _
  rw [if_pos (show okLt (.int i) (.int j) = true from rfl)]
  show some (D.bl (PySem.W.dataLt (.int j) (.int i))) = _
  rw [PySem.W.dataLt_int]
theorem ltO_int : ltO S (.int i) (.int j) = some (.bl (decide (i < j))) := by
  show (if okLt (.int i) (.int j) then some (D.bl (dlt (.int i) (.int j))) else none) = _
  rw [if_pos (show okLt (.int i) (.int j) = true from rfl)]
  show some (D.bl (PySem.W.dataLt (.int i) (.int j))) = _
  rw [PySem.W.dataLt_int]
theorem eqO_int : eqO S (.int i) (.int j) = some (.bl (i == j)) := by
  show (if okEq (.int i) (.int j) then some (D.bl (deq (.int i) (.int j))) else none) = _
  rw [if_pos (show okEq (.int i) (.int j) = true from rfl)]
  rfl
end
/-- the tap: a draw under span, the cask goes on -/
theorem tap_ok {S : Sto} {c : Nat} {k span : Int} (h : Cask S c k) (hk : k < 10 ^ 9) (h0 : 0 < span) (h1 : span < 10 ^ 9) : ∃ d : Int, ∃ S' : Sto, ∃ k' : Int, tapF [.obj c, .int span] S = .ok (.int d) S' ∧ 0 ≤ d ∧ d < span ∧ k' ≤ k + 1 ∧ Cask S' c k' ∧ ∃ o, S' = S.set c o := by
  obtain ⟨a, b, hS, ha, hb, hb2, hk0⟩ := h.ex
  have hc : c < S.length := (List.getElem?_eq_some_iff.mp hS).1
  have x0 : ixO S (.obj c) (.int 0) = some (.int a) := by
    show (seqD S (.obj c)).bind _ = _
    simp only [seqD, hS]; rfl
  have x1 : ∀ k, S[c]? = some (.lst [.int a, .int b, .int k]) → ixO S (.obj c) (.int 1) = some (.int b) := fun k h => by
    show (seqD S (.obj c)).bind _ = _
    simp only [seqD, h]; rfl
  have x2 : ixO S (.obj c) (.int 2) = some (.int k) := by
    show (seqD S (.obj c)).bind _ = _
    simp only [seqD, hS]; rfl
  have hsp : span.natAbs.log2 < 9000 := log2_lt (by decide) (by
    have : ((span.natAbs : Nat) : Int) < ((2 ^ 9000 : Nat) : Int) := by
      rw [Int.natAbs_of_nonneg (by omega)]
      exact Int.lt_trans h1 (by decide +kernel)
    exact Int.ofNat_lt.mp this)
  by_cases hp : 0 < a
  · refine ⟨a % span, S.set c (.lst [.int (a / span), .int b, .int k]), k, ?_, Int.emod_nonneg _ (by omega), Int.emod_lt_of_pos _ h0, by omega, ⟨a / span, b, List.getElem?_set_self hc, Int.ediv_nonneg ha (by omega), hb, hb2, hk0⟩, _, rfl⟩
    simp only [tapF, runD, tapM, List.map_cons, List.map_nil, List.length_cons, List.length_nil]
    show (match tapM [some (.obj c), some (.int span), none, none] S with | .nx _ S' => Out.ok D.non S' | .rt d S' => .ok d S' | .exc e _ S' => .exc e S' | _ => .stuck) = _
    have t1 : (mTst (m2 gtO (m2 ixO (mVar 0) (mC (.int 0))) (mC (.int 0)))) [some (.obj c), some (.int span), none, none] S = .ok true S := by
      simp only [mTst, m2, mVar, mC, Out.bind, ofO, List.getElem?_cons_zero, x0, gtO_int, decide_eq_true hp]
    have e : tapM [some (.obj c), some (.int span), none, none] S = .rt (.int (a % span)) (S.set c (.lst [.int (a / span), .int b, .int k])) := by
      unfold tapM
      apply seq_rt
      rw [if_t t1]
      rw [seq_nx (set_ok (i := 2) (d := .int (a % span)) (S1 := S) (by simp only [m2, mN, aCons, aNil, mVar, mC, Out.bind, ofO, List.getElem?_cons_zero, List.getElem?_cons_succ, x0, intG, modO, if_pos h0]))]
      simp only [List.set_cons_zero, List.set_cons_succ]
      rw [seq_nx (ρ1 := [some (.obj c), some (.int span), some (.int (a % span)), none]) (S1 := S.set c (.lst [.int (a / span), .int b, .int k]))]
      · rfl
      · simp only [sSub, OS.of, m2, mVar, mC, Out.bind, ofO, List.getElem?_cons_zero, List.getElem?_cons_succ, x0, fdivO, if_pos (And.intro h0 hsp), hS]
        rfl
    rw [e]
  · have ha0 : a = 0 := by omega
    subst ha0
    let S1 := S.set c (.lst [.int 0, .int b, .int (k + 1)])
    have hS1 : S1[c]? = some (.lst [.int 0, .int b, .int (k + 1)]) := List.getElem?_set_self hc
    have y1 : ixO S1 (.obj c) (.int 1) = some (.int b) := by
      show (seqD S1 (.obj c)).bind _ = _
      simp only [seqD, hS1]; rfl
    have y2 : ixO S1 (.obj c) (.int 2) = some (.int (k + 1)) := by
      show (seqD S1 (.obj c)).bind _ = _
      simp only [seqD, hS1]; rfl
    have l0 : ∀ {i : Int} {m : Nat}, 0 < m → 0 ≤ i → i < 2 ^ m → i.natAbs.log2 < m := fun {i m} hm h0 h => log2_lt hm (by
      have : ((i.natAbs : Nat) : Int) < ((2 ^ m : Nat) : Int) := by
        rw [Int.natAbs_of_nonneg h0]; push_cast; exact h
      exact Int.ofNat_lt.mp this)
    let u1 := (b + 30011 * (k + 1)) ^ 2 % (10 ^ 39 + 3)
    let u2 := (u1 + 500009 * (k + 1)) ^ 3 % (10 ^ 40 + 121)
    have hu1 : 0 ≤ u1 ∧ u1 < 10 ^ 39 + 3 := ⟨Int.emod_nonneg _ (by decide), Int.emod_lt_of_pos _ (by decide)⟩
    have hu2 : 0 ≤ u2 ∧ u2 < 10 ^ 40 + 121 := ⟨Int.emod_nonneg _ (by decide), Int.emod_lt_of_pos _ (by decide)⟩
    refine ⟨u2 / 131072 % span, S1, k + 1, ?_, Int.emod_nonneg _ (by omega), Int.emod_lt_of_pos _ h0, by omega, ⟨0, b, hS1, by omega, hb, hb2, by omega⟩, _, rfl⟩
    show (match tapM [some (.obj c), some (.int span), none, none] S with | .nx _ S' => Out.ok D.non S' | .rt d S' => .ok d S' | .exc e _ S' => .exc e S' | _ => .stuck) = _
    have t1 : (mTst (m2 gtO (m2 ixO (mVar 0) (mC (.int 0))) (mC (.int 0)))) [some (.obj c), some (.int span), none, none] S = .ok false S := by
      simp only [mTst, m2, mVar, mC, Out.bind, ofO, List.getElem?_cons_zero, x0, gtO_int, decide_eq_false hp]
    have m1' : ((30011 : Int)).natAbs.log2 + (k + 1).natAbs.log2 < 1000000 := by
      have h1 : ((30011 : Int)).natAbs.log2 < 100 := by decide +kernel
      have h2 : (k + 1).natAbs.log2 < 100 := l0 (by decide) (by omega) (by omega)
      omega
    have m2' : ((500009 : Int)).natAbs.log2 + (k + 1).natAbs.log2 < 1000000 := by
      have h1 : ((500009 : Int)).natAbs.log2 < 100 := by decide +kernel
      have h2 : (k + 1).natAbs.log2 < 100 := l0 (by decide) (by omega) (by omega)
      omega
    have p1 : (Builtin.Int.intBits (b + 30011 * (k + 1)) : Int) * 2 ≤ 2 ^ 27 := by
      have := intBits_lt (i := b + 30011 * (k + 1)) (m := 250) (by omega) (by omega)
      omega
    have p2 : (Builtin.Int.intBits (u1 + 500009 * (k + 1)) : Int) * 3 ≤ 2 ^ 27 := by
      have := intBits_lt (i := u1 + 500009 * (k + 1)) (m := 250) (by omega) (by omega)
      omega
    have q39 : powO S1 (.int 10) (.int 39) = some (.int (10 ^ 39)) := by rfl
    have q40 : powO S1 (.int 10) (.int 40) = some (.int (10 ^ 40)) := by rfl
    have e : tapM [some (.obj c), some (.int span), none, none] S = .rt (.int (u2 / 131072 % span)) S1 := by
      unfold tapM
      rw [seq_nx (ρ1 := [some (.obj c), some (.int span), none, none]) (S1 := S) (by rw [if_f t1]; rfl)]
      rw [seq_nx (ρ1 := [some (.obj c), some (.int span), none, none]) (S1 := S1) (by
        simp only [sSub, OS.of, m2, mVar, mC, Out.bind, ofO, List.getElem?_cons_zero, List.getElem?_cons_succ, x2, addO, hS]
        rfl)]
      rw [seq_nx (set_ok (i := 3) (d := .int u1) (S1 := S1) (by
        simp only [m2, mN, aCons, aNil, mVar, mC, Out.bind, ofO, List.getElem?_cons_zero, List.getElem?_cons_succ, y1, y2, intG, mulO, addO, if_pos m1']
        simp only [powO, if_pos (And.intro (by decide : (0 : Int) ≤ 2) p1)]
        rfl))]
      simp only [List.set_cons_zero, List.set_cons_succ]
      rw [seq_nx (set_ok (i := 3) (d := .int u2) (S1 := S1) (by
        simp only [m2, mN, aCons, aNil, mVar, mC, Out.bind, ofO, List.getElem?_cons_zero, List.getElem?_cons_succ, y1, y2, intG, mulO, addO, if_pos m2']
        simp only [powO, if_pos (And.intro (by decide : (0 : Int) ≤ 3) p2)]
        rfl))]
      simp only [List.set_cons_zero, List.set_cons_succ]
      apply ret_ok
      have d1 : (0 : Int) < 131072 ∧ (Int.natAbs 131072).log2 < 9000 := by decide +kernel
      simp only [m2, mVar, mC, Out.bind, ofO, List.getElem?_cons_zero, List.getElem?_cons_succ, fdivO, modO, if_pos d1, if_pos h0]
    rw [e]
end DL
namespace DL
open PySem L2
def caskM : MS := (sSeq (sSet 2 (mIf (mTst (m2 ltO (mVar 1) (mN lenG (aCons (mVar 0) aNil)))) (m2 ixO (mVar 0) (mVar 1)) (mC (.int 0))))
  (sRet (mLstO (aCons (mN maxG (aCons (mC (.int 0)) (aCons (m2 subO (mN absG (aCons (mVar 2) aNil)) (m2 powO (mC (.int 10)) (mC (.int 18)))) aNil))) (aCons (m2 addO (m2 addO (m2 mulO (m2 modO (mN intG (aCons (mVar 2) aNil)) (m2 addO (m2 powO (mC (.int 10)) (mC (.int 38))) (mC (.int 133)))) (mC (.int 59))) (m2 mulO (mC (.int 61)) (mVar 1))) (mC (.int 23))) (aCons (mC (.int 0)) aNil))))))
def caskF : Mi := runD 3 caskM
theorem cask_ok (ns : List Int) (at_ : Nat) (ha : at_ < 64) (S : Sto) : ∃ o, caskF [scr ns, .int at_] S = .ok (.obj S.length) (S ++ [o]) ∧ Cask (S ++ [o]) S.length 0 := by
  have key : ∀ cell : Int, (mIf (mTst (m2 ltO (mVar 1) (mN lenG (aCons (mVar 0) aNil)))) (m2 ixO (mVar 0) (mVar 1)) (mC (.int 0))) [some (scr ns), some (.int at_), none] S = .ok (.int cell) S →
      ∃ o, caskF [scr ns, .int at_] S = .ok (.obj S.length) (S ++ [o]) ∧ Cask (S ++ [o]) S.length 0 := fun cell hcell => by
    let a := if (if cell < 0 then -cell else cell) - 10 ^ 18 > 0 then (if cell < 0 then -cell else cell) - 10 ^ 18 else 0
    let b := cell % (10 ^ 38 + 133) * 59 + 61 * at_ + 23
    have hm : 0 ≤ cell % (10 ^ 38 + 133) ∧ cell % (10 ^ 38 + 133) < 10 ^ 38 + 133 := ⟨Int.emod_nonneg _ (by decide), Int.emod_lt_of_pos _ (by decide)⟩
    have l0 : ∀ {i : Int} {m : Nat}, 0 < m → 0 ≤ i → i < 2 ^ m → i.natAbs.log2 < m := fun {i m} hm h0 h => log2_lt hm (by
      have : ((i.natAbs : Nat) : Int) < ((2 ^ m : Nat) : Int) := by
        rw [Int.natAbs_of_nonneg h0]; push_cast; exact h
      exact Int.ofNat_lt.mp this)
    have m1' : (cell % (10 ^ 38 + 133)).natAbs.log2 + ((59 : Int)).natAbs.log2 < 1000000 := by
      have h1 : ((59 : Int)).natAbs.log2 < 100 := by decide +kernel
      have h2 : (cell % (10 ^ 38 + 133)).natAbs.log2 < 200 := l0 (by decide) hm.1 (by omega)
      omega
    have m2' : ((61 : Int)).natAbs.log2 + ((at_ : Int)).natAbs.log2 < 1000000 := by
      have h1 : ((61 : Int)).natAbs.log2 < 100 := by decide +kernel
      have h2 : ((at_ : Int)).natAbs.log2 < 100 := l0 (by decide) (by omega) (by omega)
      omega
    have q18 : powO S (.int 10) (.int 18) = some (.int (10 ^ 18)) := by rfl
    have q38 : powO S (.int 10) (.int 38) = some (.int (10 ^ 38)) := by rfl
    have d38 : (0 : Int) < 10 ^ 38 + 133 := by decide
    refine ⟨.lst [.int a, .int b, .int 0], ?_, ⟨a, b, by rw [List.getElem?_append_right (Nat.le_refl _), Nat.sub_self]; rfl, ?_, by omega, by omega, by omega⟩⟩
    · show (match caskM [some (scr ns), some (.int at_), none] S with | .nx _ S' => Out.ok D.non S' | .rt d S' => .ok d S' | .exc e _ S' => .exc e S' | _ => .stuck) = _
      have e : caskM [some (scr ns), some (.int at_), none] S = .rt (.obj S.length) (S ++ [.lst [.int a, .int b, .int 0]]) := by
        unfold caskM
        rw [seq_nx (set_ok hcell)]
        simp only [List.set_cons_zero, List.set_cons_succ]
        apply ret_ok
        simp only [mLstO, m2, mN, aCons, aNil, mVar, mC, Out.bind, ofO, List.getElem?_cons_zero, List.getElem?_cons_succ, absG, q18, q38, subO, maxG, intG, addO, modO, if_pos d38, mulO, if_pos m1', if_pos m2', List.length_cons, List.length_nil]
        rw [if_pos (by show 3 ≤ 1000000; decide)]
      rw [e]
    · show 0 ≤ (if (if cell < 0 then -cell else cell) - 10 ^ 18 > 0 then (if cell < 0 then -cell else cell) - 10 ^ 18 else 0)
      split <;> omega
  have hlen : lenG S [scr ns] = some (.int ns.length) := by
    have e : lenG S [scr ns] = some (D.int ((ns.map D.int).length : Nat)) := rfl
    rw [e, List.length_map]
  by_cases h : at_ < ns.length
  · refine key ns[at_] ?_
    have hi : ixO S (scr ns) (.int at_) = some (.int ns[at_]) := by
      have e : ixO S (scr ns) (.int at_) = L2.atI (ns.map D.int) at_ := rfl
      rw [e]
      exact L2.atI_nat (by rw [List.getElem?_map, List.getElem?_eq_getElem h]; rfl)
    simp only [mIf, mTst, m2, mN, aCons, aNil, mVar, mC, Out.bind, ofO, List.getElem?_cons_zero, List.getElem?_cons_succ, hlen, ltO_int, decide_eq_true (Int.ofNat_lt.mpr h), if_true, hi]
  · refine key 0 ?_
    simp only [mIf, mTst, m2, mN, aCons, aNil, mVar, mC, Out.bind, ofO, List.getElem?_cons_zero, List.getElem?_cons_succ, hlen, ltO_int, decide_eq_false (fun z => h (Int.ofNat_lt.mp z)), Bool.false_eq_true, if_false]
end DL
/-! ### small steps -/
namespace DL
open PySem L2
section
variable {F : Mi} {n : Nat} {m m1 m2 : ME} {t u : MT} {ms : MS} {ds : List D} {ρ ρ1 : Env} {S S1 S2 : Sto} {d x y : D} {b : Bool} {e : Ex}
theorem runD_rt (hρ : ds.map some ++ List.replicate (n - ds.length) none = ρ) (h : ms ρ S = .rt d S1) : runD n ms ds S = .ok d S1 := by
  unfold runD; rw [hρ, h]
theorem runD_nx (hρ : ds.map some ++ List.replicate (n - ds.length) none = ρ) (h : ms ρ S = .nx ρ1 S1) : runD n ms ds S = .ok .non S1 := by
  unfold runD; rw [hρ, h]
theorem runD_exc (hρ : ds.map some ++ List.replicate (n - ds.length) none = ρ) (h : ms ρ S = .exc e ρ1 S1) : runD n ms ds S = .exc e S1 := by
  unfold runD; rw [hρ, h]
theorem or_ff (h : t ρ S = .ok false S1) (h2 : u ρ S1 = .ok b S2) : tOr' t u ρ S = .ok b S2 := by
  unfold tOr'; rw [h]; exact h2
theorem or_tt (h : t ρ S = .ok true S1) : tOr' t u ρ S = .ok true S1 := by
  unfold tOr'; rw [h]; rfl
theorem and_tt (h : t ρ S = .ok true S1) (h2 : u ρ S1 = .ok b S2) : tAnd' t u ρ S = .ok b S2 := by
  unfold tAnd'; rw [h]; exact h2
theorem and_ff (h : t ρ S = .ok false S1) : tAnd' t u ρ S = .ok false S1 := by
  unfold tAnd'; rw [h]; rfl
theorem not_ok (h : t ρ S = .ok b S1) : tNot' t ρ S = .ok (!b) S1 := by
  unfold tNot'; rw [h]; rfl
theorem tru_bl (h : m ρ S = .ok (.bl b) S1) : mTru m ρ S = .ok b S1 := by
  unfold mTru; rw [h]; rfl
theorem tst_bl (h : m ρ S = .ok (.bl b) S1) : mTst m ρ S = .ok b S1 := by
  unfold mTst; rw [h]; rfl
theorem for_ok {src : MI} {bd : Bd} {body : MS} (h : src ρ S = .ok ds S1) : sFor src bd body ρ S = forL bd body ds ρ S1 := by
  unfold sFor; rw [h]; rfl
theorem call_0 : mCall F aNil ρ S = F [] S := rfl
theorem call_1 (h1 : m1 ρ S = .ok x S1) : mCall F (aCons m1 aNil) ρ S = F [x] S1 := by
  unfold mCall aCons; rw [h1]; rfl
theorem call_2 (h1 : m1 ρ S = .ok x S1) (h2 : m2 ρ S1 = .ok y S2) : mCall F (aCons m1 (aCons m2 aNil)) ρ S = F [x, y] S2 := by
  unfold mCall aCons
  rw [h1]
  simp only [Out.bind, h2]
  rfl
end
end DL
/-! DL12: try with several except clauses. -/
namespace DL
open PySem PySem.Spec PyProof.Rows L2
/-- an exception of this class (its own dict d) lies caught at a: noted, no longer in flight -/
structure Caught (X : Cx) (pins : List (Addr × Obj)) (σ : L2.St) (H : Hp) (a : Addr) (cls : Value) (d : Option Addr) (s : Shared) : Prop where
  ex : ∃ (B : Heap) (s0 : Shared), Inv X pins σ H s0 ∧ (∀ b o, s0.heap.get? b = some o → b ∉ frs X.stack → B.get? b = some o) ∧ s0.heap.UpToSlots s.heap ∧ HandSPX.FlyingZ B (X.env :: X.outer) a (L2N.Zn cls d) s.heap ∧ s.os = s0.os ∧ AllBare s.gens
  na : H a = none
section
variable {X : Cx} {pins : List (Addr × Obj)} {σ : L2.St} {H : Hp} {a : Addr} {cls : Value} {d : Option Addr} {s : Shared}
theorem Caught.inv (c : Caught X pins σ H a cls d s) : Inv X pins σ H s := let ⟨_, _, J, nb, up, fl, os, ag⟩ := c.ex; J.landed nb fl.1 up os ag
theorem Caught.obj (c : Caught X pins σ H a cls d s) : ∃ oe vs, s.heap.get? a = some oe ∧ L2N.Zn cls d oe ∧ oe.data = .fields vs := let ⟨_, _, _, _, _, fl, _, _⟩ := c.ex; fl.there
/-- it is no frame's object -/
theorem Caught.off (c : Caught X pins σ H a cls d s) : a ∉ frs (X.env :: X.outer) := fun m => by
  obtain ⟨_, _, _, _, _, fl, _, _⟩ := c.ex
  obtain ⟨oe, vs, g, _, dt⟩ := fl.there
  obtain ⟨_, o2, g2, nf⟩ := fl.2.2.1.mem m
  rw [g] at g2
  cases g2
  exact nf vs dt
theorem Caught.offL (c : Caught X pins σ H a cls d s) (hf : X.env.frame = some X.env.locals) : a ≠ X.env.locals := fun z => c.off (List.mem_filterMap.mpr ⟨X.env, List.mem_cons_self, hf.trans (by rw [z])⟩)
theorem Caught.offF (c : Caught X pins σ H a cls d s) : a ∉ X.fs := fun m => by
  obtain ⟨e, he, q⟩ := List.mem_filterMap.mp m
  exact c.off (List.mem_filterMap.mpr ⟨e, List.mem_cons_of_mem _ he, q⟩)
/-- as the suite sees it -/
theorem Caught.toSuite (c : Caught X pins σ H a cls d s) (hf : X.env.frame = some X.env.locals) : ∃ oe, L2N.Zn cls d oe ∧ (∃ vs, oe.data = .fields vs) ∧ Inv (X.suite a ((a, oe) :: (X.pn ++ pins))) [] σ H s := by
  obtain ⟨oe, vs, g, z, dt⟩ := c.obj
  exact ⟨oe, z, ⟨vs, dt⟩, c.inv.suite g dt c.na (c.offL hf) c.offF⟩
/-- its flight is ended once more -/
theorem Caught.again (c : Caught X pins σ H a cls d s) {Q : Unit → Shared → Prop} {E : Value → Shared → Prop} {A : Around} (q : ∀ h', Caught X pins σ H a cls d { s with heap := h' } → Q () { s with heap := h' }) : wpAny (model X.prog X.w) A (setFlight (.ref a) none) Q E s := by
  obtain ⟨B, s0, J, nb, up, fl, os, ag⟩ := c.ex
  exact HandSPX.lands_againZ fl fun h' fl' up' => q h' ⟨⟨B, s0, J, nb, up.trans up', fl', os, ag⟩, c.na⟩
/-- no clause is left: it flies on -/
theorem Caught.on {W : WX} {Q : Flow → Shared → Prop} (c : Caught X pins σ H a cls d s) (hst : X.stack = X.env :: X.outer) (hf : X.env.frame = some X.env.locals) (tk : L2N.Takes X W) (w : W cls d σ H) : wpAny (model X.prog X.w) X.A (handleBy (.ref a) X.env []) Q X.xe s := by
  obtain ⟨B, s0, J, nb, up, fl, os, ag⟩ := c.ex
  obtain ⟨oe, vs, tb, _, _, g, z, dt, v1, _⟩ := id fl.2.2.2
  have out : wpAny (model X.prog X.w) X.A (setFlight (.ref a) X.env.frame) (fun _ s4 => wpAny (model X.prog X.w) X.A (throw (.ref a) : Sem Flow) Q X.xe s4) X.xe s := by
    rw [hf]
    exact HandSPX.setFlight_upZ fl fun h' held up' => wpAny_throw (tk _ _ ⟨a, B, s0, pins, σ, H, cls, d, rfl, J, nb, up.trans up', .inr (.inr (by rw [hst]; exact held)), c.na, os, ag, w⟩)
  refine wpAny_handleBy_nil ?_
  unfold PySem.passOn
  refine wpAny_bind (wpAny_field g dt v1 ?_)
  rw [if_neg (by simp)]
  first
    | exact wpAny_bind (wpAny_pure (wpAny_bind out))
    | exact wpAny_bind out
/-- the name that a clause bears is looked up -/
theorem Caught.name {x : Str} {np : Pos} {t : Value} {Q E : Value → Shared → Prop} (c : Caught X pins σ H a cls d s) (hf : X.env.frame = some X.env.locals) (hc : Names X x t) (q : Q t s) : wpAny (model X.prog X.w) (X.A.mark (some (.ref a))) (eval (.Name x np) X.env) Q E s := by
  obtain ⟨oe, _, _, J⟩ := c.toSuite hf
  obtain ⟨g, nd, m | ⟨m, v, nn⟩⟩ := hc
  · exact ld_glob J g m q nd
  · exact ld_blt J g m v q nn nd
/-- does the clause fit? -/
theorem Caught.fits {b : Bool} {t : Value} {A : Around} {E : Value → Shared → Prop} {Q : Bool → Shared → Prop} (c : Caught X pins σ H a cls d s) (e : PySem.W.exmOne X.K cls t = some b) (q : Q b s) : wpAny (model X.prog X.w) A (excMatches (.ref a) t) Q E s := by
  obtain ⟨oe, vs, g, z, dt⟩ := c.obj
  have ty : PySem.W.Looks (model X.prog X.w) s.heap (typeOf (.ref a)) cls := fun A Q E s' k q => wpAny_typeOf_ref (k _ _ g) (by rw [z.1]; exact q)
  exact (PySem.W.exm_one (M := model X.prog X.w) c.inv.kIn ty e).here q
variable {x n : Str} {np pos' : Pos} {nm : Option Str} {b₀ : Stmt} {suite : List Stmt} {more : List ExceptHandler} {t : Value}
theorem Caught.no {Q : Flow → Shared → Prop} (c : Caught X pins σ H a cls d s) (hf : X.env.frame = some X.env.locals) (hc : Names X x t) (e : PySem.W.exmOne X.K cls t = some false) (k : wpAny (model X.prog X.w) X.A (handleBy (.ref a) X.env more) Q X.xe s) :
    wpAny (model X.prog X.w) X.A (handleBy (.ref a) X.env (.ExceptHandler (some (.Name x np)) nm (b₀ :: suite) pos' :: more)) Q X.xe s :=
  wpAny_handleBy_cons (codeAny_handlers_test (c.name hf hc (c.fits e k))) (fun z => nomatch z)
/-- a suite's ends, its slot given up -/
def endU (i : Nat) (D : Ends) : Ends := ⟨fun σ H => D.nx (σ.set i none) H, D.rt, fun σ H => D.bk (σ.set i none) H, fun σ H => D.ct (σ.set i none) H⟩
theorem Caught.yesAs {i : Nat} {D : Ends} {ts : TS} (c : Caught X pins σ H a cls d s) (hf : X.env.frame = some X.env.locals) (nd : X.N.Nodup) (hi : X.N[i]? = some n) (ln : X.env.kindOf n = some .local) (hc : Names X x t) (e : PySem.W.exmOne X.K cls t = some true)
    (hs : ∀ oe, L2N.Zn cls d oe → (∃ vs, oe.data = .fields vs) → PSs (X.suite a ((a, oe) :: (X.pn ++ pins))) (b₀ :: suite) ts) (w : ts (endU i D) (σ.set i (some (.ref a))) H) :
    wpAny (model X.prog X.w) X.A (handleBy (.ref a) X.env (.ExceptHandler (some (.Name x np)) (some n) (b₀ :: suite) pos' :: more)) (SP X pins D) X.xe s := by
  refine wpAny_handleBy_cons (codeAny_handlers_test (c.name hf hc (c.fits e ?_))) (fun z => nomatch z)
  refine codeAny_handlers_suite_as (c.again fun h' c' => ?_)
  obtain ⟨oe, z, dt, J⟩ := c'.toSuite hf
  refine store_ok (X := X.suite a ((a, oe) :: (X.pn ++ pins))) (v := .ref a) J nd hi (.inl ln) rfl (fun s5 J5 => ?_) (.inr ln)
  refine wpAny_mono ((hs oe z dt).run [] s5 _ H _ J5 w) (fun f s6 ends => ?_) fun _ _ z => z.elim
  have gone : ∀ {σ6 : L2.St} {H6 : Hp} {Q : Shared → Prop}, Inv (X.suite a ((a, oe) :: (X.pn ++ pins))) [] σ6 H6 s6 → (∀ s7, Inv X pins (σ6.set i none) H6 s7 → Q s7) → wpAny (model X.prog X.w) X.A (do bindName X.env n .none; unbindBehindTheSuite X.env n pos') (fun _ s7 => Q s7) X.xe s6 :=
    fun J6 k => gone_ok (J6.unsuite c.inv.ok) nd hi ln k
  match f, ends with
  | .next, ⟨_, _, J6, q⟩ => exact gone J6 fun _ J7 => ⟨_, _, J7, q⟩
  | .brk, ⟨_, _, J6, q⟩ => exact gone J6 fun _ J7 => ⟨_, _, J7, q⟩
  | .cont, ⟨_, _, J6, q⟩ => exact gone J6 fun _ J7 => ⟨_, _, J7, q⟩
  | .ret _, ⟨_, _, _, J6, r, q⟩ => exact gone J6 fun _ J7 => ⟨_, _, _, J7, r, q⟩
theorem Caught.yes {D : Ends} {ts : TS} (c : Caught X pins σ H a cls d s) (hf : X.env.frame = some X.env.locals) (hc : Names X x t) (e : PySem.W.exmOne X.K cls t = some true)
    (hs : ∀ oe, L2N.Zn cls d oe → (∃ vs, oe.data = .fields vs) → PSs (X.suite a ((a, oe) :: (X.pn ++ pins))) (b₀ :: suite) ts) (w : ts D σ H) :
    wpAny (model X.prog X.w) X.A (handleBy (.ref a) X.env (.ExceptHandler (some (.Name x np)) none (b₀ :: suite) pos' :: more)) (SP X pins D) X.xe s := by
  refine wpAny_handleBy_cons (codeAny_handlers_test (c.name hf hc (c.fits e ?_))) (fun z => nomatch z)
  refine codeAny_handlers_suite (c.again fun h' c' => ?_)
  obtain ⟨oe, z, dt, J⟩ := c'.toSuite hf
  refine wpAny_mono ((hs oe z dt).run [] _ σ H _ J w) (fun f s6 ends => ?_) fun _ _ z => z.elim
  match f, ends with
  | .next, ⟨_, _, J6, q⟩ => exact ⟨_, _, J6.unsuite c.inv.ok, q⟩
  | .brk, ⟨_, _, J6, q⟩ => exact ⟨_, _, J6.unsuite c.inv.ok, q⟩
  | .cont, ⟨_, _, J6, q⟩ => exact ⟨_, _, J6.unsuite c.inv.ok, q⟩
  | .ret _, ⟨_, _, _, J6, r, q⟩ => exact ⟨_, _, _, J6.unsuite c.inv.ok, r, q⟩
end
/-! ### by mirrors -/
/-- the clauses of a try, one by one -/
inductive Clauses (U : Uv) (X : Cx) : List ExceptHandler → List Hd → Prop
  | nil : Clauses U X [] []
  | one {x : Str} {t : Value} {b₀ : Stmt} {suite : List Stmt} {np pos' : Pos} {hds : List ExceptHandler} {hs : List Hd} {ca : Nat → Option Bool} {su : Ex → MS} (hc : Names X x t) (hm : ∀ k b, ca k = some b → PySem.W.exmOne X.K (.ref (U.cl k)) t = some b)
      (hsu : ∀ (a : Addr) (oe : Obj) (e : Ex) (d : Option Addr) (pn : List (Addr × Obj)), L2N.Zn (.ref (U.cl e.c)) d oe → (∃ vs, oe.data = .fields vs) → (e.fs = [] → d = none) → PSs (X.suite a ((a, oe) :: pn)) (b₀ :: suite) (tS U W0 (su e))) (r : Clauses U X hds hs) :
      Clauses U X (.ExceptHandler (some (.Name x np)) none (b₀ :: suite) pos' :: hds) (⟨ca, none, su⟩ :: hs)
  | as_ {x n : Str} (i : Nat) {t : Value} {b₀ : Stmt} {suite : List Stmt} {np pos' : Pos} {hds : List ExceptHandler} {hs : List Hd} {ca : Nat → Option Bool} {su : Ex → MS} (hi : X.N[i]? = some n) (ln : X.env.kindOf n = some .local) (hc : Names X x t)
      (hm : ∀ k b, ca k = some b → PySem.W.exmOne X.K (.ref (U.cl k)) t = some b)
      (hsu : ∀ (a : Addr) (oe : Obj) (e : Ex) (d : Option Addr) (pn : List (Addr × Obj)), L2N.Zn (.ref (U.cl e.c)) d oe → (∃ vs, oe.data = .fields vs) → (e.fs = [] → d = none) → PSs (X.suite a ((a, oe) :: pn)) (b₀ :: suite) (tS (U.fix [(i, a)]) W0 (su e))) (r : Clauses U X hds hs) :
      Clauses U X (.ExceptHandler (some (.Name x np)) (some n) (b₀ :: suite) pos' :: hds) (⟨ca, some i, su⟩ :: hs)
theorem clauses_run {U : Uv} {X : Cx} {W : WX} {hds : List ExceptHandler} {hs : List Hd} (cl : Clauses U X hds hs) (hf : U.f = []) (nd : X.N.Nodup) (hst : X.stack = X.env :: X.outer) (hfr : X.env.frame = some X.env.locals) (tk : L2N.Takes X W) {pins : List (Addr × Obj)} {σ : L2.St} {H : Hp} {a : Addr} {e : Ex} {d : Option Addr} {s : Shared}
    {M : Mp} {S : Sto} {ρ : Env} {Dn : Ends} (c : Caught X pins σ H a (.ref (U.cl e.c)) d s) (A : At U M S ρ σ H) (xa : ExAt U M H e (.ref (U.cl e.c)) d) (p : PostS U M H W (tryH hs e ρ S) Dn) : wpAny (model X.prog X.w) X.A (handleBy (.ref a) X.env hds) (SP X pins Dn) X.xe s := by
  have hd0 : e.fs = [] → d = none := fun z => xa.2.elim (fun q => q.2) fun ⟨_, _, n, _⟩ => absurd z n
  induction cl with
  | nil => exact c.on hst hfr tk (p M H σ _ d A.refl A xa)
  | @one x t b₀ suite np pos' hds hs ca su hc hm hsu r ih =>
    unfold tryH at p
    match q : ca e.c, p with
    | none, p => simp only [q] at p; exact p.elim
    | some false, p => simp only [q] at p; exact c.no hfr hc (hm _ _ q) (ih p)
    | some true, p =>
      simp only [q] at p
      refine c.yes hfr hc (hm _ _ q) (fun oe z dt => hsu a oe e d _ z dt hd0) ⟨M, S, ρ, A, ?_⟩
      revert p
      cases su e ρ S with
      | exc e2 ρ2 S2 => exact fun p => p.elim
      | _ => exact fun p => p
  | @as_ x n i t b₀ suite np pos' hds hs ca su hi ln hc hm hsu r ih =>
    unfold tryH at p
    match q : ca e.c, p with
    | none, p => simp only [q] at p; exact p.elim
    | some false, p => simp only [q] at p; exact c.no hfr hc (hm _ _ q) (ih p)
    | some true, p =>
      simp only [q] at p
      by_cases hl : i < ρ.length
      · rw [if_pos hl] at p
        refine c.yesAs hfr nd hi ln hc (hm _ _ q) (fun oe z dt => hsu a oe e d _ z dt hd0) ⟨M, S, ρ.set i none, A.fixed hf hl, ?_⟩
        revert p
        cases su e (ρ.set i none) S with
        | nx ρ2 S2 => exact fun p M' H' σ' ex A' => p M' H' _ ex (A'.unfixed hf)
        | bk ρ2 S2 => exact fun p M' H' σ' ex A' => p M' H' _ ex (A'.unfixed hf)
        | ct ρ2 S2 => exact fun p M' H' σ' ex A' => p M' H' _ ex (A'.unfixed hf)
        | rt d S2 => exact fun p M' H' v ex r rd => p M' H' v ex (R.fix (U := U.fix [(i, a)]) (l := U.f) r) (Rep.fix (U := U.fix [(i, a)]) (l := U.f) rd)
        | exc e2 ρ2 S2 => exact fun p => p.elim
        | stuck => exact fun p => p.elim
      · rw [if_neg hl] at p; exact p.elim
section
variable {X : Cx} {U : Uv} {W : WX} {body : List Stmt} {h₀ : ExceptHandler} {hds : List ExceptHandler} {hs : List Hd} {pos : Pos} {mb : MS}
theorem s_tryN (nd : X.N.Nodup) (tk : L2N.Takes X W) (hb : ∀ (W : WX) (pn : List (Addr × Obj)) (xe : Value → Shared → Prop), L2N.Takes (X.tr pn xe) W → PassesOwn (model X.prog X.w) X.A X.env xe → PSs (X.tr pn xe) body (tS U W mb)) (cl : Clauses U X (h₀ :: hds) hs) (hf : U.f = [])
    (hst : X.stack = X.env :: X.outer := by rfl) (hfr : X.env.frame = some X.env.locals := by rfl) : PS X (.Try body (h₀ :: hds) [] [] pos) (tS U W (sTry mb hs)) := ⟨fun pins s σ H Dn I ⟨M, S, ρ, A, p⟩ => by
  have ok := I.ok
  refine wpAny_Try_except ?_
  -- what the body's exceptions are wished to be: the clauses' outcome
  let Wt : WX := fun cls d σ' H' => ∃ e M' S' ρ', cls = .ref (U.cl e.c) ∧ At U M' S' ρ' σ' H' ∧ ExAt U M' H' e cls d ∧ PostS U M' H' W (tryH hs e ρ' S') Dn
  have start : tS U Wt mb Dn σ H := by
    refine ⟨M, S, ρ, A, ?_⟩
    unfold sTry at p
    cases q : mb ρ S with
    | exc e ρ2 S2 =>
      rw [q] at p
      exact fun M' H' σ' cv dd ex A' xa => ⟨e, M', S2, ρ2, xa.1, A', xa, PostS.ext ex p⟩
    | nx ρ2 S2 => rw [q] at p; exact p
    | bk ρ2 S2 => rw [q] at p; exact p
    | ct ρ2 S2 => rw [q] at p; exact p
    | rt d S2 => rw [q] at p; exact p
    | stuck => rw [q] at p; exact p
  refine wpAny_mono ((hb Wt (X.pn ++ pins) _ (fun u s' fly => ?_) PassesOwn.looking).run [] s σ H Dn (I.toTry _) start) (fun f s1 ends => ?_) fun _ _ z => z
  · obtain ⟨a, B, s0, pins', σ', H', cls, d, rfl, J', nb, up, sky, na, os, ag, e, M', S', ρ', rfl, A', xa, p'⟩ := fly
    have sky' : Sky B (X.env :: X.outer) a (L2N.Zn (.ref (U.cl e.c)) d) X.env.locals s'.heap := by rw [← hst]; exact sky
    exact L2N.Sky.land L2N.Zn.steady (by rw [ok.frames, hst]) hfr sky' fun h3 fl3 up3 => clauses_run cl hf nd hst hfr tk (pins := pins) ⟨⟨B, s0, J'.ofTry ok, nb, up.trans up3, fl3, os, ag⟩, na⟩ A' xa p'
  · match f, ends with
    | .next, ⟨_, _, J, q⟩ => exact wpAny_execs_nil ⟨_, _, J.ofTry ok, q⟩
    | .brk, ⟨_, _, J, q⟩ => exact ⟨_, _, J.ofTry ok, q⟩
    | .cont, ⟨_, _, J, q⟩ => exact ⟨_, _, J.ofTry ok, q⟩
    | .ret _, ⟨_, _, _, J, r, q⟩ => exact ⟨_, _, _, J.ofTry ok, r, q⟩⟩
end
end DL
/-! DL13: isinstance(e, (C, D)) of a caught error. -/
namespace DL
open PySem PySem.Spec PyProof.Rows L2
theorem call_isE2 {X : Cx} {a D C1 C2 : Addr} {oe : Obj} {pn : List (Addr × Obj)} (ec : ExcC X.K D) (hz : Zc (.ref D) none oe) (hf : ∃ vs, oe.data = .fields vs) :
    CallR (X.suite a ((a, oe) :: pn)) (.builtin "isinstance") (fun xs H Q => ∃ tp b, xs = [.ref a, .ref tp] ∧ H tp = some (.tup [.ref C1, .ref C2]) ∧ PySem.W.kitAny X.K (.ref D) [.ref C1, .ref C2] = some b ∧ Q (.bl b) H) := by
  intro pins s σ H xs us Q I r ⟨tp, b, ex, ht, e, q⟩
  subst ex
  obtain ⟨u1, u2, rfl, r1, r2⟩ := vals2 r
  obtain rfl : u1 = Value.ref a := r1
  obtain rfl : u2 = Value.ref tp := r2
  obtain ⟨g, _⟩ := I.pin (a, oe) (List.mem_append_left _ List.mem_cons_self)
  obtain ⟨vs, dt⟩ := hf
  have J : PySem.W.InstAt s.heap a oe D none := by
    cases oe with
    | mk c o dd sl =>
      obtain ⟨z1, z2⟩ := hz
      have z1' : c = _ := z1
      have z2' : o = _ := z2
      have z3 : dd = _ := dt
      subst z1' z2' z3
      exact ⟨g, rfl, rfl, trivial⟩
  obtain ⟨_, its, rv, o, h1, h2, n, h3⟩ := (show ObjOk X.prog X.w H s.heap tp (.tup [.ref C1, .ref C2]) from I.hok tp _ ht)
  obtain ⟨w1, w2, ew, q1, q2⟩ := vals2 rv
  obtain rfl : w1 = Value.ref C1 := q1
  obtain rfl : w2 = Value.ref C2 := q2
  subst ew
  cases o with
  | mk c dd da sl =>
    have z1 : c = _ := h2
    have z2 : da = _ := h3
    subst z1 z2
    exact PySem.W.kia_tup (PySem.W.handS_kitx_exc ec.hg ec.hk ec.hs ec.hd ec.ha ec.hn ec.ht ec.hm) I.kIn J h1 e (fun z => nomatch z) fun tk => ⟨.bl b, H, I.tok tk, rfl, q⟩
theorem kit_any2 {K : PySem.W.Frag} {t c1 c2 : Value} {b1 b2 : Bool} (h1 : PySem.W.kitOne K t c1 = some b1) (h2 : PySem.W.kitOne K t c2 = some b2) : PySem.W.kitAny K t [c1, c2] = some (b1 || b2) := by
  simp only [PySem.W.kitAny, h1, h2]
  cases b1 <;> cases b2 <;> rfl
section
variable {X : Cx} {U : Uv} {W : WX}
theorem e_isE2 {a : Addr} {oe : Obj} {pn : List (Addr × Obj)} (i : Nat) {n x1 x2 : Str} {k : Nat} {q p0 p1 p2 pt pos : Pos} {C C1 C2 : Addr} {b1 b2 : Bool} (ec : ExcC X.K C) (hz : Zc (.ref C) none oe) (hf : ∃ vs, oe.data = .fields vs) (hm : X.mg "isinstance" = none)
    (m1 : X.mg x1 = some (.ref C1)) (m2 : X.mg x2 = some (.ref C2)) (k1 : PySem.W.kitOne X.K (.ref C) (.ref C1) = some b1) (k2 : PySem.W.kitOne X.K (.ref C) (.ref C2) = some b2) (hU : (i, a) ∈ U.f) (hN : X.N[i]? = some n := by rfl) (hv : Vis X.env.scope n := by first | exact Or.inl rfl | exact Or.inr (Or.inl rfl) | exact Or.inr (Or.inr rfl))
    (hg : Gl X "isinstance" := by rfl) (g1 : Gl X x1 := by rfl) (g2 : Gl X x2 := by rfl) (hd : (n == ("__debug__" : Str)) = false := by decide) (hcd : (n == ("__classdict__" : Str)) = false := by decide) (d1 : (x1 == ("__debug__" : Str)) = false := by decide) (d2 : (x2 == ("__debug__" : Str)) = false := by decide)
    (he : starEach [Expr.Name n p0, .Tuple [Expr.Name x1 p1, Expr.Name x2 p2] k pt] X.env = (false, eval (Expr.Name n p0) X.env) :: starEach [.Tuple [Expr.Name x1 p1, Expr.Name x2 p2] k pt] X.env := by rfl)
    (he2 : starEach [.Tuple [Expr.Name x1 p1, Expr.Name x2 p2] k pt] X.env = (false, eval (.Tuple [Expr.Name x1 p1, Expr.Name x2 p2] k pt) X.env) :: starEach [] X.env := by rfl)
    (he3 : starEach [Expr.Name x1 p1, Expr.Name x2 p2] X.env = (false, eval (Expr.Name x1 p1) X.env) :: starEach [Expr.Name x2 p2] X.env := by rfl) (he4 : starEach [Expr.Name x2 p2] X.env = (false, eval (Expr.Name x2 p2) X.env) :: starEach [] X.env := by rfl)
    (hpl : (backTo pos (starEach [.Tuple [Expr.Name x1 p1, Expr.Name x2 p2] k pt] X.env)).any (·.1) = false := by rfl) :
    PE (X.suite a ((a, oe) :: pn)) (.Call (.Name "isinstance" q) [.Name n p0, .Tuple [.Name x1 p1, .Name x2 p2] k pt] [] pos) (tE U W (mC (.bl (b1 || b2)))) :=
  pe_imp (pe_callB (call_isE2 (C1 := C1) (C2 := C2) ec hz hf) hg hm PyProof.Rows.boot_isinstance (pa_cons (pv i hN hv hd hcd) (pa_cons (pe_tup (pa_cons (pe_glob (v := .ref C1) g1 m1 rfl d1) (pa_cons (pe_glob (v := .ref C2) g2 m2 rfl d2) pa_nil he4) he3)) pa_nil he2) he) (by decide) (by decide) he hpl) fun σ H Q ⟨M, S, ρ, A, p⟩ =>
    ⟨_, A.fx _ hU, by show 2 ≤ sizeLine; decide, fun t ht => ⟨t, _, rfl, upd_same, kit_any2 k1 k2, p M _ _ (A.r.extNew ht) (A.r.new ht) (.bl _)⟩⟩
end
end DL
/-! DL14: zip and enumerate as sources. -/
namespace DL
open PySem L2
/-- a list that is none of the store's -/
def seqF : D → Option (List D)
  | .lst xs => some xs
  | .fz xs => some xs
  | _ => none
section
variable {U : Uv} {M : Mp} {S : Sto} {H : Hp}
theorem Rep.seqF' {v : V} {d : D} {ds : List D} (h : Rep U M H v d) (e : seqF d = some ds) : ∃ a xs, v = .ref a ∧ (∀ M' H', Mv M H M' H' → SqL U.K H' a xs) ∧ RepAll U M H xs ds := by
  cases h with
  | lst ht ra => cases e; exact ⟨_, _, rfl, fun M' H' f => (ht.mv f).sq, ra⟩
  | fz ht ra => cases e; exact ⟨_, _, rfl, fun M' H' f => (ht.mv f).sq, ra⟩
  | _ => cases e
def pairsD (ds es : List D) : List D := (ds.zip es).map fun p => .tup [p.1, p.2]
theorem pairsD_get {ds es : List D} {k : Nat} (h : k < (pairsD ds es).length) : ∃ d e, ds[k]? = some d ∧ es[k]? = some e ∧ (pairsD ds es)[k]? = some (.tup [d, e]) := by
  unfold pairsD at h
  rw [List.length_map, List.length_zip] at h
  have h1 : k < ds.length := by omega
  have h2 : k < es.length := by omega
  refine ⟨ds[k], es[k], List.getElem?_eq_getElem h1, List.getElem?_eq_getElem h2, ?_⟩
  unfold pairsD
  have z : (ds.zip es)[k]? = some (ds[k], es[k]) := List.getElem?_zip_eq_some.mpr ⟨List.getElem?_eq_getElem h1, List.getElem?_eq_getElem h2⟩
  rw [List.getElem?_map, z]
  rfl
theorem yields_zip {a b : Addr} {xs ys : List V} {ds es : List D} (ha : ∀ M' H', Mv M H M' H' → SqL U.K H' a xs) (hb : ∀ M' H', Mv M H M' H' → SqL U.K H' b ys) (ra : RepAll U M H xs ds) (rb : RepAll U M H ys es) : Yields U M H (Itz U.K a b) (pairsD ds es) where
  go := fun M' S' H' k f _ hk => by
    obtain ⟨d, e, h1, h2, _⟩ := pairsD_get hk
    obtain ⟨x, hx, _⟩ := ra.get h1
    obtain ⟨y, hy, _⟩ := rb.get h2
    exact ⟨xs, ys, x, y, ha _ _ f, hb _ _ f, hx, hy⟩
  yld := fun M' S' H' k v H'' f r hk ⟨T, x, y, ev, hT, eH, hx, hy⟩ => by
    obtain ⟨d, e, h1, h2, h3⟩ := pairsD_get hk
    obtain ⟨x', hx', rx⟩ := ra.get h1
    obtain ⟨y', hy', ry⟩ := rb.get h2
    have ex := hx xs (ha _ _ f)
    have ey := hy ys (hb _ _ f)
    rw [hx'] at ex
    rw [hy'] at ey
    cases ex; cases ey
    subst ev eH
    exact ⟨_, h3, r.extNew hT, r.new hT, Rep.newTup r hT (.cons (rx.mv f) (.cons (ry.mv f) .nil))⟩
  stop := fun M' S' H' f _ => ⟨xs, ys, ha _ _ f, hb _ _ f, by
    have h1 := ra.length
    have h2 := rb.length
    unfold pairsD
    rw [List.length_map, List.length_zip]
    omega⟩
/-- enumerate -/
def numsD (ds : List D) : List D := (List.range ds.length).zipWith (fun (i : Nat) d => .tup [.int (i : Int), d]) ds
theorem numsD_len (ds : List D) : (numsD ds).length = ds.length := by
  unfold numsD
  rw [List.length_zipWith, List.length_range, Nat.min_self]
theorem numsD_get {ds : List D} {k : Nat} {d : D} (h : ds[k]? = some d) : (numsD ds)[k]? = some (.tup [.int (k : Int), d]) := by
  have hk := (List.getElem?_eq_some_iff.mp h).1
  unfold numsD
  rw [List.getElem?_zipWith, List.getElem?_range hk, h]
theorem yields_enum {a : Addr} {xs : List V} {ds : List D} (ha : ∀ M' H', Mv M H M' H' → SqL U.K H' a xs) (ra : RepAll U M H xs ds) : Yields U M H (Ite U.K a) (numsD ds) where
  go := fun M' S' H' k f _ hk => by
    rw [numsD_len] at hk
    obtain ⟨x, hx, _⟩ := ra.get (List.getElem?_eq_getElem hk)
    exact ⟨xs, x, ha _ _ f, hx⟩
  yld := fun M' S' H' k v H'' f r hk ⟨T, x, ev, hT, eH, hx⟩ => by
    rw [numsD_len] at hk
    obtain ⟨x', hx', rx⟩ := ra.get (List.getElem?_eq_getElem hk)
    have ex := hx xs (ha _ _ f)
    rw [hx'] at ex
    cases ex
    subst ev eH
    exact ⟨_, numsD_get (List.getElem?_eq_getElem hk), r.extNew hT, r.new hT, Rep.newTup r hT (.cons (.int _) (.cons (rx.mv f) .nil))⟩
  stop := fun M' S' H' f _ => ⟨xs, ha _ _ f, by rw [ra.length, numsD_len]; exact Nat.le_refl _⟩
end
def iZipM (ma mb : ME) : MI := fun ρ S => (ma ρ S).bind fun x S1 => (mb ρ S1).bind fun y S2 => match seqF x, seqF y with
  | some ds, some es => .ok (pairsD ds es) S2
  | _, _ => .stuck
def iEnumM (m : ME) : MI := fun ρ S => (m ρ S).bind fun x S1 => match seqF x with
  | some ds => .ok (numsD ds) S1
  | none => .stuck
section
variable {X : Cx} {U : Uv} {W : WX} {a b : Expr} {ma mb : ME} {elts : List Expr} {kk : Nat} {q pos tpos : Pos}
theorem i_zip (hm : X.mg "zip" = none) (ha : PE X a (tE U W ma)) (hb : PE X b (tE U W mb)) (hK : X.K = U.K := by rfl) (hg : Gl X "zip" := by rfl) (hs : starEach [a, b] X.env = (false, eval a X.env) :: starEach [b] X.env := by rfl) (hs2 : starEach [b] X.env = (false, eval b X.env) :: starEach [] X.env := by rfl)
    (hpl : (backTo pos (starEach [b] X.env)).any (·.1) = false := by rfl) : PI X (.Tuple elts kk tpos) (.Call (.Name "zip" q) [a, b] [] pos) (tI U W (iZipM ma mb)) :=
  pi_imp (pi_zip hg hm (pa_cons ha (pa_cons hb pa_nil hs2) hs) hs hpl) fun σ H R' ⟨M, S, ρ, A, p⟩ => tX.bind A p fun x S1 M1 H1 v e1 A1 r1 p1 => tX.bind A1 p1 fun y S2 M2 H2 w e2 A2 r2 p2 => by
    cases q1 : seqF x with
    | none => simp only [q1] at p2; exact p2.elim
    | some ds =>
      cases q2 : seqF y with
      | none => simp only [q1, q2] at p2; exact p2.elim
      | some es =>
        simp only [q1, q2] at p2
        obtain ⟨l1, xs, rfl, s1, ra⟩ := (r1.ext e2).seqF' q1
        obtain ⟨l2, ys, rfl, s2, rb⟩ := r2.seqF' q2
        rw [hK]
        exact ⟨l1, l2, xs, ys, rfl, s1 _ _ Mv.refl, s2 _ _ Mv.refl, p2 M2 H2 _ A2.refl A2.r (yields_zip s1 s2 ra rb)⟩
theorem i_enum (hm : X.mg "enumerate" = none) (ha : PE X a (tE U W ma)) (hK : X.K = U.K := by rfl) (hg : Gl X "enumerate" := by rfl) (hs : starEach [a] X.env = [(false, eval a X.env)] := by rfl) (hs1 : starEach [a] X.env = (false, eval a X.env) :: starEach [] X.env := by rfl) :
    PI X (.Tuple elts kk tpos) (.Call (.Name "enumerate" q) [a] [] pos) (tI U W (iEnumM ma)) :=
  pi_imp (pi_enum hg hm (pa_cons ha pa_nil hs1) hs) fun σ H R' ⟨M, S, ρ, A, p⟩ => tX.bind A p fun x S1 M1 H1 v e1 A1 r1 p1 => by
    cases q1 : seqF x with
    | none => simp only [q1] at p1; exact p1.elim
    | some ds =>
      simp only [q1] at p1
      obtain ⟨l1, xs, rfl, s1, ra⟩ := r1.seqF' q1
      rw [hK]
      exact ⟨l1, xs, rfl, s1 _ _ Mv.refl, p1 M1 H1 _ A1.refl A1.r (yields_enum s1 ra)⟩
end
end DL
/-! DL15: instances: attributes read and set, methods, new instances. -/
namespace DL
open PySem L2
section
variable {U : Uv} {M M' : Mp} {H H' : Hp} {fv : List (Str × V)} {fs : List (Str × D)} {f : Str} {d : D} {v : V}
theorem FsRep.look : ∀ {fv : List (Str × V)} {fs : List (Str × D)}, FsRep U M H fv fs → fs.lookup f = some d → ∃ v, fv.lookup f = some v ∧ Rep U M H v d
  | _, _, .nil, h => by cases h
  | (k, v) :: _, (k', d') :: _, .cons h r, hl => by
    obtain ⟨ek, hr⟩ := h
    have ek : k = k' := ek
    subst ek
    rw [List.lookup] at hl ⊢
    cases q : f == k with
    | true => rw [q] at hl; cases hl; exact ⟨v, rfl, hr⟩
    | false => rw [q] at hl; exact FsRep.look r hl
theorem FsRep.lookN : ∀ {fv : List (Str × V)} {fs : List (Str × D)}, FsRep U M H fv fs → fs.lookup f = none → fv.lookup f = none
  | _, _, .nil, _ => rfl
  | (k, v) :: _, (k', d') :: _, .cons h r, hl => by
    obtain ⟨ek, hr⟩ := h
    have ek : k = k' := ek
    subst ek
    rw [List.lookup] at hl ⊢
    cases q : f == k with
    | true => rw [q] at hl; cases hl
    | false => rw [q] at hl; exact FsRep.lookN r hl
theorem FsRep.len : ∀ {fv : List (Str × V)} {fs : List (Str × D)}, FsRep U M H fv fs → fv.length = fs.length
  | _, _, .nil => rfl
  | _ :: _, _ :: _, .cons _ r => congrArg (· + 1) (FsRep.len r)
def putD (f : Str) (d : D) : List (Str × D) → List (Str × D)
  | [] => [(f, d)]
  | (g, x) :: r => if g = f then (g, d) :: r else (g, x) :: putD f d r
theorem FsRep.put (hv : Rep U M H v d) : ∀ {fv : List (Str × V)} {fs : List (Str × D)}, FsRep U M H fv fs → FsRep U M H (putF f v fv) (putD f d fs)
  | _, _, .nil => .cons ⟨rfl, hv⟩ .nil
  | (k, w) :: _, (k', d') :: _, .cons h r => by
    obtain ⟨ek, hr⟩ := h
    have ek : k = k' := ek
    subst ek
    unfold putF putD
    by_cases q : k = f
    · rw [if_pos q, if_pos q]; exact .cons ⟨rfl, hv⟩ r
    · rw [if_neg q, if_neg q]; exact .cons ⟨rfl, hr⟩ (FsRep.put hv r)
/-- an instance of the store -/
theorem Rep.objI {S : Sto} {i c : Nat} (h : Rep U M H v (.obj i)) (r : R U M S H) (q : S[i]? = some (.ins c fs)) : ∃ dx fv, v = .ref (M.at_ i) ∧ i < M.n ∧ H (M.at_ i) = some (.ins (U.cl c) dx fv) ∧ FsRep U M H fv fs := by
  cases h with
  | obj hi =>
    obtain ⟨dx, fv, a, b⟩ := r.at_ i _ q
    exact ⟨dx, fv, rfl, hi, a, b⟩
end
/-! ### o.f and o.f = e -/
/-- an instance of one of these classes: its number, its fields -/
def insG (cs : List Nat) (S : Sto) (d : D) : Option (Nat × Nat × List (Str × D)) := match d with
  | .obj i => match S[i]? with
    | some (.ins c fs) => if cs.contains c = true then some (i, c, fs) else none
    | _ => none
  | _ => none
theorem insG_some {cs : List Nat} {S : Sto} {d : D} {z : Nat × Nat × List (Str × D)} (h : insG cs S d = some z) : d = .obj z.1 ∧ S[z.1]? = some (.ins z.2.1 z.2.2) ∧ z.2.1 ∈ cs := by
  cases d with
  | obj i =>
    unfold insG at h
    simp only at h
    cases q : S[i]? with
    | none => rw [q] at h; cases h
    | some ob =>
      rw [q] at h
      cases ob with
      | lst xs => cases h
      | ins c fs =>
        simp only at h
        by_cases g : cs.contains c = true
        · rw [if_pos g] at h; cases h; exact ⟨rfl, q, List.contains_iff_mem.mp g⟩
        · rw [if_neg g] at h; cases h
  | _ => cases h
def mFld (cs : List Nat) (f : Str) (m : ME) : ME := fun ρ S => (m ρ S).bind fun d S1 => match insG cs S1 d with
  | some z => match z.2.2.lookup f with
    | some x => .ok x S1
    | none => .stuck
  | none => .stuck
def sFldD (cs : List Nat) (f : Str) (m mo : ME) : MS := fun ρ S => .of (m ρ S) ρ fun d S1 => .of (mo ρ S1) ρ fun o S2 => match insG cs S2 o with
  | some z => if z.2.2.length < 1000 then .nx ρ (S2.set z.1 (.ins z.2.1 (putD f d z.2.2))) else .stuck
  | none => .stuck
section
variable {X : Cx} {U : Uv} {W : WX} {e o : Expr} {m mo : ME} {f : Str} {cs : List Nat} {pos pos' : Pos}
theorem e_fld (he : PE X e (tE U W m)) (hc : ∀ c ∈ cs, Cls X.K (U.cl c) ∧ NoAttr X.K (U.cl c) f) (hb : attributeBase e f X.env (eval e X.env) = eval e X.env := by rfl) : PE X (.Attribute e f pos) (tE U W (mFld cs f m)) :=
  pe_imp (pe_fld he hb) fun σ H Q ⟨M, S, ρ, A, q⟩ => tX.bind A q fun d S1 M1 H1 v e1 A1 rv q1 => by
    cases g : insG cs S1 d with
    | none => rw [g] at q1; exact q1.elim
    | some z =>
      rw [g] at q1
      obtain ⟨rfl, hS, hm⟩ := insG_some g
      obtain ⟨dx, fv, rfl, hi, hH, fr⟩ := rv.objI A1.r hS
      simp only at q1
      cases g2 : z.2.2.lookup f with
      | none => rw [g2] at q1; exact q1.elim
      | some x =>
        rw [g2] at q1
        obtain ⟨w, hl, rw'⟩ := fr.look g2
        exact ⟨_, _, dx, fv, w, rfl, hH, (hc _ hm).1, (hc _ hm).2, hl, q1 M1 H1 w A1.refl A1.r rw'⟩
theorem s_fld (ho : PE X o (tE U W mo)) (he : PE X e (tE U W m)) (hc : ∀ c ∈ cs, Cls X.K (U.cl c) ∧ NoAttr X.K (U.cl c) f) (hs : swapsWith e (some (.Attribute o f pos')) pos.line X.env = pure false := by rfl) : PS X (.Assign [.Attribute o f pos'] e pos) (tS U W (sFldD cs f m mo)) :=
  ps_imp (ps_fld ho he hs) fun Dn σ H ⟨M, S, ρ, A, p⟩ => tX.ofS A p fun d S1 M1 H1 v e1 A1 r1 p1 => tX.ofS A1 p1 fun dO S2 M2 H2 ov e2 A2 r2 p2 => by
    cases g : insG cs S2 dO with
    | none => rw [g] at p2; exact p2.elim
    | some z =>
      rw [g] at p2
      obtain ⟨rfl, hS, hm⟩ := insG_some g
      obtain ⟨dx, fv, rfl, hi, hH, fr⟩ := r2.objI A2.r hS
      simp only at p2
      by_cases hl : z.2.2.length < 1000
      · rw [if_pos hl] at p2
        have ex := A2.r.extSet (o := .ins (U.cl z.2.1) dx (putF f v fv)) hi
        have R3 := A2.r.set (o := .ins (U.cl z.2.1) dx (putF f v fv)) (ob := .ins z.2.1 (putD f d z.2.2)) hi ⟨dx, _, upd_same, ((fr.put (r1.ext e2)).ext ex)⟩
        exact ⟨_, _, dx, fv, rfl, hH, (hc _ hm).1, (hc _ hm).2, by rw [fr.len]; exact hl, p2 M2 _ _ ex (A2.ext ex R3)⟩
      · rw [if_neg hl] at p2; exact p2.elim
end
end DL
/-! DL16: methods called, new instances made. -/
namespace DL
open PySem L2
section
variable {U : Uv} {W : WX} {M : Mp} {S : Sto} {H : Hp} {σ : L2.St} {ρ : Env}
/-- the arguments' reading, then what is done with them -/
theorem args_post {α : Type} {g : List D → Sto → Out α} {rel : Mp → Hp → V → α → Prop} {ms : MA} {Q : VK} {Q1 : List V → Hp → Prop} (A : At U M S ρ σ H) (q : PostX U rel M H σ W ((ms ρ S).bind g) Q)
    (h : ∀ ds S1 M1 H1 vs, ms ρ S = .ok ds S1 → Ext M H M1 H1 → R U M1 S1 H1 → RepAll U M1 H1 vs ds → PostX U rel M1 H1 σ W (g ds S1) Q → Q1 vs H1) : tA U W ms σ H Q1 := by
  refine ⟨M, S, ρ, A, ?_⟩
  cases e1 : ms ρ S with
  | ok ds S1 =>
    rw [e1] at q
    exact fun M1 H1 vs ex r ra => h ds S1 M1 H1 vs e1 ex r ra (PostX.ext ex q)
  | exc x S1 => rw [e1] at q; exact q
  | stuck => rw [e1] at q; exact q
end
/-- a method that does what F does -/
structure DoesM (P : Program) (w : World) (K : PySem.W.Frag) (mg : Str → Option Value) (base : Heap) (U : Uv) (k c : Nat) (m : Str) (f : Addr) (fd : FuncData) (ps : List Str) (F : Mi) : Prop where
  fn : FnOk P w K mg base (L2N.CX P w) k f fd ps (spF U ps.length F)
  cl : Cls K (U.cl c)
  me : Meth K (U.cl c) m f
  b : Binds K fd ps []
/-- o.m(e, ..) -/
def mMeth (c : Nat) (m : Str) (F : Mi) (mo : ME) (ms : MA) : ME := fun ρ S => (mo ρ S).bind fun o S1 => match insG [c] S1 o with
  | some z => match z.2.2.lookup m with
    | none => (ms ρ S1).bind fun ds S2 => F (o :: ds) S2
    | some _ => .stuck
  | none => .stuck
/-- o.m(k = e, ..) -/
def mMethK (c : Nat) (m : Str) (F : Mi) (is : List Nat) (mo : ME) (mk : MA) : ME := fun ρ S => (mo ρ S).bind fun o S1 => match insG [c] S1 o with
  | some z => match z.2.2.lookup m with
    | none => (mk ρ S1).bind fun es S2 => match pick is (o :: es) with
      | some zs => F zs S2
      | none => .stuck
    | some _ => .stuck
  | none => .stuck
section
variable {X : Cx} {U : Uv} {W : WX} {k j c : Nat} {F : Mi} {m : Str} {o e : Expr} {es : List Expr} {mo : ME} {ms mk : MA} {pos apos : Pos} {f : Addr} {fd : FuncData} {ps ks : List Str}
/-- the receiver -/
theorem recv_post {M : Mp} {S : Sto} {H : Hp} {σ : L2.St} {ρ : Env} {Q : VK} {g : D → Sto → Out D} (A : At U M S ρ σ H)
    (q : PostX U (Rep U) M H σ W ((mo ρ S).bind fun o S1 => match insG [c] S1 o with
      | some z => match z.2.2.lookup m with
        | none => g o S1
        | some _ => .stuck
      | none => .stuck) Q) : tE U W mo σ H fun x H1 => ∃ M1 S1 d a dx fv, x = .ref a ∧ H1 a = some (.ins (U.cl c) dx fv) ∧ fv.lookup m = none ∧ At U M1 S1 ρ σ H1 ∧ Rep U M1 H1 (.ref a) d ∧ PostX U (Rep U) M1 H1 σ W (g d S1) Q :=
  tX.bind A q fun d S1 M1 H1 v e1 A1 rv q1 => by
    cases g1 : insG [c] S1 d with
    | none => rw [g1] at q1; exact q1.elim
    | some z =>
      rw [g1] at q1
      obtain ⟨rfl, hS, hm⟩ := insG_some g1
      obtain ⟨dx, fv, rfl, hi, hH, fr⟩ := rv.objI A1.r hS
      have hc := List.mem_singleton.mp hm
      rw [hc] at hH
      simp only at q1
      cases g2 : z.2.2.lookup m with
      | none =>
        rw [g2] at q1
        exact ⟨M1, S1, _, _, dx, fv, rfl, hH, fr.lookN g2, A1, rv, q1⟩
      | some x => rw [g2] at q1; exact q1.elim
theorem e_meth {pl : Sem Bool} (G : DoesM X.prog X.w X.K X.mg X.base U k c m f fd ps F) (tk : L2N.Takes X W) (hr : Room j X.A) (ho : PE X o (tE U W mo)) (ha : PA X (e :: es) (tA U W ms)) (hn : ∀ ρ S ds S1, ms ρ S = .ok ds S1 → ds.length + 1 = ps.length) (hk : k ≤ j := by decide) (hst : starEach (e :: es) X.env = (false, eval e X.env) :: starEach es X.env := by rfl)
    (hpl : (backTo pos (starEach es X.env)).any (·.1) = false := by rfl)
    (ht : eval (.Call (.Attribute o m apos) (e :: es) [] pos) X.env = (do let ov ← eval o X.env; standAt apos.atName; let (gf, g1) ← holding [ov] (getMethod ov m pl); callWith pos gf g1 (backTo pos (starEach (e :: es) X.env)) (backToKw pos (keywordEach [] X.env))) := by rfl) : PE X (.Call (.Attribute o m apos) (e :: es) [] pos) (tE U W (mMeth c m F mo ms)) := by
  refine ⟨fun pins s σ H Q I ⟨M, S, ρ, A, q⟩ => ?_⟩
  refine PySem.W.methodCall_KW (pl := pl) (thn (ho.run pins s σ H _ I (recv_post A q)) fun u s1 ⟨x, H1, I1, rx, M1, S1, d, a, dx, fv, ex, ea, l, A1, rd, q1⟩ => ?_) ht
  subst ex
  have eu : u = Value.ref a := rx; subst eu
  refine getmeth_ok I1 ea G.cl G.me l ?_
  have z := args_post (Q1 := fun vs H2 => spF U ps.length F (.ref a :: vs) H2 Q (WE W σ)) A1 q1 fun ds S2 M2 H2 vs e1 ex r ra p => sp_in r (.cons (rd.ext ex) ra) (hn _ _ _ _ e1) p
  refine PySem.W.callWith_K (first := [.ref a]) (h₀ := X.base) I.ok.mod.kin G.me.kp (thn (ha.run pos pins s1 σ H1 _ I1 z) fun us s2 ⟨vs, H2, I2, r, q2⟩ => ⟨I2.kIn, ?_⟩) hst hpl
  exact run_fnS (E := WE W) (us := .ref a :: us) (vs := .ref a :: vs) G.fn (hr.mono hk) G.b (L2N.passAt tk σ) I2 (.cons rfl r) q2
theorem e_meth0 {pl : Sem Bool} (G : DoesM X.prog X.w X.K X.mg X.base U k c m f fd ps F) (tk : L2N.Takes X W) (hr : Room j X.A) (ho : PE X o (tE U W mo)) (hk : k ≤ j := by decide) (hp : ps.length = 1 := by rfl)
    (ht : eval (.Call (.Attribute o m apos) [] [] pos) X.env = (do let ov ← eval o X.env; standAt apos.atName; let (gf, g1) ← holding [ov] (getMethod ov m pl); callWith pos gf g1 (backTo pos (starEach [] X.env)) (backToKw pos (keywordEach [] X.env))) := by rfl) : PE X (.Call (.Attribute o m apos) [] [] pos) (tE U W (mMeth c m F mo aNil)) := by
  refine ⟨fun pins s σ H Q I ⟨M, S, ρ, A, q⟩ => ?_⟩
  refine PySem.W.methodCall_KW (pl := pl) (thn (ho.run pins s σ H _ I (recv_post A q)) fun u s1 ⟨x, H1, I1, rx, M1, S1, d, a, dx, fv, ex, ea, l, A1, rd, q1⟩ => ?_) ht
  subst ex
  have eu : u = Value.ref a := rx; subst eu
  refine getmeth_ok I1 ea G.cl G.me l ?_
  exact PySem.W.callWith_K0 (first := [.ref a]) I1.kIn G.me.kp (run_fnS (E := WE W) (us := [.ref a]) (vs := [.ref a]) G.fn (hr.mono hk) G.b (L2N.passAt tk σ) I1 (.cons rfl .nil) (sp_in A1.r (.cons rd .nil) hp.symm q1))
theorem e_methK {pl : Sem Bool} {kws : List Keyword} (is : List Nat) (G : DoesM X.prog X.w X.K X.mg X.base U k c m f fd ps F) (hb : KwB X.K fd ps ks 1 is) (tk : L2N.Takes X W) (hr : Room j X.A) (ho : PE X o (tE U W mo)) (hkw : PK X kws (tA U W mk)) (hm : ∀ ρ S ds S1, mk ρ S = .ok ds S1 → ds.length = ks.length) (hk : k ≤ j := by decide)
    (hi : is.length = ps.length := by rfl) (hall : (backToKw pos (keywordEach kws X.env)).all (·.1.isSome) = true := by rfl) (hks : (backToKw pos (keywordEach kws X.env)).filterMap (·.1) = ks := by rfl)
    (hpl : ((backTo pos (starEach [] X.env)).any (·.1) || (backToKw pos (keywordEach kws X.env)).any (·.1.isNone)) = false := by rfl)
    (ht : eval (.Call (.Attribute o m apos) [] kws pos) X.env = (do let ov ← eval o X.env; standAt apos.atName; let (gf, g1) ← holding [ov] (getMethod ov m pl); callWith pos gf g1 (backTo pos (starEach [] X.env)) (backToKw pos (keywordEach kws X.env))) := by rfl) : PE X (.Call (.Attribute o m apos) [] kws pos) (tE U W (mMethK c m F is mo mk)) := by
  refine ⟨fun pins s σ H Q I ⟨M, S, ρ, A, q⟩ => ?_⟩
  refine PySem.W.methodCall_KW (pl := pl) (thn (ho.run pins s σ H _ I (recv_post A q)) fun u s1 ⟨x, H1, I1, rx, M1, S1, d, a, dx, fv, ex, ea, l, A1, rd, q1⟩ => ?_) ht
  subst ex
  have eu : u = Value.ref a := rx; subst eu
  refine getmeth_ok I1 ea G.cl G.me l ?_
  have z := args_post (Q1 := fun zs H2 => zs.length = ks.length ∧ ∃ es, pick is ([V.ref a] ++ zs) = some es ∧ spF U ps.length F es H2 Q (WE W σ)) A1 q1 fun ds S2 M2 H2 vs e1 ex r ra p => by
    cases g : pick is (d :: ds) with
    | none => rw [g] at p; exact p.elim
    | some ys =>
      rw [g] at p
      obtain ⟨ws, h1, h2⟩ := pick_repA (RepAll.cons (rd.ext ex) ra) g
      exact ⟨ra.length.trans (hm _ _ _ _ e1), ws, h1, sp_in r h2 ((pick_len g).trans hi) p⟩
  refine PySem.W.callWith_KW0 (first := [.ref a]) (h₀ := X.base) I.ok.mod.kin G.me.kp hall (thn (hkw.run pos pins s1 σ H1 _ I1 z) fun ws s2 ⟨zs, H2, I2, rz, l2, es, h3, h4⟩ => ⟨I2.kIn, ?_⟩) hpl
  rw [hks]
  exact run_fnKS (E := WE W) (us := [.ref a]) (vs := [.ref a]) G.fn (hr.mono hk) hb (L2N.passAt tk σ) I2 (.cons rfl .nil) rz rfl (rz.length.symm.trans l2) h3 h4
end
/-! ### a new instance -/
def mMake (c : Nat) (F : Mi) (ms : MA) : ME := fun ρ S => (ms ρ S).bind fun ds S1 => (F (.obj S1.length :: ds) (S1 ++ [.ins c []])).bind fun d S2 => match d with
  | .non => .ok (.obj S1.length) S2
  | _ => .stuck
def mMakeK (c : Nat) (F : Mi) (is : List Nat) (mk : MA) : ME := fun ρ S => (mk ρ S).bind fun es S1 => match pick is (D.obj S1.length :: es) with
  | some zs => (F zs (S1 ++ [.ins c []])).bind fun d S2 => match d with
    | .non => .ok (.obj S1.length) S2
    | _ => .stuck
  | none => .stuck
/-- a class whose __init__ does what F does -/
structure DoesI (P : Program) (w : World) (K : PySem.W.Frag) (mg : Str → Option Value) (base : Heap) (U : Uv) (k c : Nat) (x : Str) (f : Addr) (fd : FuncData) (ps : List Str) (F : Mi) : Prop where
  fn : FnOk P w K mg base (L2N.CX P w) k f fd ps (spF U ps.length F)
  mke : Mk K (U.cl c) f
  mg_ : mg x = some (.ref (U.cl c))
  b : Binds K fd ps []
section
variable {X : Cx} {U : Uv} {W : WX} {k j c : Nat} {F : Mi} {x : Str} {e : Expr} {es : List Expr} {ms mk : MA} {pos p : Pos} {f C : Addr} {fd : FuncData} {ps ks : List Str}
theorem run_mk {pins : List (Addr × Obj)} {σ : L2.St} {H : Hp} {s : Shared} {Q : VK} {us : List Value} {kw : List (Str × Value)} {sp : Sp} {E : L2.St → XK} (Y : Mk X.K C f) (G : FnOk X.prog X.w X.K X.mg X.base (L2N.CX X.prog X.w) k f fd ps sp) (hr : Room (k + 1) X.A) (hx : PassesAt (L2N.CX X.prog X.w) X σ (E σ)) (I : Inv X pins σ H s)
    (h : ∀ a dx, H a = none → H dx = none → dx ≠ a → ∃ es ys, (∀ s' : Shared, X.K.In s'.heap → BindsTo s' fd ⟨.ref a :: us, kw⟩ (ps.zip ys)) ∧ Vals es ys ∧ sp es (upd (upd H dx (.own a)) a (.ins C dx [])) (fun v H2 => v = .non ∧ Q (.ref a) H2) (E σ)) :
    wpAny (model X.prog X.w) X.A (call (.ref C) us kw) (EP X pins σ Q) X.xe s := by
  obtain ⟨es, ys, hb, r2, hq⟩ := h (s.heap.objs.size + 1) s.heap.objs.size (I.hok.fresh (Nat.le_succ _)) (I.hok.fresh (Nat.le_refl _)) (Nat.ne_of_lt (Nat.lt_succ_self _))
  have J := Inv.made (C := C) I
  have g := G.run _ X.stack _ _ ⟨Value.ref (s.heap.objs.size + 1) :: us, kw⟩ ys es _ (E σ) (hr.make C us kw) (J.env0.make C us kw) (hb _ J.kIn) r2 hq
  refine wpAny_call (make_map (f := f) I.kIn Y.makes Y.init (beq_iff_eq.mp Y.fn) (codeAny_mono g fun r s' z => ?_))
  cases r with
  | error e => exact hx pins _ _ e s' J z
  | ok fl =>
    cases fl with
    | ret u =>
      obtain ⟨v, H', J', rv, ev, q3⟩ := J.after z
      subst ev
      exact ⟨rv, ⟨V.ref (s.heap.objs.size + 1), H', J', rfl, q3⟩⟩
    | next => exact z.elim
    | brk => exact z.elim
    | cont => exact z.elim
/-- the new instance stands in the store -/
theorem mk_in {M : Mp} {S : Sto} {H : Hp} {σ : L2.St} {Q : VK} {a dx : Addr} {es : List D} {np : Nat} {ws : List V} (r : R U M S H) (ha : H a = none) (hd : H dx = none) (hne : dx ≠ a)
    (hes : ∀ M' H', Ext M H M' H' → Rep U M' H' (.ref a) (.obj S.length) → RepAll U M' H' ws es) (hl : es.length = np)
    (q : PostX U (Rep U) M H σ W ((F es (S ++ [.ins c []])).bind fun d S2 => match d with
      | .non => .ok (.obj S.length) S2
      | _ => .stuck) Q) : spF U np F ws (upd (upd H dx (.own a)) a (.ins (U.cl c) dx [])) (fun v H2 => v = .non ∧ Q (.ref a) H2) (WE W σ) := by
  have hk : ∀ b u, H b = some u → (upd (upd H dx (.own a)) a (.ins (U.cl c) dx [])) b = some u := fun b u hb => by
    rw [upd_ne (ne_of_none hb ha), upd_ne (ne_of_none hb hd)]; exact hb
  have hO : ObAt U (M.push a) (upd (upd H dx (.own a)) a (.ins (U.cl c) dx [])) a (.ins c []) := ⟨dx, [], upd_same, .nil⟩
  have ex := r.extPush ha hk upd_same
  have r' := r.push ha hk hO
  have self : Rep U (M.push a) (upd (upd H dx (.own a)) a (.ins (U.cl c) dx [])) (.ref a) (.obj S.length) := by
    have z : Rep U (M.push a) (upd (upd H dx (.own a)) a (.ins (U.cl c) dx [])) (.ref ((M.push a).at_ M.n)) (.obj M.n) := .obj (Nat.lt_succ_self _)
    have e1 : (M.push a).at_ M.n = a := if_pos rfl
    rw [e1, r.n] at z
    exact z
  refine sp_in r' (hes _ _ ex self) hl ((PostX.ext ex q).bind fun d S2 M2 H2 b e2 r2 rb p => ?_)
  cases d with
  | non =>
    cases rb
    exact ⟨rfl, p M2 H2 _ r2.refl r2 (self.ext e2)⟩
  | _ => exact p.elim
theorem binds_at (hb : Binds X.K fd ps []) {us : List Value} (hl : us.length = ps.length) : ∀ s' : Shared, X.K.In s'.heap → BindsTo s' fd ⟨us, []⟩ (ps.zip us) := fun s' hK => by
  have b := hb s' us hK (by rw [List.append_nil]; exact hl)
  rw [List.append_nil] at b
  exact b
/-- C(e, ..) -/
theorem e_make (G : DoesI X.prog X.w X.K X.mg X.base U k c x f fd ps F) (tk : L2N.Takes X W) (hr : Room j X.A) (ha : PA X (e :: es) (tA U W ms)) (hn : ∀ ρ S ds S1, ms ρ S = .ok ds S1 → ds.length + 1 = ps.length) (hk : k + 1 ≤ j := by decide) (hg : Gl X x := by rfl) (hdb : (x == ("__debug__" : Str)) = false := by decide)
    (he : starEach (e :: es) X.env = (false, eval e X.env) :: starEach es X.env := by rfl) (hpl : (backTo pos (starEach es X.env)).any (·.1) = false := by rfl) : PE X (.Call (.Name x p) (e :: es) [] pos) (tE U W (mMake c F ms)) := by
  refine ⟨fun pins s σ H Q I ⟨M, S, ρ, A, q⟩ => ?_⟩
  refine wpAny_Call_Name_kw (ld_glob I hg G.mg_ ?_ hdb)
  have z := args_post (Q1 := fun vs H1 => vs.length + 1 = ps.length ∧ ∀ a dx, H1 a = none → H1 dx = none → dx ≠ a → spF U ps.length F (.ref a :: vs) (upd (upd H1 dx (.own a)) a (.ins (U.cl c) dx [])) (fun v H2 => v = .non ∧ Q (.ref a) H2) (WE W σ)) A q fun ds S1 M1 H1 vs e1 ex r ra p =>
    ⟨by rw [ra.length]; exact hn _ _ _ _ e1, fun a dx h1 h2 h3 => mk_in r h1 h2 h3 (fun M' H' e' s' => .cons s' (ra.ext e')) (hn _ _ _ _ e1) p⟩
  refine PySem.W.callWith_K (h₀ := X.base) I.ok.mod.kin G.mke.kp (thn (ha.run pos pins s σ H _ I z) fun us s1 ⟨vs, H1, I1, r, l, q1⟩ => ⟨I1.kIn, ?_⟩) he hpl
  refine run_mk (E := WE W) G.mke G.fn (hr.mono hk) (L2N.passAt tk σ) I1 fun a dx h1 h2 h3 => ⟨.ref a :: vs, .ref a :: us, binds_at G.b ?_, .cons rfl r, q1 a dx h1 h2 h3⟩
  exact (congrArg (· + 1) r.length.symm).trans l
/-- C() -/
theorem e_make0 (G : DoesI X.prog X.w X.K X.mg X.base U k c x f fd ps F) (tk : L2N.Takes X W) (hr : Room j X.A) (hk : k + 1 ≤ j := by decide) (hp : ps.length = 1 := by rfl) (hg : Gl X x := by rfl) (hdb : (x == ("__debug__" : Str)) = false := by decide) : PE X (.Call (.Name x p) [] [] pos) (tE U W (mMake c F aNil)) := by
  refine ⟨fun pins s σ H Q I ⟨M, S, ρ, A, q⟩ => ?_⟩
  refine wpAny_Call_Name_kw (ld_glob I hg G.mg_ ?_ hdb)
  refine PySem.W.callWith_K0 I.kIn G.mke.kp (run_mk (E := WE W) (us := []) G.mke G.fn (hr.mono hk) (L2N.passAt tk σ) I fun a dx h1 h2 h3 => ⟨[.ref a], [.ref a], binds_at G.b hp.symm, .cons rfl .nil, ?_⟩)
  exact mk_in A.r h1 h2 h3 (fun M' H' e' s' => .cons s' .nil) hp.symm q
/-- C(k = e, ..) -/
theorem e_makeK {kws : List Keyword} (is : List Nat) (G : DoesI X.prog X.w X.K X.mg X.base U k c x f fd ps F) (hb : KwB X.K fd ps ks 1 is) (tk : L2N.Takes X W) (hr : Room j X.A) (hkw : PK X kws (tA U W mk)) (hm : ∀ ρ S ds S1, mk ρ S = .ok ds S1 → ds.length = ks.length) (hk : k + 1 ≤ j := by decide)
    (hi : is.length = ps.length := by rfl) (hg : Gl X x := by rfl) (hall : (backToKw pos (keywordEach kws X.env)).all (·.1.isSome) = true := by rfl) (hks : (backToKw pos (keywordEach kws X.env)).filterMap (·.1) = ks := by rfl) (hdb : (x == ("__debug__" : Str)) = false := by decide)
    (hpl : ((backTo pos (starEach [] X.env)).any (·.1) || (backToKw pos (keywordEach kws X.env)).any (·.1.isNone)) = false := by rfl) : PE X (.Call (.Name x p) [] kws pos) (tE U W (mMakeK c F is mk)) := by
  refine ⟨fun pins s σ H Q I ⟨M, S, ρ, A, q⟩ => ?_⟩
  refine wpAny_Call_Name_kw (ld_glob I hg G.mg_ ?_ hdb)
  have z := args_post (Q1 := fun zs H1 => zs.length = ks.length ∧ ∀ a dx, H1 a = none → H1 dx = none → dx ≠ a → ∃ es, pick is ([V.ref a] ++ zs) = some es ∧ spF U ps.length F es (upd (upd H1 dx (.own a)) a (.ins (U.cl c) dx [])) (fun v H2 => v = .non ∧ Q (.ref a) H2) (WE W σ)) A q fun ds S1 M1 H1 vs e1 ex r ra p => by
    refine ⟨ra.length.trans (hm _ _ _ _ e1), fun a dx h1 h2 h3 => ?_⟩
    cases g : pick is (D.obj S1.length :: ds) with
    | none => rw [g] at p; exact p.elim
    | some ys =>
      rw [g] at p
      cases g2 : pick is (V.ref a :: vs) with
      | none =>
        have hk' : ∀ b u, H1 b = some u → (upd (upd H1 dx (.own a)) a (.ins (U.cl c) dx [])) b = some u := fun b u hb => by
          rw [upd_ne (ne_of_none hb h1), upd_ne (ne_of_none hb h2)]; exact hb
        have ex := r.extPush h1 hk' upd_same
        have z : Rep U (M1.push a) (upd (upd H1 dx (.own a)) a (.ins (U.cl c) dx [])) (.ref ((M1.push a).at_ M1.n)) (.obj M1.n) := .obj (Nat.lt_succ_self _)
        have e1 : (M1.push a).at_ M1.n = a := if_pos rfl
        rw [e1, r.n] at z
        obtain ⟨ws, h4, _⟩ := pick_repA (RepAll.cons z (ra.ext ex)) g
        rw [g2] at h4; cases h4
      | some ws =>
        refine ⟨ws, g2, mk_in r h1 h2 h3 (fun M' H' e' s' => ?_) ((pick_len g).trans hi) p⟩
        obtain ⟨ws', h4, h5⟩ := pick_repA (RepAll.cons s' (ra.ext e')) g
        rw [g2] at h4; cases h4
        exact h5
  refine PySem.W.callWith_KW0 (h₀ := X.base) I.ok.mod.kin G.mke.kp hall (thn (hkw.run pos pins s σ H _ I z) fun ws s1 ⟨zs, H1, I1, rz, l2, q1⟩ => ⟨I1.kIn, ?_⟩) hpl
  rw [hks]
  refine run_mk (E := WE W) (us := []) G.mke G.fn (hr.mono hk) (L2N.passAt tk σ) I1 fun a dx h1 h2 h3 => ?_
  obtain ⟨es, h4, h5⟩ := q1 a dx h1 h2 h3
  obtain ⟨ys, h6, h7⟩ := pick_rel ((show Vals [V.ref a] [Value.ref a] from .cons rfl .nil).append rz) h4
  exact ⟨es, ys, fun s' hK => hb s' [.ref a] ws ys hK rfl (rz.length.symm.trans l2) h6, h7, h5⟩
end
end DL
/-! DL17: o[i] by an own __getitem__; the same call within a built-in. -/
namespace DL
open PySem L2
section
variable {X : Cx} {U : Uv} {W : WX} {k j c : Nat} {F : Mi} {o i : Expr} {mo mi : ME} {pos : Pos} {f : Addr} {fd : FuncData} {ps : List Str}
/-- a def called from elsewhere in the same frame -/
theorem run_sub {A : Around} {pins : List (Addr × Obj)} {σ : L2.St} {H : Hp} {s : Shared} {Q : VK} {us : List Value} {vs : List V} {sp : Sp} {E : L2.St → XK} {XE : Value → Shared → Prop} (G : FnOk X.prog X.w X.K X.mg X.base (L2N.CX X.prog X.w) k f fd ps sp) (hr : Room k A) (hA : A.frames = X.A.frames) (hb : Binds X.K fd ps []) (hx : ∀ e s', L2N.CX X.prog X.w X.stack H s (E σ) e s' → XE e s')
    (I : Inv X pins σ H s) (r : Vals vs us) (h : sp vs H Q (E σ)) : wpAny (model X.prog X.w) A (call (.ref f) us) (EP X pins σ Q) XE s := by
  have e0 : Env0 X.prog X.w X.K X.mg X.base A X.stack s H := let e := I.env0
    ⟨hA.symm ▸ e.frames, e.mod, e.bs, e.bsz, e.funs, e.frf, e.hok, e.bare⟩
  have hl : us.length = ps.length := r.length.symm.trans (G.len _ _ _ _ h)
  refine wpAny_call (codeAny_mono (G.run A X.stack s H ⟨us, []⟩ us vs Q (E σ) hr e0 (binds_at hb hl s I.kIn) r h) fun z s' hq => ?_)
  cases z with
  | error e => exact hx e s' hq
  | ok fl =>
    cases fl with
    | ret u => exact I.after hq
    | next => exact hq.elim
    | brk => exact hq.elim
    | cont => exact hq.elim
def mSubI (c : Nat) (F : Mi) (mo mi : ME) : ME := fun ρ S => (mo ρ S).bind fun o S1 => (mi ρ S1).bind fun i S2 => match insG [c] S2 o with
  | some _ => F [o, i] S2
  | none => .stuck
theorem e_subI (G : DoesM X.prog X.w X.K X.mg X.base U k c "__getitem__" f fd ps F) (hfn : PySem.W.fnIn X.K f = true) (tk : L2N.Takes X W) (hr : Room j X.A) (ho : PE X o (tE U W mo)) (hi : PE X i (tE U W mi)) (hk : k + 1 ≤ j := by decide) (hp : ps.length = 2 := by rfl)
    (hsl : ∀ x v, subscripted i true (.ref x) v = runValue (.builtin "lifetime.subscript" ⟨[.ref x, v], []⟩) := by intro _ _; with_unfolding_all rfl) : PE X (.Subscript o i pos) (tE U W (mSubI c F mo mi)) := by
  refine ⟨fun pins s σ H Q I ⟨M, S, ρ, A, q⟩ => ?_⟩
  refine PyProof.Rows.Subscript_ (binT (R := fun x y H2 => ∃ a dx fv, x = .ref a ∧ H2 a = some (.ins (U.cl c) dx fv) ∧ spF U ps.length F [x, y] H2 Q (WE W σ)) ho hi I (tX.bind A q fun d S1 M1 H1 v e1 A1 rv q1 => tX.bind A1 q1 fun e S2 M2 H2 u e2 A2 ru q2 => ?_) fun v u s2 x y H2 I2 rx ry ⟨a, dx, fv, ex, ea, q2⟩ => ?_)
  · cases g : insG [c] S2 d with
    | none => rw [g] at q2; exact q2.elim
    | some z =>
      rw [g] at q2
      obtain ⟨rfl, hS, hm⟩ := insG_some g
      have rv2 := rv.ext e2
      obtain ⟨dx, fv, rfl, hi, hH, fr⟩ := rv2.objI A2.r hS
      have hc := List.mem_singleton.mp hm
      rw [hc] at hH
      exact ⟨_, dx, fv, rfl, hH, sp_in A2.r (.cons rv2 (.cons ru .nil)) hp.symm q2⟩
  · subst ex
    have ev : v = Value.ref a := rx; subst ev
    obtain ⟨mA, J, _⟩ := ins_get I2.hok ea
    obtain ⟨od, J, _⟩ := J.look
    obtain ⟨m, hF⟩ := I2.fr
    refine PySem.W.sub_K hF I2.ok.mod.kin J G.me.at_ hfn G.me.fn ?_ (hsl _ _)
    exact run_sub (E := WE W) (us := [.ref a, u]) (vs := [.ref a, y]) G.fn (hr.mono hk).in1 rfl G.b (fun e s' z => L2N.passAt tk σ pins H2 s2 e s' I2 z) I2 (.cons rfl (.cons ry .nil)) q2
end
end DL
/-! DL18: len(o) by an own __len__. -/
namespace DL
open PySem L2
section
variable {X : Cx} {U : Uv} {W : WX} {k j c : Nat} {F : Mi} {f : Addr} {fd : FuncData} {ps : List Str}
/-- the length that an own __len__ gives -/
def lenI (F : Mi) (d : D) (S : Sto) : Out D := (F [d] S).bind fun r S1 => match r with
  | .int n => if 0 ≤ n ∧ n < 2 ^ 63 then .ok (.int n) S1 else .stuck
  | _ => .stuck
def mLenI (c : Nat) (F : Mi) (ms : MA) : ME := fun ρ S => (ms ρ S).bind fun ds S1 => match ds with
  | [d] => match insG [c] S1 d with
    | some _ => lenI F d S1
    | none => .stuck
  | _ => .stuck
theorem run_lenI {pins : List (Addr × Obj)} {σ : L2.St} {H : Hp} {s : Shared} {Q : VK} {a dx : Addr} {fv : List (Str × V)} (G : DoesM X.prog X.w X.K X.mg X.base U k c "__len__" f fd ps F) (tk : L2N.Takes X W) (hr : Room (k + 1) X.A) (I : Inv X pins σ H s) (ea : H a = some (.ins (U.cl c) dx fv))
    (q : spF U ps.length F [.ref a] H (fun v H' => ∃ n : Int, v = .int n ∧ 0 ≤ n ∧ n < 2 ^ 63 ∧ Q (.int n) H') (WE W σ)) : wpAny (model X.prog X.w) X.A (call (.builtin "len") [.ref a]) (EP X pins σ Q) X.xe s := by
  refine Calls.call_function_entry kind_len plain_len entry_len (args_len1 (.ref a)) ?_
  obtain ⟨mA, J, _⟩ := ins_get I.hok ea
  obtain ⟨od, J, _⟩ := J.look
  unfold Builtin.«len»
  refine wpAny_bind (m := oneArg "len" _) <| wpAny_pure <| wpAny_bind (m := callSpecial? (.ref a) (Str.ofString "__len__")) (PySem.W.special_fn I.kIn J G.me.at_ (beq_iff_eq.mp G.me.fn) ?_)
  refine wpAny_mono (run_sub (E := WE W) (XE := X.xe) (us := [.ref a]) (vs := [.ref a]) G.fn (by first | exact hr.in1 | exact hr.mono (Nat.le_succ _)) rfl G.b (fun e s' z => L2N.passAt tk σ pins H s e s' I z) I (.cons rfl .nil) q) (fun u s1 z => ?_) fun _ _ e => e
  obtain ⟨v, H', I', rv, n, ev, h0, h1, q'⟩ := z
  subst ev
  obtain ⟨t, rfl⟩ := rv
  refine wpAny_bind (wpAny_holding <| wpAny_pure <| wpAny_bind <| wpAny_letGo ?_)
  have g0 : ¬ n < 0 := by omega
  have g1 : ¬ n ≥ 2 ^ 63 := by omega
  show wpAny _ _ (if n < 0 then _ else if n ≥ 2 ^ 63 then _ else _) _ _ _
  rw [if_neg g0, if_neg g1]
  exact wpAny_bind (wpAny_mkInt (wpAny_pure ⟨_, rfl, .int n, H', I'.tok _, ⟨_, rfl⟩, q'⟩))
theorem e_lenI {o : Expr} {ms : MA} {q pos : Pos} (G : DoesM X.prog X.w X.K X.mg X.base U k c "__len__" f fd ps F) (tk : L2N.Takes X W) (hr : Room j X.A) (ha : PA X [o] (tA U W ms)) (hm : X.mg "len" = none) (hk : k + 1 ≤ j := by decide) (hp : ps.length = 1 := by rfl) (hg : Gl X "len" := by rfl)
    (he : starEach [o] X.env = (false, eval o X.env) :: starEach [] X.env := by rfl) (hpl : (backTo pos (starEach [] X.env)).any (·.1) = false := by rfl) : PE X (.Call (.Name "len" q) [o] [] pos) (tE U W (mLenI c F ms)) := by
  refine ⟨fun pins s σ H Q I ⟨M, S, ρ, A, q⟩ => ?_⟩
  refine wpAny_Call_Name_kw (ld_blt I hg hm boot_len ?_ (by decide) (by decide))
  have z := args_post (Q1 := fun vs H1 => ∃ a dx fv, vs = [.ref a] ∧ H1 a = some (.ins (U.cl c) dx fv) ∧ spF U ps.length F [.ref a] H1 (fun v H' => ∃ n : Int, v = .int n ∧ 0 ≤ n ∧ n < 2 ^ 63 ∧ Q (.int n) H') (WE W σ)) A q fun ds S1 M1 H1 vs e1 ex r ra p => by
    cases ra with
    | nil => exact p.elim
    | @cons v vs d ds rd rs =>
      cases rs with
      | cons _ _ => exact p.elim
      | nil =>
        simp only at p
        cases g : insG [c] S1 d with
        | none => rw [g] at p; exact p.elim
        | some z =>
          rw [g] at p
          obtain ⟨rfl, hS, hm⟩ := insG_some g
          obtain ⟨dx, fv, rfl, hi, hH, fr⟩ := rd.objI r hS
          have hc := List.mem_singleton.mp hm
          rw [hc] at hH
          refine ⟨_, dx, fv, rfl, hH, sp_in r (.cons rd .nil) hp.symm ?_⟩
          have p' : PostX U (Rep U) M1 H1 σ W (lenI F (.obj z.1) S1) Q := p
          unfold lenI at p'
          refine p'.bind fun d' S2 M2 H2 b e2 r2 rb p2 => ?_
          cases d' with
          | int n =>
            cases rb
            simp only at p2
            by_cases hn : 0 ≤ n ∧ n < 2 ^ 63
            · rw [if_pos hn] at p2
              exact ⟨n, rfl, hn.1, hn.2, p2 M2 H2 _ r2.refl r2 (.int n)⟩
            · rw [if_neg hn] at p2; exact p2.elim
          | _ => exact p2.elim
  refine PyProof.Rows.callWith_builtin1 (thn (ha.run pos pins s σ H _ I z) fun us s1 ⟨vs, H1, I1, r1, a, dx, fv, ev, ea, q1⟩ => ?_) he hpl
  subst ev
  obtain ⟨u, rfl, rx⟩ := vals1 r1
  have eu : u = Value.ref a := rx; subst eu
  exact run_lenI G tk (hr.mono hk) I1 ea q1
end
end DL
/-! DL19: a == b where a may be an instance with an own __eq__. -/
namespace DL
open PySem L2
/-- the right side of an own ==: an instance of the same class, or a list of the store -/
def okR (c : Nat) (S : Sto) (y : D) : Bool := match y with
  | .obj i => match S[i]? with
    | some (.ins c' _) => c' == c
    | some (.lst _) => true
    | none => false
  | .lst _ => true
  | _ => false
def mEqI (c : Nat) (F : Mi) (ma mb : ME) : ME := fun ρ S => (ma ρ S).bind fun x S1 => (mb ρ S1).bind fun y S2 => match insG [c] S2 x with
  | some _ => if okR c S2 y = true then (F [x, y] S2).bind fun r S3 => match r with
      | .bl z => .ok (.bl z) S3
      | _ => .stuck
    else .stuck
  | none => ofO (eqO S2 x y) S2
section
variable {X : Cx} {U : Uv} {W : WX} {k j c : Nat} {F : Mi} {f : Addr} {fd : FuncData} {ps : List Str} {a b : Expr} {ma mb : ME} {pos : Pos}
theorem okR_at {M : Mp} {S : Sto} {H : Hp} {v : V} {y : D} (h : okR c S y = true) (r : R U M S H) (rv : Rep U M H v y) : ∃ bb, v = .ref bb ∧ ((∃ dy gv, H bb = some (.ins (U.cl c) dy gv)) ∨ ∃ ys, H bb = some (.lst ys)) := by
  cases y with
  | obj i =>
    unfold okR at h
    simp only at h
    cases q : S[i]? with
    | none => rw [q] at h; cases h
    | some ob =>
      rw [q] at h
      cases ob with
      | lst xs =>
        obtain ⟨bb, ys, e, hH, _⟩ := rv.objL r q
        exact ⟨bb, e, .inr ⟨ys, hH⟩⟩
      | ins c' fs =>
        have ec : c' = c := beq_iff_eq.mp h
        subst ec
        obtain ⟨dy, gv, e, _, hH, _⟩ := rv.objI r q
        exact ⟨_, e, .inl ⟨dy, gv, hH⟩⟩
  | lst xs =>
    obtain ⟨bb, ys, e, hH, _⟩ := rv.lstV
    exact ⟨bb, e, .inr ⟨ys, hH⟩⟩
  | _ => cases h
theorem e_eqI (G : DoesM X.prog X.w X.K X.mg X.base U k c "__eq__" f fd ps F) (hnl : PySem.W.notFirst X.K (U.cl c) (.type "list") = true) (tk : L2N.Takes X W) (hr : Room j X.A) (ha : PE X a (tE U W ma)) (hb : PE X b (tE U W mb)) (hm : behindInMarks .Eq b = false := by first | exact nomark _ | rfl | with_unfolding_all rfl)
    (hk : k ≤ j := by decide) (hp : ps.length = 2 := by rfl) (hK : X.K = U.K := by rfl) : PE X (.Compare a [.Eq] [b] pos) (tE U W (mEqI c F ma mb)) := by
  refine pe_cmp (t := tE U W (mEqI c F ma mb)) ⟨fun pins s σ H Q I ⟨M, S, ρ, A, q⟩ => ?_⟩ hm
  obtain ⟨r, h1, h2⟩ := (o_eq (X := X) (U := U) hr hK).ex
  refine binT (f := compareOp .Eq) (R := fun x y H2 => (∃ ad dx fv bb, x = .ref ad ∧ H2 ad = some (.ins (U.cl c) dx fv) ∧ y = .ref bb ∧ ((∃ dy gv, H2 bb = some (.ins (U.cl c) dy gv)) ∨ ∃ ys, H2 bb = some (.lst ys)) ∧ spF U ps.length F [x, y] H2 (fun v H' => ∃ z, v = .bl z ∧ Q (.bl z) H') (WE W σ)) ∨ r x y H2 Q) ha hb I
    (tX.bind A q fun d S1 M1 H1 v e1 A1 rv q1 => tX.bind A1 q1 fun e S2 M2 H2 u e2 A2 ru q2 => ?_) fun v u s2 x y H2 I2 rx ry z => ?_
  · have rv2 := rv.ext e2
    cases g : insG [c] S2 d with
    | none =>
      rw [g] at q2
      obtain ⟨dd, ed, qd⟩ := ofO_post q2
      exact .inr (h2 M2 S2 H2 v u d e dd Q A2.r rv2 ru ed qd)
    | some z =>
      rw [g] at q2
      simp only at q2
      obtain ⟨rfl, hS, hm⟩ := insG_some g
      obtain ⟨dx, fv, rfl, hi, hH, fr⟩ := rv2.objI A2.r hS
      have hc := List.mem_singleton.mp hm
      rw [hc] at hH
      by_cases ok : okR c S2 e = true
      · rw [if_pos ok] at q2
        obtain ⟨bb, eb, hB⟩ := okR_at ok A2.r ru
        refine .inl ⟨_, dx, fv, bb, rfl, hH, eb, hB, sp_in A2.r (.cons rv2 (.cons ru .nil)) hp.symm (q2.bind fun d' S3 M3 H3 b3 e3 r3 rb p3 => ?_)⟩
        cases d' with
        | bl z =>
          cases rb
          exact ⟨z, rfl, p3 M3 H3 _ r3.refl r3 (.bl z)⟩
        | _ => exact p3.elim
      · rw [if_neg ok] at q2; exact q2.elim
  · rcases z with ⟨ad, dx, fv, bb, ex, ea, ey, eB, q2⟩ | z
    · subst ex; subst ey
      have ev : v = Value.ref ad := rx; subst ev
      have eu : u = Value.ref bb := ry; subst eu
      obtain ⟨mA, J, _⟩ := ins_get I2.hok ea
      obtain ⟨od, J, _⟩ := J.look
      obtain ⟨m, hF⟩ := I2.fr
      have hT : ∃ tb, PySem.W.Looks (model X.prog X.w) s2.heap (typeOf (.ref bb)) tb ∧ PySem.W.notFirst X.K (U.cl c) tb = true := by
        rcases eB with ⟨dy, gv, hB⟩ | ⟨ys, hB⟩
        · obtain ⟨mB, J', _⟩ := ins_get I2.hok hB
          obtain ⟨od', J2, _⟩ := J'.look
          exact ⟨_, J2.type, by simp [PySem.W.notFirst]⟩
        · obtain ⟨_, its, n, _, _, e⟩ := I2.lstM hB
          exact ⟨.type "list", (PySem.W.Looks.ld e).andThen .now, hnl⟩
      obtain ⟨tb, hT1, hT2⟩ := hT
      refine PySem.W.cmp_K (op := .Eq) hr.units0 hF I2.ok.mod.kin J hT1 hT2 G.me.at_ G.me.fn ?_
      refine wpAny_mono (run_sub (E := WE W) (XE := X.xe) (us := [.ref ad, .ref bb]) (vs := [.ref ad, .ref bb]) G.fn (hr.mono hk) rfl G.b (fun e s' z => L2N.passAt tk σ pins H2 s2 e s' I2 z) I2 (.cons rfl (.cons rfl .nil)) q2) (fun w s3 z => ?_) fun _ _ e => e
      obtain ⟨vv, H', I', rw', t, et, q'⟩ := z
      subst et
      have ew : w = Value.bool t := rw'; subst ew
      exact ⟨.bl t, H', I', rfl, q'⟩
    · exact h1 pins s2 σ H2 x y v u Q I2 rx ry z
end
end DL
/-! DL20: isinstance of data and instances, against built-in types and own classes. -/
namespace DL
open PySem L2
abbrev Ts := Sum Tc Nat
def valT (U : Uv) : Ts → Value
  | .inl t => .type t.nm
  | .inr c => .ref (U.cl c)
def subI : Ts → Ts → Bool
  | .inl a, .inl b => a.sub b
  | .inr c, .inr c' => c == c'
  | _, _ => false
/-- what the text must show of these classes -/
structure IsC (K : PySem.W.Frag) (U : Uv) (cs : List Nat) : Prop where
  cl : ∀ c ∈ cs, Cls K (U.cl c)
  ha : ∀ c ∈ cs, PySem.W.findIn K (.ref (U.cl c)) "__class__" = some (some (.builtin "object.__class__"))
  hw : PySem.W.specialIn K (.builtin "object.__class__") "__get__" = some (some (.builtin "getset_descriptor.__get__")) ∧ PySem.W.takesIn K (.builtin "object.__class__") = some true
  hm : ∀ c ∈ cs, PySem.W.mroIn K (U.cl c) (.type "object") = some true
  cc : ∀ c ∈ cs, ∀ c' ∈ cs, PySem.W.kitOne K (.ref (U.cl c)) (.ref (U.cl c')) = some (c == c')
  tc : ∀ c ∈ cs, ∀ t : Tc, PySem.W.kitOne K (.type t.nm) (.ref (U.cl c)) = some false
  ct : ∀ c ∈ cs, ∀ t : Tc, t.nm ≠ "NoneType" → PySem.W.kitOne K (.ref (U.cl c)) (.type t.nm) = some false
def tcI (cs : List Nat) (S : Sto) (d : D) : Option Ts := match insG cs S d with
  | some z => some (.inr z.2.1)
  | none => (tcD S d).map .inl
def clI (cs : List Nat) : D → Option Ts
  | .ty n => (tcOf n).map .inl
  | .cls c => if cs.contains c = true then some (.inr c) else none
  | _ => none
def anyI (cs : List Nat) (t : Ts) : List D → Option Bool
  | [] => some false
  | d :: r => match clI cs d with
    | some c => (anyI cs t r).map fun b => subI t c || b
    | none => none
def isiI (cs : List Nat) (S : Sto) (ds : List D) : Option D := match ds with
  | [x, .tup ks] => (tcI cs S x).bind fun t => (anyI cs t ks).map .bl
  | [x, c] => (tcI cs S x).bind fun t => (clI cs c).map fun k => .bl (subI t k)
  | _ => none
section
variable {X : Cx} {U : Uv} {M : Mp} {S : Sto} {H : Hp} {cs : List Nat}
/-- a type that stands for a value -/
def okT (cs : List Nat) : Ts → Prop
  | .inl _ => True
  | .inr c => c ∈ cs
theorem tcI_ok (F : IsC U.K U cs) {v : V} {d : D} {t : Ts} (r : R U M S H) (h : Rep U M H v d) (e : tcI cs S d = some t) : TyX U.K H v (valT U t) ∧ okT cs t := by
  unfold tcI at e
  cases g : insG cs S d with
  | some z =>
    rw [g] at e
    cases e
    obtain ⟨rfl, hS, hm⟩ := insG_some g
    obtain ⟨dx, fv, rfl, hi, hH, fr⟩ := h.objI r hS
    exact ⟨.base (.ins hH (F.cl _ hm) (F.ha _ hm) F.hw.1 F.hw.2 (F.hm _ hm)), hm⟩
  | none =>
    rw [g] at e
    cases qt : tcD S d with
    | none => rw [qt] at e; cases e
    | some t' => rw [qt] at e; cases e; exact ⟨h.tyx r qt, True.intro⟩
theorem clI_ok (F : IsC U.K U cs) {v : V} {d : D} {t k : Ts} (h : Rep U M H v d) (ht : okT cs t) (e : clI cs d = some k) : ClsV v (valT U k) ∧ PySem.W.kitOne U.K (valT U t) (valT U k) = some (subI t k) := by
  cases h with
  | ty n =>
    unfold clI at e
    simp only at e
    cases qt : tcOf n with
    | none => rw [qt] at e; cases e
    | some c =>
      rw [qt] at e
      cases e
      obtain ⟨e1, e2⟩ := tcOf_ok qt
      subst e1
      refine ⟨.ty _, ?_⟩
      cases t with
      | inl t => exact kit_ty (tc_ok t c e2)
      | inr c' => exact F.ct _ ht _ e2
  | cls c =>
    unfold clI at e
    simp only at e
    by_cases g : cs.contains c = true
    · rw [if_pos g] at e
      cases e
      have hc := List.contains_iff_mem.mp g
      refine ⟨.own _, ?_⟩
      cases t with
      | inl t => exact F.tc _ hc t
      | inr c' => exact F.cc _ ht _ hc
    · rw [if_neg g] at e; cases e
  | _ => cases e
theorem anyI_ok (F : IsC U.K U cs) {t : Ts} (ht : okT cs t) : ∀ {ds : List D} {vs : List V} {b : Bool}, RepAll U M H vs ds → anyI cs t ds = some b → ∃ us, Paired ClsV vs us ∧ PySem.W.kitAny U.K (valT U t) us = some b
  | _, _, _, .nil, e => by cases e; exact ⟨[], .nil, kitAny_nil⟩
  | d :: ds, _, b, .cons (v := v) (vs := vs) h r, e => by
    unfold anyI at e
    cases qt : clI cs d with
    | none => rw [qt] at e; cases e
    | some k =>
      rw [qt] at e
      simp only at e
      cases q2 : anyI cs t ds with
      | none => rw [q2] at e; cases e
      | some b2 =>
        rw [q2] at e
        cases e
        obtain ⟨h1, h2⟩ := clI_ok F h ht qt
        obtain ⟨us, p, hu⟩ := anyI_ok F ht r q2
        exact ⟨_ :: us, .cons h1 p, kitAny_cons h2 (fun z => by rw [z]; exact hu) fun z => by rw [z]; rfl⟩
theorem c_isiI (F : IsC U.K U cs) (hK : X.K = U.K := by rfl) : CallD U X (.builtin "isinstance") (isiI cs) := ofC _ (call_isi.or (call_isiT.or call_isiK)) fun M S H xs ds d Q r hx e g => by
  unfold isiI at e
  split at e
  · rename_i x ks
    cases q1 : tcI cs S x with
    | none => rw [q1] at e; cases e
    | some t =>
      rw [q1] at e
      have e' : (anyI cs t ks).map D.bl = some d := e
      cases q2 : anyI cs t ks with
      | none => rw [q2] at e'; cases e'
      | some b =>
        rw [q2] at e'
        cases e'
        obtain ⟨v, w, rfl, hv, hw⟩ := hx.two
        obtain ⟨ty, ht⟩ := tcI_ok F r hv q1
        rw [hK]
        cases hw with
        | tup hT ra =>
          obtain ⟨us, p, hu⟩ := anyI_ok F ht ra q2
          rcases hT with hT | ⟨⟨cls, dd, data, sl⟩, its, n, hl, hc, hd, _, hv2⟩
          · exact .inr (.inl ⟨v, _, _, _, us, b, rfl, hT.1, p, ty, hu, g.here r (.bl _)⟩)
          · have eu : its.toList = us := ClsV.all p hv2
            simp only at hc hd
            subst hc hd
            have ei : its = us.toArray := by rw [← eu]
            subst ei
            exact .inr (.inr ⟨v, _, _, us, n, sl, _, b, rfl, hl, ty, hu, g.here r (.bl _)⟩)
  · rename_i x c _
    cases q1 : tcI cs S x with
    | none => rw [q1] at e; cases e
    | some t =>
      rw [q1] at e
      have e' : (clI cs c).map (fun k => D.bl (subI t k)) = some d := e
      cases q2 : clI cs c with
      | none => rw [q2] at e'; cases e'
      | some k =>
        rw [q2] at e'
        cases e'
        obtain ⟨v, w, rfl, hv, hw⟩ := hx.two
        obtain ⟨ty, ht⟩ := tcI_ok F r hv q1
        obtain ⟨h1, h2⟩ := clI_ok F hw ht q2
        rw [hK]
        exact .inl ⟨v, _, _, _, _, rfl, h1, ty, h2, g.here r (.bl _)⟩
  · cases e
end
end DL
/-! DL21: n & 1. -/
namespace DL
open PySem L2
/-- n & 1 of a number that is not negative -/
def oddO (_ : Sto) (x y : D) : Option D := match x, y with
  | .int i, .int j => if 0 ≤ i ∧ j = 1 then some (.int (i % 2)) else none
  | _, _ => none
section
variable {X : Cx} {U : Uv}
theorem o_odd : OpD U X (binaryOp .BitAnd) oddO := ofR _ op_odd fun M S H x y dx dy d Q r hx hy e g => by
  unfold oddO at e
  split at e
  · rename_i i j
    by_cases hc : 0 ≤ i ∧ j = 1
    · rw [if_pos hc] at e
      cases e
      obtain ⟨h0, rfl⟩ := hc
      obtain ⟨n, rfl⟩ : ∃ n : Nat, i = (n : Int) := ⟨i.toNat, (Int.toNat_of_nonneg h0).symm⟩
      refine ⟨n, hx.intV, hy.intV, ?_⟩
      have en : ((n % 2 : Nat) : Int) = (n : Int) % 2 := by omega
      rw [en]
      exact g.here r (.int _)
    · rw [if_neg hc] at e; cases e
  · cases e
end
end DL
/-! DL22: a != b where a may be an instance with an own __eq__ and object's __ne__. -/
namespace DL
open PySem L2
theorem ne_slot : Slot "object" "__ne__" "object.__ne__" :=
  Slot.of (T := "object") (name := "__ne__") (owner := "object") (n := "__ne__") (by rw [typeLookup_type]; rw [builtinLookup_eq_fast]; kernel_rfl) (by decide +kernel) (by decide +kernel) (by decide +kernel) (.inl (by decide +kernel)) (by rw [isSubtype_type]; kernel_rfl)
section
variable {prog : Program} {w : World} {A : Around} {E : Value → Shared → Prop} {s : Shared} {K : PySem.W.Frag} {x C f : Addr} {ox : Obj} {od : Option Obj} {b tb : Value}
theorem rc_ne {Q : Value → Shared → Prop} (hu : A.units + 1 < cLine) (Y : K.In s.heap) (J : PySem.W.InstAt s.heap x ox C od) (hb : PySem.W.Looks (model prog w) s.heap (typeOf b) tb) (hn : PySem.W.notFirst K C tb = true)
    (hne : PySem.W.findIn K (.ref C) "__ne__" = some (some (.builtin "object.__ne__"))) (hob : PySem.W.mroIn K C (.type "object") = some true) (hs : PySem.W.findIn K (.ref C) "__eq__" = some (some (.ref f))) (hf : PySem.W.isFn K (.ref f) = true)
    (h : wpAny (model prog w) A.in1 (call (.ref f) [.ref x, b]) (fun v s' => ∃ z, v = .bool z ∧ Q (.bool (!z)) s') E s) : wpAny (model prog w) A (richCompare .NotEq (.ref x) b) Q E s := by
  have one : wpAny (model prog w) A (tryCompare (.ref x) "__ne__" b) (fun r s' => ∃ v, r = some v ∧ Q v s') E s := by
    unfold tryCompare
    have sp : PySem.W.Looks (model prog w) s.heap (specialOf (.ref x) "__ne__") (some (.builtin "object.__ne__")) := J.type.andThen (PySem.W.looks_findIn Y hne)
    have iv : PySem.W.Looks (model prog w) s.heap (isInstance (.ref x) (.type "object")) true := J.type.andThen (PySem.W.looks_mroIn Y hob)
    refine wpAny_bind (NtL.csib sp (ne_slot.bind (.ref x)) (wpAny_call (codeAny_call_builtin ne_slot.plain F.cmpEntry_ne (@PySem.W.check_slot (model prog w) _ _ _ "object.__ne__" "object" "__ne__" (.ref x) [b] [] _ F.cmpKind_ne F.cmpSplit_ne iv (F.cmpArgs_ne _ _) ?_))))
    unfold Builtin.«object.__ne__»; refine wpAny_bind (m := slotArgs "__ne__" 1 _) (wpAny_pure ?_)
    refine wpAny_bind <| wpAny_cRoomFor hu <| wpAny_bind (PySem.W.ifBound_K Y J hs hf (wpAny_mono h (fun v s' z => ?_) fun _ _ e => e))
    obtain ⟨z, rfl, q⟩ := z
    refine wpAny_bind (m := truthy (.bool z)) (wpAny_truthy_bool ?_)
    exact wpAny_pure (wpAny_pure ⟨_, rfl, q⟩)
  unfold richCompare
  simp only [oneThing_ref]
  refine wpAny_holding (wpAny_bind (wpAny_cRoomFor (Nat.lt_of_succ_lt hu) (wpAny_bind (J.type.here (wpAny_bind (hb.here ?_))))))
  split
  · rename_i q
    have e : PySem.W.subIn K tb (.ref C) = some false := by
      unfold PySem.W.notFirst at hn
      cases g : (tb == Value.ref C) with
      | true => rw [beq_iff_eq.mp g] at q; simp at q
      | false => rw [g, Bool.false_or] at hn; exact beq_iff_eq.mp hn
    refine wpAny_bind ((PySem.W.looks_subIn Y e).here ?_)
    simp only [Bool.false_eq_true, if_false]; exact wpAny_bind (wpAny_mono one (fun r s' ⟨v, er, hq⟩ => by subst er; exact wpAny_pure hq) fun _ _ e => e)
  · exact wpAny_bind (wpAny_pure (by simp only [Bool.false_eq_true, if_false]; exact wpAny_bind (wpAny_mono one (fun r s' ⟨v, er, hq⟩ => by subst er; exact wpAny_pure hq) fun _ _ e => e)))
end
def mNeI (c : Nat) (F : Mi) (ma mb : ME) : ME := fun ρ S => (ma ρ S).bind fun x S1 => (mb ρ S1).bind fun y S2 => match insG [c] S2 x with
  | some _ => if okR c S2 y = true then (F [x, y] S2).bind fun r S3 => match r with
      | .bl z => .ok (.bl (!z)) S3
      | _ => .stuck
    else .stuck
  | none => ofO (neO S2 x y) S2
section
variable {X : Cx} {U : Uv} {W : WX} {k j c : Nat} {F : Mi} {f : Addr} {fd : FuncData} {ps : List Str} {a b : Expr} {ma mb : ME} {pos : Pos}
theorem e_neI (G : DoesM X.prog X.w X.K X.mg X.base U k c "__eq__" f fd ps F) (hnl : PySem.W.notFirst X.K (U.cl c) (.type "list") = true) (hne : PySem.W.findIn X.K (.ref (U.cl c)) "__ne__" = some (some (.builtin "object.__ne__"))) (hob : PySem.W.mroIn X.K (U.cl c) (.type "object") = some true) (tk : L2N.Takes X W) (hr : Room j X.A) (ha : PE X a (tE U W ma)) (hb : PE X b (tE U W mb)) (hm : behindInMarks .NotEq b = false := by first | exact nomark _ | rfl | with_unfolding_all rfl)
    (hk : k + 1 ≤ j := by decide) (hp : ps.length = 2 := by rfl) (hK : X.K = U.K := by rfl) : PE X (.Compare a [.NotEq] [b] pos) (tE U W (mNeI c F ma mb)) := by
  refine pe_cmp (t := tE U W (mNeI c F ma mb)) ⟨fun pins s σ H Q I ⟨M, S, ρ, A, q⟩ => ?_⟩ hm
  obtain ⟨r, h1, h2⟩ := (o_ne (X := X) (U := U) hr hK).ex
  refine binT (f := compareOp .NotEq) (R := fun x y H2 => (∃ ad dx fv bb, x = .ref ad ∧ H2 ad = some (.ins (U.cl c) dx fv) ∧ y = .ref bb ∧ ((∃ dy gv, H2 bb = some (.ins (U.cl c) dy gv)) ∨ ∃ ys, H2 bb = some (.lst ys)) ∧ spF U ps.length F [x, y] H2 (fun v H' => ∃ z, v = .bl z ∧ Q (.bl (!z)) H') (WE W σ)) ∨ r x y H2 Q) ha hb I
    (tX.bind A q fun d S1 M1 H1 v e1 A1 rv q1 => tX.bind A1 q1 fun e S2 M2 H2 u e2 A2 ru q2 => ?_) fun v u s2 x y H2 I2 rx ry z => ?_
  · have rv2 := rv.ext e2
    cases g : insG [c] S2 d with
    | none =>
      rw [g] at q2
      obtain ⟨dd, ed, qd⟩ := ofO_post q2
      exact .inr (h2 M2 S2 H2 v u d e dd Q A2.r rv2 ru ed qd)
    | some z =>
      rw [g] at q2
      simp only at q2
      obtain ⟨rfl, hS, hm⟩ := insG_some g
      obtain ⟨dx, fv, rfl, hi, hH, fr⟩ := rv2.objI A2.r hS
      have hc := List.mem_singleton.mp hm
      rw [hc] at hH
      by_cases ok : okR c S2 e = true
      · rw [if_pos ok] at q2
        obtain ⟨bb, eb, hB⟩ := okR_at ok A2.r ru
        refine .inl ⟨_, dx, fv, bb, rfl, hH, eb, hB, sp_in A2.r (.cons rv2 (.cons ru .nil)) hp.symm (q2.bind fun d' S3 M3 H3 b3 e3 r3 rb p3 => ?_)⟩
        cases d' with
        | bl z =>
          cases rb
          exact ⟨z, rfl, p3 M3 H3 _ r3.refl r3 (.bl (!z))⟩
        | _ => exact p3.elim
      · rw [if_neg ok] at q2; exact q2.elim
  · rcases z with ⟨ad, dx, fv, bb, ex, ea, ey, eB, q2⟩ | z
    · subst ex; subst ey
      have ev : v = Value.ref ad := rx; subst ev
      have eu : u = Value.ref bb := ry; subst eu
      obtain ⟨mA, J, _⟩ := ins_get I2.hok ea
      obtain ⟨od, J, _⟩ := J.look
      have hT : ∃ tb, PySem.W.Looks (model X.prog X.w) s2.heap (typeOf (.ref bb)) tb ∧ PySem.W.notFirst X.K (U.cl c) tb = true := by
        rcases eB with ⟨dy, gv, hB⟩ | ⟨ys, hB⟩
        · obtain ⟨mB, J', _⟩ := ins_get I2.hok hB
          obtain ⟨od', J2, _⟩ := J'.look
          exact ⟨_, J2.type, by simp [PySem.W.notFirst]⟩
        · obtain ⟨_, its, n, _, _, e⟩ := I2.lstM hB
          exact ⟨.type "list", (PySem.W.Looks.ld e).andThen .now, hnl⟩
      obtain ⟨tb, hT1, hT2⟩ := hT
      refine rc_ne (by have := hr.units; omega) I2.kIn J hT1 hT2 hne hob G.me.at_ G.me.fn ?_
      refine wpAny_mono (run_sub (E := WE W) (XE := X.xe) (us := [.ref ad, .ref bb]) (vs := [.ref ad, .ref bb]) G.fn (hr.mono hk).in1 rfl G.b (fun e s' z => L2N.passAt tk σ pins H2 s2 e s' I2 z) I2 (.cons rfl (.cons rfl .nil)) q2) (fun w s3 z => ?_) fun _ _ e => e
      obtain ⟨vv, H', I', rw', t, et, q'⟩ := z
      subst et
      have ew : w = Value.bool t := rw'; subst ew
      exact ⟨t, rfl, .bl (!t), H', I', rfl, q'⟩
    · exact h1 pins s2 σ H2 x y v u Q I2 rx ry z
end
end DL
/-! DL23: a def's call at one state. -/
namespace DL
open PySem L2
section
variable {P : Program} {w : World} {K : PySem.W.Frag} {mg : Str → Option Value} {base : Heap} {CX : CXT} {k : Nat} {f : Addr} {name qual : Str} {params : Arguments} {body : List Stmt} {scope : Scope}
  {dV kV doc pm cdv ct oc : Value} {an od : Option Addr} {osl : Array (Option Value)} {N ps : List Str} {A : Around} {outer : List PySem.Env} {s : Shared} {H : Hp} {args : Args} {us : List Value} {vs : List V} {Q : VK} {E : XK} {t : TS}
/-- the body's reading is wanted at this state alone -/
theorem run_at (lk : K.lookup f = some ⟨oc, od, .func (PySem.W.fnOf name qual params body scope dV kV doc pm an cdv ct), osl⟩) (hcd : PySem.W.codeIn K cdv qual = true) (S : FnScope N ps scope) (hr : Room (k + 1) A) (e0 : Env0 P w K mg base A outer s H)
    (hb : BindsTo s (PySem.W.fnOf name qual params body scope dV kV doc pm an cdv ct) args (ps.zip us)) (r : Vals vs us) (hl : vs.length = ps.length) (ht : PSs (cxOf CX P w K mg base N qual scope f cdv A outer s H E) body t)
    (hq : t { nx := fun _ H' => Q .non H', rt := Q } (start N vs) H) : codeAny (model P w) A (.call (.ref f) args) (CR CX outer P w H s Q E) s := by
  have kept : ∀ b o, base.get? b = some o → s.heap.get? b = some o := fun b o e => (e0.bs b o e).1
  have where_ : ∀ y ∈ ps.zip us, scope.names.lookup y.1 = some .local ∨ (scope.names.lookup y.1 = some .cell ∧ ((cellsFrom (s.heap.objs.size + 1) scope.names []).lookup y.1).isSome = true) := by
    intro y hy
    cases S.par y.1 (List.of_mem_zip hy).1 with
    | inl q => exact .inl q
    | inr q => exact .inr ⟨q, PySem.W.cellsFrom_some _ _ _ (.inl q)⟩
  refine codeAny_call_function hr.depth ((e0.mod.kin.keeps kept) _ _ lk) rfl S.co S.gen rfl (PySem.W.codeRec_of (e0.mod.kin.keeps kept) hcd) (hb _ _ _ _ (wpAny_newFunctionEnv_cells S.kind where_ fun env he s1 x => ?_))
  subst he
  refine ⟨(e0.mod.nolimit.keeps kept).keeps x.toInCall.keep, codeAny_func (wpAny_mono (ht.run [] s1 (start N vs) H _ (inv_start S hr.hd e0 hl r x) hq) (fun fl s' hs => ?_) fun e s' hs => hs)⟩
  cases fl with
  | ret u => obtain ⟨v, σ', H', J, rv, q⟩ := hs; exact ⟨v, H', J.os, J.bare, J.base, J.hok, rv, q⟩
  | next => obtain ⟨σ', H', J, q⟩ := hs; exact ⟨.non, H', J.os, J.bare, J.base, J.hok, rfl, q⟩
  | brk => obtain ⟨_, _, _, q⟩ := hs; exact q.elim
  | cont => obtain ⟨_, _, _, q⟩ := hs; exact q.elim
end
end DL
/-! DL24: iter(tuple) as a value. -/
namespace DL
open PySem L2
def titObj (tp : Addr) : Obj := { cls := .type "tuple_iterator", data := .fields #[.ref tp, .int 0 0] }
/-- a tuple's iterator that has not begun -/
def TitO (tp it : Addr) : HO := .ext fun h => h.get? it = some (titObj tp)
section
variable {X : Cx}
theorem tit_ok {P : Program} {w : World} {H : Hp} {h : Heap} {it tp : Addr} (e : h.get? it = some (titObj tp)) : ObjOk P w H h it (TitO tp it) := ⟨e, ⟨_, e⟩, fun _ _ q k => k _ q⟩
theorem call_iterT : CallR X (.builtin "iter") (fun xs H Q => ∃ (tp : Addr) (zs : List V), xs = [.ref tp] ∧ SqT X.K H tp zs ∧ ∀ it, H it = Option.none → X.s_0.heap.objs.size ≤ it → Q (.ref it) (upd H it (TitO tp it))) := by
  rintro pins s σ H _ us Q I r ⟨tp, zs, rfl, hq, q⟩
  obtain ⟨u, rfl, hu⟩ := vals1 r; have eu : u = Value.ref tp := hu; subst eu
  obtain ⟨its, rv, pl, hz⟩ := I.tuple hq
  refine Calls.call_function_entry (by decide +kernel) (by decide +kernel) PySem.W.kdk_entry_iter (PySem.W.kdk_args_iter (.ref tp)) ?_
  unfold Builtin.«iter»; refine wpAny_bind (m := someArgs "iter" 1 2 _) (wpAny_of_eq (a := [Value.ref tp]) (by first | rfl | kernel_rfl!) ?_)
  show wpAny _ _ (pyIter (.ref tp) >>= _) _ _ _
  refine wpAny_bind (wpAny_pyIter_tuple (show s.heap.IsTuple tp its.toArray from pl) (wpAny_pure ⟨_, rfl, .ref s.heap.objs.size, _, I.laid (t' := s.toks) (fun b u e => Heap.get?_push_of_some _ e) (Nat.le_refl _) (tit_ok (tp := tp) (Heap.get?_push_size _ rfl)), rfl, q _ (I.hok.fresh (Nat.le_refl _)) I.sz⟩))
end
end DL
/-! DL25: pyIter of an instance whose own __iter__ gives a tuple's iterator. -/
namespace DL
open PySem L2
section
variable {prog : Program} {w : World} {A : Around} {E : Value → Shared → Prop} {s : Shared} {K : PySem.W.Frag} {a C f : Addr} {ox : Obj} {od : Option Obj}
theorem pyIter_inst {Q : Value → Shared → Prop} (Y : K.In s.heap) (J : PySem.W.InstAt s.heap a ox C od) (hs : PySem.W.findIn K (.ref C) "__iter__" = some (some (.ref f))) (hf : PySem.W.isFn K (.ref f) = true)
    (h : wpAny (model prog w) A (call (.ref f) [.ref a]) (fun v s' => ∃ it tp, v = .ref it ∧ s'.heap.get? it = some (titObj tp) ∧ Q v s') E s) : wpAny (model prog w) A (pyIter (.ref a)) Q E s := by
  have sp : PySem.W.Looks (model prog w) s.heap (specialOf (.ref a) "__iter__") (some (.ref f)) := J.type.andThen (PySem.W.looks_findIn Y hs)
  have bd := PySem.W.bind_fn (M := model prog w) Y (.ref a) (beq_iff_eq.mp hf)
  unfold pyIter; refine wpAny_bind (sp.here ?_)
  show wpAny _ _ (callSpecialIfBoundUnlessNone? (.ref a) "__iter__" _ >>= _) _ _ s
  have last : wpAny (model prog w) A (call (.ref f) ([.ref a] ++ []) >>= fun v => pure (some v)) (fun r s' => ∃ it tp, r = some (.ref it) ∧ s'.heap.get? it = some (titObj tp) ∧ Q (.ref it) s') E s :=
    wpAny_bind (wpAny_mono h (fun v s' ⟨it, tp, ev, g, q⟩ => by subst ev; exact wpAny_pure ⟨it, tp, rfl, g, q⟩) fun _ _ e => e)
  refine wpAny_bind (wpAny_mono (Q := fun r s' => ∃ it tp, r = some (.ref it) ∧ s'.heap.get? it = some (titObj tp) ∧ Q (.ref it) s') ?_ (fun r s' ⟨it, tp, er, g, q⟩ => ?_) fun _ _ e => e)
  · simp only [callSpecialIfBoundUnlessNone?, bindSpecialIfBound?]
    refine wpAny_holding (wpAny_bind (wpAny_bind (sp.here (wpAny_bind (wpAny_askSetting (wpAny_ite ?_))))))
    split
    · exact wpAny_bind (bd.here (wpAny_pure (by exact last)))
    · exact wpAny_tryCatch (wpAny_bind (bd.here (wpAny_pure (by exact last))))
  · subst er
    have hT : Shared.TypeIs s' (.ref it) "tuple_iterator" := ⟨_, g, rfl⟩
    exact wpAny_bind (wpAny_specialOf hT F.slot_tuple_iterator_next.lookup (wpAny_pure q))
end
end DL
/-! DL26: a walk over an instance whose own __iter__ is `return iter(self.fld)`, fld a tuple. -/
namespace DL
open PySem L2
/-- what the body of such an __iter__ asks -/
def tItR (K : PySem.W.Frag) (n : Nat) (fld : Str) : TS := fun Dn σ H => ∃ (a C dx tp : Addr) (fv : List (Str × V)) (zs : List V), σ[0]? = some (some (.ref a)) ∧ H a = some (.ins C dx fv) ∧ Cls K C ∧ NoAttr K C fld ∧ fv.lookup fld = some (.ref tp) ∧ SqT K H tp zs ∧
  ∀ it, H it = none → n ≤ it → Dn.rt (.ref it) (upd H it (TitO tp it))
section
variable {X : Cx} {fld : Str} {p1 p2 p3 p4 p5 : Pos}
theorem s_itR (hm : X.mg "iter" = none) (hN : X.N[0]? = some (Str.ofString "self") := by rfl) (hg : Gl X "iter" := by rfl) (hv : Vis X.env.scope "self" := by first | exact Or.inl rfl | exact Or.inr (Or.inl rfl) | exact Or.inr (Or.inr rfl))
    (hb : attributeBase (.Name "self" p2) fld X.env (eval (.Name "self" p2) X.env) = eval (.Name "self" p2) X.env := by rfl)
    (he : starEach [.Attribute (.Name "self" p2) fld p3] X.env = (false, eval (.Attribute (.Name "self" p2) fld p3) X.env) :: starEach [] X.env := by rfl) (hpl : (backTo p4 (starEach [] X.env)).any (·.1) = false := by rfl) :
    PS X (.Return (some (.Call (.Name "iter" p1) [.Attribute (.Name "self" p2) fld p3] [] p4)) p5) (tItR X.K X.s_0.heap.objs.size fld) :=
  ps_imp (ps_ret (pe_callB call_iterT hg hm (by rfl) (pa_cons (pe_fld (pe_var hN hv) hb) pa_nil he) (by decide) (by decide) he hpl)) fun Dn σ H ⟨a, C, dx, tp, fv, zs, h1, h2, h3, h4, h5, h6, q⟩ =>
    ⟨_, h1, a, C, dx, fv, _, rfl, h2, h3, h4, h5, tp, zs, rfl, h6, q⟩
end
/-- a class whose __iter__ gives its tuple's iterator -/
structure DoesIt (P : Program) (w : World) (K : PySem.W.Frag) (mg : Str → Option Value) (base : Heap) (U : Uv) (c : Nat) (fld : Str) (f : Addr) : Prop where
  cl : Cls K (U.cl c)
  me : Meth K (U.cl c) "__iter__" f
  run : ∀ (A : Around) (outer : List PySem.Env) (s : Shared) (H : Hp) (a dx tp : Addr) (fv : List (Str × V)) (zs : List V), Room 1 A → Env0 P w K mg base A outer s H → H a = some (.ins (U.cl c) dx fv) → fv.lookup fld = some (.ref tp) → SqT K H tp zs →
    codeAny (model P w) A (.call (.ref f) ⟨[.ref a], []⟩) (CR (L2N.CX P w) outer P w H s (fun v H' => ∃ it, v = .ref it ∧ H it = none ∧ s.heap.objs.size ≤ it ∧ H' = upd H it (TitO tp it)) (fun _ _ _ => False)) s
theorem doesIt_of {P : Program} {w : World} {K : PySem.W.Frag} {mg : Str → Option Value} {base : Heap} {U : Uv} {c : Nat} {fld qual : Str} {st : Stmt} {f : Addr} {fd : FuncData} (F : L2.Fun K "__iter__" qual st f fd) (S : FnScope ["self"] ["self"] (defScope st)) (hb : Binds K fd ["self"] [])
    (cl : Cls K (U.cl c)) (me : Meth K (U.cl c) "__iter__" f) (na : NoAttr K (U.cl c) fld)
    (body : ∀ (cdv : Value) (A : Around) (outer : List PySem.Env) (s : Shared) (H : Hp) (E : XK), PSs (cxOf (L2N.CX P w) P w K mg base ["self"] qual (defScope st) f cdv A outer s H E) (defBody st) (tItR K s.heap.objs.size fld)) : DoesIt P w K mg base U c fld f := by
  refine ⟨cl, me, fun A outer s H a dx tp fv zs hr e0 ha hl hs => ?_⟩
  obtain ⟨oc, od, kV, doc, pm, an, cdv, ct, osl, rfl, lk, hcd⟩ := F.ex
  have bt := hb s [Value.ref a] (e0.mod.kin.keeps fun b o e => (e0.bs b o e).1) rfl
  rw [List.append_nil] at bt
  refine run_at (us := [.ref a]) (vs := [.ref a]) lk hcd S hr e0 bt (.cons rfl .nil) rfl (body cdv A outer s H _) ?_
  exact ⟨a, U.cl c, dx, tp, fv, zs, rfl, ha, cl, na, hl, hs, fun it h1 h2 => ⟨it, rfl, h1, h2, rfl⟩⟩
/-- the source -/
def iOwn (c : Nat) (fld : Str) (m : ME) : MI := fun ρ S => (m ρ S).bind fun d S1 => match insG [c] S1 d with
  | some z => match z.2.2.lookup fld with
    | some (.tup ds) => .ok ds S1
    | _ => .stuck
  | none => .stuck
section
variable {X : Cx} {U : Uv} {W : WX} {tg e : Expr} {m : ME} {c j : Nat} {fld : Str} {f : Addr}
theorem i_own (G : DoesIt X.prog X.w X.K X.mg X.base U c fld f) (hr : Room j X.A) (he : PE X e (tE U W m)) (hk : 1 ≤ j := by decide) (hK : X.K = U.K := by rfl) : PI X tg e (tI U W (iOwn c fld m)) := by
  refine ⟨fun pins s σ H R I ⟨M, S, ρ, A, p⟩ => ?_⟩
  have z : tE U W m σ H fun x H1 => ∃ a dx tp fv zs, x = .ref a ∧ H1 a = some (.ins (U.cl c) dx fv) ∧ fv.lookup fld = some (.ref tp) ∧ SqT X.K H1 tp zs ∧ R (Itt X.K tp) H1 := tX.bind A p fun d S1 M1 H1 v e1 A1 rv p1 => by
    cases g1 : insG [c] S1 d with
    | none => rw [g1] at p1; exact p1.elim
    | some z =>
      rw [g1] at p1
      obtain ⟨rfl, hS, hm⟩ := insG_some g1
      obtain ⟨dx, fv, rfl, hi, hH, fr⟩ := rv.objI A1.r hS
      have hc := List.mem_singleton.mp hm
      rw [hc] at hH
      simp only at p1
      cases g2 : z.2.2.lookup fld with
      | none => rw [g2] at p1; exact p1.elim
      | some x =>
        rw [g2] at p1
        obtain ⟨w, hl, rw'⟩ := fr.look g2
        cases x with
        | tup ds =>
          obtain ⟨tp, xs, rfl, ht, ra⟩ := rw'.tupV
          rw [hK]
          exact ⟨_, dx, tp, fv, xs, rfl, hH, hl, ht.sq, p1 M1 H1 _ A1.refl A1.r (yields_tup ht ra)⟩
        | _ => exact p1.elim
  refine thn (he.run pins s σ H _ I z) fun v s1 ⟨x, H1, I1, r1, a, dx, tp, fv, zs, ex, ea, el, hs, q⟩ => ?_
  subst ex
  have ev : v = Value.ref a := r1; subst ev
  obtain ⟨mA, J, _⟩ := ins_get I1.hok ea
  obtain ⟨od, J, _⟩ := J.look
  refine pyIter_inst I1.kIn J G.me.at_ G.me.fn ?_
  refine wpAny_call (codeAny_mono (G.run X.A X.stack s1 H1 a dx tp fv zs (hr.mono hk) I1.env0 ea el hs) fun r s' hq => ?_)
  cases r with
  | error e =>
    obtain ⟨_, _, _, _, _, _, _, _, _, _, _, _, z⟩ := hq
    exact z.elim
  | ok fl =>
    cases fl with
    | ret u =>
      obtain ⟨v', H', I', rv, it, ev, hn, hle, eH⟩ := I1.after hq
      subst ev
      have eu : u = Value.ref it := rv; subst eu
      have hi : H' it = some (TitO tp it) := by rw [eH, upd_same]
      have hg : s'.heap.get? it = some (titObj tp) := (show ObjOk X.prog X.w H' s'.heap it (TitO tp it) from I'.hok it _ hi).1
      refine ⟨it, tp, rfl, hg, it, [it], _, Itt X.K tp, ItX.dropH H' it, rfl, ItX.inv_drop I' hi, turn_tuple tp it, ⟨_, hg, rfl, rfl⟩, fun b hb => ?_, ?_⟩
      · have e : b = it := by simpa using hb
        subst e
        exact ItX.inv_fp I' hi (Nat.le_trans I1.sz hle)
      · rw [eH, ItX.dropH_upd hn]; exact q
    | next => exact hq.elim
    | brk => exact hq.elim
    | cont => exact hq.elim
end
end DL
/-! DL27: comprehensions and list(..) whose list the store holds; a list made and at once appended to. -/
namespace DL
open PySem L2
def mLcO (src : MI) (b : Bd) (t : MT) (m : ME) (vs : List Nat) : ME := fun ρ S => (mLcL src b t m vs ρ S).bind finO
section
variable {U : Uv} {M1 Mq : Mp} {S' : Sto} {H1 H3 : Hp} {σ : L2.St} {W : WX} {D : Addr} {acc : List V} {accD : List DL.D} {Q : VK}
/-- a private list becomes the store's -/
theorem pubPriv (f : Ext M1 H1 Mq H3) (R3 : R U (Mq.priv D) S' H3) (hHD : H3 D = some (.lst acc)) (ra : RepAll U (Mq.priv D) H3 acc accD) (hD : H1 D = none) (hnh : ¬ Mq.has D) (g : PostX U (Rep U) M1 H1 σ W (.ok (.obj S'.length) (S' ++ [.lst accD])) Q) : Q (.ref D) H3 := by
  have hn : Mq.n = S'.length := R3.n
  have at_n : (Mq.push D).at_ Mq.n = D := if_pos rfl
  have at_o : ∀ {i}, i < Mq.n → (Mq.push D).at_ i = Mq.at_ i := fun {i} hi => if_neg (Nat.ne_of_lt hi)
  have obs : ∀ {a}, (Mq.push D).ob a → Mq.ob a ∨ a = D := fun {a} ⟨i, hi, e⟩ => by
    by_cases z : i = Mq.n
    · subst z; rw [at_n] at e; exact .inr e.symm
    · have hi' : i < Mq.n := Nat.lt_of_le_of_ne (Nat.le_of_lt_succ hi) z
      rw [at_o hi'] at e; exact .inl ⟨i, hi', e⟩
  have mv : Mv (Mq.priv D) H3 (Mq.push D) H3 := ⟨Nat.le_succ _, fun i hi => at_o hi, fun a o h n => ⟨h, fun z => n (priv_has.mpr (z.elim (fun z => (obs z).elim .inl fun z => .inr (.inl z)) fun z => .inr (.inr z)))⟩⟩
  have nob : ∀ {i}, i < Mq.n → Mq.at_ i ≠ D := fun {i} hi z => hnh (.inl ⟨i, hi, z⟩)
  have ex : Ext M1 H1 (Mq.push D) H3 := ⟨Nat.le_succ_of_le f.le, fun i hi => (at_o (Nat.lt_of_lt_of_le hi f.le)).trans (f.same i hi), fun i h1 h2 => by
      by_cases z : i = Mq.n
      · subst z; rw [at_n]; exact hD
      · have hi' : i < Mq.n := Nat.lt_of_le_of_ne (Nat.le_of_lt_succ h2) z
        rw [at_o hi']; exact f.fresh i h1 hi', f.keep, fun i hi => by
      by_cases z : i = Mq.n
      · subst z; rw [at_n]; exact ⟨_, hHD⟩
      · have hi' : i < Mq.n := Nat.lt_of_le_of_ne (Nat.le_of_lt_succ hi) z
        rw [at_o hi']; exact f.live i hi', f.pr⟩
  have r : R U (Mq.push D) (S' ++ [.lst accD]) H3 := by
    refine ⟨by show Mq.n + 1 = _; rw [List.length_append, hn]; rfl, fun i j hi hj he => ?_, fun i o ho => ?_, fun a ha => R3.prl a (List.mem_cons_of_mem _ ha), fun a ha z => ?_⟩
    · by_cases zi : i = Mq.n <;> by_cases zj : j = Mq.n
      · rw [zi, zj]
      · have hj' : j < Mq.n := Nat.lt_of_le_of_ne (Nat.le_of_lt_succ hj) zj
        subst zi; rw [at_n, at_o hj'] at he; exact absurd he.symm (nob hj')
      · have hi' : i < Mq.n := Nat.lt_of_le_of_ne (Nat.le_of_lt_succ hi) zi
        subst zj; rw [at_n, at_o hi'] at he; exact absurd he (nob hi')
      · have hi' : i < Mq.n := Nat.lt_of_le_of_ne (Nat.le_of_lt_succ hi) zi
        have hj' : j < Mq.n := Nat.lt_of_le_of_ne (Nat.le_of_lt_succ hj) zj
        rw [at_o hi', at_o hj'] at he; exact R3.inj i j hi' hj' he
    · by_cases hi : i < S'.length
      · rw [List.getElem?_append_left hi] at ho
        rw [at_o (by rw [hn]; exact hi)]
        exact ObAt.mv mv (fun u hu => hu) (R3.at_ i o ho)
      · have hi' : S'.length ≤ i := Nat.le_of_not_lt hi
        rw [List.getElem?_append_right hi'] at ho
        have e0 : i - S'.length = 0 := by
          cases q : i - S'.length with
          | zero => rfl
          | succ k => rw [q] at ho; simp at ho
        rw [e0] at ho
        have eo : Ob.lst accD = o := Option.some.inj ho
        subst eo
        have ei : i = Mq.n := by omega
        subst ei
        rw [at_n]
        exact ⟨acc, hHD, ra.mv mv⟩
    · rcases obs z with z | z
      · exact R3.prn a (List.mem_cons_of_mem _ ha) z
      · subst z; exact hnh (.inr ha)
  refine g (Mq.push D) H3 _ ex r ?_
  have z : Rep U (Mq.push D) H3 (.ref ((Mq.push D).at_ S'.length)) (.obj S'.length) := .obj (by show _ < Mq.n + 1; rw [hn]; exact Nat.lt_succ_self _)
  rw [← hn, at_n] at z
  rw [hn] at z
  exact z
end
section
variable {X : Cx} {U : Uv} {W : WX} {src : MI} {bd : Bd} {mt : MT} {me : ME} {vs l : List Nat}
theorem lc_postO (hl : ∀ i ∈ l, i ∈ vs) (hn : ∀ i ∈ vs, Nf U i) {σ : L2.St} {H : Hp} {Q : VK} (h : tE U W (mLcO src bd mt me vs) σ H Q) : tLc (tI U W src) (tG U l bd) (tT U W0 mt) (tE U W0 me) vs σ H Q := by
  obtain ⟨M, S, ρ, A, p⟩ := h
  have p' : PostX U (Rep U) M H σ W ((src ρ S).bind fun ds S1 => (lcL bd mt me (wipeE ρ vs) ds [] S1).bind finO) Q := by
    unfold mLcO mLcL at p
    cases q : src ρ S with
    | ok a S1 => rw [q] at p; exact p
    | exc x S1 => rw [q] at p; exact p
    | stuck => rw [q] at p; exact p
  refine tX.bind A p' fun ds S1 M1 H1 J e1 A1 y p1 => fun D hD => ?_
  refine ⟨fun k m H => m = ds.length - k ∧ k ≤ ds.length ∧ ∃ Mq S' acc accD, Ext M1 H1 Mq H ∧ R U (Mq.priv D) S' H ∧ H D = some (.lst acc) ∧ RepAll U (Mq.priv D) H acc accD ∧ SlotRep U (Mq.priv D) H (wipe σ vs) (wipeE ρ vs) ∧
      PostX U (Rep U) M1 H1 σ W ((lcL bd mt me (wipeE ρ vs) (ds.drop k) accD S').bind finO) Q,
    ⟨_, rfl, Nat.zero_le _, M1, S1, [], [], A1.r.extNew hD, A1.r.priv hD, upd_same, .nil, fun i d h => ?_, p1⟩, fun k m H3 ⟨em, hk, Mq, S', acc, accD, f, R3, hHD, ra, sl, p3⟩ => ?_⟩
  · obtain ⟨v, h1, h2⟩ := (A1.wipe vs hn).sl i d h
    exact ⟨v, h1, h2.mv (Mv.priv hD)⟩
  have hnob : ∀ {M' : Mp} {S' : Sto} {H' : Hp}, R U (M'.priv D) S' H' → ¬ M'.ob D := fun r => r.prn D List.mem_cons_self
  by_cases hlt : k < ds.length
  · have hd : ds.drop k = ds[k] :: ds.drop (k + 1) := List.drop_eq_getElem_cons hlt
    rw [hd] at p3
    have mv3 : Mv M1 H1 (Mq.priv D) H3 := mvPriv f hD
    refine .inr ⟨y.go _ S' H3 k mv3 R3 hlt, fun H4 => ds.length - (k + 1) < m ∧ k + 1 ≤ ds.length ∧ ∃ Mq S' acc accD, Ext M1 H1 Mq H4 ∧ R U (Mq.priv D) S' H4 ∧ H4 D = some (.lst acc) ∧ RepAll U (Mq.priv D) H4 acc accD ∧ SlotRep U (Mq.priv D) H4 (wipe σ vs) (wipeE ρ vs) ∧
      PostX U (Rep U) M1 H1 σ W ((lcL bd mt me (wipeE ρ vs) (ds.drop (k + 1)) accD S').bind finO) Q,
      fun H4 ⟨h1, h2, h3⟩ => ⟨_, h1, rfl, h2, h3⟩, fun x H4 hy => ?_⟩
    have hm : ds.length - (k + 1) < m := by omega
    obtain ⟨d, hd2, g, R4, rd⟩ := y.yld _ S' H3 k x H4 mv3 R3 hlt hy
    have ed : ds[k] = d := by
      rw [List.getElem?_eq_getElem hlt] at hd2
      exact Option.some.inj hd2
    rw [ed] at p3
    obtain ⟨Mx, ex, g'⟩ := g.unpriv
    have eMx : Mx = Mq := by
      obtain ⟨a1, n1, q1⟩ := Mx
      obtain ⟨a2, n2, q2⟩ := Mq
      unfold Mp.priv at ex
      injection ex with e1 e2 e3
      injection e3 with _ e3
      subst e1 e2 e3; rfl
    subst eMx
    have A4 : At U (Mx.priv D) S' (wipeE ρ vs) (wipe σ vs) H4 := ⟨R4, sl.ext g, (A1.wipe vs hn).len, (A1.wipe vs hn).fx⟩
    cases q : bd d (wipeE ρ vs) with
    | none =>
      simp only [lcL, q] at p3
      exact p3.elim
    | some ρ1 =>
      simp only [lcL, q] at p3
      refine ⟨Mx.priv D, S', wipeE ρ vs, d, ρ1, A4, rd, q, fun σ5 A5 b5 => ⟨wipe_but b5 hl, ?_⟩⟩
      refine ⟨Mx.priv D, S', ρ1, A5, ?_⟩
      cases q2 : mt ρ1 S' with
      | exc e S6 => rw [q2] at p3; exact p3.elim
      | stuck => rw [q2] at p3; exact p3.elim
      | ok kk S6 =>
        rw [q2] at p3
        intro M6 H6 b e6 R6 eb
        have eb' : b = kk := eb
        subst eb'
        obtain ⟨Mq6, em6, f6⟩ := e6.unpriv
        subst em6
        have f16 := (f.trans g').trans f6
        have e36 := g.trans e6
        have hD6 : H6 D = some (.lst acc) := e36.keep _ _ hHD (R3.prn D List.mem_cons_self)
        have p6 := p3
        cases b with
        | false =>
          rw [if_neg (by decide)]
          exact ⟨hm, hlt, Mq6, S6, acc, accD, f16, R6, hD6, ra.ext e36, sl.ext e36, p6⟩
        | true =>
          rw [if_pos rfl]
          refine ⟨Mq6.priv D, S6, ρ1, A5.ext e6 R6, ?_⟩
          change PostX U (Rep U) M1 H1 σ W (((me ρ1 S6).bindN fun x S2 => if accD.length < lim then lcL bd mt me (wipeE ρ vs) (ds.drop (k + 1)) (accD ++ [x]) S2 else .stuck).bind finO) Q at p6
          cases q7 : me ρ1 S6 with
          | exc e S7 => rw [q7] at p6; exact p6.elim
          | stuck => rw [q7] at p6; exact p6.elim
          | ok z S7 =>
            rw [q7] at p6
            intro M7 H7 v7 e7 R7 r7
            obtain ⟨Mq7, em7, f7⟩ := e7.unpriv
            subst em7
            have hD7 : H7 D = some (.lst acc) := e7.keep _ _ hD6 (R6.prn D List.mem_cons_self)
            have e37 := e36.trans e7
            by_cases hlim : accD.length < lim
            · have p7 : PostX U (Rep U) M1 H1 σ W ((lcL bd mt me (wipeE ρ vs) (ds.drop (k + 1)) (accD ++ [z]) S7).bind finO) Q := by
                change PostX U (Rep U) M1 H1 σ W ((if accD.length < lim then lcL bd mt me (wipeE ρ vs) (ds.drop (k + 1)) (accD ++ [z]) S7 else .stuck).bind _) Q at p6
                rw [if_pos hlim] at p6; exact p6
              have hpr : D ∈ (Mq7.priv D).pr := List.mem_cons_self
              have f17 := f16.trans f7
              refine ⟨acc, hD7, ?_, hm, hlt, Mq7, S7, acc ++ [v7], accD ++ [z], extWrite f17 hD (hnob R7), R7.write hpr, upd_same, ((ra.ext e37).append (.cons r7 .nil)).mv (Mv.write hpr), fun i d h => ?_, p7⟩
              · rw [(ra.ext e37).length]
                exact Nat.lt_of_lt_of_le hlim (lim_line (Nat.le_refl _))
              · obtain ⟨v, h1, h2⟩ := sl i d h
                exact ⟨v, h1, (h2.ext e37).mv (Mv.write hpr)⟩
            · change PostX U (Rep U) M1 H1 σ W ((if accD.length < lim then lcL bd mt me (wipeE ρ vs) (ds.drop (k + 1)) (accD ++ [z]) S7 else .stuck).bind _) Q at p6
              rw [if_neg hlim] at p6; exact p6.elim
  · have ek : k = ds.length := Nat.le_antisymm hk (Nat.le_of_not_lt hlt)
    subst ek
    rw [List.drop_length] at p3
    refine .inl ⟨y.stop _ S' H3 (mvPriv f hD) R3, ?_⟩
    have hnh : ¬ Mq.has D := fun z => z.elim (hnob R3) fun z => by
      rw [f.pr] at z
      obtain ⟨u, hu⟩ := A1.r.prl D z
      rw [hD] at hu; cases hu
    exact pubPriv f R3 hHD ra hD hnh p3

theorem e_lcO {elt tg iter : Expr} {ifs : List Expr} {scope : Scope} (own : List (Str × Nat)) {pos : Pos} (hN : X.N.Nodup) (hi : PI X tg iter (tI U W src)) (ok : BlkOk X.N X.env.scope scope own)
    (hg : ∀ (s : Shared) (H : Hp) (C : Addr) (cl : List (Str × Addr)) (fp : List Addr), PG (X.blk s H scope (compEnvC scope cl C X.env) fp) tg (tG U l bd)) (ht : ∀ (s : Shared) (H : Hp) (C : Addr) (cl : List (Str × Addr)) (fp : List Addr), PTs (X.blk s H scope (compEnvC scope cl C X.env) fp) ifs (tT U W0 mt))
    (he : ∀ (s : Shared) (H : Hp) (C : Addr) (cl : List (Str × Addr)) (fp : List Addr), PE (X.blk s H scope (compEnvC scope cl C X.env) fp) elt (tE U W0 me)) (hc : X.calm = true := by rfl) (hl : ∀ i ∈ l, i ∈ own.map (·.2) := by decide) (hn : ∀ i ∈ own.map (·.2), Nf U i := by exact fun _ _ _ h => absurd h List.not_mem_nil)
    (hs : ∀ x, foldedSetIterable iter X.env x = pure x := by intro _; rfl) : PE X (.ListComp elt [⟨tg, iter, ifs, 0⟩] scope pos) (tE U W (mLcO src bd mt me (own.map (·.2)))) :=
  pe_imp (pe_lc hc hN hi ok hg ht he hs) fun σ H Q h => lc_postO hl hn h
/-- y = [..], on one line -/
theorem s_setLcO (i : Nat) {y : Str} {py : Pos} {elt tg iter : Expr} {ifs : List Expr} {scope : Scope} (own : List (Str × Nat)) {pos spos : Pos} (hN : X.N.Nodup) (hi : PI X tg iter (tI U W src)) (ok : BlkOk X.N X.env.scope scope own)
    (hg : ∀ (s : Shared) (H : Hp) (C : Addr) (cl : List (Str × Addr)) (fp : List Addr), PG (X.blk s H scope (compEnvC scope cl C X.env) fp) tg (tG U l bd)) (ht : ∀ (s : Shared) (H : Hp) (C : Addr) (cl : List (Str × Addr)) (fp : List Addr), PTs (X.blk s H scope (compEnvC scope cl C X.env) fp) ifs (tT U W0 mt))
    (he : ∀ (s : Shared) (H : Hp) (C : Addr) (cl : List (Str × Addr)) (fp : List Addr), PE (X.blk s H scope (compEnvC scope cl C X.env) fp) elt (tE U W0 me)) (hc : X.calm = true := by rfl) (hy : X.N[i]? = some y := by rfl) (hyl : X.env.scope.names.lookup y = some .local := by rfl)
    (hk : X.env.scope.kind = .function := by rfl) (hln : (py.line == pos.line) = true := by rfl) (ha : (scope.names.any fun (n, k) => n == y && (k == .local || k == .cell)) = false := by rfl)
    (hl : ∀ i ∈ l, i ∈ own.map (·.2) := by decide) (hn : ∀ i ∈ own.map (·.2), Nf U i := by exact fun _ _ _ h => absurd h List.not_mem_nil) (hn2 : Nf U i := by exact fun _ h => absurd h List.not_mem_nil)
    (hs : ∀ x, foldedSetIterable iter X.env x = pure x := by intro _; rfl) : PS X (.Assign [.Name y py] (.ListComp elt [⟨tg, iter, ifs, 0⟩] scope pos) spos) (tS U W (sSet i (mLcO src bd mt me (own.map (·.2))))) :=
  ps_imp (ps_setLc hc hN hy hyl (sw_true hk hyl hln ha) hi ok hg ht he hs) fun Dn σ H ⟨M, S, ρ, A, p⟩ => by
    refine lc_postO (U := U) (W := W) hl hn (tX.ofS A p fun x S1 M1 H1 v e1 A1 r1 p1 => ?_)
    exact p1 M1 H1 _ A1.refl (A1.set r1 hn2)
/-- list(x), the store's -/
def mListO (ms : MA) : ME := fun ρ S => (ms ρ S).bind fun ds S1 => match ds with
  | [d] => match seqD S1 d with
    | some xs => .ok (.obj S1.length) (S1 ++ [.lst xs])
    | none => .stuck
  | _ => .stuck
theorem e_listO {e : Expr} {es : List Expr} {ms : MA} {q pos : Pos} (hm : X.mg "list" = none) (ha : PA X (e :: es) (tA U W ms)) (hg : Gl X "list" := by rfl) (he : starEach (e :: es) X.env = (false, eval e X.env) :: starEach es X.env := by rfl) (hpl : (backTo pos (starEach es X.env)).any (·.1) = false := by rfl) (hK : X.K = U.K := by rfl) :
    PE X (.Call (.Name "list" q) (e :: es) [] pos) (tE U W (mListO ms)) :=
  pe_imp (pe_callTy call_list_of hg hm (by rfl) ha (by decide) (by decide) he hpl) fun σ H Q ⟨M, S, ρ, A, p⟩ => tX.bind A p fun ds S1 M1 H1 vs e1 A1 ra p1 => by
    cases ds with
    | nil => exact p1.elim
    | cons d ds => cases ds with
      | cons _ _ => exact p1.elim
      | nil =>
        simp only at p1
        cases q : seqD S1 d with
        | none => rw [q] at p1; exact p1.elim
        | some xs =>
          rw [q] at p1
          obtain ⟨v, rfl, hv⟩ := ra.one
          obtain ⟨a, us, rfl, hs, rr⟩ := hv.seq A1.r q
          rw [hK]
          exact ⟨a, us, rfl, hs.symm, fun l hl => Gives.pushL p1 A1.r rr hl⟩
end
end DL
/-! DL28: x = [..]; x.append(e): a list of no store; classes as constants. -/
namespace DL
open PySem L2
def sBuild (i : Nat) (ma : MA) (mb : ME) : MS := fun ρ S => .of (ma ρ S) ρ fun xs S1 => if i < ρ.length ∧ xs.length < lim then .of (mb (ρ.set i none) S1) (ρ.set i none) fun d S2 => .nx (ρ.set i (some (.lst (xs ++ [d])))) S2 else .stuck
section
variable {U : Uv} {M M2 : Mp} {S : Sto} {H H' : Hp} {σ : L2.St} {ρ : Env} {p : Addr} {i : Nat} {o : Option V}
theorem At.unpriv (a : At U (M.priv p) S ρ σ H) : At U M S ρ σ H := ⟨a.r.unpriv, fun i d h => let ⟨v, h1, h2⟩ := a.sl i d h; ⟨v, h1, h2.mv Mv.unpriv⟩, a.len, a.fx⟩
theorem At.priv {u : HO} (a : At U M S ρ σ H) (hp : H p = none) : At U (M.priv p) S ρ σ (upd H p u) := ⟨a.r.priv hp, fun i d h => let ⟨v, h1, h2⟩ := a.sl i d h; ⟨v, h1, h2.mv (Mv.priv hp)⟩, a.len, a.fx⟩
theorem ExAt.unpriv {e : Ex} {cv : Value} {dd : Option Addr} (x : ExAt U (M.priv p) H e cv dd) : ExAt U M H e cv dd := ⟨x.1, x.2.elim .inl fun ⟨d, fv, h0, h1, h2, h3⟩ => .inr ⟨d, fv, h0, h1, h2, h3.mv Mv.unpriv⟩⟩
end
section
variable {X : Cx} {U : Uv} {W : WX} {e : Expr} {es : List Expr} {ma : MA} {mb : ME} {mu : MS} {rest : List Stmt} {x : Str} {p1 p2 p3 p4 p5 apos cpos : Pos}
theorem ss_build (i : Nat) (hN : X.N.Nodup) (ha : PA X es (tA U W ma)) (he : PE X e (tE U W mb)) (hr : PSs X rest (tS U W mu)) (hi : X.N[i]? = some x := by rfl) (hx : Loc X.env.scope x := by first | exact Or.inl rfl | exact Or.inr rfl) (hv : Vis X.env.scope x := by first | exact Or.inl rfl | exact Or.inr (Or.inl rfl) | exact Or.inr (Or.inr rfl))
    (hs : swapsWith (.List es p2) (some (.Name x p1)) p3.line X.env = pure false := by rfl) (hf : X.fn x = true ∨ X.env.scope.names.lookup x = some .local := by first | exact .inl rfl | exact .inr rfl | assumption)
    (hd : (x == ("__debug__" : Str)) = false := by decide) (hcd : (x == ("__classdict__" : Str)) = false := by decide)
    (hbase : attributeBase (.Name x p4) "append" X.env (eval (.Name x p4) X.env) = eval (.Name x p4) X.env := by rfl) (hfew : ((backTo cpos (starEach [e] X.env)).all (fun x => !x.1) && (backToKw cpos (keywordEach [] X.env)).all (fun x => x.1.isSome)
      && decide ([e].length + ([] : List Keyword).length + (if ([] : List Keyword).isEmpty then 0 else 1) < 30)) = true := by rfl)
    (hline : (apos.endLine == cpos.line) = true := by rfl) (hst : starEach [e] X.env = (false, eval e X.env) :: starEach [] X.env := by rfl) (hpl : (backTo cpos (starEach [] X.env)).any (·.1) = false := by rfl)
    (hs2 : swapsWith (.Call (.Attribute (.Name x p4) "append" apos) [e] [] cpos) none p5.line X.env = pure false := by rfl) (hn : Nf U i := by exact fun _ h => absurd h List.not_mem_nil) :
    PSs X (.Assign [.Name x p1] (.List es p2) p3 :: .Expr (.Call (.Attribute (.Name x p4) "append" apos) [e] [] cpos) p5 :: rest) (tS U W (sSeq (sBuild i ma mb) mu)) :=
  pss_imp (pss_cons (ps_set hN hi hx (pe_lst ha) hs hf) (pss_cons (ps_expr (pe_bm PySem.F.plainAttrs_list PySem.F.slot_list_append PySem.F.type_list_append mt_append (pe_var (i := i) hi hv hd hcd) (pa_cons he pa_nil hst) hbase hfew hline hst hpl) hs2) hr)) fun Dn σ H ⟨M, S, ρ, A, p⟩ => by
    have p' := PostS.seq (k := mu) p
    refine tX.ofS A p' fun xs S1 M1 H1 vs e1 A1 r1 q1 => ?_
    by_cases hc : i < ρ.length ∧ xs.length < lim
    · rw [if_pos hc] at q1
      obtain ⟨hi', hlen⟩ := hc
      have hl : vs.length < sizeLine := by
        rw [r1.length]
        exact Nat.lt_of_lt_of_le hlen (lim_line (Nat.le_refl _))
      refine ⟨Nat.le_of_lt hl, fun l hl0 => ?_⟩
      have A2 : At U (M1.priv l) S1 (ρ.set i none) (σ.set i (some (.ref l))) (upd H1 l (.lst vs)) := (A1.priv hl0).unset hn
      have hex : Ext M1 H1 M1 (upd H1 l (.lst vs)) := A1.r.extNew hl0
      refine ⟨.ref l, List.getElem?_set_self (by rw [← A1.len]; exact hi'), .inl ⟨rfl, vs, .inl (.inl upd_same)⟩, ?_⟩
      refine ⟨M1.priv l, S1, ρ.set i none, A2, ?_⟩
      show PostX U (Rep U) _ _ _ W (mb (ρ.set i none) S1) _
      cases q2 : mb (ρ.set i none) S1 with
      | stuck => rw [q2] at q1; exact q1
      | exc ex S2 =>
        rw [q2] at q1
        intro M' H' cv dd g R' xa
        obtain ⟨M2, eM, g2⟩ := g.unpriv
        subst eM
        exact q1 M2 H' _ cv dd (hex.trans g2) (A2.ext g R').unpriv xa.unpriv
      | ok d S2 =>
        rw [q2] at q1
        intro M' H' v g R' rv
        obtain ⟨M2, eM, g2⟩ := g.unpriv
        subst eM
        have hK : H' l = some (.lst vs) := g.keep _ _ upd_same (fun z => A2.r.prn l List.mem_cons_self z)
        refine ⟨l, vs, v, rfl, rfl, hK, hl, ?_⟩
        have hpr : l ∈ (M2.priv l).pr := List.mem_cons_self
        have nob2 : ¬ M2.ob l := R'.prn l List.mem_cons_self
        have hnh : ¬ M2.has l := fun z => z.elim nob2 fun z => by
          rw [g2.pr] at z
          obtain ⟨u, hu⟩ := A1.r.prl l z
          rw [hl0] at hu; cases hu
        have A3 := A2.ext g R'
        have R4 : R U (M2.priv l) S2 (upd H' l (.lst (vs ++ [v]))) := R'.write hpr
        have mvw : Mv (M2.priv l) H' (M2.priv l) (upd H' l (.lst (vs ++ [v]))) := Mv.write hpr
        have A4 : At U M2 S2 (ρ.set i none) (σ.set i (some (.ref l))) (upd H' l (.lst (vs ++ [v]))) := At.unpriv ⟨R4, fun j dj hj => let ⟨w, h1, h2⟩ := A3.sl j dj hj; ⟨w, h1, h2.mv mvw⟩, A3.len, A3.fx⟩
        have rnew : Rep U M2 (upd H' l (.lst (vs ++ [v]))) (.ref l) (.lst (xs ++ [d])) := .lst ⟨upd_same, hnh⟩ (((((r1.mv (Mv.priv hl0)).mv g.mv).append (.cons rv .nil)).mv mvw).mv Mv.unpriv)
        have A5 := A4.set (i := i) rnew hn
        rw [List.set_set, List.set_set] at A5
        exact q1 M2 _ _ (extWrite (hex.trans g2) hl0 nob2) A5
    · rw [if_neg hc] at q1; exact q1.elim
end
end DL
/-! DL29: what the head shows of own classes. -/
namespace DL
open PySem L2
/-- the j-th statement of the class that stands i-th at the top -/
def methOf : Stmt → Nat → Stmt
  | .ClassDef (body := b) .., j => b.getD j (.Pass ⟨0, 0, 0, 0⟩)
  | s, _ => s
theorem one_c {P : Nat → Prop} {k : Nat} (h : P k) : ∀ c ∈ [k], P c := fun c hc => by
  rcases List.mem_singleton.mp hc with rfl
  exact h
section
variable {K : PySem.W.Frag} {U : Uv} {C : Addr} {c : Nat} {h : Heap} {mg : Str → Option Value} {x : Str}
theorem gc_cls (X : K.In h) (G : h.Ns mainGlobals mg) (hc : U.cl c = C) (a : PySem.W.nsIn K mainGlobals x = some (some (.ref C))) : GC K mg U x (.cls c) := ⟨_, .ref C, PySem.W.mg_of X G a, rfl, fun _ _ => by rw [← hc]; exact .cls c⟩
theorem kit_tc (t : Tc) (hcl : PySem.W.isClsIn K C = true) (ht : PySem.W.typeIn K (.ref C) = some (.type "type")) : PySem.W.kitOne K (.type t.nm) (.ref C) = some false := by
  unfold PySem.W.kitOne PySem.W.kitCls
  have e2 : ((PySem.W.clsIn K C).isSome && PySem.W.typeIn K (.ref C) == some (.type "type")) = true := by
    have h1 : (PySem.W.clsIn K C).isSome = true := hcl
    rw [h1, ht]; rfl
  rw [if_neg (by simp)]
  show (if ((PySem.W.clsIn K C).isSome && PySem.W.typeIn K (.ref C) == some (.type "type")) = true then PySem.W.subIn K (.type t.nm) (.ref C) else none) = some false
  rw [if_pos e2]
  cases t <;> rfl
theorem kit_ct (t : Tc) (hn : t.nm ≠ "NoneType") (hs : ∀ t : Tc, t.nm ≠ "NoneType" → PySem.W.subIn K (.ref C) (.type t.nm) = some false) : PySem.W.kitOne K (.ref C) (.type t.nm) = some false := by
  have := hs t hn
  cases t with
  | non => exact absurd rfl hn
  | _ => exact this
theorem nf_lst : PySem.W.notFirst K C (.type "list") = true := by
  unfold PySem.W.notFirst
  have : PySem.W.subIn K (.type "list") (.ref C) = some false := rfl
  rw [this]; simp
end
end DL
/-! DL30: comprehensions over a list that the store may hold. -/
namespace DL
open PySem L2
/-- the list at i is read at each turn -/
def lcLS (i : Nat) (b : Bd) (t : MT) (m : ME) (ρ : Env) : Nat → Nat → List D → Sto → Out (List D)
  | 0, _, _, _ => .stuck
  | n + 1, k, acc, S => match S[i]? with
    | some (.lst ys) => match ys[k]? with
      | none => .ok acc S
      | some d => match b d ρ with
        | none => .stuck
        | some ρ1 => (t ρ1 S).bindN fun kk S1 => if kk = true then (m ρ1 S1).bindN fun x S2 => if acc.length < lim then lcLS i b t m ρ n (k + 1) (acc ++ [x]) S2 else .stuck else lcLS i b t m ρ n (k + 1) acc S1
    | _ => .stuck
def mLcU (mi : ME) (b : Bd) (t : MT) (m : ME) (vs : List Nat) : ME := fun ρ S => (mi ρ S).bind fun x S1 => match x with
  | .obj i => (lcLS i b t m (wipeE ρ vs) (lim + 2) 0 [] S1).bind finL
  | x => (ofO (seqI x) S1).bind fun ds S2 => (lcL b t m (wipeE ρ vs) ds [] S2).bind fun xs S3 => .ok (.lst xs) S3
section
variable {X : Cx} {U : Uv} {W : WX} {bd : Bd} {mt : MT} {me mi : ME} {vs l : List Nat}
theorem lcS_core (hl : ∀ i ∈ l, i ∈ vs) (hn : ∀ i ∈ vs, Nf U i) {σ : L2.St} {ρ : Env} {M1 : Mp} {S1 : Sto} {H1 : Hp} {Q : VK} {i n0 : Nat} {D : Addr} (A1 : At U M1 S1 ρ σ H1) (hi : i < M1.n) (p1 : PostX U (Rep U) M1 H1 σ W ((lcLS i bd mt me (wipeE ρ vs) n0 0 [] S1).bind finL) Q) (hD : H1 D = none) :
    ∃ Wf : Nat → Nat → Hp → Prop, (∃ m, Wf 0 m (upd H1 D (.lst []))) ∧ ∀ i' m H, Wf i' m H → ((Itl U.K (M1.at_ i)).stop i' H ∧ Q (.ref D) H) ∨ ((Itl U.K (M1.at_ i)).go i' H ∧ ∃ Nx : Hp → Prop, (∀ H', Nx H' → ∃ m', m' < m ∧ Wf (i' + 1) m' H') ∧ ∀ x H', (Itl U.K (M1.at_ i)).yld i' H x H' → (tG U l bd) x (wipe σ vs) H' fun σ2 H2 => wipe σ2 vs = wipe σ vs ∧ (tT U W0 mt) σ2 H2 fun b H3 =>
      if b = true then (tE U W0 me) σ2 H3 fun y H4 => ∃ acc, H4 D = some (.lst acc) ∧ acc.length < sizeLine ∧ Nx (upd H4 D (.lst (acc ++ [y]))) else Nx H3) := by
  refine ⟨fun k m H => ∃ Mq S' acc accD, Ext M1 H1 Mq H ∧ R U (Mq.priv D) S' H ∧ H D = some (.lst acc) ∧ RepAll U (Mq.priv D) H acc accD ∧ SlotRep U (Mq.priv D) H (wipe σ vs) (wipeE ρ vs) ∧
      PostX U (Rep U) M1 H1 σ W ((lcLS i bd mt me (wipeE ρ vs) m k accD S').bind finL) Q,
    ⟨n0, M1, S1, [], [], A1.r.extNew hD, A1.r.priv hD, upd_same, .nil, fun i d h => ?_, p1⟩, fun k m H3 ⟨Mq, S', acc, accD, f, R3, hHD, ra, sl, p3⟩ => ?_⟩
  · obtain ⟨v, h1, h2⟩ := (A1.wipe vs hn).sl i d h
    exact ⟨v, h1, h2.mv (Mv.priv hD)⟩
  have hnob : ∀ {M' : Mp} {S' : Sto} {H' : Hp}, R U (M'.priv D) S' H' → ¬ M'.ob D := fun r => r.prn D List.mem_cons_self
  cases m with
  | zero => exact p3.elim
  | succ n =>
    unfold lcLS at p3
    cases qi : S'[i]? with
    | none => rw [qi] at p3; exact p3.elim
    | some ob =>
      rw [qi] at p3
      cases ob with
      | ins c fs => exact p3.elim
      | lst ys =>
        obtain ⟨ws, hH, rw'⟩ := R3.at_ i _ qi
        have eat : (Mq.priv D).at_ i = M1.at_ i := f.same i hi
        rw [eat] at hH
        have sq : SqL U.K H3 (M1.at_ i) ws := .inl (.inl hH)
        simp only at p3
        cases qk : ys[k]? with
        | none =>
          rw [qk] at p3
          have hlen : ws.length ≤ k := by rw [rw'.length]; exact List.getElem?_eq_none_iff.mp qk
          refine .inl ⟨⟨ws, sq, hlen⟩, ?_⟩
          have hnh : ¬ Mq.has D := fun z => z.elim (hnob R3) fun z => by
            rw [f.pr] at z
            obtain ⟨u, hu⟩ := A1.r.prl D z
            rw [hD] at hu; cases hu
          exact p3 Mq H3 _ f R3.unpriv (.lst ⟨hHD, hnh⟩ (ra.mv Mv.unpriv))
        | some d =>
          rw [qk] at p3
          obtain ⟨x0, hx0, rx0⟩ := rw'.get qk
          refine .inr ⟨⟨ws, x0, sq, hx0⟩, fun H4 => ∃ Mq S' acc accD, Ext M1 H1 Mq H4 ∧ R U (Mq.priv D) S' H4 ∧ H4 D = some (.lst acc) ∧ RepAll U (Mq.priv D) H4 acc accD ∧ SlotRep U (Mq.priv D) H4 (wipe σ vs) (wipeE ρ vs) ∧
            PostX U (Rep U) M1 H1 σ W ((lcLS i bd mt me (wipeE ρ vs) n (k + 1) accD S').bind finL) Q, fun H4 h => ⟨n, Nat.lt_succ_self _, h⟩, fun x H4 hy => ?_⟩
          obtain ⟨rfl, hy⟩ := hy
          have ex : x0 = x := by
            have := hy ws sq
            rw [hx0] at this
            exact Option.some.inj this
          subst ex
          have A4 : At U (Mq.priv D) S' (wipeE ρ vs) (wipe σ vs) H4 := ⟨R3, sl, (A1.wipe vs hn).len, (A1.wipe vs hn).fx⟩
          cases q : bd d (wipeE ρ vs) with
          | none =>
            simp only [q] at p3
            exact p3.elim
          | some ρ1 =>
            simp only [q] at p3
            refine ⟨Mq.priv D, S', wipeE ρ vs, d, ρ1, A4, rx0, q, fun σ5 A5 b5 => ⟨wipe_but b5 hl, ?_⟩⟩
            refine ⟨Mq.priv D, S', ρ1, A5, ?_⟩
            cases q2 : mt ρ1 S' with
            | exc e S6 => rw [q2] at p3; exact p3.elim
            | stuck => rw [q2] at p3; exact p3.elim
            | ok kk S6 =>
              rw [q2] at p3
              intro M6 H6 b e6 R6 eb
              have eb' : b = kk := eb
              subst eb'
              obtain ⟨Mq6, em6, f6⟩ := e6.unpriv
              subst em6
              have f16 := f.trans f6
              have hD6 : H6 D = some (.lst acc) := e6.keep _ _ hHD (R3.prn D List.mem_cons_self)
              have p6 := p3
              cases b with
              | false =>
                rw [if_neg (by decide)]
                exact ⟨Mq6, S6, acc, accD, f16, R6, hD6, ra.ext e6, sl.ext e6, p6⟩
              | true =>
                rw [if_pos rfl]
                refine ⟨Mq6.priv D, S6, ρ1, A5.ext e6 R6, ?_⟩
                change PostX U (Rep U) M1 H1 σ W (((me ρ1 S6).bindN fun x S2 => if accD.length < lim then lcLS i bd mt me (wipeE ρ vs) n (k + 1) (accD ++ [x]) S2 else .stuck).bind finL) Q at p6
                cases q7 : me ρ1 S6 with
                | exc e S7 => rw [q7] at p6; exact p6.elim
                | stuck => rw [q7] at p6; exact p6.elim
                | ok z S7 =>
                  rw [q7] at p6
                  intro M7 H7 v7 e7 R7 r7
                  obtain ⟨Mq7, em7, f7⟩ := e7.unpriv
                  subst em7
                  have hD7 : H7 D = some (.lst acc) := e7.keep _ _ hD6 (R6.prn D List.mem_cons_self)
                  have e37 := e6.trans e7
                  by_cases hlim : accD.length < lim
                  · have p7 : PostX U (Rep U) M1 H1 σ W ((lcLS i bd mt me (wipeE ρ vs) n (k + 1) (accD ++ [z]) S7).bind finL) Q := by
                      change PostX U (Rep U) M1 H1 σ W ((if accD.length < lim then lcLS i bd mt me (wipeE ρ vs) n (k + 1) (accD ++ [z]) S7 else .stuck).bind _) Q at p6
                      rw [if_pos hlim] at p6; exact p6
                    have hpr : D ∈ (Mq7.priv D).pr := List.mem_cons_self
                    have f17 := f16.trans f7
                    refine ⟨acc, hD7, ?_, Mq7, S7, acc ++ [v7], accD ++ [z], extWrite f17 hD (hnob R7), R7.write hpr, upd_same, ((ra.ext e37).append (.cons r7 .nil)).mv (Mv.write hpr), fun i d h => ?_, p7⟩
                    · rw [(ra.ext e37).length]
                      exact Nat.lt_of_lt_of_le hlim (lim_line (Nat.le_refl _))
                    · obtain ⟨v, h1, h2⟩ := sl i d h
                      exact ⟨v, h1, (h2.ext e37).mv (Mv.write hpr)⟩
                  · change PostX U (Rep U) M1 H1 σ W ((if accD.length < lim then lcLS i bd mt me (wipeE ρ vs) n (k + 1) (accD ++ [z]) S7 else .stuck).bind _) Q at p6
                    rw [if_neg hlim] at p6; exact p6.elim
/-- what the reading wants: by what is walked -/
theorem lcU_post (hl : ∀ i ∈ l, i ∈ vs) (hn : ∀ i ∈ vs, Nf U i) {σ : L2.St} {H : Hp} {Q : VK} (h : tE U W (mLcU mi bd mt me vs) σ H Q) :
    tE U W (mLc (iSeq mi) bd mt me vs) σ H Q ∨ tLc (iList U.K (tE U W mi)) (tG U l bd) (tT U W0 mt) (tE U W0 me) vs σ H Q := by
  obtain ⟨M, S, ρ, A, p⟩ := h
  unfold mLcU at p
  cases q : mi ρ S with
  | stuck => rw [q] at p; exact p.elim
  | exc x S1 =>
    refine .inl ⟨M, S, ρ, A, ?_⟩
    show PostX U (Rep U) M H σ W ((mLcL (iSeq mi) bd mt me vs ρ S).bind _) Q
    unfold mLcL iSeq
    rw [q] at p ⊢
    exact p
  | ok x S1 =>
    rw [q] at p
    have other : PostX U (Rep U) M H σ W ((ofO (seqI x) S1).bind fun ds S2 => (lcL bd mt me (wipeE ρ vs) ds [] S2).bind fun xs S3 => .ok (.lst xs) S3) Q → tE U W (mLc (iSeq mi) bd mt me vs) σ H Q := fun p => ⟨M, S, ρ, A, by
      show PostX U (Rep U) M H σ W ((mLcL (iSeq mi) bd mt me vs ρ S).bind _) Q
      unfold mLcL iSeq
      rw [q]
      change PostX U (Rep U) M H σ W (((ofO (seqI x) S1).bind fun ds S1 => lcL bd mt me (wipeE ρ vs) ds [] S1).bind _) Q
      cases q2 : seqI x with
      | none => rw [q2] at p; exact p.elim
      | some ds => rw [q2] at p; exact p⟩
    cases x with
    | obj i =>
      refine .inr ⟨M, S, ρ, A, ?_⟩
      rw [q]
      intro M1 H1 v e1 r1 rv
      cases rv with
      | obj hi =>
        have p1 : PostX U (Rep U) M1 H1 σ W ((lcLS i bd mt me (wipeE ρ vs) (lim + 2) 0 [] S1).bind finL) Q := PostX.ext e1 p
        have hsq : ∃ xs, SqL U.K H1 (M1.at_ i) xs := by
          unfold lcLS at p1
          cases qi : S1[i]? with
          | none => rw [qi] at p1; exact p1.elim
          | some ob =>
            rw [qi] at p1
            cases ob with
            | ins c fs => exact p1.elim
            | lst ys =>
              obtain ⟨ws, hH, _⟩ := r1.at_ i _ qi
              exact ⟨ws, .inl (.inl hH)⟩
        exact ⟨_, rfl, hsq, fun D hD => lcS_core hl hn (A.ext e1 r1) hi p1 hD⟩
    | _ => exact .inl (other p)
theorem e_lcU {elt tg iter : Expr} {ifs : List Expr} {scope : Scope} (own : List (Str × Nat)) {pos : Pos} (hN : X.N.Nodup) (hi : PE X iter (tE U W mi)) (ok : BlkOk X.N X.env.scope scope own)
    (hg : ∀ (s : Shared) (H : Hp) (C : Addr) (cl : List (Str × Addr)) (fp : List Addr), PG (X.blk s H scope (compEnvC scope cl C X.env) fp) tg (tG U l bd)) (ht : ∀ (s : Shared) (H : Hp) (C : Addr) (cl : List (Str × Addr)) (fp : List Addr), PTs (X.blk s H scope (compEnvC scope cl C X.env) fp) ifs (tT U W0 mt))
    (he : ∀ (s : Shared) (H : Hp) (C : Addr) (cl : List (Str × Addr)) (fp : List Addr), PE (X.blk s H scope (compEnvC scope cl C X.env) fp) elt (tE U W0 me)) (hc : X.calm = true := by rfl) (hl : ∀ i ∈ l, i ∈ own.map (·.2) := by decide) (hn : ∀ i ∈ own.map (·.2), Nf U i := by exact fun _ _ _ h => absurd h List.not_mem_nil)
    (hs : ∀ x, foldedSetIterable iter X.env x = pure x := by intro _; rfl) (hK : X.K = U.K := by rfl) : PE X (.ListComp elt [⟨tg, iter, ifs, 0⟩] scope pos) (tE U W (mLcU mi bd mt me (own.map (·.2)))) :=
  ⟨fun pins s σ H Q I h => by
    rcases lcU_post hl hn h with h | h
    · exact (e_lc own hN (i_seq hi hK) ok hg ht he hc hl hn hs).run pins s σ H Q I h
    · rw [← hK] at h
      exact (pe_lc hc hN (pi_list hi) ok hg ht he hs).run pins s σ H Q I h⟩
theorem s_setLcU (i : Nat) {y : Str} {py : Pos} {elt tg iter : Expr} {ifs : List Expr} {scope : Scope} (own : List (Str × Nat)) {pos spos : Pos} (hN : X.N.Nodup) (hi : PE X iter (tE U W mi)) (ok : BlkOk X.N X.env.scope scope own)
    (hg : ∀ (s : Shared) (H : Hp) (C : Addr) (cl : List (Str × Addr)) (fp : List Addr), PG (X.blk s H scope (compEnvC scope cl C X.env) fp) tg (tG U l bd)) (ht : ∀ (s : Shared) (H : Hp) (C : Addr) (cl : List (Str × Addr)) (fp : List Addr), PTs (X.blk s H scope (compEnvC scope cl C X.env) fp) ifs (tT U W0 mt))
    (he : ∀ (s : Shared) (H : Hp) (C : Addr) (cl : List (Str × Addr)) (fp : List Addr), PE (X.blk s H scope (compEnvC scope cl C X.env) fp) elt (tE U W0 me)) (hc : X.calm = true := by rfl) (hy : X.N[i]? = some y := by rfl) (hyl : X.env.scope.names.lookup y = some .local := by rfl)
    (hk : X.env.scope.kind = .function := by rfl) (hln : (py.line == pos.line) = true := by rfl) (ha : (scope.names.any fun (n, k) => n == y && (k == .local || k == .cell)) = false := by rfl)
    (hl : ∀ i ∈ l, i ∈ own.map (·.2) := by decide) (hn : ∀ i ∈ own.map (·.2), Nf U i := by exact fun _ _ _ h => absurd h List.not_mem_nil) (hn2 : Nf U i := by exact fun _ h => absurd h List.not_mem_nil)
    (hs : ∀ x, foldedSetIterable iter X.env x = pure x := by intro _; rfl) (hK : X.K = U.K := by rfl) : PS X (.Assign [.Name y py] (.ListComp elt [⟨tg, iter, ifs, 0⟩] scope pos) spos) (tS U W (sSet i (mLcU mi bd mt me (own.map (·.2))))) :=
  ⟨fun pins s σ H Dn I ⟨M, S, ρ, A, p⟩ => by
    have h : tE U W (mLcU mi bd mt me (own.map (·.2))) σ H (fun v H' => Dn.nx (σ.set i (some v)) H') := tX.ofS A p fun x S1 M1 H1 v e1 A1 r1 p1 => p1 M1 H1 _ A1.refl (A1.set r1 hn2)
    rcases lcU_post hl hn h with h | h
    · exact (ps_setLc hc hN hy hyl (sw_true hk hyl hln ha) (i_seq hi hK) ok hg ht he hs).run pins s σ H Dn I (lc_post hl hn h)
    · rw [← hK] at h
      exact (ps_setLc hc hN hy hyl (sw_true hk hyl hln ha) (pi_list hi) ok hg ht he hs).run pins s σ H Dn I h⟩
end
end DL
/-! DL31: mirrors evaluated by simp; loops; the cask. -/
namespace DL
open PySem L2
def OS.fin : OS → Out D
  | .nx _ S => .ok .non S
  | .rt d S => .ok d S
  | .exc e _ S => .exc e S
  | _ => .stuck
def selT {α : Type} : Bool → α → α → α
  | true, a, _ => a
  | false, _, b => b
def selB {α : Type} : Option Bool → Out α → Out α → Out α
  | some true, a, _ => a
  | some false, _, b => b
  | none, _, _ => .stuck
section
variable {α β : Type} {a : α} {S S1 : Sto} {e : Ex} {f : α → Sto → Out β} {k : α → Sto → OS} {ρ : Env} {d x y : D} {i j n : Nat} {m ma mb mc mo mi : ME} {ms mk : MA} {t u : MT} {sa sb : MS} {o : Option D} {g g' : Sto → D → D → Option D} {g1 : Sto → D → Option D} {gn : Sto → List D → Option D} {F : Mi} {ds xs : List D} {bd : Bd} {bs : Bds} {src : MI} {kk : MS} {c : Nat} {nm : Str} {fs : List (Str × D)} {cs is : List Nat}
@[simp] theorem fin_nx : OS.fin (.nx ρ S) = .ok .non S := id rfl
@[simp] theorem fin_rt : OS.fin (.rt d S) = .ok d S := id rfl
@[simp] theorem fin_exc : OS.fin (.exc e ρ S) = .exc e S := id rfl
@[simp] theorem bind_ok : (Out.ok a S).bind f = f a S := id rfl
@[simp] theorem bind_exc : (Out.exc e S : Out α).bind f = .exc e S := id rfl
@[simp] theorem bind_stuck : (Out.stuck : Out α).bind f = .stuck := id rfl
@[simp] theorem bindN_ok : (Out.ok a S).bindN f = f a S := id rfl
@[simp] theorem of_ok : OS.of (.ok a S) ρ k = k a S := id rfl
@[simp] theorem of_exc : OS.of (.exc e S : Out α) ρ k = .exc e ρ S := id rfl
@[simp] theorem seq_nx' : (OS.nx ρ S).seq kk = kk ρ S := id rfl
@[simp] theorem seq_rt' : (OS.rt d S).seq kk = .rt d S := id rfl
@[simp] theorem seq_exc' : (OS.exc e ρ S).seq kk = .exc e ρ S := id rfl
@[simp] theorem ofO_some {z : α} : ofO (some z) S = .ok z S := id rfl
@[simp] theorem mVar_z : mVar 0 (some d :: ρ) S = .ok d S := id rfl
@[simp] theorem mVar_s : mVar (i + 1) (o :: ρ) S = mVar i ρ S := id rfl
@[simp] theorem mC_ev : mC d ρ S = .ok d S := id rfl
@[simp] theorem m1_ev : m1 g1 ma ρ S = (ma ρ S).bind fun x S1 => ofO (g1 S1 x) S1 := id rfl
@[simp] theorem m2_ev : m2 g ma mb ρ S = (ma ρ S).bind fun x S1 => (mb ρ S1).bind fun y S2 => ofO (g S2 x y) S2 := id rfl
@[simp] theorem mN_ev : mN gn ms ρ S = (ms ρ S).bind fun xs S1 => ofO (gn S1 xs) S1 := id rfl
@[simp] theorem mTst_ev : mTst m ρ S = (m ρ S).bind fun x S1 => match x with
  | .bl b => .ok b S1
  | _ => .stuck := id rfl
@[simp] theorem aNil_ev : aNil ρ S = .ok [] S := id rfl
@[simp] theorem aCons_ev : aCons m ms ρ S = (m ρ S).bind fun x S1 => (ms ρ S1).bind fun xs S2 => .ok (x :: xs) S2 := id rfl
@[simp] theorem aStar_ev : aStar m ms ρ S = (m ρ S).bind fun x S1 => match seqD S1 x with
  | some ys => (ms ρ S1).bind fun xs S2 => .ok (ys ++ xs) S2
  | none => .stuck := id rfl
@[simp] theorem mTup_ev : mTup ms ρ S = (ms ρ S).bind fun xs S1 => if xs.length ≤ lim then .ok (.tup xs) S1 else .stuck := id rfl
@[simp] theorem mLst_ev : mLst ms ρ S = (ms ρ S).bind fun xs S1 => if xs.length ≤ lim then .ok (.lst xs) S1 else .stuck := id rfl
@[simp] theorem mLstO_ev : mLstO ms ρ S = (ms ρ S).bind fun xs S1 => if xs.length ≤ lim then .ok (.obj S1.length) (S1 ++ [.lst xs]) else .stuck := id rfl
@[simp] theorem mTru_ev : mTru m ρ S = (m ρ S).bind fun x S1 => ofO (truD S1 x) S1 := id rfl
@[simp] theorem and_ev : tAnd' t u ρ S = (t ρ S).bind fun b S1 => selT b (u ρ S1) (.ok false S1) := by
  show (t ρ S).bind _ = _
  cases (t ρ S) with
  | ok b S1 => cases b <;> rfl
  | _ => rfl
@[simp] theorem or_ev : tOr' t u ρ S = (t ρ S).bind fun b S1 => selT b (.ok true S1) (u ρ S1) := by
  show (t ρ S).bind _ = _
  cases (t ρ S) with
  | ok b S1 => cases b <;> rfl
  | _ => rfl
@[simp] theorem not_ev : tNot' t ρ S = (t ρ S).bind fun b S1 => .ok (!b) S1 := id rfl
@[simp] theorem mAnd_ev : mAnd ma mb ρ S = (ma ρ S).bind fun x S1 => selB (truD S1 x) (mb ρ S1) (.ok x S1) := by
  show (ma ρ S).bind _ = _
  cases ma ρ S with
  | ok x S1 =>
    simp only [Out.bind]
    cases truD S1 x with
    | none => rfl
    | some p => cases p <;> rfl
  | _ => rfl
@[simp] theorem mOr_ev : mOr ma mb ρ S = (ma ρ S).bind fun x S1 => selB (truD S1 x) (.ok x S1) (mb ρ S1) := by
  show (ma ρ S).bind _ = _
  cases ma ρ S with
  | ok x S1 =>
    simp only [Out.bind]
    cases truD S1 x with
    | none => rfl
    | some p => cases p <;> rfl
  | _ => rfl
@[simp] theorem selB_t {α : Type} {x y : Out α} : selB (some true) x y = x := id rfl
@[simp] theorem selB_f {α : Type} {x y : Out α} : selB (some false) x y = y := id rfl
@[simp] theorem selB_and {p q : Bool} : selB (some p) (Out.ok (D.bl q) S) (.ok (.bl p) S) = .ok (.bl (p && q)) S := by cases p <;> rfl
@[simp] theorem selB_or {p q : Bool} : selB (some p) (Out.ok (D.bl p) S) (.ok (.bl q) S) = .ok (.bl (p || q)) S := by cases p <;> rfl
@[simp] theorem selT_t {α : Type} {x y : α} : selT true x y = x := id rfl
@[simp] theorem selT_f {α : Type} {x y : α} : selT false x y = y := id rfl
@[simp] theorem selT_and {p q : Bool} : selT p (Out.ok q S) (.ok false S) = .ok (p && q) S := by cases p <;> rfl
@[simp] theorem selT_or {p q : Bool} : selT p (Out.ok true S) (.ok q S) = .ok (p || q) S := by cases p <;> rfl
@[simp] theorem mNot_ev : mNot ma ρ S = (ma ρ S).bind fun x S1 => match truD S1 x with
  | some b => .ok (.bl (!b)) S1
  | none => .stuck := id rfl
@[simp] theorem mIf_ev : mIf t ma mb ρ S = (t ρ S).bind fun k S1 => selT k (ma ρ S1) (mb ρ S1) := by
  show (t ρ S).bind _ = _
  cases (t ρ S) with
  | ok b S1 => cases b <;> rfl
  | _ => rfl
@[simp] theorem mCall_ev : mCall F ms ρ S = (ms ρ S).bind F := id rfl
@[simp] theorem mCallK_ev : mCallK F is ms mk ρ S = (ms ρ S).bind fun ds S1 => (mk ρ S1).bind fun es S2 => match pick is (ds ++ es) with
  | some zs => F zs S2
  | none => .stuck := id rfl
@[simp] theorem sNil_ev : sNil ρ S = .nx ρ S := id rfl
@[simp] theorem sSeq_ev : sSeq sa sb ρ S = (sa ρ S).seq sb := id rfl
@[simp] theorem sRet_ev : sRet m ρ S = .of (m ρ S) ρ fun d S1 => .rt d S1 := id rfl
@[simp] theorem sDrop_ev : sDrop m ρ S = .of (m ρ S) ρ fun _ S1 => .nx ρ S1 := id rfl
@[simp] theorem sIf_ev : sIf t sa sb ρ S = .of (t ρ S) ρ fun k S1 => selT k (sa ρ S1) (sb ρ S1) := by
  show OS.of (t ρ S) ρ _ = _
  cases t ρ S with
  | ok b S1 => cases b <;> rfl
  | _ => rfl
@[simp] theorem sSet_ev : sSet i m ρ S = .of (m ρ S) ρ fun d S1 => .nx (ρ.set i (some d)) S1 := id rfl
@[simp] theorem sPar_ev : sPar i j ms ρ S = .of (ms ρ S) ρ fun ds S1 => match ds with
  | [d, e] => .nx ((ρ.set i (some d)).set j (some e)) S1
  | _ => .stuck := id rfl
@[simp] theorem sAsg_ev : sAsg m bd ρ S = .of (m ρ S) ρ fun d S1 => match bd d ρ with
  | some ρ' => .nx ρ' S1
  | none => .stuck := id rfl
@[simp] theorem bName_ev : bName i d ρ = some (ρ.set i (some d)) := id rfl
@[simp] theorem bNil_ev : bNil [] ρ = some ρ := id rfl
@[simp] theorem bCons_ev : bCons bd bs (d :: ds) ρ = (bd d ρ).bind fun ρ' => bs ds ρ' := id rfl
theorem bTup_ev : bTup n bs (.tup ds) ρ = if ds.length = n then bs ds ρ else none := id rfl
@[simp] theorem sRaise_ev : sRaise c ρ S = .exc ⟨c, []⟩ ρ S := id rfl
@[simp] theorem sFor_ev : sFor src bd sa ρ S = .of (src ρ S) ρ fun ds S1 => forL bd sa ds ρ S1 := id rfl
@[simp] theorem iSeq_ev : iSeq m ρ S = (m ρ S).bind fun x S1 => ofO (seqI x) S1 := id rfl
@[simp] theorem seqI_tup : seqI (.tup xs) = some xs := id rfl
@[simp] theorem seqI_lst : seqI (.lst xs) = some xs := id rfl
@[simp] theorem seqI_fz : seqI (.fz xs) = some xs := id rfl
@[simp] theorem seqD_tup : seqD S (.tup xs) = some xs := id rfl
@[simp] theorem seqD_lst : seqD S (.lst xs) = some xs := id rfl
@[simp] theorem seqD_fz : seqD S (.fz xs) = some xs := id rfl
@[simp] theorem mLc_ev {vs : List Nat} : mLc src bd t m vs ρ S = (src ρ S).bind fun ds S1 => (lcL bd t m (wipeE ρ vs) ds [] S1).bind fun xs S2 => .ok (.lst xs) S2 := by
  show ((src ρ S).bind _).bind _ = _
  cases src ρ S <;> rfl
@[simp] theorem mLcO_ev {vs : List Nat} : mLcO src bd t m vs ρ S = (src ρ S).bind fun ds S1 => (lcL bd t m (wipeE ρ vs) ds [] S1).bind finO := by
  show ((src ρ S).bind _).bind _ = _
  cases src ρ S <;> rfl
@[simp] theorem mYes_ev : mYes ρ S = .ok true S := id rfl
@[simp] theorem wipe_nil : wipeE ρ [] = ρ := id rfl
@[simp] theorem wipe_cons {v : Nat} {vs : List Nat} : wipeE ρ (v :: vs) = (wipeE ρ vs).set v none := id rfl
@[simp] theorem mFld_ev : mFld cs nm m ρ S = (m ρ S).bind fun d S1 => match insG cs S1 d with
  | some z => match z.2.2.lookup nm with
    | some x => .ok x S1
    | none => .stuck
  | none => .stuck := id rfl
@[simp] theorem sFldD_ev : sFldD cs nm m mo ρ S = .of (m ρ S) ρ fun d S1 => .of (mo ρ S1) ρ fun o S2 => match insG cs S2 o with
  | some z => if z.2.2.length < 1000 then .nx ρ (S2.set z.1 (.ins z.2.1 (putD nm d z.2.2))) else .stuck
  | none => .stuck := id rfl
@[simp] theorem mMeth_ev : mMeth c nm F mo ms ρ S = (mo ρ S).bind fun o S1 => match insG [c] S1 o with
  | some z => match z.2.2.lookup nm with
    | none => (ms ρ S1).bind fun ds S2 => F (o :: ds) S2
    | some _ => .stuck
  | none => .stuck := id rfl
@[simp] theorem mMethK_ev : mMethK c nm F is mo mk ρ S = (mo ρ S).bind fun o S1 => match insG [c] S1 o with
  | some z => match z.2.2.lookup nm with
    | none => (mk ρ S1).bind fun es S2 => match pick is (o :: es) with
      | some zs => F zs S2
      | none => .stuck
    | some _ => .stuck
  | none => .stuck := id rfl
@[simp] theorem mMake_ev : mMake c F ms ρ S = (ms ρ S).bind fun ds S1 => (F (.obj S1.length :: ds) (S1 ++ [.ins c []])).bind fun d S2 => match d with
  | .non => .ok (.obj S1.length) S2
  | _ => .stuck := id rfl
@[simp] theorem mMakeK_ev : mMakeK c F is mk ρ S = (mk ρ S).bind fun es S1 => match pick is (D.obj S1.length :: es) with
  | some zs => (F zs (S1 ++ [.ins c []])).bind fun d S2 => match d with
    | .non => .ok (.obj S1.length) S2
    | _ => .stuck
  | none => .stuck := id rfl
@[simp] theorem mSubI_ev : mSubI c F mo mi ρ S = (mo ρ S).bind fun o S1 => (mi ρ S1).bind fun i S2 => match insG [c] S2 o with
  | some _ => F [o, i] S2
  | none => .stuck := id rfl
@[simp] theorem forL_nil : forL bd sa [] ρ S = .nx ρ S := id rfl
theorem forL_cons : forL bd sa (d :: ds) ρ S = match bd d ρ with
    | none => .stuck
    | some ρ1 => match sa ρ1 S with
      | .nx ρ2 S2 => forL bd sa ds ρ2 S2
      | .ct ρ2 S2 => forL bd sa ds ρ2 S2
      | .bk ρ2 S2 => .nx ρ2 S2
      | .rt d S2 => .rt d S2
      | .exc e ρ2 S2 => .exc e ρ2 S2
      | .stuck => .stuck := id rfl
@[simp] theorem insG_ok : insG cs S (.obj i) = match S[i]? with
    | some (.ins c fs) => if cs.contains c = true then some (i, c, fs) else none
    | _ => none := id rfl
end
theorem runD_fin {n : Nat} {ms : MS} {ds : List D} {S : Sto} {ρ : Env} (hρ : ds.map some ++ List.replicate (n - ds.length) none = ρ) : runD n ms ds S = (ms ρ S).fin := by
  unfold runD
  rw [hρ]
  cases ms ρ S <;> rfl
theorem rng_h1 (n : Nat) : -(2 ^ 62) ≤ (n : Int) := Int.le_trans (by decide +kernel) (Int.natCast_nonneg n)
theorem rng_h2 (n : Nat) (hn : n ≤ lim) : (n : Int) < 2 ^ 62 := by
  have : n ≤ 1000000 := hn
  omega
theorem rng_int {m : ME} {ρ : Env} {S S1 : Sto} {n : Int} (h : m ρ S = .ok (.int n) S1) (hb : -(2 ^ 62) ≤ n ∧ n < 2 ^ 62) : iRange1 m ρ S = .ok (rangeD 0 n.toNat) S1 := by
  unfold iRange1
  rw [h, bind_ok]
  dsimp only
  rw [if_pos hb]
theorem rng_ok {m : ME} {ρ : Env} {S S1 : Sto} {n : Nat} (h : m ρ S = .ok (.int n) S1) (hn : n ≤ lim) : iRange1 m ρ S = .ok (rangeD 0 n) S1 := by
  have e := rng_int h ⟨rng_h1 n, rng_h2 n hn⟩
  rw [Int.toNat_natCast] at e
  exact e
/-- a return ends a block -/
theorem seq_of {o : Out D} {ρ : Env} {k : MS} : (OS.of o ρ fun d S1 => OS.rt d S1).seq k = OS.of o ρ fun d S1 => OS.rt d S1 := by cases o <;> rfl
/-! ### comprehensions -/
section
variable {bd : Bd} {t : MT} {m : ME} {ρ : Env} {S : Sto}
theorem lcL_map (p : D → Bool) (f : D → D) : ∀ (ds acc : List D), (∀ d ∈ ds, ∃ ρ1, bd d ρ = some ρ1 ∧ t ρ1 S = .ok (p d) S ∧ (p d = true → m ρ1 S = .ok (f d) S)) → acc.length + ds.length ≤ lim → lcL bd t m ρ ds acc S = .ok (acc ++ (ds.filter p).map f) S
  | [], acc, _, _ => by simp [lcL]
  | d :: ds, acc, h, hl => by
    obtain ⟨ρ1, e1, e2, e3⟩ := h d List.mem_cons_self
    rw [List.length_cons] at hl
    cases q : p d with
    | false =>
      rw [q] at e2
      simp only [lcL, e1, e2, bindN_ok, Bool.false_eq_true, if_false]
      rw [lcL_map p f ds acc (fun x hx => h x (List.mem_cons_of_mem _ hx)) (by omega), List.filter_cons, q]
      simp
    | true =>
      rw [q] at e2
      have hlt : acc.length < lim := by omega
      simp only [lcL, e1, e2, e3 q, bindN_ok, if_true, if_pos hlt]
      rw [lcL_map p f ds (acc ++ [f d]) (fun x hx => h x (List.mem_cons_of_mem _ hx)) (by rw [List.length_append, List.length_singleton]; omega), List.filter_cons, q]
      simp
theorem lcL_all (f : D → D) {ds acc : List D} (h : ∀ d ∈ ds, ∃ ρ1, bd d ρ = some ρ1 ∧ t ρ1 S = .ok true S ∧ m ρ1 S = .ok (f d) S) (hl : acc.length + ds.length ≤ lim) : lcL bd t m ρ ds acc S = .ok (acc ++ ds.map f) S := by
  rw [lcL_map (fun _ => true) f ds acc (fun d hd => let ⟨ρ1, a, b, c⟩ := h d hd; ⟨ρ1, a, b, fun _ => c⟩) hl, List.filter_eq_self.mpr (fun _ _ => rfl)]
theorem lcL_none {ds acc : List D} (h : ∀ d ∈ ds, ∃ ρ1, bd d ρ = some ρ1 ∧ t ρ1 S = .ok false S) (hl : acc.length + ds.length ≤ lim) : lcL bd t m ρ ds acc S = .ok acc S := by
  rw [lcL_map (fun _ => false) id ds acc (fun d hd => let ⟨ρ1, a, b⟩ := h d hd; ⟨ρ1, a, b, fun z => by cases z⟩) hl]
  simp
/-- the store's list, while the store stays -/
theorem lcLS_eq {i : Nat} {ys : List D} (hS : S[i]? = some (.lst ys)) (p : D → Bool) (f : D → D) (h : ∀ d ∈ ys, ∃ ρ1, bd d ρ = some ρ1 ∧ t ρ1 S = .ok (p d) S ∧ (p d = true → m ρ1 S = .ok (f d) S)) :
    ∀ (n k : Nat) (acc : List D), ys.length - k < n → acc.length + (ys.length - k) ≤ lim → lcLS i bd t m ρ n k acc S = .ok (acc ++ ((ys.drop k).filter p).map f) S
  | 0, k, acc, hn, _ => absurd hn (Nat.not_lt_zero _)
  | n + 1, k, acc, hn, hl => by
    unfold lcLS
    rw [hS]
    simp only
    cases qk : ys[k]? with
    | none =>
      have : ys.length ≤ k := List.getElem?_eq_none_iff.mp qk
      rw [List.drop_eq_nil_of_le this]
      simp
    | some d =>
      obtain ⟨hk, ek⟩ := List.getElem?_eq_some_iff.mp qk
      have hd : ys.drop k = d :: ys.drop (k + 1) := by rw [List.drop_eq_getElem_cons hk, ek]
      obtain ⟨ρ1, e1, e2, e3⟩ := h d (by rw [← ek]; exact List.getElem_mem hk)
      cases q : p d with
      | false =>
        rw [q] at e2
        simp only [e1, e2, bindN_ok, Bool.false_eq_true, if_false]
        rw [lcLS_eq hS p f h n (k + 1) acc (by omega) (by omega), hd, List.filter_cons, q]
        simp
      | true =>
        rw [q] at e2
        have hlt : acc.length < lim := by omega
        simp only [e1, e2, e3 q, bindN_ok, if_true, if_pos hlt]
        rw [lcLS_eq hS p f h n (k + 1) (acc ++ [f d]) (by omega) (by rw [List.length_append, List.length_singleton]; omega), hd, List.filter_cons, q]
        simp
/-- a loop that goes on, or returns at the first item that fits -/
theorem forL_first {body : MS} (I : Env → Prop) (p : D → Bool) (f : D → D) : ∀ (ds : List D) (ρ : Env), (∀ d ∈ ds, ∀ ρ, I ρ → ∃ ρ1, bd d ρ = some ρ1 ∧ (p d = true → body ρ1 S = .rt (f d) S) ∧ (p d = false → ∃ ρ2, body ρ1 S = .nx ρ2 S ∧ I ρ2)) → I ρ →
    (∃ d, ds.find? p = some d ∧ forL bd body ds ρ S = .rt (f d) S) ∨ (ds.find? p = none ∧ ∃ ρ', forL bd body ds ρ S = .nx ρ' S ∧ I ρ')
  | [], ρ, _, hI => .inr ⟨rfl, ρ, rfl, hI⟩
  | d :: ds, ρ, h, hI => by
    obtain ⟨ρ1, e1, e2, e3⟩ := h d List.mem_cons_self ρ hI
    cases q : p d with
    | true => exact .inl ⟨d, by rw [List.find?_cons, q], by simp only [forL, e1, e2 q]⟩
    | false =>
      obtain ⟨ρ2, e4, I2⟩ := e3 q
      rcases forL_first I p f ds ρ2 (fun x hx => h x (List.mem_cons_of_mem _ hx)) I2 with ⟨x, h1, h2⟩ | ⟨h1, ρ', h2, h3⟩
      · exact .inl ⟨x, by rw [List.find?_cons, q]; exact h1, by simp only [forL, e1, e4]; exact h2⟩
      · exact .inr ⟨by rw [List.find?_cons, q]; exact h1, ρ', by simp only [forL, e1, e4]; exact h2, h3⟩
end
theorem forL_ix {b : Bd} {body : MS} (I : Nat → Env → Sto → Prop) : ∀ (ds : List D) (n : Nat), (∀ i d, ds[i]? = some d → ∀ ρ S, I (n + i) ρ S → ∃ ρ1, b d ρ = some ρ1 ∧ ∃ ρ2 S2, body ρ1 S = .nx ρ2 S2 ∧ I (n + i + 1) ρ2 S2) → ∀ ρ S, I n ρ S → ∃ ρ' S', forL b body ds ρ S = .nx ρ' S' ∧ I (n + ds.length) ρ' S'
  | [], n, _, ρ, S, h => ⟨ρ, S, rfl, h⟩
  | d :: ds, n, hs, ρ, S, h => by
    obtain ⟨ρ1, e1, ρ2, S2, e2, h2⟩ := hs 0 d rfl ρ S h
    obtain ⟨ρ3, S3, e3, h3⟩ := forL_ix I ds (n + 1) (fun i d hd ρ S hI => by
      have e : n + 1 + i = n + (i + 1) := by omega
      rw [e] at hI ⊢
      exact hs (i + 1) d (by simpa using hd) ρ S hI) ρ2 S2 h2
    refine ⟨ρ3, S3, by simp only [forL, e1, e2, e3], ?_⟩
    have e : n + (d :: ds).length = n + 1 + ds.length := by rw [List.length_cons]; omega
    rw [e]; exact h3
theorem sApp_ok {mo m : ME} {ρ : Env} {S S1 S2 : Sto} {n : Nat} {zs xs : List D} {d : D} (h1 : mo ρ S = .ok (.obj n) S1) (h2 : S1[n]? = some (.lst zs)) (h3 : m ρ S1 = .ok d S2) (h4 : S2[n]? = some (.lst xs)) (hl : xs.length < lim) : sApp mo m ρ S = .nx ρ (S2.set n (.lst (xs ++ [d]))) := by
  unfold sApp
  simp only [h1, of_ok, h2, h3, h4, if_pos hl]
/-! ### what comes, and what holds then -/
def Out.wp {α : Type} (o : Out α) (Q : α → Sto → Prop) : Prop := match o with
  | .ok a S => Q a S
  | _ => False
@[simp] theorem wp_ok {α : Type} {a : α} {S : Sto} {Q : α → Sto → Prop} : (Out.ok a S).wp Q = Q a S := id rfl
theorem wp_elim {α : Type} {o : Out α} {Q : α → Sto → Prop} (h : o.wp Q) : ∃ a S, o = .ok a S ∧ Q a S := by
  cases o with
  | ok a S => exact ⟨a, S, rfl, h⟩
  | exc e S => exact False.elim h
  | stuck => exact False.elim h
/-- but for the object at c nothing of the store has changed; it may have grown -/
structure Gr (c : Nat) (S S' : Sto) : Prop where
  le : S.length ≤ S'.length
  eq : ∀ i, i ≠ c → i < S.length → S'[i]? = S[i]?
theorem Gr.refl {c : Nat} {S : Sto} : Gr c S S := ⟨Nat.le_refl _, fun _ _ _ => rfl⟩
theorem Gr.trans {c : Nat} {S S1 S2 : Sto} (a : Gr c S S1) (b : Gr c S1 S2) : Gr c S S2 := ⟨Nat.le_trans a.le b.le, fun i h1 h2 => (b.eq i h1 (Nat.lt_of_lt_of_le h2 a.le)).trans (a.eq i h1 h2)⟩
theorem Gr.at_ {c i : Nat} {S S' : Sto} {o : Ob} (a : Gr c S S') (hi : i ≠ c) (h : S[i]? = some o) : S'[i]? = some o := (a.eq i hi (List.getElem?_eq_some_iff.mp h).1).trans h
theorem Gr.app {c : Nat} {S l : Sto} : Gr c S (S ++ l) := ⟨by rw [List.length_append]; omega, fun i _ h => List.getElem?_append_left h⟩
theorem Gr.set {c : Nat} {S : Sto} {o : Ob} : Gr c S (S.set c o) := ⟨by rw [List.length_set]; exact Nat.le_refl _, fun i h _ => List.getElem?_set_ne (Ne.symm h)⟩
theorem Cask.lt {S : Sto} {c : Nat} {k : Int} (h : Cask S c k) : c < S.length := let ⟨_, _, h, _⟩ := h.ex; (List.getElem?_eq_some_iff.mp h).1
theorem Cask.app {S l : Sto} {c : Nat} {k : Int} (h : Cask S c k) : Cask (S ++ l) c k := let ⟨a, b, e, r⟩ := h.ex; ⟨a, b, (List.getElem?_append_left h.lt).trans e, r⟩
theorem Cask.nn {S : Sto} {c : Nat} {k : Int} (h : Cask S c k) : 0 ≤ k := let ⟨_, _, _, _, _, _, r⟩ := h.ex; r
/-- a draw -/
theorem tap_n {S : Sto} {c : Nat} {k : Int} {span : Nat} (h : Cask S c k) (hk : k < 10 ^ 9) (h0 : 0 < span) (h1 : span < 10 ^ 9) : ∃ (d : Nat) (S' : Sto) (k' : Int), tapF [.obj c, .int span] S = .ok (.int d) S' ∧ d < span ∧ k' ≤ k + 1 ∧ Cask S' c k' ∧ S'.length = S.length ∧ Gr c S S' := by
  obtain ⟨d, S', k', e, a, b, hk', hc, o, rfl⟩ := tap_ok h hk (span := span) (by omega) (by omega)
  obtain ⟨n, rfl⟩ := Int.eq_ofNat_of_zero_le a
  exact ⟨n, _, k', e, by omega, hk', hc, List.length_set, .set⟩
theorem ix_nat {S : Sto} {xs : List D} {n : Nat} (h : n < xs.length) : ∃ x ∈ xs, ixO S (.lst xs) (.int n) = some x ∧ ixO S (.tup xs) (.int n) = some x ∧ xs[n]? = some x := by
  have e : ixO S (.lst xs) (.int (n : Int)) = L2.atI xs n := id rfl
  have e2 : ixO S (.tup xs) (.int (n : Int)) = L2.atI xs n := id rfl
  rw [e, e2]
  exact ⟨xs[n], List.getElem_mem h, L2.atI_nat (List.getElem?_eq_getElem h), L2.atI_nat (List.getElem?_eq_getElem h), List.getElem?_eq_getElem h⟩
end DL
/-! DL32: operators on data, by simp. -/
namespace DL
open PySem L2
section
variable {S : Sto} {cs : List Nat} {a b c s : Str} {i j : Int} {p q : Bool} {xs ys l : List D} {x y z u v w : D}
@[simp] theorem lim_0 : 0 ≤ lim := by decide
@[simp] theorem lim_1 : 1 ≤ lim := by decide
@[simp] theorem lim_2 : 2 ≤ lim := by decide
@[simp] theorem lim_3 : 3 ≤ lim := by decide
@[simp] theorem lim_4 : 4 ≤ lim := by decide
@[simp] theorem lim_5 : 5 ≤ lim := by decide
@[simp] theorem lim_6 : 6 ≤ lim := by decide
@[simp] theorem lim_7 : 7 ≤ lim := by decide
@[simp] theorem lim_8 : 8 ≤ lim := by decide
@[simp] theorem lim_9 : 9 ≤ lim := by decide
@[simp] theorem lim_10 : 10 ≤ lim := by decide
@[simp] theorem lim_11 : 11 ≤ lim := by decide
@[simp] theorem lim_12 : 12 ≤ lim := by decide
@[simp] theorem lim_13 : 13 ≤ lim := by decide
@[simp] theorem lim_14 : 14 ≤ lim := by decide
@[simp] theorem lim_15 : 15 ≤ lim := by decide
@[simp] theorem lim_16 : 16 ≤ lim := by decide
@[simp] theorem lim_17 : 17 ≤ lim := by decide
@[simp] theorem lim_18 : 18 ≤ lim := by decide
@[simp] theorem lim_19 : 19 ≤ lim := by decide
@[simp] theorem lim_20 : 20 ≤ lim := by decide
@[simp] theorem lim_21 : 21 ≤ lim := by decide
@[simp] theorem lim_22 : 22 ≤ lim := by decide
@[simp] theorem lim_23 : 23 ≤ lim := by decide
@[simp] theorem lim_24 : 24 ≤ lim := by decide
@[simp] theorem lim_25 : 25 ≤ lim := by decide
@[simp] theorem lim_26 : 26 ≤ lim := by decide
@[simp] theorem lim_27 : 27 ≤ lim := by decide
@[simp] theorem lim_28 : 28 ≤ lim := by decide
@[simp] theorem lim_29 : 29 ≤ lim := by decide
@[simp] theorem lim_30 : 30 ≤ lim := by decide
@[simp] theorem liml_0 : 0 < lim := by decide
@[simp] theorem liml_1 : 1 < lim := by decide
@[simp] theorem liml_2 : 2 < lim := by decide
@[simp] theorem liml_3 : 3 < lim := by decide
@[simp] theorem liml_4 : 4 < lim := by decide
@[simp] theorem liml_5 : 5 < lim := by decide
@[simp] theorem liml_6 : 6 < lim := by decide
@[simp] theorem liml_7 : 7 < lim := by decide
@[simp] theorem liml_8 : 8 < lim := by decide
@[simp] theorem liml_9 : 9 < lim := by decide
@[simp] theorem liml_10 : 10 < lim := by decide
@[simp] theorem liml_11 : 11 < lim := by decide
@[simp] theorem liml_12 : 12 < lim := by decide
@[simp] theorem liml_13 : 13 < lim := by decide
@[simp] theorem liml_14 : 14 < lim := by decide
@[simp] theorem liml_15 : 15 < lim := by decide
@[simp] theorem liml_16 : 16 < lim := by decide
@[simp] theorem liml_17 : 17 < lim := by decide
@[simp] theorem liml_18 : 18 < lim := by decide
@[simp] theorem liml_19 : 19 < lim := by decide
@[simp] theorem liml_20 : 20 < lim := by decide
@[simp] theorem liml_21 : 21 < lim := by decide
@[simp] theorem liml_22 : 22 < lim := by decide
@[simp] theorem liml_23 : 23 < lim := by decide
@[simp] theorem liml_24 : 24 < lim := by decide
@[simp] theorem liml_25 : 25 < lim := by decide
@[simp] theorem liml_26 : 26 < lim := by decide
@[simp] theorem liml_27 : 27 < lim := by decide
@[simp] theorem liml_28 : 28 < lim := by decide
@[simp] theorem liml_29 : 29 < lim := by decide
@[simp] theorem liml_30 : 30 < lim := by decide
theorem eqv_str : PyData.eqv (.str a) (.str b) = decide (a = b) := by
  by_cases h : a = b
  · subst h; simp [PyData.eqv]
  · have : (a == b) = false := beq_eq_false_iff_ne.mpr h
    simp [PyData.eqv, this, h]
@[simp] theorem eqO_str : eqO S (.str a) (.str b) = some (.bl (decide (a = b))) := by
  show (if _ then some (D.bl (PyData.eqv (.str a) (.str b))) else none) = _
  rw [eqv_str, if_pos (by rfl)]
@[simp] theorem neO_str : neO S (.str a) (.str b) = some (.bl (!decide (a = b))) := by
  show (if _ then some (D.bl (!PyData.eqv (.str a) (.str b))) else none) = _
  rw [eqv_str, if_pos (by rfl)]
@[simp] theorem eqO_i : eqO S (.int i) (.int j) = some (.bl (decide (i = j))) := by
  rw [eqO_int]
  by_cases h : i = j
  · subst h; simp
  · simp [h]
@[simp] theorem neO_i : neO S (.int i) (.int j) = some (.bl (!decide (i = j))) := by
  have e : (i == j) = decide (i = j) := by
    by_cases h : i = j
    · subst h; simp
    · simp [h]
  show (if _ then some (D.bl (!(i == j))) else none) = _
  rw [if_pos (by rfl), e]
@[simp] theorem eqO_b : eqO S (.bl p) (.bl q) = some (.bl (decide (p = q))) := by cases p <;> cases q <;> rfl
@[simp] theorem neO_b : neO S (.bl p) (.bl q) = some (.bl (!decide (p = q))) := by cases p <;> cases q <;> rfl
@[simp] theorem ltO_i : ltO S (.int i) (.int j) = some (.bl (decide (i < j))) := ltO_int
@[simp] theorem gtO_i : gtO S (.int i) (.int j) = some (.bl (decide (j < i))) := gtO_int
theorem deq_str : deq (.str a) (.str b) = decide (a = b) := eqv_str
/-- a text among texts -/
theorem pl_strs : ∀ ws : List Str, PyData.plainAll (toPyAll (ws.map D.str)) = true
  | [] => rfl
  | w :: ws => by show (PyData.plain (.str w) && PyData.plainAll (toPyAll (ws.map D.str))) = true; rw [pl_strs ws]; rfl
theorem dp_strs : ∀ ws : List Str, PyData.depthAll (toPyAll (ws.map D.str)) ≤ 1
  | [] => by show PyData.depthAll [] ≤ 1; simp [PyData.depthAll]
  | w :: ws => by
    have := dp_strs ws
    show PyData.depthAll (.str w :: toPyAll (ws.map D.str)) ≤ 1
    simp [PyData.depthAll, PyData.depth] at this ⊢
    omega
theorem any_strs (s : Str) : ∀ ws : List Str, ((ws.map D.str).any fun y => deq y (.str s)) = decide (s ∈ ws)
  | [] => by simp
  | w :: ws => by
    have e : decide (w = s) = decide (s = w) := by by_cases h : w = s; · subst h; rfl
                                                   · simp [h, Ne.symm h]
    simp only [List.map_cons, List.any_cons, any_strs s ws, deq_str, e, List.mem_cons, Bool.decide_or]
theorem inD_strs (ws : List Str) : inD S (.str s) (.tup (ws.map D.str)) = some (.bl (decide (s ∈ ws))) := by
  show ((if okIn (ws.map D.str) (.str s) then some ((ws.map D.str).any fun y => deq y (.str s)) else none).map D.bl) = _
  have : okIn (ws.map D.str) (.str s) = true := by
    unfold okIn
    have h2 : (min (PyData.depthAll (toPyAll (ws.map D.str))) (dep (.str s)) ≤ 60) := Nat.le_trans (Nat.min_le_left _ _) (Nat.le_trans (dp_strs ws) (by decide))
    rw [pl_strs, decide_eq_true h2]; rfl
  rw [if_pos this, any_strs]; rfl
theorem inD_lstrs (ws : List Str) : inD S (.str s) (.lst (ws.map D.str)) = some (.bl (decide (s ∈ ws))) := inD_strs (S := S) ws
@[simp] theorem inD_s1 : inD S (.str s) (.tup [.str a]) = some (.bl (decide (s = a))) := (inD_strs [a]).trans (by simp)
@[simp] theorem inD_s2 : inD S (.str s) (.tup [.str a, .str b]) = some (.bl (decide (s = a) || decide (s = b))) := (inD_strs [a, b]).trans (by simp)
@[simp] theorem ix_t0 : ixO S (.tup (x :: l)) (.int 0) = some x := L2.atI_nat (j := 0) rfl
@[simp] theorem ix_t1 : ixO S (.tup (x :: y :: l)) (.int 1) = some y := L2.atI_nat (j := 1) rfl
@[simp] theorem ix_t2 : ixO S (.tup (x :: y :: z :: l)) (.int 2) = some z := L2.atI_nat (j := 2) rfl
@[simp] theorem ix_t3 : ixO S (.tup (x :: y :: z :: u :: l)) (.int 3) = some u := L2.atI_nat (j := 3) rfl
@[simp] theorem ix_t4 : ixO S (.tup (x :: y :: z :: u :: v :: l)) (.int 4) = some v := L2.atI_nat (j := 4) rfl
@[simp] theorem ix_l0 : ixO S (.lst (x :: l)) (.int 0) = some x := L2.atI_nat (j := 0) rfl
@[simp] theorem ix_l1 : ixO S (.lst (x :: y :: l)) (.int 1) = some y := L2.atI_nat (j := 1) rfl
theorem len_of (xs : List D) (h : seqD S x = some xs) (hs : ∀ z, x ≠ .str z) : lenG S [x] = some (.int xs.length) := by
  unfold lenG
  split
  · rename_i z e
    cases e
    exact absurd rfl (hs z)
  · rename_i d _ e
    cases e
    rw [h]; rfl
  · rename_i h1 h2; exact absurd rfl (h2 x)
@[simp] theorem len_tup : lenG S [.tup xs] = some (.int xs.length) := id rfl
@[simp] theorem len_lst : lenG S [.lst xs] = some (.int xs.length) := id rfl
@[simp] theorem len_fz : lenG S [.fz xs] = some (.int xs.length) := id rfl
@[simp] theorem tupleG_lst : tupleG S [.lst xs] = some (.tup xs) := id rfl
@[simp] theorem listG_tup : listG S [.tup xs] = some (.lst xs) := id rfl
@[simp] theorem listG_lst : listG S [.lst xs] = some (.lst xs) := id rfl
@[simp] theorem tru_b : truD S (.bl p) = some p := id rfl
@[simp] theorem tru_non : truD S .non = some false := id rfl
@[simp] theorem add_ii : addO S (.int i) (.int j) = some (.int (i + j)) := id rfl
theorem add_tt : addO S (.tup xs) (.tup ys) = if xs.length + ys.length ≤ lim then some (.tup (xs ++ ys)) else none := id rfl
theorem add_ll : addO S (.lst xs) (.lst ys) = if xs.length + ys.length ≤ lim then some (.lst (xs ++ ys)) else none := id rfl
@[simp] theorem is_non : isNO S .non .non = some (.bl true) := id rfl
@[simp] theorem isn_non : notNO S .non .non = some (.bl false) := id rfl
@[simp] theorem is_str : isNO S (.str s) .non = some (.bl false) := id rfl
@[simp] theorem isn_str : notNO S (.str s) .non = some (.bl true) := id rfl
@[simp] theorem is_int : isNO S (.int i) .non = some (.bl false) := id rfl
@[simp] theorem isn_int : notNO S (.int i) .non = some (.bl true) := id rfl
@[simp] theorem is_bl : isNO S (.bl p) .non = some (.bl false) := id rfl
@[simp] theorem isn_bl : notNO S (.bl p) .non = some (.bl true) := id rfl
@[simp] theorem is_tup : isNO S (.tup xs) .non = some (.bl false) := id rfl
@[simp] theorem isn_tup : notNO S (.tup xs) .non = some (.bl true) := id rfl
@[simp] theorem is_lst : isNO S (.lst xs) .non = some (.bl false) := id rfl
@[simp] theorem isn_lst : notNO S (.lst xs) .non = some (.bl true) := id rfl
@[simp] theorem is_obj {n : Nat} : isNO S (.obj n) .non = some (.bl false) := id rfl
@[simp] theorem isn_obj {n : Nat} : notNO S (.obj n) .non = some (.bl true) := id rfl
@[simp] theorem mul_ii (h : i.natAbs.log2 + j.natAbs.log2 < 1000000) : mulO S (.int i) (.int j) = some (.int (i * j)) := if_pos h
@[simp] theorem isiI_non_str : isiI cs S [.non, .ty "str"] = some (.bl false) := by kernel_rfl
@[simp] theorem isiG_non_str : isiG S [.non, .ty "str"] = some (.bl false) := by kernel_rfl
@[simp] theorem isiI_non_tuple : isiI cs S [.non, .ty "tuple"] = some (.bl false) := by kernel_rfl
@[simp] theorem isiG_non_tuple : isiG S [.non, .ty "tuple"] = some (.bl false) := by kernel_rfl
@[simp] theorem isiI_non_list : isiI cs S [.non, .ty "list"] = some (.bl false) := by kernel_rfl
@[simp] theorem isiG_non_list : isiG S [.non, .ty "list"] = some (.bl false) := by kernel_rfl
@[simp] theorem isiI_non_int : isiI cs S [.non, .ty "int"] = some (.bl false) := by kernel_rfl
@[simp] theorem isiG_non_int : isiG S [.non, .ty "int"] = some (.bl false) := by kernel_rfl
@[simp] theorem isiI_non_bool : isiI cs S [.non, .ty "bool"] = some (.bl false) := by kernel_rfl
@[simp] theorem isiG_non_bool : isiG S [.non, .ty "bool"] = some (.bl false) := by kernel_rfl
@[simp] theorem isiI_non_dict : isiI cs S [.non, .ty "dict"] = some (.bl false) := by kernel_rfl
@[simp] theorem isiG_non_dict : isiG S [.non, .ty "dict"] = some (.bl false) := by kernel_rfl
@[simp] theorem isiI_non_lt : isiI cs S [.non, .tup [.ty "list", .ty "tuple"]] = some (.bl false) := by kernel_rfl
@[simp] theorem isiG_non_lt : isiG S [.non, .tup [.ty "list", .ty "tuple"]] = some (.bl false) := by kernel_rfl
@[simp] theorem isiI_bl_str : isiI cs S [(.bl p), .ty "str"] = some (.bl false) := by kernel_rfl
@[simp] theorem isiG_bl_str : isiG S [(.bl p), .ty "str"] = some (.bl false) := by kernel_rfl
@[simp] theorem isiI_bl_tuple : isiI cs S [(.bl p), .ty "tuple"] = some (.bl false) := by kernel_rfl
@[simp] theorem isiG_bl_tuple : isiG S [(.bl p), .ty "tuple"] = some (.bl false) := by kernel_rfl
@[simp] theorem isiI_bl_list : isiI cs S [(.bl p), .ty "list"] = some (.bl false) := by kernel_rfl
@[simp] theorem isiG_bl_list : isiG S [(.bl p), .ty "list"] = some (.bl false) := by kernel_rfl
@[simp] theorem isiI_bl_int : isiI cs S [(.bl p), .ty "int"] = some (.bl true) := by kernel_rfl
@[simp] theorem isiG_bl_int : isiG S [(.bl p), .ty "int"] = some (.bl true) := by kernel_rfl
@[simp] theorem isiI_bl_bool : isiI cs S [(.bl p), .ty "bool"] = some (.bl true) := by kernel_rfl
@[simp] theorem isiG_bl_bool : isiG S [(.bl p), .ty "bool"] = some (.bl true) := by kernel_rfl
@[simp] theorem isiI_bl_dict : isiI cs S [(.bl p), .ty "dict"] = some (.bl false) := by kernel_rfl
@[simp] theorem isiG_bl_dict : isiG S [(.bl p), .ty "dict"] = some (.bl false) := by kernel_rfl
@[simp] theorem isiI_bl_lt : isiI cs S [(.bl p), .tup [.ty "list", .ty "tuple"]] = some (.bl false) := by kernel_rfl
@[simp] theorem isiG_bl_lt : isiG S [(.bl p), .tup [.ty "list", .ty "tuple"]] = some (.bl false) := by kernel_rfl
@[simp] theorem isiI_int_str : isiI cs S [(.int i), .ty "str"] = some (.bl false) := by kernel_rfl
@[simp] theorem isiG_int_str : isiG S [(.int i), .ty "str"] = some (.bl false) := by kernel_rfl
@[simp] theorem isiI_int_tuple : isiI cs S [(.int i), .ty "tuple"] = some (.bl false) := by kernel_rfl
@[simp] theorem isiG_int_tuple : isiG S [(.int i), .ty "tuple"] = some (.bl false) := by kernel_rfl
@[simp] theorem isiI_int_list : isiI cs S [(.int i), .ty "list"] = some (.bl false) := by kernel_rfl
@[simp] theorem isiG_int_list : isiG S [(.int i), .ty "list"] = some (.bl false) := by kernel_rfl
@[simp] theorem isiI_int_int : isiI cs S [(.int i), .ty "int"] = some (.bl true) := by kernel_rfl
@[simp] theorem isiG_int_int : isiG S [(.int i), .ty "int"] = some (.bl true) := by kernel_rfl
@[simp] theorem isiI_int_bool : isiI cs S [(.int i), .ty "bool"] = some (.bl false) := by kernel_rfl
@[simp] theorem isiG_int_bool : isiG S [(.int i), .ty "bool"] = some (.bl false) := by kernel_rfl
@[simp] theorem isiI_int_dict : isiI cs S [(.int i), .ty "dict"] = some (.bl false) := by kernel_rfl
@[simp] theorem isiG_int_dict : isiG S [(.int i), .ty "dict"] = some (.bl false) := by kernel_rfl
@[simp] theorem isiI_int_lt : isiI cs S [(.int i), .tup [.ty "list", .ty "tuple"]] = some (.bl false) := by kernel_rfl
@[simp] theorem isiG_int_lt : isiG S [(.int i), .tup [.ty "list", .ty "tuple"]] = some (.bl false) := by kernel_rfl
@[simp] theorem isiI_str_str : isiI cs S [(.str s), .ty "str"] = some (.bl true) := by kernel_rfl
@[simp] theorem isiG_str_str : isiG S [(.str s), .ty "str"] = some (.bl true) := by kernel_rfl
@[simp] theorem isiI_str_tuple : isiI cs S [(.str s), .ty "tuple"] = some (.bl false) := by kernel_rfl
@[simp] theorem isiG_str_tuple : isiG S [(.str s), .ty "tuple"] = some (.bl false) := by kernel_rfl
@[simp] theorem isiI_str_list : isiI cs S [(.str s), .ty "list"] = some (.bl false) := by kernel_rfl
@[simp] theorem isiG_str_list : isiG S [(.str s), .ty "list"] = some (.bl false) := by kernel_rfl
@[simp] theorem isiI_str_int : isiI cs S [(.str s), .ty "int"] = some (.bl false) := by kernel_rfl
@[simp] theorem isiG_str_int : isiG S [(.str s), .ty "int"] = some (.bl false) := by kernel_rfl
@[simp] theorem isiI_str_bool : isiI cs S [(.str s), .ty "bool"] = some (.bl false) := by kernel_rfl
@[simp] theorem isiG_str_bool : isiG S [(.str s), .ty "bool"] = some (.bl false) := by kernel_rfl
@[simp] theorem isiI_str_dict : isiI cs S [(.str s), .ty "dict"] = some (.bl false) := by kernel_rfl
@[simp] theorem isiG_str_dict : isiG S [(.str s), .ty "dict"] = some (.bl false) := by kernel_rfl
@[simp] theorem isiI_str_lt : isiI cs S [(.str s), .tup [.ty "list", .ty "tuple"]] = some (.bl false) := by kernel_rfl
@[simp] theorem isiG_str_lt : isiG S [(.str s), .tup [.ty "list", .ty "tuple"]] = some (.bl false) := by kernel_rfl
@[simp] theorem isiI_tup_str : isiI cs S [(.tup xs), .ty "str"] = some (.bl false) := by kernel_rfl
@[simp] theorem isiG_tup_str : isiG S [(.tup xs), .ty "str"] = some (.bl false) := by kernel_rfl
@[simp] theorem isiI_tup_tuple : isiI cs S [(.tup xs), .ty "tuple"] = some (.bl true) := by kernel_rfl
@[simp] theorem isiG_tup_tuple : isiG S [(.tup xs), .ty "tuple"] = some (.bl true) := by kernel_rfl
@[simp] theorem isiI_tup_list : isiI cs S [(.tup xs), .ty "list"] = some (.bl false) := by kernel_rfl
@[simp] theorem isiG_tup_list : isiG S [(.tup xs), .ty "list"] = some (.bl false) := by kernel_rfl
@[simp] theorem isiI_tup_int : isiI cs S [(.tup xs), .ty "int"] = some (.bl false) := by kernel_rfl
@[simp] theorem isiG_tup_int : isiG S [(.tup xs), .ty "int"] = some (.bl false) := by kernel_rfl
@[simp] theorem isiI_tup_bool : isiI cs S [(.tup xs), .ty "bool"] = some (.bl false) := by kernel_rfl
@[simp] theorem isiG_tup_bool : isiG S [(.tup xs), .ty "bool"] = some (.bl false) := by kernel_rfl
@[simp] theorem isiI_tup_dict : isiI cs S [(.tup xs), .ty "dict"] = some (.bl false) := by kernel_rfl
@[simp] theorem isiG_tup_dict : isiG S [(.tup xs), .ty "dict"] = some (.bl false) := by kernel_rfl
@[simp] theorem isiI_tup_lt : isiI cs S [(.tup xs), .tup [.ty "list", .ty "tuple"]] = some (.bl true) := by kernel_rfl
@[simp] theorem isiG_tup_lt : isiG S [(.tup xs), .tup [.ty "list", .ty "tuple"]] = some (.bl true) := by kernel_rfl
@[simp] theorem isiI_lst_str : isiI cs S [(.lst xs), .ty "str"] = some (.bl false) := by kernel_rfl
@[simp] theorem isiG_lst_str : isiG S [(.lst xs), .ty "str"] = some (.bl false) := by kernel_rfl
@[simp] theorem isiI_lst_tuple : isiI cs S [(.lst xs), .ty "tuple"] = some (.bl false) := by kernel_rfl
@[simp] theorem isiG_lst_tuple : isiG S [(.lst xs), .ty "tuple"] = some (.bl false) := by kernel_rfl
@[simp] theorem isiI_lst_list : isiI cs S [(.lst xs), .ty "list"] = some (.bl true) := by kernel_rfl
@[simp] theorem isiG_lst_list : isiG S [(.lst xs), .ty "list"] = some (.bl true) := by kernel_rfl
@[simp] theorem isiI_lst_int : isiI cs S [(.lst xs), .ty "int"] = some (.bl false) := by kernel_rfl
@[simp] theorem isiG_lst_int : isiG S [(.lst xs), .ty "int"] = some (.bl false) := by kernel_rfl
@[simp] theorem isiI_lst_bool : isiI cs S [(.lst xs), .ty "bool"] = some (.bl false) := by kernel_rfl
@[simp] theorem isiG_lst_bool : isiG S [(.lst xs), .ty "bool"] = some (.bl false) := by kernel_rfl
@[simp] theorem isiI_lst_dict : isiI cs S [(.lst xs), .ty "dict"] = some (.bl false) := by kernel_rfl
@[simp] theorem isiG_lst_dict : isiG S [(.lst xs), .ty "dict"] = some (.bl false) := by kernel_rfl
@[simp] theorem isiI_lst_lt : isiI cs S [(.lst xs), .tup [.ty "list", .ty "tuple"]] = some (.bl true) := by kernel_rfl
@[simp] theorem isiG_lst_lt : isiG S [(.lst xs), .tup [.ty "list", .ty "tuple"]] = some (.bl true) := by kernel_rfl
@[simp] theorem isiI_fz_str : isiI cs S [(.fz xs), .ty "str"] = some (.bl false) := by kernel_rfl
@[simp] theorem isiG_fz_str : isiG S [(.fz xs), .ty "str"] = some (.bl false) := by kernel_rfl
@[simp] theorem isiI_fz_tuple : isiI cs S [(.fz xs), .ty "tuple"] = some (.bl false) := by kernel_rfl
@[simp] theorem isiG_fz_tuple : isiG S [(.fz xs), .ty "tuple"] = some (.bl false) := by kernel_rfl
@[simp] theorem isiI_fz_list : isiI cs S [(.fz xs), .ty "list"] = some (.bl true) := by kernel_rfl
@[simp] theorem isiG_fz_list : isiG S [(.fz xs), .ty "list"] = some (.bl true) := by kernel_rfl
@[simp] theorem isiI_fz_int : isiI cs S [(.fz xs), .ty "int"] = some (.bl false) := by kernel_rfl
@[simp] theorem isiG_fz_int : isiG S [(.fz xs), .ty "int"] = some (.bl false) := by kernel_rfl
@[simp] theorem isiI_fz_bool : isiI cs S [(.fz xs), .ty "bool"] = some (.bl false) := by kernel_rfl
@[simp] theorem isiG_fz_bool : isiG S [(.fz xs), .ty "bool"] = some (.bl false) := by kernel_rfl
@[simp] theorem isiI_fz_dict : isiI cs S [(.fz xs), .ty "dict"] = some (.bl false) := by kernel_rfl
@[simp] theorem isiG_fz_dict : isiG S [(.fz xs), .ty "dict"] = some (.bl false) := by kernel_rfl
@[simp] theorem isiI_fz_lt : isiI cs S [(.fz xs), .tup [.ty "list", .ty "tuple"]] = some (.bl true) := by kernel_rfl
@[simp] theorem isiG_fz_lt : isiG S [(.fz xs), .tup [.ty "list", .ty "tuple"]] = some (.bl true) := by kernel_rfl
@[simp] theorem isiI_dct0_str : isiI cs S [(.dct []), .ty "str"] = some (.bl false) := by kernel_rfl
@[simp] theorem isiG_dct0_str : isiG S [(.dct []), .ty "str"] = some (.bl false) := by kernel_rfl
@[simp] theorem isiI_dct0_tuple : isiI cs S [(.dct []), .ty "tuple"] = some (.bl false) := by kernel_rfl
@[simp] theorem isiG_dct0_tuple : isiG S [(.dct []), .ty "tuple"] = some (.bl false) := by kernel_rfl
@[simp] theorem isiI_dct0_list : isiI cs S [(.dct []), .ty "list"] = some (.bl false) := by kernel_rfl
@[simp] theorem isiG_dct0_list : isiG S [(.dct []), .ty "list"] = some (.bl false) := by kernel_rfl
@[simp] theorem isiI_dct0_int : isiI cs S [(.dct []), .ty "int"] = some (.bl false) := by kernel_rfl
@[simp] theorem isiG_dct0_int : isiG S [(.dct []), .ty "int"] = some (.bl false) := by kernel_rfl
@[simp] theorem isiI_dct0_bool : isiI cs S [(.dct []), .ty "bool"] = some (.bl false) := by kernel_rfl
@[simp] theorem isiG_dct0_bool : isiG S [(.dct []), .ty "bool"] = some (.bl false) := by kernel_rfl
@[simp] theorem isiI_dct0_dict : isiI cs S [(.dct []), .ty "dict"] = some (.bl true) := by kernel_rfl
@[simp] theorem isiG_dct0_dict : isiG S [(.dct []), .ty "dict"] = some (.bl true) := by kernel_rfl
@[simp] theorem isiI_dct0_lt : isiI cs S [(.dct []), .tup [.ty "list", .ty "tuple"]] = some (.bl false) := by kernel_rfl
@[simp] theorem isiG_dct0_lt : isiG S [(.dct []), .tup [.ty "list", .ty "tuple"]] = some (.bl false) := by kernel_rfl
end
end DL
/-! the mirrors, printed by gen.py -/
namespace K05
open PySem L2 DL
def top (i : Nat) : Stmt := PySem.Challenge.pw_tokenreads_k05_books_told.main.body.getD i (.Pass ⟨0, 0, 0, 0⟩)
def d_READ : D := (.str "read")
def d_WRITE : D := (.str "write")
def d_HAND : D := (.str "hand")
def d_LEADS : D := (.str "leads")
def d_FOLLOWS : D := (.str "follows")
def d_ANY : D := (.str "any")
def d_WAIT : D := (.str "wait")
def d_NOTHING : D := (.str "nothing")
def d_MOST_ROWS : D := (.int 40)
def d_FORMS : D := (.tup [(.str "termed"), (.str "bare")])
def d_SCOPES : D := (.tup [(.str "all"), (.str "key")])
def d_DEED_WORDS : D := (.tup [(.str "read"), (.str "write"), (.str "hand")])
def d_AT_SERVERS : D := (.tup [(.str "none"), (.str "safe"), (.str "held"), (.str "behind"), (.str "lost")])
def d_BETWEEN_MARKS : D := (.tup [(.str "none"), (.str "first"), (.str "same"), (.str "elder"), (.str "newer")])
def d_READ_ACTIONS : D := (.tup [(.str "answer"), (.str "safe"), (.str "ask"), (.str "wait"), (.str "tell")])
def d_READ_KEEPS : D := (.tup [(.str "nothing"), (.str "raise seen"), (.str "raise end"), (.str "put seen"), (.str "put end")])
def d_WRITE_ACTIONS : D := (.tup [(.str "take"), (.str "sure"), (.str "wait"), (.str "tell")])
def d_WRITE_KEEPS : D := (.tup [(.str "nothing"), (.str "raise"), (.str "put")])
def d_HAND_ACTIONS : D := (.tup [(.str "join"), (.str "put"), (.str "drop"), (.str "wait"), (.str "tell")])
abbrev CS : List Nat := [4]
def ca1 : Nat → Option Bool := fun c => match c with | 1 => some true | 2 => some false | _ => none
def ca2 : Nat → Option Bool := fun c => match c with | 1 => some false | 2 => some true | _ => none
def m__law_cask : MS := (sSeq (sSet 2 (mIf (mTst (m2 ltO (mVar 1) (mN lenG (aCons (mVar 0) aNil)))) (m2 ixO (mVar 0) (mVar 1)) (mC (.int 0))))
  (sRet (mLstO (aCons (mN maxG (aCons (mC (.int 0)) (aCons (m2 subO (mN absG (aCons (mVar 2) aNil)) (m2 powO (mC (.int 10)) (mC (.int 18)))) aNil))) (aCons (m2 addO (m2 addO (m2 mulO (m2 modO (mN intG (aCons (mVar 2) aNil)) (m2 addO (m2 powO (mC (.int 10)) (mC (.int 38))) (mC (.int 133)))) (mC (.int 59))) (m2 mulO (mC (.int 61)) (mVar 1))) (mC (.int 23))) (aCons (mC (.int 0)) aNil))))))
def F__law_cask : Mi := runD 3 m__law_cask
def m__law_tap : MS := (sSeq (sIf (mTst (m2 gtO (m2 ixO (mVar 0) (mC (.int 0))) (mC (.int 0))))
  (sSeq (sSet 2 (m2 modO (mN intG (aCons (m2 ixO (mVar 0) (mC (.int 0))) aNil)) (mVar 1)))
  (sSeq (sSub (m2 fdivO (m2 ixO (mVar 0) (mC (.int 0))) (mVar 1)) (mVar 0) (mC (.int 0)))
  (sRet (mVar 2))))
  sNil)
  (sSeq (sSub (m2 addO (m2 ixO (mVar 0) (mC (.int 2))) (mC (.int 1))) (mVar 0) (mC (.int 2)))
  (sSeq (sSet 3 (m2 modO (m2 powO (mN intG (aCons (m2 addO (m2 ixO (mVar 0) (mC (.int 1))) (m2 mulO (mC (.int 30011)) (m2 ixO (mVar 0) (mC (.int 2))))) aNil)) (mC (.int 2))) (m2 addO (m2 powO (mC (.int 10)) (mC (.int 39))) (mC (.int 3)))))
  (sSeq (sSet 3 (m2 modO (m2 powO (mN intG (aCons (m2 addO (mVar 3) (m2 mulO (mC (.int 500009)) (m2 ixO (mVar 0) (mC (.int 2))))) aNil)) (mC (.int 3))) (m2 addO (m2 powO (mC (.int 10)) (mC (.int 40))) (mC (.int 121)))))
  (sRet (m2 modO (m2 fdivO (mVar 3) (mC (.int 131072))) (mVar 1)))))))
def F__law_tap : Mi := runD 4 m__law_tap
def m__law_book_words : MS := (sSeq (sSet 1 (mTup (aCons (mC (.str "none")) (aCons (mC (.str "safe")) (aCons (mC (.str "held")) (aCons (mC (.str "behind")) (aCons (mC (.str "lost")) aNil)))))))
  (sSeq (sIf (mTst (m2 eqO (mVar 0) (mC (.str "read"))))
  (sSeq (sSet 2 (mTup (aCons (mC (.str "nothing")) (aCons (mC (.str "raise seen")) (aCons (mC (.str "raise end")) (aCons (mC (.str "put seen")) (aCons (mC (.str "put end")) aNil)))))))
  (sRet (mTup (aCons (mTup (aCons (mC (.str "leads")) (aCons (mC (.str "follows")) aNil))) (aCons (mVar 1) (aCons (mTup (aCons (mC (.str "answer")) (aCons (mC (.str "safe")) (aCons (mC (.str "ask")) (aCons (mC (.str "wait")) (aCons (mC (.str "tell")) aNil)))))) (aCons (mVar 2) aNil)))))))
  sNil)
  (sSeq (sIf (mTst (m2 eqO (mVar 0) (mC (.str "write"))))
  (sRet (mTup (aCons (mTup (aCons (mC (.str "leads")) aNil)) (aCons (mVar 1) (aCons (mTup (aCons (mC (.str "take")) (aCons (mC (.str "sure")) (aCons (mC (.str "wait")) (aCons (mC (.str "tell")) aNil))))) (aCons (mTup (aCons (mC (.str "nothing")) (aCons (mC (.str "raise")) (aCons (mC (.str "put")) aNil)))) aNil))))))
  sNil)
  (sSeq (sSet 3 (mTup (aCons (mC (.str "none")) (aCons (mC (.str "first")) (aCons (mC (.str "same")) (aCons (mC (.str "elder")) (aCons (mC (.str "newer")) aNil)))))))
  (sRet (mTup (aCons (mTup (aCons (mC (.str "any")) aNil)) (aCons (mVar 3) (aCons (mTup (aCons (mC (.str "join")) (aCons (mC (.str "put")) (aCons (mC (.str "drop")) (aCons (mC (.str "wait")) (aCons (mC (.str "tell")) aNil)))))) (aCons (mTup (aCons (mC (.str "nothing")) aNil)) aNil))))))))))
def F__law_book_words : Mi := runD 4 m__law_book_words
def m__law_any_row : MS := (sSeq (sSet 1 (m2 ixO (mLst (aCons (mC (.str "read")) (aCons (mC (.str "read")) (aCons (mC (.str "write")) (aCons (mC (.str "hand")) aNil))))) (mCall F__law_tap (aCons (mVar 0) (aCons (mC (.int 4)) aNil)))))
  (sSeq (sPar 2 3 (aCons (mCall F__law_book_words (aCons (mVar 1) aNil)) (aCons (mLstO (aCons (mVar 1) aNil)) aNil)))
  (sSeq (sFor (iRange1 (mC (.int 4))) (bName 4)
  (sSeq (sSet 5 (m2 ixO (mVar 2) (mVar 4)))
  (sSeq (sIf (tAnd' (mTst (m2 ltO (mVar 4) (mC (.int 2)))) (mTst (m2 eqO (mCall F__law_tap (aCons (mVar 0) (aCons (mC (.int 3)) aNil))) (mC (.int 0)))))
  (sSet 5 (mTup (aCons (mC (.str "any")) aNil)))
  sNil)
  (sApp (mVar 3) (m2 ixO (mVar 5) (mCall F__law_tap (aCons (mVar 0) (aCons (mN lenG (aCons (mVar 5) aNil)) aNil))))))))
  (sRet (mN tupleG (aCons (mVar 3) aNil))))))
def F__law_any_row : Mi := runD 6 m__law_any_row
def m__law_good_rows : MS := (sSeq (sSet 1 (mLcO (iRange1 (mCall F__law_tap (aCons (mVar 0) (aCons (mC (.int 4)) aNil)))) (bName 2) mYes (mCall F__law_any_row (aCons (mVar 0) aNil)) [2]))
  (sSeq (sApp (mVar 1) (mTup (aCons (mC (.str "write")) (aCons (mC (.str "any")) (aCons (mC (.str "behind")) (aCons (mC (.str "wait")) (aCons (mC (.str "nothing")) aNil)))))))
  (sSeq (sApp (mVar 1) (mTup (aCons (mC (.str "write")) (aCons (mC (.str "any")) (aCons (mC (.str "lost")) (aCons (mC (.str "tell")) (aCons (mC (.str "nothing")) aNil)))))))
  (sSeq (sSet 1 (m2 addO (mVar 1) (mLst (aCons (mTup (aCons (mC (.str "write")) (aCons (mC (.str "any")) (aCons (mC (.str "any")) (aCons (m2 ixO (mLst (aCons (mC (.str "take")) (aCons (mC (.str "sure")) aNil))) (mCall F__law_tap (aCons (mVar 0) (aCons (mC (.int 2)) aNil)))) (aCons (mC (.str "raise")) aNil)))))) aNil))))
  (sSeq (sSet 1 (m2 addO (mVar 1) (mLst (aCons (mTup (aCons (mC (.str "read")) (aCons (mC (.str "any")) (aCons (mC (.str "behind")) (aCons (m2 ixO (mLst (aCons (mC (.str "wait")) (aCons (mC (.str "ask")) aNil))) (mCall F__law_tap (aCons (mVar 0) (aCons (mC (.int 2)) aNil)))) (aCons (mC (.str "nothing")) aNil)))))) aNil))))
  (sSeq (sSet 1 (m2 addO (mVar 1) (mLst (aCons (mTup (aCons (mC (.str "read")) (aCons (mC (.str "any")) (aCons (mC (.str "lost")) (aCons (mC (.str "tell")) (aCons (mC (.str "nothing")) aNil)))))) aNil))))
  (sSeq (sSet 1 (m2 addO (mVar 1) (mLst (aCons (mTup (aCons (mC (.str "read")) (aCons (mC (.str "any")) (aCons (mC (.str "any")) (aCons (m2 ixO (mLst (aCons (mC (.str "answer")) (aCons (mC (.str "safe")) aNil))) (mCall F__law_tap (aCons (mVar 0) (aCons (mC (.int 2)) aNil)))) (aCons (mC (.str "raise seen")) aNil)))))) aNil))))
  (sRet (m2 addO (mVar 1) (mLst (aCons (mTup (aCons (mC (.str "hand")) (aCons (mC (.str "any")) (aCons (mC (.str "any")) (aCons (m2 ixO (mLst (aCons (mC (.str "join")) (aCons (mC (.str "put")) (aCons (mC (.str "drop")) aNil)))) (mCall F__law_tap (aCons (mVar 0) (aCons (mC (.int 3)) aNil)))) (aCons (mC (.str "nothing")) aNil)))))) aNil)))))))))))
def F__law_good_rows : Mi := runD 3 m__law_good_rows
def m_is_word_of : MS := (sRet (mAnd (mN (isiI CS) (aCons (mVar 1) (aCons (mC (.ty "str")) aNil))) (m2 inD (mVar 1) (mVar 0))))
def F_is_word_of : Mi := runD 2 m_is_word_of
def m_check_form : MS := (sIf (tOr' (tNot' (mTru (mCall F_is_word_of (aCons (mC d_FORMS) (aCons (mVar 0) aNil))))) (tNot' (mTru (mCall F_is_word_of (aCons (mC d_SCOPES) (aCons (mVar 1) aNil))))))
  (sRaise 2)
  sNil)
def F_check_form : Mi := runD 2 m_check_form
def m_roles_of : MS := (sSeq (sIf (mTst (m2 eqO (mVar 0) (mC d_READ)))
  (sRet (mTup (aCons (mC d_LEADS) (aCons (mC d_FOLLOWS) aNil))))
  sNil)
  (sRet (mIf (mTst (m2 eqO (mVar 0) (mC d_WRITE))) (mTup (aCons (mC d_LEADS) aNil)) (mTup (aCons (mC d_ANY) aNil)))))
def F_roles_of : Mi := runD 1 m_roles_of
def m_relations_of : MS := (sRet (mIf (mTst (m2 eqO (mVar 0) (mC d_HAND))) (mC d_BETWEEN_MARKS) (mC d_AT_SERVERS)))
def F_relations_of : Mi := runD 1 m_relations_of
def m_actions_of : MS := (sSeq (sIf (mTst (m2 eqO (mVar 0) (mC d_READ)))
  (sRet (mC d_READ_ACTIONS))
  sNil)
  (sRet (mIf (mTst (m2 eqO (mVar 0) (mC d_WRITE))) (mC d_WRITE_ACTIONS) (mC d_HAND_ACTIONS))))
def F_actions_of : Mi := runD 1 m_actions_of
def m_keeps_of : MS := (sSeq (sIf (mTst (m2 eqO (mVar 0) (mC d_READ)))
  (sRet (mC d_READ_KEEPS))
  sNil)
  (sRet (mIf (mTst (m2 eqO (mVar 0) (mC d_WRITE))) (mC d_WRITE_KEEPS) (mTup (aCons (mC d_NOTHING) aNil)))))
def F_keeps_of : Mi := runD 1 m_keeps_of
def m_is_book_row : MS := (sSeq (sIf (tOr' (tNot' (mTru (mN (isiI CS) (aCons (mVar 0) (aCons (mC (.ty "tuple")) aNil))))) (tOr' (mTst (m2 neO (mN lenG (aCons (mVar 0) aNil)) (mC (.int 5)))) (tNot' (mTru (mCall F_is_word_of (aCons (mC d_DEED_WORDS) (aCons (m2 ixO (mVar 0) (mC (.int 0))) aNil)))))))
  (sRet (mC (.bl false)))
  sNil)
  (sSeq (sAsg (mVar 0) (bTup 5 (bCons (bName 1) (bCons (bName 2) (bCons (bName 3) (bCons (bName 4) (bCons (bName 5) bNil)))))))
  (sSeq (sIf (tOr' (tNot' (mTru (mCall F_is_word_of (aCons (mTup (aStar (mCall F_roles_of (aCons (mVar 1) aNil)) (aCons (mC d_ANY) aNil))) (aCons (mVar 2) aNil))))) (tNot' (mTru (mCall F_is_word_of (aCons (mTup (aStar (mCall F_relations_of (aCons (mVar 1) aNil)) (aCons (mC d_ANY) aNil))) (aCons (mVar 3) aNil))))))
  (sRet (mC (.bl false)))
  sNil)
  (sRet (mAnd (mCall F_is_word_of (aCons (mCall F_actions_of (aCons (mVar 1) aNil)) (aCons (mVar 4) aNil))) (mCall F_is_word_of (aCons (mCall F_keeps_of (aCons (mVar 1) aNil)) (aCons (mVar 5) aNil))))))))
def F_is_book_row : Mi := runD 6 m_is_book_row
def m_Book___init__ : MS := (sSeq (sDrop (mCall F_check_form (aCons (mVar 1) (aCons (mVar 2) aNil))))
  (sSeq (sIf (tOr' (tNot' (mTru (mN (isiI CS) (aCons (mVar 3) (aCons (mC (.ty "list")) aNil))))) (tOr' (mTst (m2 gtO (mN lenG (aCons (mVar 3) aNil)) (mC d_MOST_ROWS))) (tNot' (mTru (mN allG (aCons (mLcU (mVar 3) (bName 4) mYes (mCall F_is_book_row (aCons (mVar 4) aNil)) [4]) aNil))))))
  (sRaise 2)
  sNil)
  (sSeq (sFldD [4] "marks" (mVar 1) (mVar 0))
  (sSeq (sFldD [4] "scope" (mVar 2) (mVar 0))
  (sFldD [4] "kept_rows" (mN tupleG (aCons (mVar 3) aNil)) (mVar 0))))))
def F_Book___init__ : Mi := runD 5 m_Book___init__
def m_is_case : MS := (sSeq (sIf (tOr' (tNot' (mTru (mN (isiI CS) (aCons (mVar 0) (aCons (mC (.ty "tuple")) aNil))))) (tOr' (mTst (m2 neO (mN lenG (aCons (mVar 0) aNil)) (mC (.int 3)))) (tNot' (mTru (mCall F_is_word_of (aCons (mC d_DEED_WORDS) (aCons (m2 ixO (mVar 0) (mC (.int 0))) aNil)))))))
  (sRet (mC (.bl false)))
  sNil)
  (sSeq (sAsg (mVar 0) (bTup 3 (bCons (bName 1) (bCons (bName 2) (bCons (bName 3) bNil)))))
  (sRet (mAnd (mCall F_is_word_of (aCons (mCall F_roles_of (aCons (mVar 1) aNil)) (aCons (mVar 2) aNil))) (mCall F_is_word_of (aCons (mCall F_relations_of (aCons (mVar 1) aNil)) (aCons (mVar 3) aNil)))))))
def F_is_case : Mi := runD 4 m_is_case
def m_check_case : MS := (sIf (tNot' (mTru (mCall F_is_case (aCons (mVar 0) aNil))))
  (sRaise 1)
  sNil)
def F_check_case : Mi := runD 1 m_check_case
def m_is_for : MS := (sRet (mAnd (m2 eqO (m2 ixO (mVar 0) (mC (.int 0))) (m2 ixO (mVar 1) (mC (.int 0)))) (mAnd (m2 inD (m2 ixO (mVar 0) (mC (.int 1))) (mTup (aCons (m2 ixO (mVar 1) (mC (.int 1))) (aCons (mC d_ANY) aNil)))) (m2 inD (m2 ixO (mVar 0) (mC (.int 2))) (mTup (aCons (m2 ixO (mVar 1) (mC (.int 2))) (aCons (mC d_ANY) aNil)))))))
def F_is_for : Mi := runD 2 m_is_for
def m_told_for : MS := (sSeq (sFor (iSeq (mVar 0)) (bName 2)
  (sIf (mTru (mCall F_is_for (aCons (mVar 2) (aCons (mVar 1) aNil))))
  (sRet (mTup (aCons (m2 ixO (mVar 2) (mC (.int 3))) (aCons (m2 ixO (mVar 2) (mC (.int 4))) aNil))))
  sNil))
  (sRet (mTup (aCons (mC d_WAIT) (aCons (mC d_NOTHING) aNil)))))
def F_told_for : Mi := runD 3 m_told_for
def m_Book___getitem__ : MS := (sSeq (sDrop (mCall F_check_case (aCons (mVar 1) aNil)))
  (sRet (mCall F_told_for (aCons (mFld [4] "kept_rows" (mVar 0)) (aCons (mVar 1) aNil)))))
def F_Book___getitem__ : Mi := runD 2 m_Book___getitem__
def m_cases : MS := (sSeq (sSet 0 (mLst aNil))
  (sSeq (sFor (iSeq (mC d_DEED_WORDS)) (bName 1)
  (sFor (iSeq (mCall F_roles_of (aCons (mVar 1) aNil))) (bName 2)
  (sSet 0 (mLst (aStar (mVar 0) (aStar (mLc (iSeq (mCall F_relations_of (aCons (mVar 1) aNil))) (bName 3) mYes (mTup (aCons (mVar 1) (aCons (mVar 2) (aCons (mVar 3) aNil)))) [3]) aNil))))))
  (sRet (mVar 0))))
def F_cases : Mi := runD 4 m_cases
def m_Book_with_case : MS := (sSeq (sDrop (mCall F_check_case (aCons (mVar 1) aNil)))
  (sSeq (sIf (tOr' (tNot' (mTru (mCall F_is_word_of (aCons (mCall F_actions_of (aCons (m2 ixO (mVar 1) (mC (.int 0))) aNil)) (aCons (mVar 2) aNil))))) (tNot' (mTru (mCall F_is_word_of (aCons (mCall F_keeps_of (aCons (m2 ixO (mVar 1) (mC (.int 0))) aNil)) (aCons (mVar 3) aNil))))))
  (sRaise 2)
  sNil)
  (sSeq (sSet 4 (mLc (iSeq (mCall F_cases aNil)) (bName 5) mYes (mTup (aCons (mVar 5) (aCons (mIf (mTst (m2 eqO (mVar 5) (mVar 1))) (mTup (aCons (mVar 2) (aCons (mVar 3) aNil))) (mCall F_told_for (aCons (mFld [4] "kept_rows" (mVar 0)) (aCons (mVar 5) aNil)))) aNil))) [5]))
  (sRet (mMake 4 F_Book___init__ (aCons (mFld [4] "marks" (mVar 0)) (aCons (mFld [4] "scope" (mVar 0)) (aCons (mLc (iSeq (mVar 4)) (bTup 2 (bCons (bName 5) (bCons (bName 6) bNil))) mYes (mTup (aStar (mVar 5) (aCons (m2 ixO (mVar 6) (mC (.int 0))) (aCons (m2 ixO (mVar 6) (mC (.int 1))) aNil)))) [5, 6]) aNil))))))))
def F_Book_with_case : Mi := runD 7 m_Book_with_case
def m_Book_in_form : MS := (sRet (mMake 4 F_Book___init__ (aCons (mVar 1) (aCons (mVar 2) (aCons (mN listG (aCons (mFld [4] "kept_rows" (mVar 0)) aNil)) aNil)))))
def F_Book_in_form : Mi := runD 3 m_Book_in_form
def m__law_asked : MS := (sSeq (sIf (mTst (m2 eqO (mVar 0) (mC (.int 0))))
  (sRet (mMake 4 F_Book___init__ (aCons (m2 ixO (mVar 2) (mC (.int 0))) (aCons (m2 ixO (mVar 2) (mC (.int 1))) (aCons (m2 ixO (mVar 2) (mC (.int 2))) aNil)))))
  sNil)
  (sSeq (sIf (mTst (m2 eqO (mVar 0) (mC (.int 1))))
  (sRet (mMakeK 4 F_Book___init__ [0, 2, 3, 1] (aCons (m2 ixO (mVar 2) (mC (.int 2))) (aCons (m2 ixO (mVar 2) (mC (.int 0))) (aCons (m2 ixO (mVar 2) (mC (.int 1))) aNil)))))
  sNil)
  (sSeq (sIf (mTst (m2 eqO (mVar 0) (mC (.int 2))))
  (sRet (mSubI 4 F_Book___getitem__ (mVar 1) (mVar 2)))
  sNil)
  (sSeq (sIf (mTst (m2 eqO (mVar 0) (mC (.int 3))))
  (sRet (mMeth 4 "with_case" F_Book_with_case (mVar 1) (aCons (m2 ixO (mVar 2) (mC (.int 0))) (aCons (m2 ixO (mVar 2) (mC (.int 1))) (aCons (m2 ixO (mVar 2) (mC (.int 2))) aNil)))))
  sNil)
  (sSeq (sIf (mTst (m2 eqO (mVar 0) (mC (.int 4))))
  (sRet (mMethK 4 "with_case" F_Book_with_case [0, 2, 3, 1] (mVar 1) (aCons (m2 ixO (mVar 2) (mC (.int 2))) (aCons (m2 ixO (mVar 2) (mC (.int 0))) (aCons (m2 ixO (mVar 2) (mC (.int 1))) aNil)))))
  sNil)
  (sRet (mIf (mTst (m2 eqO (mVar 0) (mC (.int 5)))) (mMeth 4 "in_form" F_Book_in_form (mVar 1) (aCons (m2 ixO (mVar 2) (mC (.int 0))) (aCons (m2 ixO (mVar 2) (mC (.int 1))) aNil))) (mMethK 4 "in_form" F_Book_in_form [0, 2, 1] (mVar 1) (aCons (m2 ixO (mVar 2) (mC (.int 1))) (aCons (m2 ixO (mVar 2) (mC (.int 0))) aNil))))))))))
def F__law_asked : Mi := runD 3 m__law_asked
def m__law_said : MS := (sSeq (sAsg (mTup (aCons (mC .non) (aCons (mC (.bl true)) aNil))) (bTup 2 (bCons (bName 3) (bCons (bName 4) bNil))))
  (sSeq (sTry (sSet 3 (mCall F__law_asked (aCons (mVar 0) (aCons (mVar 1) (aCons (mVar 2) aNil)))))
  [⟨ca2, (some 5), fun e => (selX e 2 (sPar 3 4 (aCons (mC (.str "book")) (aCons (mAnd (mC (.bl true)) (mNot (mC (.bl (false || false))))) aNil)))
  sStuck)⟩, ⟨ca1, (some 5), fun e => (selX e 1 (sPar 3 4 (aCons (mC (.str "case")) (aCons (mAnd (mC (.bl true)) (mNot (mC (.bl (false || false))))) aNil)))
  sStuck)⟩])
  (sRet (mIf (mTru (mVar 4)) (mVar 3) (mC (.str "odd"))))))
def F__law_said : Mi := runD 6 m__law_said
def m__law_cases : MS := (sSeq (sSet 0 (mLst aNil))
  (sSeq (sFor (iSeq (mTup (aCons (mC (.str "read")) (aCons (mC (.str "write")) (aCons (mC (.str "hand")) aNil))))) (bName 1)
  (sSeq (sSet 2 (mCall F__law_book_words (aCons (mVar 1) aNil)))
  (sFor (iSeq (m2 ixO (mVar 2) (mC (.int 0)))) (bName 3)
  (sSet 0 (m2 addO (mVar 0) (mLc (iSeq (m2 ixO (mVar 2) (mC (.int 1)))) (bName 4) mYes (mTup (aCons (mVar 1) (aCons (mVar 3) (aCons (mVar 4) aNil)))) [4]))))))
  (sRet (mVar 0))))
def F__law_cases : Mi := runD 5 m__law_cases
def m__law_told : MS := (sSeq (sFor (iSeq (mVar 0)) (bName 2)
  (sIf (tAnd' (mTst (m2 eqO (m2 ixO (mVar 2) (mC (.int 0))) (m2 ixO (mVar 1) (mC (.int 0))))) (tAnd' (mTst (m2 inD (m2 ixO (mVar 2) (mC (.int 1))) (mTup (aCons (m2 ixO (mVar 1) (mC (.int 1))) (aCons (mC (.str "any")) aNil))))) (mTst (m2 inD (m2 ixO (mVar 2) (mC (.int 2))) (mTup (aCons (m2 ixO (mVar 1) (mC (.int 2))) (aCons (mC (.str "any")) aNil)))))))
  (sRet (mTup (aCons (m2 ixO (mVar 2) (mC (.int 3))) (aCons (m2 ixO (mVar 2) (mC (.int 4))) aNil))))
  sNil))
  (sRet (mTup (aCons (mC (.str "wait")) (aCons (mC (.str "nothing")) aNil)))))
def F__law_told : Mi := runD 3 m__law_told
def m_table_of_at_O : MS := (sSeq (sSet 1 (mLst aNil))
  (sSeq (sFor (iSeq (mCall F_cases aNil)) (bName 2)
  (sSeq (sAsg (mCall F_told_for (aCons (mVar 0) (aCons (mVar 2) aNil))) (bTup 2 (bCons (bName 3) (bCons (bName 4) bNil))))
  (sSet 1 (mLstO (aStar (mVar 1) (aCons (mTup (aCons (mVar 2) (aCons (mVar 3) (aCons (mVar 4) aNil)))) aNil))))))
  (sRet (mVar 1))))
def F_table_of_at_O : Mi := runD 5 m_table_of_at_O
def m_Book_table_at_O : MS := (sRet (mCall F_table_of_at_O (aCons (mFld [4] "kept_rows" (mVar 0)) aNil)))
def F_Book_table_at_O : Mi := runD 1 m_Book_table_at_O
def m_Book___len__ : MS := (sRet (mN lenG (aCons (mFld [4] "kept_rows" (mVar 0)) aNil)))
def F_Book___len__ : Mi := runD 1 m_Book___len__
def m_table_of : MS := (sSeq (sSet 1 (mLst aNil))
  (sSeq (sFor (iSeq (mCall F_cases aNil)) (bName 2)
  (sSeq (sAsg (mCall F_told_for (aCons (mVar 0) (aCons (mVar 2) aNil))) (bTup 2 (bCons (bName 3) (bCons (bName 4) bNil))))
  (sSet 1 (mLst (aStar (mVar 1) (aCons (mTup (aCons (mVar 2) (aCons (mVar 3) (aCons (mVar 4) aNil)))) aNil))))))
  (sRet (mVar 1))))
def F_table_of : Mi := runD 5 m_table_of
def m_Book_table : MS := (sRet (mCall F_table_of (aCons (mFld [4] "kept_rows" (mVar 0)) aNil)))
def F_Book_table : Mi := runD 1 m_Book_table
def m__law_agree (G : Mi) : MS := (sSeq (sIf (tOr' (mTru (mN (isiI CS) (aCons (mVar 0) (aCons (mC (.ty "bool")) aNil)))) (mTru (mN (isiI CS) (aCons (mVar 1) (aCons (mC (.ty "bool")) aNil)))))
  (sRet (mAnd (mN (isiI CS) (aCons (mVar 0) (aCons (mC (.ty "bool")) aNil))) (mAnd (mN (isiI CS) (aCons (mVar 1) (aCons (mC (.ty "bool")) aNil))) (m2 eqO (mVar 0) (mVar 1)))))
  sNil)
  (sSeq (sIf (tOr' (mTst (m2 neO (mN (isiI CS) (aCons (mVar 0) (aCons (mC (.ty "list")) aNil))) (mN (isiI CS) (aCons (mVar 1) (aCons (mC (.ty "list")) aNil))))) (mTst (m2 neO (mN (isiI CS) (aCons (mVar 0) (aCons (mC (.ty "tuple")) aNil))) (mN (isiI CS) (aCons (mVar 1) (aCons (mC (.ty "tuple")) aNil))))))
  (sRet (mC (.bl false)))
  sNil)
  (sSeq (sIf (tOr' (mTst (m2 neO (mN (isiI CS) (aCons (mVar 0) (aCons (mC (.ty "str")) aNil))) (mN (isiI CS) (aCons (mVar 1) (aCons (mC (.ty "str")) aNil))))) (mTst (m2 neO (mN (isiI CS) (aCons (mVar 0) (aCons (mC (.ty "int")) aNil))) (mN (isiI CS) (aCons (mVar 1) (aCons (mC (.ty "int")) aNil))))))
  (sRet (mC (.bl false)))
  sNil)
  (sSeq (sIf (mTru (mN (isiI CS) (aCons (mVar 1) (aCons (mTup (aCons (mC (.ty "list")) (aCons (mC (.ty "tuple")) aNil))) aNil))))
  (sSeq (sIf (mTst (m2 neO (mN lenG (aCons (mVar 0) aNil)) (mN lenG (aCons (mVar 1) aNil))))
  (sRet (mC (.bl false)))
  sNil)
  (sRet (m2 eqO (mLc (iRange1 (mN lenG (aCons (mVar 1) aNil))) (bName 2) (tNot' (mTru (mCall G (aCons (m2 ixO (mVar 0) (mVar 2)) (aCons (m2 ixO (mVar 1) (mVar 2)) aNil))))) (mVar 2) [2]) (mLst aNil))))
  sNil)
  (sRet (mAnd (m2 eqO (m2 isNO (mVar 0) (mC .non)) (m2 isNO (mVar 1) (mC .non))) (m2 eqO (mVar 0) (mVar 1))))))))
def F__law_agree : Nat → Mi
  | 0 => fun _ _ => .stuck
  | n + 1 => runD 3 (m__law_agree (F__law_agree n))
def m__law_book_right : MS := (sSeq (sSet 3 (mCall F__law_cases aNil))
  (sSeq (sSet 4 (mLc (iSeq (mVar 3)) (bName 8) mYes (mCall F__law_told (aCons (mVar 2) (aCons (mVar 8) aNil))) [8]))
  (sSeq (sSet 5 (mLc (iRange1 (mC (.int 20))) (bName 9) mYes (mTup (aCons (m2 ixO (mVar 3) (mVar 9)) (aCons (m2 ixO (m2 ixO (mVar 4) (mVar 9)) (mC (.int 0))) (aCons (m2 ixO (m2 ixO (mVar 4) (mVar 9)) (mC (.int 1))) aNil)))) [9]))
  (sSeq (sApp (mMeth 4 "table" F_Book_table_at_O (mVar 0) aNil) (mC .non))
  (sSeq (sSet 6 (mLst (aCons (mFld [4] "marks" (mVar 0)) (aCons (mFld [4] "scope" (mVar 0)) (aCons (mMeth 4 "table" F_Book_table (mVar 0) aNil) (aCons (mLenI 4 F_Book___len__ (aCons (mVar 0) aNil)) (aCons (mLc (iOwn 4 "kept_rows" (mVar 0)) (bName 10) mYes (mVar 10) [10]) aNil)))))))
  (sSeq (sSet 7 (mLst (aCons (m2 ixO (mVar 1) (mC (.int 0))) (aCons (m2 ixO (mVar 1) (mC (.int 1))) (aCons (mVar 5) (aCons (mN lenG (aCons (mVar 2) aNil)) (aCons (mVar 2) aNil)))))))
  (sRet (mAnd (mCall (F__law_agree 7) (aCons (mVar 6) (aCons (mVar 7) aNil))) (mCall (F__law_agree 7) (aCons (mLc (iSeq (mVar 3)) (bName 8) mYes (mCall F__law_said (aCons (mC (.int 2)) (aCons (mVar 0) (aCons (mVar 8) aNil)))) [8]) (aCons (mVar 4) aNil)))))))))))
def F__law_book_right : Mi := runD 11 m__law_book_right
def m__law_change_right : MS := (sSeq (sSet 4 (m2 ixO (mCall F__law_cases aNil) (mCall F__law_tap (aCons (mVar 0) (aCons (mC (.int 20)) aNil)))))
  (sSeq (sPar 5 6 (aCons (mCall F__law_book_words (aCons (m2 ixO (mVar 4) (mC (.int 0))) aNil)) (aCons (mLst (aCons (mC (.str "")) (aCons (mC (.str "Wait")) (aCons (mC (.str "any")) (aCons (mC .non) (aCons (mC (.int 1)) (aCons (mLst (aCons (mC (.str "wait")) aNil)) (aCons (mC (.str "nothing")) (aCons (mC (.str "join")) aNil))))))))) aNil)))
  (sSeq (sSet 6 (m2 addO (mVar 6) (mLst (aCons (mC (.str "raise seen")) (aCons (mC (.str "take")) aNil)))))
  (sSeq (sAsg (mTup (aCons (m2 ixO (m2 ixO (mVar 5) (mC (.int 2))) (mCall F__law_tap (aCons (mVar 0) (aCons (mN lenG (aCons (m2 ixO (mVar 5) (mC (.int 2))) aNil)) aNil)))) (aCons (m2 ixO (m2 ixO (mVar 5) (mC (.int 3))) (mCall F__law_tap (aCons (mVar 0) (aCons (mN lenG (aCons (m2 ixO (mVar 5) (mC (.int 3))) aNil)) aNil)))) aNil))) (bTup 2 (bCons (bName 7) (bCons (bName 8) bNil))))
  (sSeq (sFor (iSeq (mTup (aCons (mC (.int 3)) (aCons (mC (.int 4)) aNil)))) (bName 9)
  (sSeq (sSet 10 (mCall F__law_said (aCons (mVar 9) (aCons (mVar 1) (aCons (mTup (aCons (mVar 4) (aCons (mVar 7) (aCons (mVar 8) aNil)))) aNil)))))
  (sSeq (sSet 11 (mLc (iSeq (mCall F__law_cases aNil)) (bName 25) mYes (mTup (aCons (mVar 25) (aCons (mCall F__law_told (aCons (mVar 3) (aCons (mVar 25) aNil))) aNil))) [25]))
  (sSeq (sSet 12 (mLc (iSeq (mVar 11)) (bTup 2 (bCons (bName 25) (bCons (bName 26) bNil))) mYes (m2 addO (mVar 25) (mIf (mTst (m2 eqO (mVar 25) (mVar 4))) (mTup (aCons (mVar 7) (aCons (mVar 8) aNil))) (mVar 26))) [25, 26]))
  (sSeq (sIf (tOr' (mTru (mN (isiI CS) (aCons (mVar 10) (aCons (mC (.ty "str")) aNil)))) (tNot' (mTru (mCall F__law_book_right (aCons (mVar 10) (aCons (mVar 2) (aCons (mVar 12) aNil)))))))
  (sRet (mC (.bl false)))
  sNil)
  (sSeq (sSet 13 (m2 ixO (mCall F__law_cases aNil) (mCall F__law_tap (aCons (mVar 0) (aCons (mC (.int 20)) aNil)))))
  (sSeq (sSet 14 (mCall F__law_book_words (aCons (m2 ixO (mVar 13) (mC (.int 0))) aNil)))
  (sSeq (sSet 15 (mTup (aCons (m2 ixO (m2 ixO (mVar 14) (mC (.int 2))) (mCall F__law_tap (aCons (mVar 0) (aCons (mN lenG (aCons (m2 ixO (mVar 14) (mC (.int 2))) aNil)) aNil)))) (aCons (m2 ixO (m2 ixO (mVar 14) (mC (.int 3))) (mCall F__law_tap (aCons (mVar 0) (aCons (mN lenG (aCons (m2 ixO (mVar 14) (mC (.int 3))) aNil)) aNil)))) aNil))))
  (sSeq (sSet 16 (mCall F__law_said (aCons (mVar 9) (aCons (mVar 10) (aCons (mTup (aCons (mVar 13) (aCons (m2 ixO (mVar 15) (mC (.int 0))) (aCons (m2 ixO (mVar 15) (mC (.int 1))) aNil)))) aNil)))))
  (sSeq (sSet 17 (mLc (iSeq (mVar 12)) (bName 27) mYes (m2 addO (mSl (mVar 27) oNone (oSome (mC (.int 3)))) (mIf (mTst (m2 eqO (mSl (mVar 27) oNone (oSome (mC (.int 3)))) (mVar 13))) (mVar 15) (mSl (mVar 27) (oSome (mC (.int 3))) oNone))) [27]))
  (sSeq (sIf (tOr' (tNot' (mTru (mCall F__law_book_right (aCons (mVar 16) (aCons (mVar 2) (aCons (mVar 17) aNil)))))) (tNot' (mTru (mCall F__law_book_right (aCons (mVar 10) (aCons (mVar 2) (aCons (mVar 12) aNil)))))))
  (sRet (mC (.bl false)))
  sNil)
  (sSeq (sSet 18 (m2 ixO (mVar 6) (mCall F__law_tap (aCons (mVar 0) (aCons (mC (.int 10)) aNil)))))
  (sSeq (sBuild 19 (aCons (mCall F__law_said (aCons (mVar 9) (aCons (mVar 1) (aCons (mTup (aCons (mVar 4) (aCons (mVar 18) (aCons (mVar 8) aNil)))) aNil)))) aNil) (mCall F__law_said (aCons (mVar 9) (aCons (mVar 1) (aCons (mTup (aCons (mVar 4) (aCons (mVar 7) (aCons (mVar 18) aNil)))) aNil)))))
  (sSeq (sSet 20 (mLc (iSeq (mVar 19)) (bName 22) mYes (mN (isiI CS) (aCons (mVar 22) (aCons (mC (.ty "str")) aNil))) [22]))
  (sSeq (sIf (mTst (m2 neO (mVar 20) (mLst (aCons (m2 ninD (mVar 18) (m2 ixO (mVar 5) (mC (.int 2)))) (aCons (m2 ninD (mVar 18) (m2 ixO (mVar 5) (mC (.int 3)))) aNil)))))
  (sRet (mC (.bl false)))
  sNil)
  (sSeq (sIf (mTst (m2 neO (mLc (iSeq (mVar 19)) (bName 22) (tAnd' (mTru (mN (isiI CS) (aCons (mVar 22) (aCons (mC (.ty "str")) aNil)))) (mTst (m2 neO (mVar 22) (mC (.str "book"))))) (mVar 22) [22]) (mLst aNil)))
  (sRet (mC (.bl false)))
  sNil)
  (sSeq (sSet 21 (mLst (aCons (mSl (mVar 4) oNone (oSome (mC (.int 2)))) (aCons (mN listG (aCons (mVar 4) aNil)) (aCons (mTup (aCons (mC (.str "read")) (aCons (mC (.str "any")) (aCons (mC (.str "none")) aNil)))) (aCons (mC .non) (aCons (mC (.str "read")) (aCons (m2 addO (mVar 4) (mTup (aCons (mC (.str "")) aNil))) aNil))))))))
  (sSeq (sSet 21 (m2 addO (mVar 21) (mLst (aCons (mTup (aCons (mC (.str "hand")) (aCons (mC (.str "any")) (aCons (mC (.str "held")) aNil)))) (aCons (mTup (aCons (mC (.int 1)) (aCons (mC (.int 2)) (aCons (mC (.int 3)) aNil)))) aNil)))))
  (sSeq (sSet 21 (m2 addO (mVar 21) (mLst (aCons (mTup (aCons (mC (.str "read")) (aCons (mLst (aCons (mC (.str "leads")) aNil)) (aCons (mC (.str "none")) aNil)))) (aCons (mTup (aCons (mLst (aCons (mC (.str "read")) aNil)) (aCons (mC (.str "leads")) (aCons (mC (.str "none")) aNil)))) (aCons (mTup (aCons (mC (.dct [])) (aCons (mC (.str "leads")) (aCons (mC (.str "none")) aNil)))) aNil))))))
  (sSeq (sSet 22 (m2 ixO (mVar 21) (mCall F__law_tap (aCons (mVar 0) (aCons (mC (.int 11)) aNil)))))
  (sIf (mTst (m2 neO (mLst (aCons (mCall F__law_said (aCons (mVar 9) (aCons (mVar 1) (aCons (mTup (aCons (mVar 22) (aCons (mVar 18) (aCons (mC .non) aNil)))) aNil)))) (aCons (mCall F__law_said (aCons (mC (.int 2)) (aCons (mVar 1) (aCons (mVar 22) aNil)))) aNil))) (mLst (aCons (mC (.str "case")) (aCons (mC (.str "case")) aNil)))))
  (sRet (mC (.bl false)))
  sNil)))))))))))))))))))))
  (sSeq (sSet 23 (mTup (aCons (m2 ixO (mLst (aCons (mC (.str "termed")) (aCons (mC (.str "bare")) aNil))) (mCall F__law_tap (aCons (mVar 0) (aCons (mC (.int 2)) aNil)))) (aCons (m2 ixO (mLst (aCons (mC (.str "all")) (aCons (mC (.str "key")) aNil))) (mCall F__law_tap (aCons (mVar 0) (aCons (mC (.int 2)) aNil)))) aNil))))
  (sSeq (sSet 24 (mCall F__law_said (aCons (m2 addO (mC (.int 5)) (mCall F__law_tap (aCons (mVar 0) (aCons (mC (.int 2)) aNil)))) (aCons (mVar 1) (aCons (mVar 23) aNil)))))
  (sSeq (sSet 18 (m2 ixO (mLst (aCons (mC (.str "")) (aCons (mC (.str "Termed")) (aCons (mC .non) (aCons (mC (.int 1)) (aCons (mC (.str "key ")) (aCons (mLst (aCons (mC (.str "all")) aNil)) aNil))))))) (mCall F__law_tap (aCons (mVar 0) (aCons (mC (.int 6)) aNil)))))
  (sSeq (sSet 16 (mCall F__law_said (aCons (mC (.int 3)) (aCons (mVar 24) (aCons (mTup (aCons (mVar 4) (aCons (mVar 7) (aCons (mVar 8) aNil)))) aNil)))))
  (sSeq (sSet 12 (m2 addO (mLst (aCons (m2 addO (mVar 4) (mTup (aCons (mVar 7) (aCons (mVar 8) aNil)))) aNil)) (mVar 3)))
  (sSeq (sSet 12 (mLc (iSeq (mCall F__law_cases aNil)) (bName 25) mYes (m2 addO (mVar 25) (mCall F__law_told (aCons (mVar 12) (aCons (mVar 25) aNil)))) [25]))
  (sSeq (sIf (tOr' (tNot' (mTru (mCall F__law_book_right (aCons (mVar 16) (aCons (mVar 23) (aCons (mVar 12) aNil)))))) (tNot' (mTru (mCall F__law_book_right (aCons (mCall F__law_said (aCons (mC (.int 5)) (aCons (mVar 16) (aCons (mVar 2) aNil)))) (aCons (mVar 2) (aCons (mVar 12) aNil)))))))
  (sRet (mC (.bl false)))
  sNil)
  (sSeq (sIf (tOr' (tNot' (mTru (mCall F__law_book_right (aCons (mVar 24) (aCons (mVar 23) (aCons (mVar 3) aNil)))))) (mTst (m2 neO (mCall F__law_said (aCons (mC (.int 5)) (aCons (mVar 1) (aCons (mTup (aCons (mVar 18) (aCons (m2 ixO (mVar 23) (mC (.int 1))) aNil))) aNil)))) (mC (.str "book")))))
  (sRet (mC (.bl false)))
  sNil)
  (sRet (mAnd (m2 eqO (mCall F__law_said (aCons (mC (.int 6)) (aCons (mVar 1) (aCons (mTup (aCons (m2 ixO (mVar 23) (mC (.int 0))) (aCons (mVar 18) aNil))) aNil)))) (mC (.str "book"))) (mCall F__law_book_right (aCons (mVar 1) (aCons (mVar 2) (aCons (mVar 3) aNil)))))))))))))))))))
def F__law_change_right : Mi := runD 28 m__law_change_right
def m_Book___eq__ : MS := (sSeq (sIf (tOr' (tNot' (mTru (mN (isiI CS) (aCons (mVar 1) (aCons (mC (.cls 4)) aNil))))) (mTst (m2 neO (mTup (aCons (mFld [4] "marks" (mVar 0)) (aCons (mFld [4] "scope" (mVar 0)) aNil))) (mTup (aCons (mFld [4] "marks" (mVar 1)) (aCons (mFld [4] "scope" (mVar 1)) aNil))))))
  (sRet (mC (.bl false)))
  sNil)
  (sRet (m2 eqO (mCall F_table_of (aCons (mFld [4] "kept_rows" (mVar 0)) aNil)) (mCall F_table_of (aCons (mFld [4] "kept_rows" (mVar 1)) aNil)))))
def F_Book___eq__ : Mi := runD 2 m_Book___eq__
def m__law_bent_rows : MS := (sSeq (sSet 2 (mCall F__law_tap (aCons (mVar 0) (aCons (m2 addO (mN lenG (aCons (mVar 1) aNil)) (mC (.int 1))) aNil))))
  (sSeq (sSet 3 (mLst (aCons (mC (.str "")) (aCons (mC (.str "Any")) (aCons (mC (.str "none")) (aCons (mC (.str "held ")) (aCons (mC (.int 1)) (aCons (mLst (aCons (mC (.str "any")) aNil)) (aCons (mTup (aCons (mC (.str "any")) aNil)) (aCons (mC (.str "any")) (aCons (mC (.str "raise")) (aCons (mC (.str "join")) aNil))))))))))))
  (sSeq (sSet 4 (mLst (aCons (mTup (aCons (mC (.str "read")) (aCons (mC (.str "any")) (aCons (mC (.str "any")) (aCons (mC (.str "answer")) aNil))))) (aCons (mLst (aCons (mC (.str "read")) (aCons (mC (.str "any")) (aCons (mC (.str "any")) (aCons (mC (.str "answer")) (aCons (mC (.str "nothing")) aNil)))))) (aCons (mC (.str "row")) (aCons (mC .non) (aCons (mTup aNil) aNil)))))))
  (sSeq (sSet 4 (m2 addO (mVar 4) (mLst (aCons (mTup (aCons (mC (.str "hand")) (aCons (mC (.str "leads")) (aCons (mC (.str "none")) (aCons (mC (.str "join")) (aCons (mC (.str "nothing")) aNil)))))) (aCons (mTup (aCons (mC (.str "write")) (aCons (mC (.str "follows")) (aCons (mC (.str "any")) (aCons (mC (.str "take")) (aCons (mC (.str "raise")) aNil)))))) aNil)))))
  (sSeq (sIf (mTst (m2 neO (mVar 1) (mLst aNil)))
  (sSeq (sSet 5 (m2 ixO (mVar 1) (mCall F__law_tap (aCons (mVar 0) (aCons (mN lenG (aCons (mVar 1) aNil)) aNil)))))
  (sSeq (sSet 5 (mIf (tAnd' (mTru (mN (isiI CS) (aCons (mVar 5) (aCons (mC (.ty "tuple")) aNil)))) (mTst (m2 eqO (mN lenG (aCons (mVar 5) aNil)) (mC (.int 5))))) (mVar 5) (mTup (aCons (mC (.str "read")) (aCons (mC (.str "any")) (aCons (mC (.str "any")) (aCons (mC (.str "wait")) (aCons (mC (.str "nothing")) aNil))))))))
  (sSeq (sSet 6 (mCall F__law_tap (aCons (mVar 0) (aCons (mC (.int 5)) aNil))))
  (sSeq (sSet 7 (m2 addO (m2 addO (mSl (mVar 5) oNone (oSome (mVar 6))) (mTup (aCons (m2 ixO (mVar 3) (mCall F__law_tap (aCons (mVar 0) (aCons (mC (.int 10)) aNil)))) aNil))) (mSl (mVar 5) (oSome (m2 addO (mVar 6) (mC (.int 1)))) oNone)))
  (sSet 4 (m2 addO (mVar 4) (mLst (aCons (mVar 7) (aCons (mVar 7) (aCons (mVar 7) (aCons (m2 addO (mVar 5) (mTup (aCons (mC (.str "nothing")) aNil))) aNil)))))))))))
  sNil)
  (sRet (m2 addO (m2 addO (mSl (mVar 1) oNone (oSome (mVar 2))) (mLst (aCons (m2 ixO (mVar 4) (mCall F__law_tap (aCons (mVar 0) (aCons (mN lenG (aCons (mVar 4) aNil)) aNil)))) aNil))) (mSl (mVar 1) (oSome (mVar 2)) oNone))))))))
def F__law_bent_rows : Mi := runD 8 m__law_bent_rows
def m__law_row_good : MS := (sSeq (sIf (tOr' (tNot' (mTru (mN (isiI CS) (aCons (mVar 0) (aCons (mC (.ty "tuple")) aNil))))) (tOr' (mTst (m2 neO (mN lenG (aCons (mVar 0) aNil)) (mC (.int 5)))) (mTst (m2 neO (mLc (iSeq (mVar 0)) (bName 3) (tNot' (mTru (mN (isiI CS) (aCons (mVar 3) (aCons (mC (.ty "str")) aNil))))) (mVar 3) [3]) (mLst aNil)))))
  (sRet (mC (.bl false)))
  sNil)
  (sSeq (sIf (mTst (m2 ninD (m2 ixO (mVar 0) (mC (.int 0))) (mTup (aCons (mC (.str "read")) (aCons (mC (.str "write")) (aCons (mC (.str "hand")) aNil))))))
  (sRet (mC (.bl false)))
  sNil)
  (sSeq (sSet 1 (mCall F__law_book_words (aCons (m2 ixO (mVar 0) (mC (.int 0))) aNil)))
  (sSeq (sSet 2 (mLc (iRange1 (mC (.int 4))) (bName 4) (tAnd' (mTst (m2 ninD (m2 ixO (mVar 0) (m2 addO (mVar 4) (mC (.int 1)))) (m2 ixO (mVar 1) (mVar 4)))) (tNot' (tAnd' (mTst (m2 ltO (mVar 4) (mC (.int 2)))) (mTst (m2 eqO (m2 ixO (mVar 0) (m2 addO (mVar 4) (mC (.int 1)))) (mC (.str "any"))))))) (mVar 4) [4]))
  (sRet (m2 eqO (mVar 2) (mLst aNil)))))))
def F__law_row_good : Mi := runD 5 m__law_row_good
def m__law_book_due : MS := (sSeq (sIf (tOr' (tNot' (mTru (mN (isiI CS) (aCons (m2 ixO (mVar 0) (mC (.int 0))) (aCons (mC (.ty "str")) aNil))))) (mTst (m2 ninD (m2 ixO (mVar 0) (mC (.int 0))) (mTup (aCons (mC (.str "termed")) (aCons (mC (.str "bare")) aNil))))))
  (sRet (mC (.str "book")))
  sNil)
  (sSeq (sIf (tOr' (tNot' (mTru (mN (isiI CS) (aCons (m2 ixO (mVar 0) (mC (.int 1))) (aCons (mC (.ty "str")) aNil))))) (mTst (m2 ninD (m2 ixO (mVar 0) (mC (.int 1))) (mTup (aCons (mC (.str "all")) (aCons (mC (.str "key")) aNil))))))
  (sRet (mC (.str "book")))
  sNil)
  (sSeq (sIf (tOr' (tNot' (mTru (mN (isiI CS) (aCons (m2 ixO (mVar 0) (mC (.int 2))) (aCons (mC (.ty "list")) aNil))))) (tOr' (mTst (m2 gtO (mN lenG (aCons (m2 ixO (mVar 0) (mC (.int 2))) aNil)) (mC (.int 40)))) (mTst (m2 neO (mLc (iSeq (m2 ixO (mVar 0) (mC (.int 2)))) (bName 1) (tNot' (mTru (mCall F__law_row_good (aCons (mVar 1) aNil)))) (mVar 1) [1]) (mLst aNil)))))
  (sRet (mC (.str "book")))
  sNil)
  (sRet (mC .non)))))
def F__law_book_due : Mi := runD 2 m__law_book_due
def m_cases_at_O : MS := (sSeq (sSet 0 (mLst aNil))
  (sSeq (sFor (iSeq (mC d_DEED_WORDS)) (bName 1)
  (sFor (iSeq (mCall F_roles_of (aCons (mVar 1) aNil))) (bName 2)
  (sSet 0 (mLstO (aStar (mVar 0) (aStar (mLc (iSeq (mCall F_relations_of (aCons (mVar 1) aNil))) (bName 3) mYes (mTup (aCons (mVar 1) (aCons (mVar 2) (aCons (mVar 3) aNil)))) [3]) aNil))))))
  (sRet (mVar 0))))
def F_cases_at_O : Mi := runD 4 m_cases_at_O
def m_law : MS := (sSeq (sFor (iRange1 (mN maxG (aCons (mC (.int 1)) (aCons (mN minG (aCons (mC (.int 2)) (aCons (mN lenG (aCons (mVar 0) aNil)) aNil))) aNil)))) (bName 1)
  (sSeq (sSet 2 (mCall F__law_cask (aCons (mVar 0) (aCons (mVar 1) aNil))))
  (sFor (iRange1 (mC (.int 4))) (bName 3)
  (sSeq (sSet 4 (mLc (iRange1 (mCall F__law_tap (aCons (mVar 2) (aCons (mC (.int 41)) aNil)))) (bName 18) mYes (mCall F__law_any_row (aCons (mVar 2) aNil)) [18]))
  (sSeq (sIf (mTst (m2 eqO (m2 oddO (mVar 3) (mC (.int 1))) (mC (.int 0))))
  (sSet 4 (mCall F__law_good_rows (aCons (mVar 2) aNil)))
  sNil)
  (sSeq (sSet 5 (mTup (aCons (m2 ixO (mLst (aCons (mC (.str "termed")) (aCons (mC (.str "bare")) aNil))) (mCall F__law_tap (aCons (mVar 2) (aCons (mC (.int 2)) aNil)))) (aCons (m2 ixO (mLst (aCons (mC (.str "all")) (aCons (mC (.str "key")) aNil))) (mCall F__law_tap (aCons (mVar 2) (aCons (mC (.int 2)) aNil)))) aNil))))
  (sSeq (sSet 6 (mListO (aCons (mVar 4) aNil)))
  (sSeq (sPar 7 8 (aCons (mCall F__law_said (aCons (m2 oddO (mVar 3) (mC (.int 1))) (aCons (mC .non) (aCons (m2 addO (mVar 5) (mTup (aCons (mVar 6) aNil))) aNil)))) (aCons (mMake 4 F_Book___init__ (aCons (m2 ixO (mVar 5) (mC (.int 0))) (aCons (m2 ixO (mVar 5) (mC (.int 1))) (aCons (mCall F__law_good_rows (aCons (mVar 2) aNil)) aNil)))) aNil)))
  (sSeq (sApp (mVar 6) (mC .non))
  (sSeq (sIf (tNot' (mTru (mCall F__law_book_right (aCons (mVar 7) (aCons (mVar 5) (aCons (mVar 4) aNil))))))
  (sRet (mC (.bl false)))
  sNil)
  (sSeq (sIf (tNot' (mTru (mCall F__law_change_right (aCons (mVar 2) (aCons (mVar 7) (aCons (mVar 5) (aCons (mVar 4) aNil)))))))
  (sRet (mC (.bl false)))
  sNil)
  (sSeq (sSet 9 (m2 eqO (mMeth 4 "table" F_Book_table (mVar 7) aNil) (mMeth 4 "table" F_Book_table (mVar 8) aNil)))
  (sSeq (sSet 10 (mMake 4 F_Book___init__ (aCons (m2 ixO (mVar 5) (mC (.int 0))) (aCons (m2 ixO (mVar 5) (mC (.int 1))) (aCons (mLc (iSeq (mMeth 4 "table" F_Book_table (mVar 7) aNil)) (bName 19) mYes (m2 addO (m2 ixO (mVar 19) (mC (.int 0))) (mTup (aCons (m2 ixO (mVar 19) (mC (.int 1))) (aCons (m2 ixO (mVar 19) (mC (.int 2))) aNil)))) [19]) aNil)))))
  (sSeq (sSet 11 (mLst (aCons (mEqI 4 F_Book___eq__ (mVar 7) (mVar 8)) (aCons (mEqI 4 F_Book___eq__ (mVar 8) (mVar 7)) (aCons (mNeI 4 F_Book___eq__ (mVar 7) (mVar 8)) (aCons (mEqI 4 F_Book___eq__ (mVar 7) (mVar 10)) aNil))))))
  (sSeq (sSet 11 (m2 addO (mVar 11) (mLst (aCons (mEqI 4 F_Book___eq__ (mVar 7) (mVar 4)) aNil))))
  (sSeq (sIf (tNot' (mTru (mCall (F__law_agree 7) (aCons (mVar 11) (aCons (mLst (aCons (mVar 9) (aCons (mVar 9) (aCons (mNot (mVar 9)) (aCons (mC (.bl true)) (aCons (mC (.bl false)) aNil)))))) aNil)))))
  (sRet (mC (.bl false)))
  sNil)
  (sSeq (sIf (mTst (m2 neO (mEqI 4 F_Book___eq__ (mVar 7) (mMeth 4 "in_form" F_Book_in_form (mVar 7) (aCons (mC (.str "termed")) (aCons (mC (.str "all")) aNil)))) (m2 eqO (mVar 5) (mTup (aCons (mC (.str "termed")) (aCons (mC (.str "all")) aNil))))))
  (sRet (mC (.bl false)))
  sNil)
  (sFor (iRange1 (mC (.int 8))) (bName 12)
  (sSeq (sSet 13 (mCall F__law_bent_rows (aCons (mVar 2) (aCons (mVar 4) aNil))))
  (sSeq (sSet 13 (mIf (mTst (m2 eqO (mCall F__law_tap (aCons (mVar 2) (aCons (mC (.int 3)) aNil))) (mC (.int 0)))) (mCall F__law_bent_rows (aCons (mVar 2) (aCons (mVar 13) aNil))) (mVar 13)))
  (sSeq (sSet 13 (mIf (mTst (m2 eqO (mCall F__law_tap (aCons (mVar 2) (aCons (mC (.int 9)) aNil))) (mC (.int 0)))) (m2 ixO (mLst (aCons (mN tupleG (aCons (mVar 13) aNil)) (aCons (mC .non) (aCons (mC (.str "rows")) aNil)))) (mCall F__law_tap (aCons (mVar 2) (aCons (mC (.int 3)) aNil)))) (mVar 13)))
  (sSeq (sSet 14 (mTup (aCons (m2 ixO (mLst (aCons (mC (.str "termed")) (aCons (mC (.str "Bare")) (aCons (mC .non) (aCons (mTup (aCons (mC (.str "termed")) aNil)) aNil))))) (mN maxG (aCons (mC (.int 0)) (aCons (m2 subO (mCall F__law_tap (aCons (mVar 2) (aCons (mC (.int 7)) aNil))) (mC (.int 3))) aNil)))) aNil)))
  (sSeq (sSet 14 (m2 addO (mVar 14) (mTup (aCons (m2 ixO (mLst (aCons (mC (.str "all")) (aCons (mC (.str "any")) (aCons (mLst (aCons (mC (.str "all")) aNil)) (aCons (mC (.int 1)) aNil))))) (mN maxG (aCons (mC (.int 0)) (aCons (m2 subO (mCall F__law_tap (aCons (mVar 2) (aCons (mC (.int 7)) aNil))) (mC (.int 3))) aNil)))) (aCons (mVar 13) aNil)))))
  (sSeq (sSet 15 (mCall F__law_book_due (aCons (mVar 14) aNil)))
  (sFor (iSeq (mTup (aCons (mC (.int 0)) (aCons (mC (.int 1)) aNil)))) (bName 16)
  (sSeq (sSet 17 (mCall F__law_said (aCons (mVar 16) (aCons (mC .non) (aCons (mVar 14) aNil)))))
  (sIf (tOr' (tAnd' (mTst (m2 notNO (mVar 15) (mC .non))) (mTst (m2 neO (mVar 17) (mVar 15)))) (tAnd' (mTst (m2 isNO (mVar 15) (mC .non))) (tNot' (mTru (mN (isiI CS) (aCons (mVar 17) (aCons (mC (.cls 4)) aNil)))))))
  (sRet (mC (.bl false)))
  sNil)))))))))))))))))))))))))))
  (sSeq (sApp (mCall F_cases_at_O aNil) (mC .non))
  (sRet (mCall (F__law_agree 7) (aCons (mCall F_cases aNil) (aCons (mCall F__law_cases aNil) aNil))))))
def F_law : Mi := runD 20 m_law
theorem ev__law_cask (a0 a1 : D) (S : Sto) : F__law_cask [a0, a1] S = (m__law_cask [some a0, some a1, none] S).fin := runD_fin (n := 3) (ms := m__law_cask) rfl
theorem ev__law_tap (a0 a1 : D) (S : Sto) : F__law_tap [a0, a1] S = (m__law_tap [some a0, some a1, none, none] S).fin := runD_fin (n := 4) (ms := m__law_tap) rfl
theorem ev__law_book_words (a0 : D) (S : Sto) : F__law_book_words [a0] S = (m__law_book_words [some a0, none, none, none] S).fin := runD_fin (n := 4) (ms := m__law_book_words) rfl
theorem ev__law_any_row (a0 : D) (S : Sto) : F__law_any_row [a0] S = (m__law_any_row [some a0, none, none, none, none, none] S).fin := runD_fin (n := 6) (ms := m__law_any_row) rfl
theorem ev__law_good_rows (a0 : D) (S : Sto) : F__law_good_rows [a0] S = (m__law_good_rows [some a0, none, none] S).fin := runD_fin (n := 3) (ms := m__law_good_rows) rfl
theorem ev_is_word_of (a0 a1 : D) (S : Sto) : F_is_word_of [a0, a1] S = (m_is_word_of [some a0, some a1] S).fin := runD_fin (n := 2) (ms := m_is_word_of) rfl
theorem ev_check_form (a0 a1 : D) (S : Sto) : F_check_form [a0, a1] S = (m_check_form [some a0, some a1] S).fin := runD_fin (n := 2) (ms := m_check_form) rfl
theorem ev_roles_of (a0 : D) (S : Sto) : F_roles_of [a0] S = (m_roles_of [some a0] S).fin := runD_fin (n := 1) (ms := m_roles_of) rfl
theorem ev_relations_of (a0 : D) (S : Sto) : F_relations_of [a0] S = (m_relations_of [some a0] S).fin := runD_fin (n := 1) (ms := m_relations_of) rfl
theorem ev_actions_of (a0 : D) (S : Sto) : F_actions_of [a0] S = (m_actions_of [some a0] S).fin := runD_fin (n := 1) (ms := m_actions_of) rfl
theorem ev_keeps_of (a0 : D) (S : Sto) : F_keeps_of [a0] S = (m_keeps_of [some a0] S).fin := runD_fin (n := 1) (ms := m_keeps_of) rfl
theorem ev_is_book_row (a0 : D) (S : Sto) : F_is_book_row [a0] S = (m_is_book_row [some a0, none, none, none, none, none] S).fin := runD_fin (n := 6) (ms := m_is_book_row) rfl
theorem ev_Book___init__ (a0 a1 a2 a3 : D) (S : Sto) : F_Book___init__ [a0, a1, a2, a3] S = (m_Book___init__ [some a0, some a1, some a2, some a3, none] S).fin := runD_fin (n := 5) (ms := m_Book___init__) rfl
theorem ev_is_case (a0 : D) (S : Sto) : F_is_case [a0] S = (m_is_case [some a0, none, none, none] S).fin := runD_fin (n := 4) (ms := m_is_case) rfl
theorem ev_check_case (a0 : D) (S : Sto) : F_check_case [a0] S = (m_check_case [some a0] S).fin := runD_fin (n := 1) (ms := m_check_case) rfl
theorem ev_is_for (a0 a1 : D) (S : Sto) : F_is_for [a0, a1] S = (m_is_for [some a0, some a1] S).fin := runD_fin (n := 2) (ms := m_is_for) rfl
theorem ev_told_for (a0 a1 : D) (S : Sto) : F_told_for [a0, a1] S = (m_told_for [some a0, some a1, none] S).fin := runD_fin (n := 3) (ms := m_told_for) rfl
theorem ev_Book___getitem__ (a0 a1 : D) (S : Sto) : F_Book___getitem__ [a0, a1] S = (m_Book___getitem__ [some a0, some a1] S).fin := runD_fin (n := 2) (ms := m_Book___getitem__) rfl
theorem ev_cases (S : Sto) : F_cases [] S = (m_cases [none, none, none, none] S).fin := runD_fin (n := 4) (ms := m_cases) rfl
theorem ev_Book_with_case (a0 a1 a2 a3 : D) (S : Sto) : F_Book_with_case [a0, a1, a2, a3] S = (m_Book_with_case [some a0, some a1, some a2, some a3, none, none, none] S).fin := runD_fin (n := 7) (ms := m_Book_with_case) rfl
theorem ev_Book_in_form (a0 a1 a2 : D) (S : Sto) : F_Book_in_form [a0, a1, a2] S = (m_Book_in_form [some a0, some a1, some a2] S).fin := runD_fin (n := 3) (ms := m_Book_in_form) rfl
theorem ev__law_asked (a0 a1 a2 : D) (S : Sto) : F__law_asked [a0, a1, a2] S = (m__law_asked [some a0, some a1, some a2] S).fin := runD_fin (n := 3) (ms := m__law_asked) rfl
theorem ev__law_said (a0 a1 a2 : D) (S : Sto) : F__law_said [a0, a1, a2] S = (m__law_said [some a0, some a1, some a2, none, none, none] S).fin := runD_fin (n := 6) (ms := m__law_said) rfl
theorem ev__law_cases (S : Sto) : F__law_cases [] S = (m__law_cases [none, none, none, none, none] S).fin := runD_fin (n := 5) (ms := m__law_cases) rfl
theorem ev__law_told (a0 a1 : D) (S : Sto) : F__law_told [a0, a1] S = (m__law_told [some a0, some a1, none] S).fin := runD_fin (n := 3) (ms := m__law_told) rfl
theorem ev_table_of_at_O (a0 : D) (S : Sto) : F_table_of_at_O [a0] S = (m_table_of_at_O [some a0, none, none, none, none] S).fin := runD_fin (n := 5) (ms := m_table_of_at_O) rfl
theorem ev_Book_table_at_O (a0 : D) (S : Sto) : F_Book_table_at_O [a0] S = (m_Book_table_at_O [some a0] S).fin := runD_fin (n := 1) (ms := m_Book_table_at_O) rfl
theorem ev_Book___len__ (a0 : D) (S : Sto) : F_Book___len__ [a0] S = (m_Book___len__ [some a0] S).fin := runD_fin (n := 1) (ms := m_Book___len__) rfl
theorem ev_table_of (a0 : D) (S : Sto) : F_table_of [a0] S = (m_table_of [some a0, none, none, none, none] S).fin := runD_fin (n := 5) (ms := m_table_of) rfl
theorem ev_Book_table (a0 : D) (S : Sto) : F_Book_table [a0] S = (m_Book_table [some a0] S).fin := runD_fin (n := 1) (ms := m_Book_table) rfl
theorem ev__law_agree (n : Nat) (a0 a1 : D) (S : Sto) : F__law_agree (n + 1) [a0, a1] S = (m__law_agree (F__law_agree n) [some a0, some a1, none] S).fin := runD_fin (n := 3) (ms := m__law_agree (F__law_agree n)) rfl
theorem ev__law_book_right (a0 a1 a2 : D) (S : Sto) : F__law_book_right [a0, a1, a2] S = (m__law_book_right [some a0, some a1, some a2, none, none, none, none, none, none, none, none] S).fin := runD_fin (n := 11) (ms := m__law_book_right) rfl
theorem ev__law_change_right (a0 a1 a2 a3 : D) (S : Sto) : F__law_change_right [a0, a1, a2, a3] S = (m__law_change_right [some a0, some a1, some a2, some a3, none, none, none, none, none, none, none, none, none, none, none, none, none, none, none, none, none, none, none, none, none, none, none, none] S).fin := runD_fin (n := 28) (ms := m__law_change_right) rfl
theorem ev_Book___eq__ (a0 a1 : D) (S : Sto) : F_Book___eq__ [a0, a1] S = (m_Book___eq__ [some a0, some a1] S).fin := runD_fin (n := 2) (ms := m_Book___eq__) rfl
theorem ev__law_bent_rows (a0 a1 : D) (S : Sto) : F__law_bent_rows [a0, a1] S = (m__law_bent_rows [some a0, some a1, none, none, none, none, none, none] S).fin := runD_fin (n := 8) (ms := m__law_bent_rows) rfl
theorem ev__law_row_good (a0 : D) (S : Sto) : F__law_row_good [a0] S = (m__law_row_good [some a0, none, none, none, none] S).fin := runD_fin (n := 5) (ms := m__law_row_good) rfl
theorem ev__law_book_due (a0 : D) (S : Sto) : F__law_book_due [a0] S = (m__law_book_due [some a0, none] S).fin := runD_fin (n := 2) (ms := m__law_book_due) rfl
theorem ev_cases_at_O (S : Sto) : F_cases_at_O [] S = (m_cases_at_O [none, none, none, none] S).fin := runD_fin (n := 4) (ms := m_cases_at_O) rfl
theorem ev_law (a0 : D) (S : Sto) : F_law [a0] S = (m_law [some a0, none, none, none, none, none, none, none, none, none, none, none, none, none, none, none, none, none, none, none] S).fin := runD_fin (n := 20) (ms := m_law) rfl
end K05
/-! the walk, printed by gen.py -/
namespace K05
open PySem L2 DL
abbrev UU (K : PySem.W.Frag) (C : Nat → Addr) : Uv := ⟨K, C, fun _ => 0, []⟩
theorem nf_fix {U : Uv} {i j : Nat} {a : Addr} (h : i ≠ j) : Nf (U.fix [(i, a)]) j := fun p hp => by
  rcases List.mem_singleton.mp hp with rfl
  exact h
theorem len1 {ms : MA} {n : Nat} (h : ∀ ρ S ds S1, ms ρ S = .ok ds S1 → ds.length = n) : ∀ ρ S ds S1, ms ρ S = .ok ds S1 → ds.length + 1 = n + 1 := fun ρ S ds S1 z => congrArg (· + 1) (h ρ S ds S1 z)
structure Txt (K : PySem.W.Frag) (mg : Str → Option Value) (C : Nat → Addr) : Prop where
  b_abs : mg "abs" = none
  b_all : mg "all" = none
  b_bool : mg "bool" = none
  b_int : mg "int" = none
  b_isinstance : mg "isinstance" = none
  b_iter : mg "iter" = none
  b_len : mg "len" = none
  b_list : mg "list" = none
  b_max : mg "max" = none
  b_min : mg "min" = none
  b_range : mg "range" = none
  b_str : mg "str" = none
  b_tuple : mg "tuple" = none
  g_READ : GC K mg (UU K C) "READ" d_READ
  g_WRITE : GC K mg (UU K C) "WRITE" d_WRITE
  g_HAND : GC K mg (UU K C) "HAND" d_HAND
  g_LEADS : GC K mg (UU K C) "LEADS" d_LEADS
  g_FOLLOWS : GC K mg (UU K C) "FOLLOWS" d_FOLLOWS
  g_ANY : GC K mg (UU K C) "ANY" d_ANY
  g_WAIT : GC K mg (UU K C) "WAIT" d_WAIT
  g_NOTHING : GC K mg (UU K C) "NOTHING" d_NOTHING
  g_MOST_ROWS : GC K mg (UU K C) "MOST_ROWS" d_MOST_ROWS
  g_FORMS : GC K mg (UU K C) "FORMS" d_FORMS
  g_SCOPES : GC K mg (UU K C) "SCOPES" d_SCOPES
  g_DEED_WORDS : GC K mg (UU K C) "DEED_WORDS" d_DEED_WORDS
  g_AT_SERVERS : GC K mg (UU K C) "AT_SERVERS" d_AT_SERVERS
  g_BETWEEN_MARKS : GC K mg (UU K C) "BETWEEN_MARKS" d_BETWEEN_MARKS
  g_READ_ACTIONS : GC K mg (UU K C) "READ_ACTIONS" d_READ_ACTIONS
  g_READ_KEEPS : GC K mg (UU K C) "READ_KEEPS" d_READ_KEEPS
  g_WRITE_ACTIONS : GC K mg (UU K C) "WRITE_ACTIONS" d_WRITE_ACTIONS
  g_WRITE_KEEPS : GC K mg (UU K C) "WRITE_KEEPS" d_WRITE_KEEPS
  g_HAND_ACTIONS : GC K mg (UU K C) "HAND_ACTIONS" d_HAND_ACTIONS
  k0 : ExCls K mg (C 0) "StoreError"
  k1 : ExCls K mg (C 1) "BadCase"
  k2 : ExCls K mg (C 2) "BadBook"
  k3 : ExCls K mg (C 3) "BadDeed"
  x1 : ∀ c b, ca1 c = some b → PySem.W.exmOne K (.ref (C c)) (.ref (C 1)) = some b
  x2 : ∀ c b, ca2 c = some b → PySem.W.exmOne K (.ref (C c)) (.ref (C 2)) = some b
  e1 : ExcC K (C 1)
  e2 : ExcC K (C 2)
  q1_0 : PySem.W.kitOne K (.ref (C 1)) (.ref (C 0)) = some true
  q1_2 : PySem.W.kitOne K (.ref (C 1)) (.ref (C 2)) = some false
  q1_3 : PySem.W.kitOne K (.ref (C 1)) (.ref (C 3)) = some false
  q2_0 : PySem.W.kitOne K (.ref (C 2)) (.ref (C 0)) = some true
  q2_1 : PySem.W.kitOne K (.ref (C 2)) (.ref (C 1)) = some false
  q2_3 : PySem.W.kitOne K (.ref (C 2)) (.ref (C 3)) = some false
  isc : IsC K (UU K C) CS
  c_Book : GC K mg (UU K C) "Book" (.cls 4)
  i4 : Cls K (C 4)
  n4_kept_rows : NoAttr K (C 4) "kept_rows"
  n4_marks : NoAttr K (C 4) "marks"
  n4_scope : NoAttr K (C 4) "scope"
  ne4 : PySem.W.findIn K (.ref (C 4)) "__ne__" = some (some (.builtin "object.__ne__"))
  ob4 : PySem.W.mroIn K (C 4) (.type "object") = some true
section
variable {P : Program} {w : World} {K : PySem.W.Frag} {mg : Str → Option Value} {base : Heap} {C : Nat → Addr}
theorem sc__law_cask : FnScope ["script", "at", "cell"] ["script", "at"] (defScope (top 58)) := ⟨rfl, rfl, rfl, by decide +kernel, rfl, by decide +kernel, by decide +kernel⟩
theorem ok__law_cask (T : Txt K mg C) {f : Addr} {fd : FuncData} (F : L2.Fun K "_law_cask" "_law_cask" (top 58) f fd) (hm : mg "_law_cask" = some (.ref f)) (hb : Binds K fd ["script", "at"] []) : Does P w K mg base (UU K C) 2 "_law_cask" f fd ["script", "at"] F__law_cask := by
  have sc := sc__law_cask
  exact ok_def F hm hb sc rfl fun cdv A outer s H E hr => (ss_cons (s_set 2 sc.nd (e_if (t_cmp (o_lt hr) (e_var 1) (e_callB (c_len) T.b_len PySem.boot_len (a_cons (e_var 0) a_nil))) (e_ix i_ix (e_var 0) (e_var 1)) e_int))
  (ss_one (s_ret (e_lstO (a_cons (e_callB (c_max) T.b_max PyProof.Rows.boot_max (a_cons e_int (a_cons (e_op o_sub (e_callB (c_abs) T.b_abs PyProof.Rows.boot_abs (a_cons (e_var 2) a_nil)) (e_op o_pow e_int e_int)) a_nil))) (a_cons (e_op o_add (e_op o_add (e_op o_mul (e_op o_mod (e_callT (c_int) T.b_int PyProof.Rows.boot_int (a_cons (e_var 2) a_nil)) (e_op o_add (e_op o_pow e_int e_int) e_int)) e_int) (e_op o_mul e_int (e_var 1))) e_int) (a_cons e_int a_nil)))))))
theorem sc__law_tap : FnScope ["cask", "span", "digit", "must"] ["cask", "span"] (defScope (top 59)) := ⟨rfl, rfl, rfl, by decide +kernel, rfl, by decide +kernel, by decide +kernel⟩
theorem ok__law_tap (T : Txt K mg C) {f : Addr} {fd : FuncData} (F : L2.Fun K "_law_tap" "_law_tap" (top 59) f fd) (hm : mg "_law_tap" = some (.ref f)) (hb : Binds K fd ["cask", "span"] []) : Does P w K mg base (UU K C) 2 "_law_tap" f fd ["cask", "span"] F__law_tap := by
  have sc := sc__law_tap
  exact ok_def F hm hb sc rfl fun cdv A outer s H E hr => (ss_cons (s_if (t_cmp (o_gt hr) (e_ix i_ix (e_var 0) e_int) e_int)
  (ss_cons (s_set 2 sc.nd (e_op o_mod (e_callT (c_int) T.b_int PyProof.Rows.boot_int (a_cons (e_ix i_ix (e_var 0) e_int) a_nil)) (e_var 1)))
  (ss_cons (s_sub (e_op o_fdiv (e_ix i_ix (e_var 0) e_int) (e_var 1)) (e_var 0) e_int)
  (ss_one (s_ret (e_var 2)))))
  ss_nil)
  (ss_cons (s_sub (e_op o_add (e_ix i_ix (e_var 0) e_int) e_int) (e_var 0) e_int)
  (ss_cons (s_set 3 sc.nd (e_op o_mod (e_op o_pow (e_callT (c_int) T.b_int PyProof.Rows.boot_int (a_cons (e_op o_add (e_ix i_ix (e_var 0) e_int) (e_op o_mul e_int (e_ix i_ix (e_var 0) e_int))) a_nil)) e_int) (e_op o_add (e_op o_pow e_int e_int) e_int)))
  (ss_cons (s_set 3 sc.nd (e_op o_mod (e_op o_pow (e_callT (c_int) T.b_int PyProof.Rows.boot_int (a_cons (e_op o_add (e_var 3) (e_op o_mul e_int (e_ix i_ix (e_var 0) e_int))) a_nil)) e_int) (e_op o_add (e_op o_pow e_int e_int) e_int)))
  (ss_one (s_ret (e_op o_mod (e_op o_fdiv (e_var 3) e_int) (e_var 1))))))))
theorem sc__law_book_words : FnScope ["deed", "five", "keeps_here", "between"] ["deed"] (defScope (top 61)) := ⟨rfl, rfl, rfl, by decide +kernel, rfl, by decide +kernel, by decide +kernel⟩
theorem ok__law_book_words (T : Txt K mg C) {f : Addr} {fd : FuncData} (F : L2.Fun K "_law_book_words" "_law_book_words" (top 61) f fd) (hm : mg "_law_book_words" = some (.ref f)) (hb : Binds K fd ["deed"] []) : Does P w K mg base (UU K C) 2 "_law_book_words" f fd ["deed"] F__law_book_words := by
  have sc := sc__law_book_words
  exact ok_def F hm hb sc rfl fun cdv A outer s H E hr => (ss_cons (s_set 1 sc.nd (e_tup (a_cons e_str (a_cons e_str (a_cons e_str (a_cons e_str (a_cons e_str a_nil)))))))
  (ss_cons (s_if (t_cmp (o_eq hr) (e_var 0) e_str)
  (ss_cons (s_set 2 sc.nd (e_tup (a_cons e_str (a_cons e_str (a_cons e_str (a_cons e_str (a_cons e_str a_nil)))))))
  (ss_one (s_ret (e_tup (a_cons (e_tup (a_cons e_str (a_cons e_str a_nil))) (a_cons (e_var 1) (a_cons (e_tup (a_cons e_str (a_cons e_str (a_cons e_str (a_cons e_str (a_cons e_str a_nil)))))) (a_cons (e_var 2) a_nil))))))))
  ss_nil)
  (ss_cons (s_if (t_cmp (o_eq hr) (e_var 0) e_str)
  (ss_one (s_ret (e_tup (a_cons (e_tup (a_cons e_str a_nil)) (a_cons (e_var 1) (a_cons (e_tup (a_cons e_str (a_cons e_str (a_cons e_str (a_cons e_str a_nil))))) (a_cons (e_tup (a_cons e_str (a_cons e_str (a_cons e_str a_nil)))) a_nil)))))))
  ss_nil)
  (ss_cons (s_set 3 sc.nd (e_tup (a_cons e_str (a_cons e_str (a_cons e_str (a_cons e_str (a_cons e_str a_nil)))))))
  (ss_one (s_ret (e_tup (a_cons (e_tup (a_cons e_str a_nil)) (a_cons (e_var 3) (a_cons (e_tup (a_cons e_str (a_cons e_str (a_cons e_str (a_cons e_str (a_cons e_str a_nil)))))) (a_cons (e_tup (a_cons e_str a_nil)) a_nil)))))))))))
theorem sc__law_any_row : FnScope ["cask", "deed", "words", "found", "k", "choice"] ["cask"] (defScope (top 64)) := ⟨rfl, rfl, rfl, by decide +kernel, rfl, by decide +kernel, by decide +kernel⟩
theorem ok__law_any_row (T : Txt K mg C) {f__law_tap : Addr} {fd__law_tap : FuncData} (G__law_tap : Does P w K mg base (UU K C) 2 "_law_tap" f__law_tap fd__law_tap ["cask", "span"] F__law_tap) {f__law_book_words : Addr} {fd__law_book_words : FuncData} (G__law_book_words : Does P w K mg base (UU K C) 2 "_law_book_words" f__law_book_words fd__law_book_words ["deed"] F__law_book_words) {f : Addr} {fd : FuncData} (F : L2.Fun K "_law_any_row" "_law_any_row" (top 64) f fd) (hm : mg "_law_any_row" = some (.ref f)) (hb : Binds K fd ["cask"] []) : Does P w K mg base (UU K C) 3 "_law_any_row" f fd ["cask"] F__law_any_row := by
  have sc := sc__law_any_row
  exact ok_def F hm hb sc rfl fun cdv A outer s H E hr => (ss_cons (s_set 1 sc.nd (e_ix i_ix (e_lst (a_cons e_str (a_cons e_str (a_cons e_str (a_cons e_str a_nil))))) (e_call G__law_tap (L2N.takes_of rfl rfl rfl rfl) hr (a_cons (e_var 0) (a_cons e_int a_nil)) (len_cons (len_cons len_nil)) (hk := by decide))))
  (ss_cons (s_par 2 3 sc.nd (a_cons (e_call G__law_book_words (L2N.takes_of rfl rfl rfl rfl) hr (a_cons (e_var 1) a_nil) (len_cons len_nil) (hk := by decide)) (a_cons (e_lstO (a_cons (e_var 1) a_nil)) a_nil)))
  (ss_cons (s_for (i_range1 T.b_range e_int) (g_name 4 sc.nd)
  (ss_cons (s_set 5 sc.nd (e_ix i_ix (e_var 2) (e_var 4)))
  (ss_cons (s_if (PW.pt (w_and (t_cmp (o_lt hr) (e_var 4) e_int) (w_and1 (t_cmp (o_eq hr) (e_call G__law_tap (L2N.takes_of rfl rfl rfl rfl) hr (a_cons (e_var 0) (a_cons e_int a_nil)) (len_cons (len_cons len_nil)) (hk := by decide)) e_int))))
  (ss_one (s_set 5 sc.nd (e_tup (a_cons e_str a_nil))))
  ss_nil)
  (ss_one (s_app (e_var 3) (e_ix i_ix (e_var 5) (e_call G__law_tap (L2N.takes_of rfl rfl rfl rfl) hr (a_cons (e_var 0) (a_cons (e_callB (c_len) T.b_len PySem.boot_len (a_cons (e_var 5) a_nil)) a_nil)) (len_cons (len_cons len_nil)) (hk := by decide))))))) (L2.passes_of rfl))
  (ss_one (s_ret (e_callT (c_tuple) T.b_tuple PyProof.Rows.boot_tuple (a_cons (e_var 3) a_nil)))))))
theorem sc__law_good_rows : FnScope ["cask", "rows_here", "k"] ["cask"] (defScope (top 65)) := ⟨rfl, rfl, rfl, by decide +kernel, rfl, by decide +kernel, by decide +kernel⟩
theorem ok__law_good_rows (T : Txt K mg C) {f__law_tap : Addr} {fd__law_tap : FuncData} (G__law_tap : Does P w K mg base (UU K C) 2 "_law_tap" f__law_tap fd__law_tap ["cask", "span"] F__law_tap) {f__law_any_row : Addr} {fd__law_any_row : FuncData} (G__law_any_row : Does P w K mg base (UU K C) 3 "_law_any_row" f__law_any_row fd__law_any_row ["cask"] F__law_any_row) {f : Addr} {fd : FuncData} (F : L2.Fun K "_law_good_rows" "_law_good_rows" (top 65) f fd) (hm : mg "_law_good_rows" = some (.ref f)) (hb : Binds K fd ["cask"] []) : Does P w K mg base (UU K C) 4 "_law_good_rows" f fd ["cask"] F__law_good_rows := by
  have sc := sc__law_good_rows
  exact ok_def F hm hb sc rfl fun cdv A outer s H E hr => (ss_cons (s_setLcO 1 [("k", 2)] sc.nd (i_range1 T.b_range (e_call G__law_tap (L2N.takes_of rfl rfl rfl rfl) hr (a_cons (e_var 0) (a_cons e_int a_nil)) (len_cons (len_cons len_nil)) (hk := by decide))) (blkOk_by (by rfl)) (fun _ _ _ _ _ => (g_name 2 sc.nd)) (fun _ _ _ _ _ => ts_nil) (fun _ _ _ _ _ => (e_call G__law_any_row takes0N hr (a_cons (e_var 0) a_nil) (len_cons len_nil) (hk := by decide))))
  (ss_cons (s_app (e_var 1) (e_tup (a_cons e_str (a_cons e_str (a_cons e_str (a_cons e_str (a_cons e_str a_nil)))))))
  (ss_cons (s_app (e_var 1) (e_tup (a_cons e_str (a_cons e_str (a_cons e_str (a_cons e_str (a_cons e_str a_nil)))))))
  (ss_cons (s_set 1 sc.nd (e_op o_add (e_var 1) (e_lst (a_cons (e_tup (a_cons e_str (a_cons e_str (a_cons e_str (a_cons (e_ix i_ix (e_lst (a_cons e_str (a_cons e_str a_nil))) (e_call G__law_tap (L2N.takes_of rfl rfl rfl rfl) hr (a_cons (e_var 0) (a_cons e_int a_nil)) (len_cons (len_cons len_nil)) (hk := by decide))) (a_cons e_str a_nil)))))) a_nil))))
  (ss_cons (s_set 1 sc.nd (e_op o_add (e_var 1) (e_lst (a_cons (e_tup (a_cons e_str (a_cons e_str (a_cons e_str (a_cons (e_ix i_ix (e_lst (a_cons e_str (a_cons e_str a_nil))) (e_call G__law_tap (L2N.takes_of rfl rfl rfl rfl) hr (a_cons (e_var 0) (a_cons e_int a_nil)) (len_cons (len_cons len_nil)) (hk := by decide))) (a_cons e_str a_nil)))))) a_nil))))
  (ss_cons (s_set 1 sc.nd (e_op o_add (e_var 1) (e_lst (a_cons (e_tup (a_cons e_str (a_cons e_str (a_cons e_str (a_cons e_str (a_cons e_str a_nil)))))) a_nil))))
  (ss_cons (s_set 1 sc.nd (e_op o_add (e_var 1) (e_lst (a_cons (e_tup (a_cons e_str (a_cons e_str (a_cons e_str (a_cons (e_ix i_ix (e_lst (a_cons e_str (a_cons e_str a_nil))) (e_call G__law_tap (L2N.takes_of rfl rfl rfl rfl) hr (a_cons (e_var 0) (a_cons e_int a_nil)) (len_cons (len_cons len_nil)) (hk := by decide))) (a_cons e_str a_nil)))))) a_nil))))
  (ss_one (s_ret (e_op o_add (e_var 1) (e_lst (a_cons (e_tup (a_cons e_str (a_cons e_str (a_cons e_str (a_cons (e_ix i_ix (e_lst (a_cons e_str (a_cons e_str (a_cons e_str a_nil)))) (e_call G__law_tap (L2N.takes_of rfl rfl rfl rfl) hr (a_cons (e_var 0) (a_cons e_int a_nil)) (len_cons (len_cons len_nil)) (hk := by decide))) (a_cons e_str a_nil)))))) a_nil))))))))))))
theorem sc_is_word_of : FnScope ["words", "thing"] ["words", "thing"] (defScope (top 43)) := ⟨rfl, rfl, rfl, by decide +kernel, rfl, by decide +kernel, by decide +kernel⟩
theorem ok_is_word_of (T : Txt K mg C) {f : Addr} {fd : FuncData} (F : L2.Fun K "is_word_of" "is_word_of" (top 43) f fd) (hm : mg "is_word_of" = some (.ref f)) (hb : Binds K fd ["words", "thing"] []) : Does P w K mg base (UU K C) 2 "is_word_of" f fd ["words", "thing"] F_is_word_of := by
  have sc := sc_is_word_of
  exact ok_def F hm hb sc rfl fun cdv A outer s H E hr => (ss_one (s_ret (e_and (e_callB (c_isiI T.isc) T.b_isinstance PyProof.Rows.boot_isinstance (a_cons (e_var 1) (a_cons (e_bltn T.b_str PyProof.Rows.boot_str) a_nil))) (e_one (e_cmp (o_in hr) (e_var 1) (e_var 0))))))
theorem sc_check_form : FnScope ["marks", "scope"] ["marks", "scope"] (defScope (top 55)) := ⟨rfl, rfl, rfl, by decide +kernel, rfl, by decide +kernel, by decide +kernel⟩
theorem ok_check_form (T : Txt K mg C) {f_is_word_of : Addr} {fd_is_word_of : FuncData} (G_is_word_of : Does P w K mg base (UU K C) 2 "is_word_of" f_is_word_of fd_is_word_of ["words", "thing"] F_is_word_of) {f : Addr} {fd : FuncData} (F : L2.Fun K "check_form" "check_form" (top 55) f fd) (hm : mg "check_form" = some (.ref f)) (hb : Binds K fd ["marks", "scope"] []) : Does P w K mg base (UU K C) 3 "check_form" f fd ["marks", "scope"] F_check_form := by
  have sc := sc_check_form
  exact ok_def F hm hb sc rfl fun cdv A outer s H E hr => (ss_one (s_if (PW.pt (w_or (t_not (t_tru (e_call G_is_word_of (L2N.takes_of rfl rfl rfl rfl) hr (a_cons (e_gc T.g_FORMS) (a_cons (e_var 0) a_nil)) (len_cons (len_cons len_nil)) (hk := by decide)))) (w_or1 (t_not (t_tru (e_call G_is_word_of (L2N.takes_of rfl rfl rfl rfl) hr (a_cons (e_gc T.g_SCOPES) (a_cons (e_var 1) a_nil)) (len_cons (len_cons len_nil)) (hk := by decide)))))))
  (ss_one (s_raise 2 T.k2 (L2N.takes_of rfl rfl rfl rfl)))
  ss_nil))
theorem sc_roles_of : FnScope ["deed"] ["deed"] (defScope (top 44)) := ⟨rfl, rfl, rfl, by decide +kernel, rfl, by decide +kernel, by decide +kernel⟩
theorem ok_roles_of (T : Txt K mg C) {f : Addr} {fd : FuncData} (F : L2.Fun K "roles_of" "roles_of" (top 44) f fd) (hm : mg "roles_of" = some (.ref f)) (hb : Binds K fd ["deed"] []) : Does P w K mg base (UU K C) 2 "roles_of" f fd ["deed"] F_roles_of := by
  have sc := sc_roles_of
  exact ok_def F hm hb sc rfl fun cdv A outer s H E hr => (ss_cons (s_if (t_cmp (o_eq hr) (e_var 0) (e_gc T.g_READ))
  (ss_one (s_ret (e_tup (a_cons (e_gc T.g_LEADS) (a_cons (e_gc T.g_FOLLOWS) a_nil)))))
  ss_nil)
  (ss_one (s_ret (e_if (t_cmp (o_eq hr) (e_var 0) (e_gc T.g_WRITE)) (e_tup (a_cons (e_gc T.g_LEADS) a_nil)) (e_tup (a_cons (e_gc T.g_ANY) a_nil))))))
theorem sc_relations_of : FnScope ["deed"] ["deed"] (defScope (top 45)) := ⟨rfl, rfl, rfl, by decide +kernel, rfl, by decide +kernel, by decide +kernel⟩
theorem ok_relations_of (T : Txt K mg C) {f : Addr} {fd : FuncData} (F : L2.Fun K "relations_of" "relations_of" (top 45) f fd) (hm : mg "relations_of" = some (.ref f)) (hb : Binds K fd ["deed"] []) : Does P w K mg base (UU K C) 2 "relations_of" f fd ["deed"] F_relations_of := by
  have sc := sc_relations_of
  exact ok_def F hm hb sc rfl fun cdv A outer s H E hr => (ss_one (s_ret (e_if (t_cmp (o_eq hr) (e_var 0) (e_gc T.g_HAND)) (e_gc T.g_BETWEEN_MARKS) (e_gc T.g_AT_SERVERS))))
theorem sc_actions_of : FnScope ["deed"] ["deed"] (defScope (top 47)) := ⟨rfl, rfl, rfl, by decide +kernel, rfl, by decide +kernel, by decide +kernel⟩
theorem ok_actions_of (T : Txt K mg C) {f : Addr} {fd : FuncData} (F : L2.Fun K "actions_of" "actions_of" (top 47) f fd) (hm : mg "actions_of" = some (.ref f)) (hb : Binds K fd ["deed"] []) : Does P w K mg base (UU K C) 2 "actions_of" f fd ["deed"] F_actions_of := by
  have sc := sc_actions_of
  exact ok_def F hm hb sc rfl fun cdv A outer s H E hr => (ss_cons (s_if (t_cmp (o_eq hr) (e_var 0) (e_gc T.g_READ))
  (ss_one (s_ret (e_gc T.g_READ_ACTIONS)))
  ss_nil)
  (ss_one (s_ret (e_if (t_cmp (o_eq hr) (e_var 0) (e_gc T.g_WRITE)) (e_gc T.g_WRITE_ACTIONS) (e_gc T.g_HAND_ACTIONS)))))
theorem sc_keeps_of : FnScope ["deed"] ["deed"] (defScope (top 48)) := ⟨rfl, rfl, rfl, by decide +kernel, rfl, by decide +kernel, by decide +kernel⟩
theorem ok_keeps_of (T : Txt K mg C) {f : Addr} {fd : FuncData} (F : L2.Fun K "keeps_of" "keeps_of" (top 48) f fd) (hm : mg "keeps_of" = some (.ref f)) (hb : Binds K fd ["deed"] []) : Does P w K mg base (UU K C) 2 "keeps_of" f fd ["deed"] F_keeps_of := by
  have sc := sc_keeps_of
  exact ok_def F hm hb sc rfl fun cdv A outer s H E hr => (ss_cons (s_if (t_cmp (o_eq hr) (e_var 0) (e_gc T.g_READ))
  (ss_one (s_ret (e_gc T.g_READ_KEEPS)))
  ss_nil)
  (ss_one (s_ret (e_if (t_cmp (o_eq hr) (e_var 0) (e_gc T.g_WRITE)) (e_gc T.g_WRITE_KEEPS) (e_tup (a_cons (e_gc T.g_NOTHING) a_nil))))))
theorem sc_is_book_row : FnScope ["thing", "deed", "role", "relation_word", "action", "keep"] ["thing"] (defScope (top 49)) := ⟨rfl, rfl, rfl, by decide +kernel, rfl, by decide +kernel, by decide +kernel⟩
theorem ok_is_book_row (T : Txt K mg C) {f_is_word_of : Addr} {fd_is_word_of : FuncData} (G_is_word_of : Does P w K mg base (UU K C) 2 "is_word_of" f_is_word_of fd_is_word_of ["words", "thing"] F_is_word_of) {f_roles_of : Addr} {fd_roles_of : FuncData} (G_roles_of : Does P w K mg base (UU K C) 2 "roles_of" f_roles_of fd_roles_of ["deed"] F_roles_of) {f_relations_of : Addr} {fd_relations_of : FuncData} (G_relations_of : Does P w K mg base (UU K C) 2 "relations_of" f_relations_of fd_relations_of ["deed"] F_relations_of) {f_actions_of : Addr} {fd_actions_of : FuncData} (G_actions_of : Does P w K mg base (UU K C) 2 "actions_of" f_actions_of fd_actions_of ["deed"] F_actions_of) {f_keeps_of : Addr} {fd_keeps_of : FuncData} (G_keeps_of : Does P w K mg base (UU K C) 2 "keeps_of" f_keeps_of fd_keeps_of ["deed"] F_keeps_of) {f : Addr} {fd : FuncData} (F : L2.Fun K "is_book_row" "is_book_row" (top 49) f fd) (hm : mg "is_book_row" = some (.ref f)) (hb : Binds K fd ["thing"] []) : Does P w K mg base (UU K C) 3 "is_book_row" f fd ["thing"] F_is_book_row := by
  have sc := sc_is_book_row
  exact ok_def F hm hb sc rfl fun cdv A outer s H E hr => (ss_cons (s_if (PW.pt (w_or (t_not (t_tru (e_callB (c_isiI T.isc) T.b_isinstance PyProof.Rows.boot_isinstance (a_cons (e_var 0) (a_cons (e_bltn T.b_tuple PyProof.Rows.boot_tuple) a_nil))))) (w_or (t_cmp (o_ne hr) (e_callB (c_len) T.b_len PySem.boot_len (a_cons (e_var 0) a_nil)) e_int) (w_or1 (t_not (t_tru (e_call G_is_word_of (L2N.takes_of rfl rfl rfl rfl) hr (a_cons (e_gc T.g_DEED_WORDS) (a_cons (e_ix i_ix (e_var 0) e_int) a_nil)) (len_cons (len_cons len_nil)) (hk := by decide))))))))
  (ss_one (s_ret e_bl))
  ss_nil)
  (ss_cons (s_asg (e_var 0) (g_tup (gs_cons (g_name 1 sc.nd) (gs_cons (g_name 2 sc.nd) (gs_cons (g_name 3 sc.nd) (gs_cons (g_name 4 sc.nd) (gs_cons (g_name 5 sc.nd) gs_nil)))))))
  (ss_cons (s_if (PW.pt (w_or (t_not (t_tru (e_call G_is_word_of (L2N.takes_of rfl rfl rfl rfl) hr (a_cons (e_tup (a_star (e_call G_roles_of (L2N.takes_of rfl rfl rfl rfl) hr (a_cons (e_var 1) a_nil) (len_cons len_nil) (hk := by decide)) (a_cons (e_gc T.g_ANY) a_nil))) (a_cons (e_var 2) a_nil)) (len_cons (len_cons len_nil)) (hk := by decide)))) (w_or1 (t_not (t_tru (e_call G_is_word_of (L2N.takes_of rfl rfl rfl rfl) hr (a_cons (e_tup (a_star (e_call G_relations_of (L2N.takes_of rfl rfl rfl rfl) hr (a_cons (e_var 1) a_nil) (len_cons len_nil) (hk := by decide)) (a_cons (e_gc T.g_ANY) a_nil))) (a_cons (e_var 3) a_nil)) (len_cons (len_cons len_nil)) (hk := by decide)))))))
  (ss_one (s_ret e_bl))
  ss_nil)
  (ss_one (s_ret (e_and (e_call G_is_word_of (L2N.takes_of rfl rfl rfl rfl) hr (a_cons (e_call G_actions_of (L2N.takes_of rfl rfl rfl rfl) hr (a_cons (e_var 1) a_nil) (len_cons len_nil) (hk := by decide)) (a_cons (e_var 4) a_nil)) (len_cons (len_cons len_nil)) (hk := by decide)) (e_one (e_call G_is_word_of (L2N.takes_of rfl rfl rfl rfl) hr (a_cons (e_call G_keeps_of (L2N.takes_of rfl rfl rfl rfl) hr (a_cons (e_var 1) a_nil) (len_cons len_nil) (hk := by decide)) (a_cons (e_var 5) a_nil)) (len_cons (len_cons len_nil)) (hk := by decide)))))))))
theorem sc_Book___init__ : FnScope ["self", "marks", "scope", "rows", "row"] ["self", "marks", "scope", "rows"] (defScope (methOf (top 56) 0)) := ⟨rfl, rfl, rfl, by decide +kernel, rfl, by decide +kernel, by decide +kernel⟩
theorem ok_Book___init__ (T : Txt K mg C) {f_check_form : Addr} {fd_check_form : FuncData} (G_check_form : Does P w K mg base (UU K C) 3 "check_form" f_check_form fd_check_form ["marks", "scope"] F_check_form) {f_is_book_row : Addr} {fd_is_book_row : FuncData} (G_is_book_row : Does P w K mg base (UU K C) 3 "is_book_row" f_is_book_row fd_is_book_row ["thing"] F_is_book_row) {f : Addr} {fd : FuncData} (F : L2.Fun K "__init__" "Book.__init__" (methOf (top 56) 0) f fd) (mk : Mk K (C 4) f) (mgc : mg "Book" = some (.ref (C 4))) (hb : Binds K fd ["self", "marks", "scope", "rows"] []) : DoesI P w K mg base (UU K C) 4 4 "Book" f fd ["self", "marks", "scope", "rows"] F_Book___init__ := by
  have sc := sc_Book___init__
  have Y := fn_def (P := P) (w := w) (mg := mg) (base := base) (U := UU K C) (k := 3) (N := ["self", "marks", "scope", "rows", "row"]) (ps := ["self", "marks", "scope", "rows"]) (ms := m_Book___init__) F sc rfl fun cdv A outer s H E hr => (ss_cons (s_expr (e_call G_check_form (L2N.takes_of rfl rfl rfl rfl) hr (a_cons (e_var 1) (a_cons (e_var 2) a_nil)) (len_cons (len_cons len_nil)) (hk := by decide)))
  (ss_cons (s_if (PW.pt (w_or (t_not (t_tru (e_callB (c_isiI T.isc) T.b_isinstance PyProof.Rows.boot_isinstance (a_cons (e_var 3) (a_cons (e_bltn T.b_list PyProof.Rows.boot_list) a_nil))))) (w_or (t_cmp (o_gt hr) (e_callB (c_len) T.b_len PySem.boot_len (a_cons (e_var 3) a_nil)) (e_gc T.g_MOST_ROWS)) (w_or1 (t_not (t_tru (e_callB (c_all) T.b_all PyProof.Rows.boot_all (a_cons (e_lcU [("row", 4)] sc.nd (e_var 3) (blkOk_by (by rfl)) (fun _ _ _ _ _ => (g_name 4 sc.nd)) (fun _ _ _ _ _ => ts_nil) (fun _ _ _ _ _ => (e_call G_is_book_row takes0N hr (a_cons (e_var 4) a_nil) (len_cons len_nil) (hk := by decide)))) a_nil))))))))
  (ss_one (s_raise 2 T.k2 (L2N.takes_of rfl rfl rfl rfl)))
  ss_nil)
  (ss_cons (s_fld (e_var 0) (e_var 1) (cs := [4]) (one_c ⟨T.i4, T.n4_marks⟩))
  (ss_cons (s_fld (e_var 0) (e_var 2) (cs := [4]) (one_c ⟨T.i4, T.n4_scope⟩))
  (ss_one (s_fld (e_var 0) (e_callT (c_tuple) T.b_tuple PyProof.Rows.boot_tuple (a_cons (e_var 3) a_nil)) (cs := [4]) (one_c ⟨T.i4, T.n4_kept_rows⟩)))))))
  exact ⟨Y, mk, mgc, hb⟩
theorem sc_is_case : FnScope ["thing", "deed", "role", "relation_word"] ["thing"] (defScope (top 50)) := ⟨rfl, rfl, rfl, by decide +kernel, rfl, by decide +kernel, by decide +kernel⟩
theorem ok_is_case (T : Txt K mg C) {f_is_word_of : Addr} {fd_is_word_of : FuncData} (G_is_word_of : Does P w K mg base (UU K C) 2 "is_word_of" f_is_word_of fd_is_word_of ["words", "thing"] F_is_word_of) {f_roles_of : Addr} {fd_roles_of : FuncData} (G_roles_of : Does P w K mg base (UU K C) 2 "roles_of" f_roles_of fd_roles_of ["deed"] F_roles_of) {f_relations_of : Addr} {fd_relations_of : FuncData} (G_relations_of : Does P w K mg base (UU K C) 2 "relations_of" f_relations_of fd_relations_of ["deed"] F_relations_of) {f : Addr} {fd : FuncData} (F : L2.Fun K "is_case" "is_case" (top 50) f fd) (hm : mg "is_case" = some (.ref f)) (hb : Binds K fd ["thing"] []) : Does P w K mg base (UU K C) 3 "is_case" f fd ["thing"] F_is_case := by
  have sc := sc_is_case
  exact ok_def F hm hb sc rfl fun cdv A outer s H E hr => (ss_cons (s_if (PW.pt (w_or (t_not (t_tru (e_callB (c_isiI T.isc) T.b_isinstance PyProof.Rows.boot_isinstance (a_cons (e_var 0) (a_cons (e_bltn T.b_tuple PyProof.Rows.boot_tuple) a_nil))))) (w_or (t_cmp (o_ne hr) (e_callB (c_len) T.b_len PySem.boot_len (a_cons (e_var 0) a_nil)) e_int) (w_or1 (t_not (t_tru (e_call G_is_word_of (L2N.takes_of rfl rfl rfl rfl) hr (a_cons (e_gc T.g_DEED_WORDS) (a_cons (e_ix i_ix (e_var 0) e_int) a_nil)) (len_cons (len_cons len_nil)) (hk := by decide))))))))
  (ss_one (s_ret e_bl))
  ss_nil)
  (ss_cons (s_asg (e_var 0) (g_tup (gs_cons (g_name 1 sc.nd) (gs_cons (g_name 2 sc.nd) (gs_cons (g_name 3 sc.nd) gs_nil)))))
  (ss_one (s_ret (e_and (e_call G_is_word_of (L2N.takes_of rfl rfl rfl rfl) hr (a_cons (e_call G_roles_of (L2N.takes_of rfl rfl rfl rfl) hr (a_cons (e_var 1) a_nil) (len_cons len_nil) (hk := by decide)) (a_cons (e_var 2) a_nil)) (len_cons (len_cons len_nil)) (hk := by decide)) (e_one (e_call G_is_word_of (L2N.takes_of rfl rfl rfl rfl) hr (a_cons (e_call G_relations_of (L2N.takes_of rfl rfl rfl rfl) hr (a_cons (e_var 1) a_nil) (len_cons len_nil) (hk := by decide)) (a_cons (e_var 3) a_nil)) (len_cons (len_cons len_nil)) (hk := by decide))))))))
theorem sc_check_case : FnScope ["thing"] ["thing"] (defScope (top 51)) := ⟨rfl, rfl, rfl, by decide +kernel, rfl, by decide +kernel, by decide +kernel⟩
theorem ok_check_case (T : Txt K mg C) {f_is_case : Addr} {fd_is_case : FuncData} (G_is_case : Does P w K mg base (UU K C) 3 "is_case" f_is_case fd_is_case ["thing"] F_is_case) {f : Addr} {fd : FuncData} (F : L2.Fun K "check_case" "check_case" (top 51) f fd) (hm : mg "check_case" = some (.ref f)) (hb : Binds K fd ["thing"] []) : Does P w K mg base (UU K C) 4 "check_case" f fd ["thing"] F_check_case := by
  have sc := sc_check_case
  exact ok_def F hm hb sc rfl fun cdv A outer s H E hr => (ss_one (s_if (t_not (t_tru (e_call G_is_case (L2N.takes_of rfl rfl rfl rfl) hr (a_cons (e_var 0) a_nil) (len_cons len_nil) (hk := by decide))))
  (ss_one (s_raise 1 T.k1 (L2N.takes_of rfl rfl rfl rfl)))
  ss_nil))
theorem sc_is_for : FnScope ["row", "case"] ["row", "case"] (defScope (top 52)) := ⟨rfl, rfl, rfl, by decide +kernel, rfl, by decide +kernel, by decide +kernel⟩
theorem ok_is_for (T : Txt K mg C) {f : Addr} {fd : FuncData} (F : L2.Fun K "is_for" "is_for" (top 52) f fd) (hm : mg "is_for" = some (.ref f)) (hb : Binds K fd ["row", "case"] []) : Does P w K mg base (UU K C) 2 "is_for" f fd ["row", "case"] F_is_for := by
  have sc := sc_is_for
  exact ok_def F hm hb sc rfl fun cdv A outer s H E hr => (ss_one (s_ret (e_and (e_cmp (o_eq hr) (e_ix i_ix (e_var 0) e_int) (e_ix i_ix (e_var 1) e_int)) (e_and (e_cmp (o_in hr) (e_ix i_ix (e_var 0) e_int) (e_tup (a_cons (e_ix i_ix (e_var 1) e_int) (a_cons (e_gc T.g_ANY) a_nil)))) (e_one (e_cmp (o_in hr) (e_ix i_ix (e_var 0) e_int) (e_tup (a_cons (e_ix i_ix (e_var 1) e_int) (a_cons (e_gc T.g_ANY) a_nil)))))))))
theorem sc_told_for : FnScope ["rows", "case", "row"] ["rows", "case"] (defScope (top 53)) := ⟨rfl, rfl, rfl, by decide +kernel, rfl, by decide +kernel, by decide +kernel⟩
theorem ok_told_for (T : Txt K mg C) {f_is_for : Addr} {fd_is_for : FuncData} (G_is_for : Does P w K mg base (UU K C) 2 "is_for" f_is_for fd_is_for ["row", "case"] F_is_for) {f : Addr} {fd : FuncData} (F : L2.Fun K "told_for" "told_for" (top 53) f fd) (hm : mg "told_for" = some (.ref f)) (hb : Binds K fd ["rows", "case"] []) : Does P w K mg base (UU K C) 3 "told_for" f fd ["rows", "case"] F_told_for := by
  have sc := sc_told_for
  exact ok_def F hm hb sc rfl fun cdv A outer s H E hr => (ss_cons (s_for (i_seq (e_var 0)) (g_name 2 sc.nd)
  (ss_one (s_if (t_tru (e_call G_is_for (L2N.takes_of rfl rfl rfl rfl) hr (a_cons (e_var 2) (a_cons (e_var 1) a_nil)) (len_cons (len_cons len_nil)) (hk := by decide)))
  (ss_one (s_ret (e_tup (a_cons (e_ix i_ix (e_var 2) e_int) (a_cons (e_ix i_ix (e_var 2) e_int) a_nil)))))
  ss_nil)) (L2.passes_of rfl))
  (ss_one (s_ret (e_tup (a_cons (e_gc T.g_WAIT) (a_cons (e_gc T.g_NOTHING) a_nil))))))
theorem sc_Book___getitem__ : FnScope ["self", "case"] ["self", "case"] (defScope (methOf (top 56) 1)) := ⟨rfl, rfl, rfl, by decide +kernel, rfl, by decide +kernel, by decide +kernel⟩
theorem ok_Book___getitem__ (T : Txt K mg C) {f_check_case : Addr} {fd_check_case : FuncData} (G_check_case : Does P w K mg base (UU K C) 4 "check_case" f_check_case fd_check_case ["thing"] F_check_case) {f_told_for : Addr} {fd_told_for : FuncData} (G_told_for : Does P w K mg base (UU K C) 3 "told_for" f_told_for fd_told_for ["rows", "case"] F_told_for) {f : Addr} {fd : FuncData} (F : L2.Fun K "__getitem__" "Book.__getitem__" (methOf (top 56) 1) f fd) (me : Meth K (C 4) "__getitem__" f) (hb : Binds K fd ["self", "case"] []) : DoesM P w K mg base (UU K C) 5 4 "__getitem__" f fd ["self", "case"] F_Book___getitem__ := by
  have sc := sc_Book___getitem__
  have Y := fn_def (P := P) (w := w) (mg := mg) (base := base) (U := UU K C) (k := 4) (N := ["self", "case"]) (ps := ["self", "case"]) (ms := m_Book___getitem__) F sc rfl fun cdv A outer s H E hr => (ss_cons (s_expr (e_call G_check_case (L2N.takes_of rfl rfl rfl rfl) hr (a_cons (e_var 1) a_nil) (len_cons len_nil) (hk := by decide)))
  (ss_one (s_ret (e_call G_told_for (L2N.takes_of rfl rfl rfl rfl) hr (a_cons (e_fld (e_var 0) (cs := [4]) (one_c ⟨T.i4, T.n4_kept_rows⟩)) (a_cons (e_var 1) a_nil)) (len_cons (len_cons len_nil)) (hk := by decide)))))
  exact ⟨Y, T.i4, me, hb⟩
theorem sc_cases : FnScope ["found", "deed", "role", "relation_word"] [] (defScope (top 46)) := ⟨rfl, rfl, rfl, by decide +kernel, rfl, by decide +kernel, by decide +kernel⟩
theorem ok_cases (T : Txt K mg C) {f_roles_of : Addr} {fd_roles_of : FuncData} (G_roles_of : Does P w K mg base (UU K C) 2 "roles_of" f_roles_of fd_roles_of ["deed"] F_roles_of) {f_relations_of : Addr} {fd_relations_of : FuncData} (G_relations_of : Does P w K mg base (UU K C) 2 "relations_of" f_relations_of fd_relations_of ["deed"] F_relations_of) {f : Addr} {fd : FuncData} (F : L2.Fun K "cases" "cases" (top 46) f fd) (hm : mg "cases" = some (.ref f)) (hb : Binds K fd [] []) : Does P w K mg base (UU K C) 3 "cases" f fd [] F_cases := by
  have sc := sc_cases
  exact ok_def F hm hb sc rfl fun cdv A outer s H E hr => (ss_cons (s_set 0 sc.nd (e_lst a_nil))
  (ss_cons (s_for (i_seq (e_gc T.g_DEED_WORDS)) (g_name 1 sc.nd)
  (ss_one (s_for (i_seq (e_call G_roles_of (L2N.takes_of rfl rfl rfl rfl) hr (a_cons (e_var 1) a_nil) (len_cons len_nil) (hk := by decide))) (g_name 2 sc.nd)
  (ss_one (s_set 0 sc.nd (e_lst (a_star (e_var 0) (a_star (e_lc [("relation_word", 3)] sc.nd (i_seq (e_call G_relations_of (L2N.takes_of rfl rfl rfl rfl) hr (a_cons (e_var 1) a_nil) (len_cons len_nil) (hk := by decide))) (blkOk_by (by rfl)) (fun _ _ _ _ _ => (g_name 3 sc.nd)) (fun _ _ _ _ _ => ts_nil) (fun _ _ _ _ _ => (e_tup (a_cons (e_var 1) (a_cons (e_var 2) (a_cons (e_var 3) a_nil)))))) a_nil))))) (L2.passes_of rfl))) (L2.passes_of rfl))
  (ss_one (s_ret (e_var 0)))))
theorem sc_Book_with_case : FnScope ["self", "case", "action", "keep", "told", "other", "pair"] ["self", "case", "action", "keep"] (defScope (methOf (top 56) 3)) := ⟨rfl, rfl, rfl, by decide +kernel, rfl, by decide +kernel, by decide +kernel⟩
theorem ok_Book_with_case (T : Txt K mg C) {f_check_case : Addr} {fd_check_case : FuncData} (G_check_case : Does P w K mg base (UU K C) 4 "check_case" f_check_case fd_check_case ["thing"] F_check_case) {f_is_word_of : Addr} {fd_is_word_of : FuncData} (G_is_word_of : Does P w K mg base (UU K C) 2 "is_word_of" f_is_word_of fd_is_word_of ["words", "thing"] F_is_word_of) {f_actions_of : Addr} {fd_actions_of : FuncData} (G_actions_of : Does P w K mg base (UU K C) 2 "actions_of" f_actions_of fd_actions_of ["deed"] F_actions_of) {f_keeps_of : Addr} {fd_keeps_of : FuncData} (G_keeps_of : Does P w K mg base (UU K C) 2 "keeps_of" f_keeps_of fd_keeps_of ["deed"] F_keeps_of) {f_cases : Addr} {fd_cases : FuncData} (G_cases : Does P w K mg base (UU K C) 3 "cases" f_cases fd_cases [] F_cases) {f_told_for : Addr} {fd_told_for : FuncData} (G_told_for : Does P w K mg base (UU K C) 3 "told_for" f_told_for fd_told_for ["rows", "case"] F_told_for) {f_Book___init__ : Addr} {fd_Book___init__ : FuncData} (G_Book___init__ : DoesI P w K mg base (UU K C) 4 4 "Book" f_Book___init__ fd_Book___init__ ["self", "marks", "scope", "rows"] F_Book___init__) {f : Addr} {fd : FuncData} (F : L2.Fun K "with_case" "Book.with_case" (methOf (top 56) 3) f fd) (me : Meth K (C 4) "with_case" f) (hb : Binds K fd ["self", "case", "action", "keep"] []) : DoesM P w K mg base (UU K C) 6 4 "with_case" f fd ["self", "case", "action", "keep"] F_Book_with_case := by
  have sc := sc_Book_with_case
  have Y := fn_def (P := P) (w := w) (mg := mg) (base := base) (U := UU K C) (k := 5) (N := ["self", "case", "action", "keep", "told", "other", "pair"]) (ps := ["self", "case", "action", "keep"]) (ms := m_Book_with_case) F sc rfl fun cdv A outer s H E hr => (ss_cons (s_expr (e_call G_check_case (L2N.takes_of rfl rfl rfl rfl) hr (a_cons (e_var 1) a_nil) (len_cons len_nil) (hk := by decide)))
  (ss_cons (s_if (PW.pt (w_or (t_not (t_tru (e_call G_is_word_of (L2N.takes_of rfl rfl rfl rfl) hr (a_cons (e_call G_actions_of (L2N.takes_of rfl rfl rfl rfl) hr (a_cons (e_ix i_ix (e_var 1) e_int) a_nil) (len_cons len_nil) (hk := by decide)) (a_cons (e_var 2) a_nil)) (len_cons (len_cons len_nil)) (hk := by decide)))) (w_or1 (t_not (t_tru (e_call G_is_word_of (L2N.takes_of rfl rfl rfl rfl) hr (a_cons (e_call G_keeps_of (L2N.takes_of rfl rfl rfl rfl) hr (a_cons (e_ix i_ix (e_var 1) e_int) a_nil) (len_cons len_nil) (hk := by decide)) (a_cons (e_var 3) a_nil)) (len_cons (len_cons len_nil)) (hk := by decide)))))))
  (ss_one (s_raise 2 T.k2 (L2N.takes_of rfl rfl rfl rfl)))
  ss_nil)
  (ss_cons (s_setLc 4 [("other", 5)] sc.nd (i_seq (e_call0 G_cases (L2N.takes_of rfl rfl rfl rfl) hr (hk := by decide))) (blkOk_by (by rfl)) (fun _ _ _ _ _ => (g_name 5 sc.nd)) (fun _ _ _ _ _ => ts_nil) (fun _ _ _ _ _ => (e_tup (a_cons (e_var 5) (a_cons (e_if (t_cmp (o_eq hr) (e_var 5) (e_var 1)) (e_tup (a_cons (e_var 2) (a_cons (e_var 3) a_nil))) (e_call G_told_for takes0N hr (a_cons (e_fld (e_var 0) (cs := [4]) (one_c ⟨T.i4, T.n4_kept_rows⟩)) (a_cons (e_var 5) a_nil)) (len_cons (len_cons len_nil)) (hk := by decide))) a_nil)))))
  (ss_one (s_ret (e_make G_Book___init__ (L2N.takes_of rfl rfl rfl rfl) hr (a_cons (e_fld (e_var 0) (cs := [4]) (one_c ⟨T.i4, T.n4_marks⟩)) (a_cons (e_fld (e_var 0) (cs := [4]) (one_c ⟨T.i4, T.n4_scope⟩)) (a_cons (e_lc [("other", 5), ("pair", 6)] sc.nd (i_seq (e_var 4)) (blkOk_by (by rfl)) (fun _ _ _ _ _ => (g_tup (gs_cons (g_name 5 sc.nd) (gs_cons (g_name 6 sc.nd) gs_nil)))) (fun _ _ _ _ _ => ts_nil) (fun _ _ _ _ _ => (e_tup (a_star (e_var 5) (a_cons (e_ix i_ix (e_var 6) e_int) (a_cons (e_ix i_ix (e_var 6) e_int) a_nil)))))) a_nil))) (len1 (len_cons (len_cons (len_cons len_nil)))) (hk := by decide)))))))
  exact ⟨Y, T.i4, me, hb⟩
theorem sc_Book_in_form : FnScope ["self", "marks", "scope"] ["self", "marks", "scope"] (defScope (methOf (top 56) 4)) := ⟨rfl, rfl, rfl, by decide +kernel, rfl, by decide +kernel, by decide +kernel⟩
theorem ok_Book_in_form (T : Txt K mg C) {f_Book___init__ : Addr} {fd_Book___init__ : FuncData} (G_Book___init__ : DoesI P w K mg base (UU K C) 4 4 "Book" f_Book___init__ fd_Book___init__ ["self", "marks", "scope", "rows"] F_Book___init__) {f : Addr} {fd : FuncData} (F : L2.Fun K "in_form" "Book.in_form" (methOf (top 56) 4) f fd) (me : Meth K (C 4) "in_form" f) (hb : Binds K fd ["self", "marks", "scope"] []) : DoesM P w K mg base (UU K C) 6 4 "in_form" f fd ["self", "marks", "scope"] F_Book_in_form := by
  have sc := sc_Book_in_form
  have Y := fn_def (P := P) (w := w) (mg := mg) (base := base) (U := UU K C) (k := 5) (N := ["self", "marks", "scope"]) (ps := ["self", "marks", "scope"]) (ms := m_Book_in_form) F sc rfl fun cdv A outer s H E hr => (ss_one (s_ret (e_make G_Book___init__ (L2N.takes_of rfl rfl rfl rfl) hr (a_cons (e_var 1) (a_cons (e_var 2) (a_cons (e_callT (c_list) T.b_list PyProof.Rows.boot_list (a_cons (e_fld (e_var 0) (cs := [4]) (one_c ⟨T.i4, T.n4_kept_rows⟩)) a_nil)) a_nil))) (len1 (len_cons (len_cons (len_cons len_nil)))) (hk := by decide))))
  exact ⟨Y, T.i4, me, hb⟩
theorem sc__law_asked : FnScope ["way", "thing", "g"] ["way", "thing", "g"] (defScope (top 66)) := ⟨rfl, rfl, rfl, by decide +kernel, rfl, by decide +kernel, by decide +kernel⟩
theorem ok__law_asked (T : Txt K mg C) {f_Book___init__ : Addr} {fd_Book___init__ : FuncData} (G_Book___init__ : DoesI P w K mg base (UU K C) 4 4 "Book" f_Book___init__ fd_Book___init__ ["self", "marks", "scope", "rows"] F_Book___init__) (K_Book___init___1_rows_marks_scope : KwB K fd_Book___init__ ["self", "marks", "scope", "rows"] ["rows", "marks", "scope"] 1 [0, 2, 3, 1]) {f_Book___getitem__ : Addr} {fd_Book___getitem__ : FuncData} (G_Book___getitem__ : DoesM P w K mg base (UU K C) 5 4 "__getitem__" f_Book___getitem__ fd_Book___getitem__ ["self", "case"] F_Book___getitem__) (N_Book___getitem__ : PySem.W.fnIn K f_Book___getitem__ = true) {f_Book_with_case : Addr} {fd_Book_with_case : FuncData} (G_Book_with_case : DoesM P w K mg base (UU K C) 6 4 "with_case" f_Book_with_case fd_Book_with_case ["self", "case", "action", "keep"] F_Book_with_case) (K_Book_with_case_1_keep_case_action : KwB K fd_Book_with_case ["self", "case", "action", "keep"] ["keep", "case", "action"] 1 [0, 2, 3, 1]) {f_Book_in_form : Addr} {fd_Book_in_form : FuncData} (G_Book_in_form : DoesM P w K mg base (UU K C) 6 4 "in_form" f_Book_in_form fd_Book_in_form ["self", "marks", "scope"] F_Book_in_form) (K_Book_in_form_1_scope_marks : KwB K fd_Book_in_form ["self", "marks", "scope"] ["scope", "marks"] 1 [0, 2, 1]) {f : Addr} {fd : FuncData} (F : L2.Fun K "_law_asked" "_law_asked" (top 66) f fd) (hm : mg "_law_asked" = some (.ref f)) (hb : Binds K fd ["way", "thing", "g"] []) : Does P w K mg base (UU K C) 7 "_law_asked" f fd ["way", "thing", "g"] F__law_asked := by
  have sc := sc__law_asked
  exact ok_def F hm hb sc rfl fun cdv A outer s H E hr => (ss_cons (s_if (t_cmp (o_eq hr) (e_var 0) e_int)
  (ss_one (s_ret (e_make G_Book___init__ (L2N.takes_of rfl rfl rfl rfl) hr (a_cons (e_ix i_ix (e_var 2) e_int) (a_cons (e_ix i_ix (e_var 2) e_int) (a_cons (e_ix i_ix (e_var 2) e_int) a_nil))) (len1 (len_cons (len_cons (len_cons len_nil)))) (hk := by decide))))
  ss_nil)
  (ss_cons (s_if (t_cmp (o_eq hr) (e_var 0) e_int)
  (ss_one (s_ret (e_makeK [0, 2, 3, 1] G_Book___init__ K_Book___init___1_rows_marks_scope (L2N.takes_of rfl rfl rfl rfl) hr (k_cons (e_ix i_ix (e_var 2) e_int) (k_cons (e_ix i_ix (e_var 2) e_int) (k_cons (e_ix i_ix (e_var 2) e_int) k_nil))) (len_cons (len_cons (len_cons len_nil))) (hk := by decide))))
  ss_nil)
  (ss_cons (s_if (t_cmp (o_eq hr) (e_var 0) e_int)
  (ss_one (s_ret (e_subI G_Book___getitem__ N_Book___getitem__ (L2N.takes_of rfl rfl rfl rfl) hr (e_var 1) (e_var 2) (hk := by decide))))
  ss_nil)
  (ss_cons (s_if (t_cmp (o_eq hr) (e_var 0) e_int)
  (ss_one (s_ret (e_meth G_Book_with_case (L2N.takes_of rfl rfl rfl rfl) hr (e_var 1) (a_cons (e_ix i_ix (e_var 2) e_int) (a_cons (e_ix i_ix (e_var 2) e_int) (a_cons (e_ix i_ix (e_var 2) e_int) a_nil))) (len1 (len_cons (len_cons (len_cons len_nil)))) (hk := by decide))))
  ss_nil)
  (ss_cons (s_if (t_cmp (o_eq hr) (e_var 0) e_int)
  (ss_one (s_ret (e_methK [0, 2, 3, 1] G_Book_with_case K_Book_with_case_1_keep_case_action (L2N.takes_of rfl rfl rfl rfl) hr (e_var 1) (k_cons (e_ix i_ix (e_var 2) e_int) (k_cons (e_ix i_ix (e_var 2) e_int) (k_cons (e_ix i_ix (e_var 2) e_int) k_nil))) (len_cons (len_cons (len_cons len_nil))) (hk := by decide))))
  ss_nil)
  (ss_one (s_ret (e_if (t_cmp (o_eq hr) (e_var 0) e_int) (e_meth G_Book_in_form (L2N.takes_of rfl rfl rfl rfl) hr (e_var 1) (a_cons (e_ix i_ix (e_var 2) e_int) (a_cons (e_ix i_ix (e_var 2) e_int) a_nil)) (len1 (len_cons (len_cons len_nil))) (hk := by decide)) (e_methK [0, 2, 1] G_Book_in_form K_Book_in_form_1_scope_marks (L2N.takes_of rfl rfl rfl rfl) hr (e_var 1) (k_cons (e_ix i_ix (e_var 2) e_int) (k_cons (e_ix i_ix (e_var 2) e_int) k_nil)) (len_cons (len_cons len_nil)) (hk := by decide))))))))))
theorem sc__law_said : FnScope ["way", "thing", "g", "found", "good", "e"] ["way", "thing", "g"] (defScope (top 67)) := ⟨rfl, rfl, rfl, by decide +kernel, rfl, by decide +kernel, by decide +kernel⟩
theorem ok__law_said (T : Txt K mg C) {f__law_asked : Addr} {fd__law_asked : FuncData} (G__law_asked : Does P w K mg base (UU K C) 7 "_law_asked" f__law_asked fd__law_asked ["way", "thing", "g"] F__law_asked) {f : Addr} {fd : FuncData} (F : L2.Fun K "_law_said" "_law_said" (top 67) f fd) (hm : mg "_law_said" = some (.ref f)) (hb : Binds K fd ["way", "thing", "g"] []) : Does P w K mg base (UU K C) 8 "_law_said" f fd ["way", "thing", "g"] F__law_said := by
  have sc := sc__law_said
  exact ok_def F hm hb sc rfl fun cdv A outer s H E hr => (ss_cons (s_asg (e_tup (a_cons e_non (a_cons e_bl a_nil))) (g_tup (gs_cons (g_name 3 sc.nd) (gs_cons (g_name 4 sc.nd) gs_nil))))
  (ss_cons (s_tryN sc.nd (L2N.takes_of rfl rfl rfl rfl) (fun W pn xe tk po => (ss_one (s_set 3 sc.nd (e_call G__law_asked tk hr (a_cons (e_var 0) (a_cons (e_var 1) (a_cons (e_var 2) a_nil))) (len_cons (len_cons (len_cons len_nil))) (hk := by decide)))))
  (.as_ 5 rfl rfl ⟨rfl, by decide, .inl T.k2.g⟩ T.x2 (fun a oe e d pn hz0 hv hd => (ss_sel 2 hz0 hd (fun hz => (ss_one (s_parH 3 4 (hot_suite hz hv) sc.nd (a_cons e_str (a_cons (e_and (e_isE 5 T.e2 hz.zc hv T.b_isinstance T.k0.g T.q2_0 List.mem_cons_self) (e_one (e_not (e_isE2 5 T.e2 hz.zc hv T.b_isinstance T.k1.g T.k3.g T.q2_1 T.q2_3 List.mem_cons_self)))) a_nil)) (nf_fix (by decide)) (nf_fix (by decide)))))
  ss_stuck))
  (.as_ 5 rfl rfl ⟨rfl, by decide, .inl T.k1.g⟩ T.x1 (fun a oe e d pn hz0 hv hd => (ss_sel 1 hz0 hd (fun hz => (ss_one (s_parH 3 4 (hot_suite hz hv) sc.nd (a_cons e_str (a_cons (e_and (e_isE 5 T.e1 hz.zc hv T.b_isinstance T.k0.g T.q1_0 List.mem_cons_self) (e_one (e_not (e_isE2 5 T.e1 hz.zc hv T.b_isinstance T.k2.g T.k3.g T.q1_2 T.q1_3 List.mem_cons_self)))) a_nil)) (nf_fix (by decide)) (nf_fix (by decide)))))
  ss_stuck))
  .nil)) rfl)
  (ss_one (s_ret (e_if (t_tru (e_var 4)) (e_var 3) e_str)))))
theorem sc__law_cases : FnScope ["found", "deed", "words", "role", "relation_here"] [] (defScope (top 62)) := ⟨rfl, rfl, rfl, by decide +kernel, rfl, by decide +kernel, by decide +kernel⟩
theorem ok__law_cases (T : Txt K mg C) {f__law_book_words : Addr} {fd__law_book_words : FuncData} (G__law_book_words : Does P w K mg base (UU K C) 2 "_law_book_words" f__law_book_words fd__law_book_words ["deed"] F__law_book_words) {f : Addr} {fd : FuncData} (F : L2.Fun K "_law_cases" "_law_cases" (top 62) f fd) (hm : mg "_law_cases" = some (.ref f)) (hb : Binds K fd [] []) : Does P w K mg base (UU K C) 3 "_law_cases" f fd [] F__law_cases := by
  have sc := sc__law_cases
  exact ok_def F hm hb sc rfl fun cdv A outer s H E hr => (ss_cons (s_set 0 sc.nd (e_lst a_nil))
  (ss_cons (s_for (i_seq (e_tup (a_cons e_str (a_cons e_str (a_cons e_str a_nil))))) (g_name 1 sc.nd)
  (ss_cons (s_set 2 sc.nd (e_call G__law_book_words (L2N.takes_of rfl rfl rfl rfl) hr (a_cons (e_var 1) a_nil) (len_cons len_nil) (hk := by decide)))
  (ss_one (s_for (i_seq (e_ix i_ix (e_var 2) e_int)) (g_name 3 sc.nd)
  (ss_one (s_set 0 sc.nd (e_op o_add (e_var 0) (e_lc [("relation_here", 4)] sc.nd (i_seq (e_ix i_ix (e_var 2) e_int)) (blkOk_by (by rfl)) (fun _ _ _ _ _ => (g_name 4 sc.nd)) (fun _ _ _ _ _ => ts_nil) (fun _ _ _ _ _ => (e_tup (a_cons (e_var 1) (a_cons (e_var 3) (a_cons (e_var 4) a_nil))))))))) (L2.passes_of rfl)))) (L2.passes_of rfl))
  (ss_one (s_ret (e_var 0)))))
theorem sc__law_told : FnScope ["book_rows", "case_here", "row"] ["book_rows", "case_here"] (defScope (top 63)) := ⟨rfl, rfl, rfl, by decide +kernel, rfl, by decide +kernel, by decide +kernel⟩
theorem ok__law_told (T : Txt K mg C) {f : Addr} {fd : FuncData} (F : L2.Fun K "_law_told" "_law_told" (top 63) f fd) (hm : mg "_law_told" = some (.ref f)) (hb : Binds K fd ["book_rows", "case_here"] []) : Does P w K mg base (UU K C) 2 "_law_told" f fd ["book_rows", "case_here"] F__law_told := by
  have sc := sc__law_told
  exact ok_def F hm hb sc rfl fun cdv A outer s H E hr => (ss_cons (s_for (i_seq (e_var 0)) (g_name 2 sc.nd)
  (ss_one (s_if (PW.pt (w_and (t_cmp (o_eq hr) (e_ix i_ix (e_var 2) e_int) (e_ix i_ix (e_var 1) e_int)) (w_and (t_cmp (o_in hr) (e_ix i_ix (e_var 2) e_int) (e_tup (a_cons (e_ix i_ix (e_var 1) e_int) (a_cons e_str a_nil)))) (w_and1 (t_cmp (o_in hr) (e_ix i_ix (e_var 2) e_int) (e_tup (a_cons (e_ix i_ix (e_var 1) e_int) (a_cons e_str a_nil))))))))
  (ss_one (s_ret (e_tup (a_cons (e_ix i_ix (e_var 2) e_int) (a_cons (e_ix i_ix (e_var 2) e_int) a_nil)))))
  ss_nil)) (L2.passes_of rfl))
  (ss_one (s_ret (e_tup (a_cons e_str (a_cons e_str a_nil))))))
theorem sc_table_of_at_O : FnScope ["rows", "found", "case", "action", "keep"] ["rows"] (defScope (top 54)) := ⟨rfl, rfl, rfl, by decide +kernel, rfl, by decide +kernel, by decide +kernel⟩
theorem ok_table_of_at_O (T : Txt K mg C) {f_cases : Addr} {fd_cases : FuncData} (G_cases : Does P w K mg base (UU K C) 3 "cases" f_cases fd_cases [] F_cases) {f_told_for : Addr} {fd_told_for : FuncData} (G_told_for : Does P w K mg base (UU K C) 3 "told_for" f_told_for fd_told_for ["rows", "case"] F_told_for) {f : Addr} {fd : FuncData} (F : L2.Fun K "table_of" "table_of" (top 54) f fd) (hm : mg "table_of" = some (.ref f)) (hb : Binds K fd ["rows"] []) : Does P w K mg base (UU K C) 4 "table_of" f fd ["rows"] F_table_of_at_O := by
  have sc := sc_table_of_at_O
  exact ok_def F hm hb sc rfl fun cdv A outer s H E hr => (ss_cons (s_set 1 sc.nd (e_lst a_nil))
  (ss_cons (s_for (i_seq (e_call0 G_cases (L2N.takes_of rfl rfl rfl rfl) hr (hk := by decide))) (g_name 2 sc.nd)
  (ss_cons (s_asg (e_call G_told_for (L2N.takes_of rfl rfl rfl rfl) hr (a_cons (e_var 0) (a_cons (e_var 2) a_nil)) (len_cons (len_cons len_nil)) (hk := by decide)) (g_tup (gs_cons (g_name 3 sc.nd) (gs_cons (g_name 4 sc.nd) gs_nil))))
  (ss_one (s_set 1 sc.nd (e_lstO (a_star (e_var 1) (a_cons (e_tup (a_cons (e_var 2) (a_cons (e_var 3) (a_cons (e_var 4) a_nil)))) a_nil)))))) (L2.passes_of rfl))
  (ss_one (s_ret (e_var 1)))))
theorem sc_Book_table_at_O : FnScope ["self"] ["self"] (defScope (methOf (top 56) 2)) := ⟨rfl, rfl, rfl, by decide +kernel, rfl, by decide +kernel, by decide +kernel⟩
theorem ok_Book_table_at_O (T : Txt K mg C) {f_table_of_at_O : Addr} {fd_table_of_at_O : FuncData} (G_table_of_at_O : Does P w K mg base (UU K C) 4 "table_of" f_table_of_at_O fd_table_of_at_O ["rows"] F_table_of_at_O) {f : Addr} {fd : FuncData} (F : L2.Fun K "table" "Book.table" (methOf (top 56) 2) f fd) (me : Meth K (C 4) "table" f) (hb : Binds K fd ["self"] []) : DoesM P w K mg base (UU K C) 5 4 "table" f fd ["self"] F_Book_table_at_O := by
  have sc := sc_Book_table_at_O
  have Y := fn_def (P := P) (w := w) (mg := mg) (base := base) (U := UU K C) (k := 4) (N := ["self"]) (ps := ["self"]) (ms := m_Book_table_at_O) F sc rfl fun cdv A outer s H E hr => (ss_one (s_ret (e_call G_table_of_at_O (L2N.takes_of rfl rfl rfl rfl) hr (a_cons (e_fld (e_var 0) (cs := [4]) (one_c ⟨T.i4, T.n4_kept_rows⟩)) a_nil) (len_cons len_nil) (hk := by decide))))
  exact ⟨Y, T.i4, me, hb⟩
theorem sc_Book___iter__ : FnScope ["self"] ["self"] (defScope (methOf (top 56) 6)) := ⟨rfl, rfl, rfl, by decide +kernel, rfl, by decide +kernel, by decide +kernel⟩
theorem ok_Book___iter__ (T : Txt K mg C) {f : Addr} {fd : FuncData} (F : L2.Fun K "__iter__" "Book.__iter__" (methOf (top 56) 6) f fd) (me : Meth K (C 4) "__iter__" f) (hb : Binds K fd ["self"] []) : DoesIt P w K mg base (UU K C) 4 "kept_rows" f := doesIt_of F sc_Book___iter__ hb T.i4 me T.n4_kept_rows fun cdv A outer s H E => pss_one (s_itR T.b_iter)
theorem sc_Book___len__ : FnScope ["self"] ["self"] (defScope (methOf (top 56) 5)) := ⟨rfl, rfl, rfl, by decide +kernel, rfl, by decide +kernel, by decide +kernel⟩
theorem ok_Book___len__ (T : Txt K mg C) {f : Addr} {fd : FuncData} (F : L2.Fun K "__len__" "Book.__len__" (methOf (top 56) 5) f fd) (me : Meth K (C 4) "__len__" f) (hb : Binds K fd ["self"] []) : DoesM P w K mg base (UU K C) 2 4 "__len__" f fd ["self"] F_Book___len__ := by
  have sc := sc_Book___len__
  have Y := fn_def (P := P) (w := w) (mg := mg) (base := base) (U := UU K C) (k := 1) (N := ["self"]) (ps := ["self"]) (ms := m_Book___len__) F sc rfl fun cdv A outer s H E hr => (ss_one (s_ret (e_callB (c_len) T.b_len PySem.boot_len (a_cons (e_fld (e_var 0) (cs := [4]) (one_c ⟨T.i4, T.n4_kept_rows⟩)) a_nil))))
  exact ⟨Y, T.i4, me, hb⟩
theorem sc_table_of : FnScope ["rows", "found", "case", "action", "keep"] ["rows"] (defScope (top 54)) := ⟨rfl, rfl, rfl, by decide +kernel, rfl, by decide +kernel, by decide +kernel⟩
theorem ok_table_of (T : Txt K mg C) {f_cases : Addr} {fd_cases : FuncData} (G_cases : Does P w K mg base (UU K C) 3 "cases" f_cases fd_cases [] F_cases) {f_told_for : Addr} {fd_told_for : FuncData} (G_told_for : Does P w K mg base (UU K C) 3 "told_for" f_told_for fd_told_for ["rows", "case"] F_told_for) {f : Addr} {fd : FuncData} (F : L2.Fun K "table_of" "table_of" (top 54) f fd) (hm : mg "table_of" = some (.ref f)) (hb : Binds K fd ["rows"] []) : Does P w K mg base (UU K C) 4 "table_of" f fd ["rows"] F_table_of := by
  have sc := sc_table_of
  exact ok_def F hm hb sc rfl fun cdv A outer s H E hr => (ss_cons (s_set 1 sc.nd (e_lst a_nil))
  (ss_cons (s_for (i_seq (e_call0 G_cases (L2N.takes_of rfl rfl rfl rfl) hr (hk := by decide))) (g_name 2 sc.nd)
  (ss_cons (s_asg (e_call G_told_for (L2N.takes_of rfl rfl rfl rfl) hr (a_cons (e_var 0) (a_cons (e_var 2) a_nil)) (len_cons (len_cons len_nil)) (hk := by decide)) (g_tup (gs_cons (g_name 3 sc.nd) (gs_cons (g_name 4 sc.nd) gs_nil))))
  (ss_one (s_set 1 sc.nd (e_lst (a_star (e_var 1) (a_cons (e_tup (a_cons (e_var 2) (a_cons (e_var 3) (a_cons (e_var 4) a_nil)))) a_nil)))))) (L2.passes_of rfl))
  (ss_one (s_ret (e_var 1)))))
theorem sc_Book_table : FnScope ["self"] ["self"] (defScope (methOf (top 56) 2)) := ⟨rfl, rfl, rfl, by decide +kernel, rfl, by decide +kernel, by decide +kernel⟩
theorem ok_Book_table (T : Txt K mg C) {f_table_of : Addr} {fd_table_of : FuncData} (G_table_of : Does P w K mg base (UU K C) 4 "table_of" f_table_of fd_table_of ["rows"] F_table_of) {f : Addr} {fd : FuncData} (F : L2.Fun K "table" "Book.table" (methOf (top 56) 2) f fd) (me : Meth K (C 4) "table" f) (hb : Binds K fd ["self"] []) : DoesM P w K mg base (UU K C) 5 4 "table" f fd ["self"] F_Book_table := by
  have sc := sc_Book_table
  have Y := fn_def (P := P) (w := w) (mg := mg) (base := base) (U := UU K C) (k := 4) (N := ["self"]) (ps := ["self"]) (ms := m_Book_table) F sc rfl fun cdv A outer s H E hr => (ss_one (s_ret (e_call G_table_of (L2N.takes_of rfl rfl rfl rfl) hr (a_cons (e_fld (e_var 0) (cs := [4]) (one_c ⟨T.i4, T.n4_kept_rows⟩)) a_nil) (len_cons len_nil) (hk := by decide))))
  exact ⟨Y, T.i4, me, hb⟩
theorem sc__law_agree : FnScope ["found", "due", "k"] ["found", "due"] (defScope (top 60)) := ⟨rfl, rfl, rfl, by decide +kernel, rfl, by decide +kernel, by decide +kernel⟩
theorem ok__law_agree (T : Txt K mg C) {f : Addr} {fd : FuncData} (F : L2.Fun K "_law_agree" "_law_agree" (top 60) f fd) (hm : mg "_law_agree" = some (.ref f)) (hb : Binds K fd ["found", "due"] []) : ∀ n, Does P w K mg base (UU K C) (1 + n) "_law_agree" f fd ["found", "due"] (F__law_agree n)
  | 0 => does_stuck hm F.kp hb
  | n + 1 => by
    have G__law_agree := ok__law_agree T  F hm hb n
    have sc := sc__law_agree
    exact ok_def F hm hb sc rfl fun cdv A outer s H E hr => (ss_cons (s_if (PW.pt (w_or (t_tru (e_callB (c_isiI T.isc) T.b_isinstance PyProof.Rows.boot_isinstance (a_cons (e_var 0) (a_cons (e_bltn T.b_bool PyProof.Rows.boot_bool) a_nil)))) (w_or1 (t_tru (e_callB (c_isiI T.isc) T.b_isinstance PyProof.Rows.boot_isinstance (a_cons (e_var 1) (a_cons (e_bltn T.b_bool PyProof.Rows.boot_bool) a_nil)))))))
  (ss_one (s_ret (e_and (e_callB (c_isiI T.isc) T.b_isinstance PyProof.Rows.boot_isinstance (a_cons (e_var 0) (a_cons (e_bltn T.b_bool PyProof.Rows.boot_bool) a_nil))) (e_and (e_callB (c_isiI T.isc) T.b_isinstance PyProof.Rows.boot_isinstance (a_cons (e_var 1) (a_cons (e_bltn T.b_bool PyProof.Rows.boot_bool) a_nil))) (e_one (e_cmp (o_eq hr) (e_var 0) (e_var 1)))))))
  ss_nil)
  (ss_cons (s_if (PW.pt (w_or (t_cmp (o_ne hr) (e_callB (c_isiI T.isc) T.b_isinstance PyProof.Rows.boot_isinstance (a_cons (e_var 0) (a_cons (e_bltn T.b_list PyProof.Rows.boot_list) a_nil))) (e_callB (c_isiI T.isc) T.b_isinstance PyProof.Rows.boot_isinstance (a_cons (e_var 1) (a_cons (e_bltn T.b_list PyProof.Rows.boot_list) a_nil)))) (w_or1 (t_cmp (o_ne hr) (e_callB (c_isiI T.isc) T.b_isinstance PyProof.Rows.boot_isinstance (a_cons (e_var 0) (a_cons (e_bltn T.b_tuple PyProof.Rows.boot_tuple) a_nil))) (e_callB (c_isiI T.isc) T.b_isinstance PyProof.Rows.boot_isinstance (a_cons (e_var 1) (a_cons (e_bltn T.b_tuple PyProof.Rows.boot_tuple) a_nil)))))))
  (ss_one (s_ret e_bl))
  ss_nil)
  (ss_cons (s_if (PW.pt (w_or (t_cmp (o_ne hr) (e_callB (c_isiI T.isc) T.b_isinstance PyProof.Rows.boot_isinstance (a_cons (e_var 0) (a_cons (e_bltn T.b_str PyProof.Rows.boot_str) a_nil))) (e_callB (c_isiI T.isc) T.b_isinstance PyProof.Rows.boot_isinstance (a_cons (e_var 1) (a_cons (e_bltn T.b_str PyProof.Rows.boot_str) a_nil)))) (w_or1 (t_cmp (o_ne hr) (e_callB (c_isiI T.isc) T.b_isinstance PyProof.Rows.boot_isinstance (a_cons (e_var 0) (a_cons (e_bltn T.b_int PyProof.Rows.boot_int) a_nil))) (e_callB (c_isiI T.isc) T.b_isinstance PyProof.Rows.boot_isinstance (a_cons (e_var 1) (a_cons (e_bltn T.b_int PyProof.Rows.boot_int) a_nil)))))))
  (ss_one (s_ret e_bl))
  ss_nil)
  (ss_cons (s_if (t_tru (e_callB (c_isiI T.isc) T.b_isinstance PyProof.Rows.boot_isinstance (a_cons (e_var 1) (a_cons (e_tup (a_cons (e_bltn T.b_list PyProof.Rows.boot_list) (a_cons (e_bltn T.b_tuple PyProof.Rows.boot_tuple) a_nil))) a_nil))))
  (ss_cons (s_if (t_cmp (o_ne hr) (e_callB (c_len) T.b_len PySem.boot_len (a_cons (e_var 0) a_nil)) (e_callB (c_len) T.b_len PySem.boot_len (a_cons (e_var 1) a_nil)))
  (ss_one (s_ret e_bl))
  ss_nil)
  (ss_one (s_ret (e_cmp (o_eq hr) (e_lc [("k", 2)] sc.nd (i_range1 T.b_range (e_callB (c_len) T.b_len PySem.boot_len (a_cons (e_var 1) a_nil))) (blkOk_by (by rfl)) (fun _ _ _ _ _ => (g_name 2 sc.nd)) (fun _ _ _ _ _ => (ts_one (t_not (t_tru (e_call G__law_agree takes0N hr (a_cons (e_ix i_ix (e_var 0) (e_var 2)) (a_cons (e_ix i_ix (e_var 1) (e_var 2)) a_nil)) (len_cons (len_cons len_nil)) (hk := Nat.le_refl _)))))) (fun _ _ _ _ _ => (e_var 2))) (e_lst a_nil)))))
  ss_nil)
  (ss_one (s_ret (e_and (e_cmp (o_eq hr) (e_cmp (o_is) (e_var 0) e_non) (e_cmp (o_is) (e_var 1) e_non)) (e_one (e_cmp (o_eq hr) (e_var 0) (e_var 1))))))))))
theorem sc__law_book_right : FnScope ["book_here", "form", "rows_here", "affairs", "told", "table_here", "heard", "due", "affair", "k", "row"] ["book_here", "form", "rows_here"] (defScope (top 70)) := ⟨rfl, rfl, rfl, by decide +kernel, rfl, by decide +kernel, by decide +kernel⟩
theorem ok__law_book_right (T : Txt K mg C) {f__law_cases : Addr} {fd__law_cases : FuncData} (G__law_cases : Does P w K mg base (UU K C) 3 "_law_cases" f__law_cases fd__law_cases [] F__law_cases) {f__law_told : Addr} {fd__law_told : FuncData} (G__law_told : Does P w K mg base (UU K C) 2 "_law_told" f__law_told fd__law_told ["book_rows", "case_here"] F__law_told) {f_Book_table_at_O : Addr} {fd_Book_table_at_O : FuncData} (G_Book_table_at_O : DoesM P w K mg base (UU K C) 5 4 "table" f_Book_table_at_O fd_Book_table_at_O ["self"] F_Book_table_at_O) {f_Book___iter__ : Addr} (G_Book___iter__ : DoesIt P w K mg base (UU K C) 4 "kept_rows" f_Book___iter__) {f_Book___len__ : Addr} {fd_Book___len__ : FuncData} (G_Book___len__ : DoesM P w K mg base (UU K C) 2 4 "__len__" f_Book___len__ fd_Book___len__ ["self"] F_Book___len__) {f_Book_table : Addr} {fd_Book_table : FuncData} (G_Book_table : DoesM P w K mg base (UU K C) 5 4 "table" f_Book_table fd_Book_table ["self"] F_Book_table) {f__law_agree : Addr} {fd__law_agree : FuncData} (G__law_agree : Does P w K mg base (UU K C) 8 "_law_agree" f__law_agree fd__law_agree ["found", "due"] (F__law_agree 7)) {f__law_said : Addr} {fd__law_said : FuncData} (G__law_said : Does P w K mg base (UU K C) 8 "_law_said" f__law_said fd__law_said ["way", "thing", "g"] F__law_said) {f : Addr} {fd : FuncData} (F : L2.Fun K "_law_book_right" "_law_book_right" (top 70) f fd) (hm : mg "_law_book_right" = some (.ref f)) (hb : Binds K fd ["book_here", "form", "rows_here"] []) : Does P w K mg base (UU K C) 9 "_law_book_right" f fd ["book_here", "form", "rows_here"] F__law_book_right := by
  have sc := sc__law_book_right
  exact ok_def F hm hb sc rfl fun cdv A outer s H E hr => (ss_cons (s_set 3 sc.nd (e_call0 G__law_cases (L2N.takes_of rfl rfl rfl rfl) hr (hk := by decide)))
  (ss_cons (s_set 4 sc.nd (e_lc [("affair", 8)] sc.nd (i_seq (e_var 3)) (blkOk_by (by rfl)) (fun _ _ _ _ _ => (g_name 8 sc.nd)) (fun _ _ _ _ _ => ts_nil) (fun _ _ _ _ _ => (e_call G__law_told takes0N hr (a_cons (e_var 2) (a_cons (e_var 8) a_nil)) (len_cons (len_cons len_nil)) (hk := by decide)))))
  (ss_cons (s_setLc 5 [("k", 9)] sc.nd (i_range1 T.b_range e_int) (blkOk_by (by rfl)) (fun _ _ _ _ _ => (g_name 9 sc.nd)) (fun _ _ _ _ _ => ts_nil) (fun _ _ _ _ _ => (e_tup (a_cons (e_ix i_ix (e_var 3) (e_var 9)) (a_cons (e_ix i_ix (e_ix i_ix (e_var 4) (e_var 9)) e_int) (a_cons (e_ix i_ix (e_ix i_ix (e_var 4) (e_var 9)) e_int) a_nil))))))
  (ss_cons (s_app (e_meth0 G_Book_table_at_O (L2N.takes_of rfl rfl rfl rfl) hr (e_var 0) (hk := by decide)) e_non)
  (ss_cons (s_set 6 sc.nd (e_lst (a_cons (e_fld (e_var 0) (cs := [4]) (one_c ⟨T.i4, T.n4_marks⟩)) (a_cons (e_fld (e_var 0) (cs := [4]) (one_c ⟨T.i4, T.n4_scope⟩)) (a_cons (e_meth0 G_Book_table (L2N.takes_of rfl rfl rfl rfl) hr (e_var 0) (hk := by decide)) (a_cons (e_lenI G_Book___len__ (L2N.takes_of rfl rfl rfl rfl) hr (a_cons (e_var 0) a_nil) T.b_len (hk := by decide)) (a_cons (e_lc [("row", 10)] sc.nd (i_own G_Book___iter__ hr (e_var 0)) (blkOk_by (by rfl)) (fun _ _ _ _ _ => (g_name 10 sc.nd)) (fun _ _ _ _ _ => ts_nil) (fun _ _ _ _ _ => (e_var 10))) a_nil)))))))
  (ss_cons (s_set 7 sc.nd (e_lst (a_cons (e_ix i_ix (e_var 1) e_int) (a_cons (e_ix i_ix (e_var 1) e_int) (a_cons (e_var 5) (a_cons (e_callB (c_len) T.b_len PySem.boot_len (a_cons (e_var 2) a_nil)) (a_cons (e_var 2) a_nil)))))))
  (ss_one (s_ret (e_and (e_call G__law_agree (L2N.takes_of rfl rfl rfl rfl) hr (a_cons (e_var 6) (a_cons (e_var 7) a_nil)) (len_cons (len_cons len_nil)) (hk := by decide)) (e_one (e_call G__law_agree (L2N.takes_of rfl rfl rfl rfl) hr (a_cons (e_lc [("affair", 8)] sc.nd (i_seq (e_var 3)) (blkOk_by (by rfl)) (fun _ _ _ _ _ => (g_name 8 sc.nd)) (fun _ _ _ _ _ => ts_nil) (fun _ _ _ _ _ => (e_call G__law_said takes0N hr (a_cons e_int (a_cons (e_var 0) (a_cons (e_var 8) a_nil))) (len_cons (len_cons (len_cons len_nil))) (hk := by decide)))) (a_cons (e_var 4) a_nil)) (len_cons (len_cons len_nil)) (hk := by decide))))))))))))
theorem sc__law_change_right : FnScope ["cask", "book_here", "form", "rows_here", "affair", "words", "odd", "action_here", "keep_here", "way", "made", "told", "due", "affair_two", "lots", "pair_two", "again", "due_two", "strange", "found", "refused", "bad", "thing", "other", "moved", "one", "pair", "row"] ["cask", "book_here", "form", "rows_here"] (defScope (top 72)) := ⟨rfl, rfl, rfl, by decide +kernel, rfl, by decide +kernel, by decide +kernel⟩
theorem ok__law_change_right (T : Txt K mg C) {f__law_cases : Addr} {fd__law_cases : FuncData} (G__law_cases : Does P w K mg base (UU K C) 3 "_law_cases" f__law_cases fd__law_cases [] F__law_cases) {f__law_tap : Addr} {fd__law_tap : FuncData} (G__law_tap : Does P w K mg base (UU K C) 2 "_law_tap" f__law_tap fd__law_tap ["cask", "span"] F__law_tap) {f__law_book_words : Addr} {fd__law_book_words : FuncData} (G__law_book_words : Does P w K mg base (UU K C) 2 "_law_book_words" f__law_book_words fd__law_book_words ["deed"] F__law_book_words) {f__law_said : Addr} {fd__law_said : FuncData} (G__law_said : Does P w K mg base (UU K C) 8 "_law_said" f__law_said fd__law_said ["way", "thing", "g"] F__law_said) {f__law_told : Addr} {fd__law_told : FuncData} (G__law_told : Does P w K mg base (UU K C) 2 "_law_told" f__law_told fd__law_told ["book_rows", "case_here"] F__law_told) {f__law_book_right : Addr} {fd__law_book_right : FuncData} (G__law_book_right : Does P w K mg base (UU K C) 9 "_law_book_right" f__law_book_right fd__law_book_right ["book_here", "form", "rows_here"] F__law_book_right) {f : Addr} {fd : FuncData} (F : L2.Fun K "_law_change_right" "_law_change_right" (top 72) f fd) (hm : mg "_law_change_right" = some (.ref f)) (hb : Binds K fd ["cask", "book_here", "form", "rows_here"] []) : Does P w K mg base (UU K C) 10 "_law_change_right" f fd ["cask", "book_here", "form", "rows_here"] F__law_change_right := by
  have sc := sc__law_change_right
  exact ok_def F hm hb sc rfl fun cdv A outer s H E hr => (ss_cons (s_set 4 sc.nd (e_ix i_ix (e_call0 G__law_cases (L2N.takes_of rfl rfl rfl rfl) hr (hk := by decide)) (e_call G__law_tap (L2N.takes_of rfl rfl rfl rfl) hr (a_cons (e_var 0) (a_cons e_int a_nil)) (len_cons (len_cons len_nil)) (hk := by decide))))
  (ss_cons (s_par 5 6 sc.nd (a_cons (e_call G__law_book_words (L2N.takes_of rfl rfl rfl rfl) hr (a_cons (e_ix i_ix (e_var 4) e_int) a_nil) (len_cons len_nil) (hk := by decide)) (a_cons (e_lst (a_cons e_str (a_cons e_str (a_cons e_str (a_cons e_non (a_cons e_int (a_cons (e_lst (a_cons e_str a_nil)) (a_cons e_str (a_cons e_str a_nil))))))))) a_nil)))
  (ss_cons (s_set 6 sc.nd (e_op o_add (e_var 6) (e_lst (a_cons e_str (a_cons e_str a_nil)))))
  (ss_cons (s_asg (e_tup (a_cons (e_ix i_ix (e_ix i_ix (e_var 5) e_int) (e_call G__law_tap (L2N.takes_of rfl rfl rfl rfl) hr (a_cons (e_var 0) (a_cons (e_callB (c_len) T.b_len PySem.boot_len (a_cons (e_ix i_ix (e_var 5) e_int) a_nil)) a_nil)) (len_cons (len_cons len_nil)) (hk := by decide))) (a_cons (e_ix i_ix (e_ix i_ix (e_var 5) e_int) (e_call G__law_tap (L2N.takes_of rfl rfl rfl rfl) hr (a_cons (e_var 0) (a_cons (e_callB (c_len) T.b_len PySem.boot_len (a_cons (e_ix i_ix (e_var 5) e_int) a_nil)) a_nil)) (len_cons (len_cons len_nil)) (hk := by decide))) a_nil))) (g_tup (gs_cons (g_name 7 sc.nd) (gs_cons (g_name 8 sc.nd) gs_nil))))
  (ss_cons (s_for (i_seq (e_tup (a_cons e_int (a_cons e_int a_nil)))) (g_name 9 sc.nd)
  (ss_cons (s_set 10 sc.nd (e_call G__law_said (L2N.takes_of rfl rfl rfl rfl) hr (a_cons (e_var 9) (a_cons (e_var 1) (a_cons (e_tup (a_cons (e_var 4) (a_cons (e_var 7) (a_cons (e_var 8) a_nil)))) a_nil))) (len_cons (len_cons (len_cons len_nil))) (hk := by decide)))
  (ss_cons (s_setLc 11 [("one", 25)] sc.nd (i_seq (e_call0 G__law_cases (L2N.takes_of rfl rfl rfl rfl) hr (hk := by decide))) (blkOk_by (by rfl)) (fun _ _ _ _ _ => (g_name 25 sc.nd)) (fun _ _ _ _ _ => ts_nil) (fun _ _ _ _ _ => (e_tup (a_cons (e_var 25) (a_cons (e_call G__law_told takes0N hr (a_cons (e_var 3) (a_cons (e_var 25) a_nil)) (len_cons (len_cons len_nil)) (hk := by decide)) a_nil)))))
  (ss_cons (s_set 12 sc.nd (e_lc [("one", 25), ("pair", 26)] sc.nd (i_seq (e_var 11)) (blkOk_by (by rfl)) (fun _ _ _ _ _ => (g_tup (gs_cons (g_name 25 sc.nd) (gs_cons (g_name 26 sc.nd) gs_nil)))) (fun _ _ _ _ _ => ts_nil) (fun _ _ _ _ _ => (e_op o_add (e_var 25) (e_if (t_cmp (o_eq hr) (e_var 25) (e_var 4)) (e_tup (a_cons (e_var 7) (a_cons (e_var 8) a_nil))) (e_var 26))))))
  (ss_cons (s_if (PW.pt (w_or (t_tru (e_callB (c_isiI T.isc) T.b_isinstance PyProof.Rows.boot_isinstance (a_cons (e_var 10) (a_cons (e_bltn T.b_str PyProof.Rows.boot_str) a_nil)))) (w_or1 (t_not (t_tru (e_call G__law_book_right (L2N.takes_of rfl rfl rfl rfl) hr (a_cons (e_var 10) (a_cons (e_var 2) (a_cons (e_var 12) a_nil))) (len_cons (len_cons (len_cons len_nil))) (hk := by decide)))))))
  (ss_one (s_ret e_bl))
  ss_nil)
  (ss_cons (s_set 13 sc.nd (e_ix i_ix (e_call0 G__law_cases (L2N.takes_of rfl rfl rfl rfl) hr (hk := by decide)) (e_call G__law_tap (L2N.takes_of rfl rfl rfl rfl) hr (a_cons (e_var 0) (a_cons e_int a_nil)) (len_cons (len_cons len_nil)) (hk := by decide))))
  (ss_cons (s_set 14 sc.nd (e_call G__law_book_words (L2N.takes_of rfl rfl rfl rfl) hr (a_cons (e_ix i_ix (e_var 13) e_int) a_nil) (len_cons len_nil) (hk := by decide)))
  (ss_cons (s_set 15 sc.nd (e_tup (a_cons (e_ix i_ix (e_ix i_ix (e_var 14) e_int) (e_call G__law_tap (L2N.takes_of rfl rfl rfl rfl) hr (a_cons (e_var 0) (a_cons (e_callB (c_len) T.b_len PySem.boot_len (a_cons (e_ix i_ix (e_var 14) e_int) a_nil)) a_nil)) (len_cons (len_cons len_nil)) (hk := by decide))) (a_cons (e_ix i_ix (e_ix i_ix (e_var 14) e_int) (e_call G__law_tap (L2N.takes_of rfl rfl rfl rfl) hr (a_cons (e_var 0) (a_cons (e_callB (c_len) T.b_len PySem.boot_len (a_cons (e_ix i_ix (e_var 14) e_int) a_nil)) a_nil)) (len_cons (len_cons len_nil)) (hk := by decide))) a_nil))))
  (ss_cons (s_set 16 sc.nd (e_call G__law_said (L2N.takes_of rfl rfl rfl rfl) hr (a_cons (e_var 9) (a_cons (e_var 10) (a_cons (e_tup (a_cons (e_var 13) (a_cons (e_ix i_ix (e_var 15) e_int) (a_cons (e_ix i_ix (e_var 15) e_int) a_nil)))) a_nil))) (len_cons (len_cons (len_cons len_nil))) (hk := by decide)))
  (ss_cons (s_setLc 17 [("row", 27)] sc.nd (i_seq (e_var 12)) (blkOk_by (by rfl)) (fun _ _ _ _ _ => (g_name 27 sc.nd)) (fun _ _ _ _ _ => ts_nil) (fun _ _ _ _ _ => (e_op o_add (e_slice (e_var 27) o_none (o_some e_int)) (e_if (t_cmp (o_eq hr) (e_slice (e_var 27) o_none (o_some e_int)) (e_var 13)) (e_var 15) (e_slice (e_var 27) (o_some e_int) o_none)))))
  (ss_cons (s_if (PW.pt (w_or (t_not (t_tru (e_call G__law_book_right (L2N.takes_of rfl rfl rfl rfl) hr (a_cons (e_var 16) (a_cons (e_var 2) (a_cons (e_var 17) a_nil))) (len_cons (len_cons (len_cons len_nil))) (hk := by decide)))) (w_or1 (t_not (t_tru (e_call G__law_book_right (L2N.takes_of rfl rfl rfl rfl) hr (a_cons (e_var 10) (a_cons (e_var 2) (a_cons (e_var 12) a_nil))) (len_cons (len_cons (len_cons len_nil))) (hk := by decide)))))))
  (ss_one (s_ret e_bl))
  ss_nil)
  (ss_cons (s_set 18 sc.nd (e_ix i_ix (e_var 6) (e_call G__law_tap (L2N.takes_of rfl rfl rfl rfl) hr (a_cons (e_var 0) (a_cons e_int a_nil)) (len_cons (len_cons len_nil)) (hk := by decide))))
  (ss_build 19 sc.nd (a_cons (e_call G__law_said (L2N.takes_of rfl rfl rfl rfl) hr (a_cons (e_var 9) (a_cons (e_var 1) (a_cons (e_tup (a_cons (e_var 4) (a_cons (e_var 18) (a_cons (e_var 8) a_nil)))) a_nil))) (len_cons (len_cons (len_cons len_nil))) (hk := by decide)) a_nil) (e_call G__law_said (L2N.takes_of rfl rfl rfl rfl) hr (a_cons (e_var 9) (a_cons (e_var 1) (a_cons (e_tup (a_cons (e_var 4) (a_cons (e_var 7) (a_cons (e_var 18) a_nil)))) a_nil))) (len_cons (len_cons (len_cons len_nil))) (hk := by decide))
  (ss_cons (s_setLc 20 [("thing", 22)] sc.nd (i_seq (e_var 19)) (blkOk_by (by rfl)) (fun _ _ _ _ _ => (g_name 22 sc.nd)) (fun _ _ _ _ _ => ts_nil) (fun _ _ _ _ _ => (e_callB (c_isiI T.isc) T.b_isinstance PyProof.Rows.boot_isinstance (a_cons (e_var 22) (a_cons (e_bltn T.b_str PyProof.Rows.boot_str) a_nil)))))
  (ss_cons (s_if (t_cmp (o_ne hr) (e_var 20) (e_lst (a_cons (e_cmp (o_nin hr) (e_var 18) (e_ix i_ix (e_var 5) e_int)) (a_cons (e_cmp (o_nin hr) (e_var 18) (e_ix i_ix (e_var 5) e_int)) a_nil))))
  (ss_one (s_ret e_bl))
  ss_nil)
  (ss_cons (s_if (t_cmp (o_ne hr) (e_lc [("thing", 22)] sc.nd (i_seq (e_var 19)) (blkOk_by (by rfl)) (fun _ _ _ _ _ => (g_name 22 sc.nd)) (fun _ _ _ _ _ => (ts_one (PW.pt (w_and (t_tru (e_callB (c_isiI T.isc) T.b_isinstance PyProof.Rows.boot_isinstance (a_cons (e_var 22) (a_cons (e_bltn T.b_str PyProof.Rows.boot_str) a_nil)))) (w_and1 (t_cmp (o_ne hr) (e_var 22) e_str)))))) (fun _ _ _ _ _ => (e_var 22))) (e_lst a_nil))
  (ss_one (s_ret e_bl))
  ss_nil)
  (ss_cons (s_set 21 sc.nd (e_lst (a_cons (e_slice (e_var 4) o_none (o_some e_int)) (a_cons (e_callT (c_list) T.b_list PyProof.Rows.boot_list (a_cons (e_var 4) a_nil)) (a_cons (e_tup (a_cons e_str (a_cons e_str (a_cons e_str a_nil)))) (a_cons e_non (a_cons e_str (a_cons (e_op o_add (e_var 4) (e_tup (a_cons e_str a_nil))) a_nil))))))))
  (ss_cons (s_set 21 sc.nd (e_op o_add (e_var 21) (e_lst (a_cons (e_tup (a_cons e_str (a_cons e_str (a_cons e_str a_nil)))) (a_cons (e_tup (a_cons e_int (a_cons e_int (a_cons e_int a_nil)))) a_nil)))))
  (ss_cons (s_set 21 sc.nd (e_op o_add (e_var 21) (e_lst (a_cons (e_tup (a_cons e_str (a_cons (e_lst (a_cons e_str a_nil)) (a_cons e_str a_nil)))) (a_cons (e_tup (a_cons (e_lst (a_cons e_str a_nil)) (a_cons e_str (a_cons e_str a_nil)))) (a_cons (e_tup (a_cons e_dct0 (a_cons e_str (a_cons e_str a_nil)))) a_nil))))))
  (ss_cons (s_set 22 sc.nd (e_ix i_ix (e_var 21) (e_call G__law_tap (L2N.takes_of rfl rfl rfl rfl) hr (a_cons (e_var 0) (a_cons e_int a_nil)) (len_cons (len_cons len_nil)) (hk := by decide))))
  (ss_one (s_if (t_cmp (o_ne hr) (e_lst (a_cons (e_call G__law_said (L2N.takes_of rfl rfl rfl rfl) hr (a_cons (e_var 9) (a_cons (e_var 1) (a_cons (e_tup (a_cons (e_var 22) (a_cons (e_var 18) (a_cons e_non a_nil)))) a_nil))) (len_cons (len_cons (len_cons len_nil))) (hk := by decide)) (a_cons (e_call G__law_said (L2N.takes_of rfl rfl rfl rfl) hr (a_cons e_int (a_cons (e_var 1) (a_cons (e_var 22) a_nil))) (len_cons (len_cons (len_cons len_nil))) (hk := by decide)) a_nil))) (e_lst (a_cons e_str (a_cons e_str a_nil))))
  (ss_one (s_ret e_bl))
  ss_nil))))))))))))))))))))) (L2.passes_of rfl))
  (ss_cons (s_set 23 sc.nd (e_tup (a_cons (e_ix i_ix (e_lst (a_cons e_str (a_cons e_str a_nil))) (e_call G__law_tap (L2N.takes_of rfl rfl rfl rfl) hr (a_cons (e_var 0) (a_cons e_int a_nil)) (len_cons (len_cons len_nil)) (hk := by decide))) (a_cons (e_ix i_ix (e_lst (a_cons e_str (a_cons e_str a_nil))) (e_call G__law_tap (L2N.takes_of rfl rfl rfl rfl) hr (a_cons (e_var 0) (a_cons e_int a_nil)) (len_cons (len_cons len_nil)) (hk := by decide))) a_nil))))
  (ss_cons (s_set 24 sc.nd (e_call G__law_said (L2N.takes_of rfl rfl rfl rfl) hr (a_cons (e_op o_add e_int (e_call G__law_tap (L2N.takes_of rfl rfl rfl rfl) hr (a_cons (e_var 0) (a_cons e_int a_nil)) (len_cons (len_cons len_nil)) (hk := by decide))) (a_cons (e_var 1) (a_cons (e_var 23) a_nil))) (len_cons (len_cons (len_cons len_nil))) (hk := by decide)))
  (ss_cons (s_set 18 sc.nd (e_ix i_ix (e_lst (a_cons e_str (a_cons e_str (a_cons e_non (a_cons e_int (a_cons e_str (a_cons (e_lst (a_cons e_str a_nil)) a_nil))))))) (e_call G__law_tap (L2N.takes_of rfl rfl rfl rfl) hr (a_cons (e_var 0) (a_cons e_int a_nil)) (len_cons (len_cons len_nil)) (hk := by decide))))
  (ss_cons (s_set 16 sc.nd (e_call G__law_said (L2N.takes_of rfl rfl rfl rfl) hr (a_cons e_int (a_cons (e_var 24) (a_cons (e_tup (a_cons (e_var 4) (a_cons (e_var 7) (a_cons (e_var 8) a_nil)))) a_nil))) (len_cons (len_cons (len_cons len_nil))) (hk := by decide)))
  (ss_cons (s_set 12 sc.nd (e_op o_add (e_lst (a_cons (e_op o_add (e_var 4) (e_tup (a_cons (e_var 7) (a_cons (e_var 8) a_nil)))) a_nil)) (e_var 3)))
  (ss_cons (s_set 12 sc.nd (e_lc [("one", 25)] sc.nd (i_seq (e_call0 G__law_cases (L2N.takes_of rfl rfl rfl rfl) hr (hk := by decide))) (blkOk_by (by rfl)) (fun _ _ _ _ _ => (g_name 25 sc.nd)) (fun _ _ _ _ _ => ts_nil) (fun _ _ _ _ _ => (e_op o_add (e_var 25) (e_call G__law_told takes0N hr (a_cons (e_var 12) (a_cons (e_var 25) a_nil)) (len_cons (len_cons len_nil)) (hk := by decide))))))
  (ss_cons (s_if (PW.pt (w_or (t_not (t_tru (e_call G__law_book_right (L2N.takes_of rfl rfl rfl rfl) hr (a_cons (e_var 16) (a_cons (e_var 23) (a_cons (e_var 12) a_nil))) (len_cons (len_cons (len_cons len_nil))) (hk := by decide)))) (w_or1 (t_not (t_tru (e_call G__law_book_right (L2N.takes_of rfl rfl rfl rfl) hr (a_cons (e_call G__law_said (L2N.takes_of rfl rfl rfl rfl) hr (a_cons e_int (a_cons (e_var 16) (a_cons (e_var 2) a_nil))) (len_cons (len_cons (len_cons len_nil))) (hk := by decide)) (a_cons (e_var 2) (a_cons (e_var 12) a_nil))) (len_cons (len_cons (len_cons len_nil))) (hk := by decide)))))))
  (ss_one (s_ret e_bl))
  ss_nil)
  (ss_cons (s_if (PW.pt (w_or (t_not (t_tru (e_call G__law_book_right (L2N.takes_of rfl rfl rfl rfl) hr (a_cons (e_var 24) (a_cons (e_var 23) (a_cons (e_var 3) a_nil))) (len_cons (len_cons (len_cons len_nil))) (hk := by decide)))) (w_or1 (t_cmp (o_ne hr) (e_call G__law_said (L2N.takes_of rfl rfl rfl rfl) hr (a_cons e_int (a_cons (e_var 1) (a_cons (e_tup (a_cons (e_var 18) (a_cons (e_ix i_ix (e_var 23) e_int) a_nil))) a_nil))) (len_cons (len_cons (len_cons len_nil))) (hk := by decide)) e_str))))
  (ss_one (s_ret e_bl))
  ss_nil)
  (ss_one (s_ret (e_and (e_cmp (o_eq hr) (e_call G__law_said (L2N.takes_of rfl rfl rfl rfl) hr (a_cons e_int (a_cons (e_var 1) (a_cons (e_tup (a_cons (e_ix i_ix (e_var 23) e_int) (a_cons (e_var 18) a_nil))) a_nil))) (len_cons (len_cons (len_cons len_nil))) (hk := by decide)) e_str) (e_one (e_call G__law_book_right (L2N.takes_of rfl rfl rfl rfl) hr (a_cons (e_var 1) (a_cons (e_var 2) (a_cons (e_var 3) a_nil))) (len_cons (len_cons (len_cons len_nil))) (hk := by decide)))))))))))))))))))
theorem sc_Book___eq__ : FnScope ["self", "other"] ["self", "other"] (defScope (methOf (top 56) 7)) := ⟨rfl, rfl, rfl, by decide +kernel, rfl, by decide +kernel, by decide +kernel⟩
theorem ok_Book___eq__ (T : Txt K mg C) {f_table_of : Addr} {fd_table_of : FuncData} (G_table_of : Does P w K mg base (UU K C) 4 "table_of" f_table_of fd_table_of ["rows"] F_table_of) {f : Addr} {fd : FuncData} (F : L2.Fun K "__eq__" "Book.__eq__" (methOf (top 56) 7) f fd) (me : Meth K (C 4) "__eq__" f) (hb : Binds K fd ["self", "other"] []) : DoesM P w K mg base (UU K C) 5 4 "__eq__" f fd ["self", "other"] F_Book___eq__ := by
  have sc := sc_Book___eq__
  have Y := fn_def (P := P) (w := w) (mg := mg) (base := base) (U := UU K C) (k := 4) (N := ["self", "other"]) (ps := ["self", "other"]) (ms := m_Book___eq__) F sc rfl fun cdv A outer s H E hr => (ss_cons (s_if (PW.pt (w_or (t_not (t_tru (e_callB (c_isiI T.isc) T.b_isinstance PyProof.Rows.boot_isinstance (a_cons (e_var 1) (a_cons (e_gc T.c_Book) a_nil))))) (w_or1 (t_cmp (o_ne hr) (e_tup (a_cons (e_fld (e_var 0) (cs := [4]) (one_c ⟨T.i4, T.n4_marks⟩)) (a_cons (e_fld (e_var 0) (cs := [4]) (one_c ⟨T.i4, T.n4_scope⟩)) a_nil))) (e_tup (a_cons (e_fld (e_var 1) (cs := [4]) (one_c ⟨T.i4, T.n4_marks⟩)) (a_cons (e_fld (e_var 1) (cs := [4]) (one_c ⟨T.i4, T.n4_scope⟩)) a_nil)))))))
  (ss_one (s_ret e_bl))
  ss_nil)
  (ss_one (s_ret (e_cmp (o_eq hr) (e_call G_table_of (L2N.takes_of rfl rfl rfl rfl) hr (a_cons (e_fld (e_var 0) (cs := [4]) (one_c ⟨T.i4, T.n4_kept_rows⟩)) a_nil) (len_cons len_nil) (hk := by decide)) (e_call G_table_of (L2N.takes_of rfl rfl rfl rfl) hr (a_cons (e_fld (e_var 1) (cs := [4]) (one_c ⟨T.i4, T.n4_kept_rows⟩)) a_nil) (len_cons len_nil) (hk := by decide))))))
  exact ⟨Y, T.i4, me, hb⟩
theorem sc__law_bent_rows : FnScope ["cask", "rows_here", "k", "odd", "some", "row", "j", "bent"] ["cask", "rows_here"] (defScope (top 71)) := ⟨rfl, rfl, rfl, by decide +kernel, rfl, by decide +kernel, by decide +kernel⟩
theorem ok__law_bent_rows (T : Txt K mg C) {f__law_tap : Addr} {fd__law_tap : FuncData} (G__law_tap : Does P w K mg base (UU K C) 2 "_law_tap" f__law_tap fd__law_tap ["cask", "span"] F__law_tap) {f : Addr} {fd : FuncData} (F : L2.Fun K "_law_bent_rows" "_law_bent_rows" (top 71) f fd) (hm : mg "_law_bent_rows" = some (.ref f)) (hb : Binds K fd ["cask", "rows_here"] []) : Does P w K mg base (UU K C) 3 "_law_bent_rows" f fd ["cask", "rows_here"] F__law_bent_rows := by
  have sc := sc__law_bent_rows
  exact ok_def F hm hb sc rfl fun cdv A outer s H E hr => (ss_cons (s_set 2 sc.nd (e_call G__law_tap (L2N.takes_of rfl rfl rfl rfl) hr (a_cons (e_var 0) (a_cons (e_op o_add (e_callB (c_len) T.b_len PySem.boot_len (a_cons (e_var 1) a_nil)) e_int) a_nil)) (len_cons (len_cons len_nil)) (hk := by decide)))
  (ss_cons (s_set 3 sc.nd (e_lst (a_cons e_str (a_cons e_str (a_cons e_str (a_cons e_str (a_cons e_int (a_cons (e_lst (a_cons e_str a_nil)) (a_cons (e_tup (a_cons e_str a_nil)) (a_cons e_str (a_cons e_str (a_cons e_str a_nil))))))))))))
  (ss_cons (s_set 4 sc.nd (e_lst (a_cons (e_tup (a_cons e_str (a_cons e_str (a_cons e_str (a_cons e_str a_nil))))) (a_cons (e_lst (a_cons e_str (a_cons e_str (a_cons e_str (a_cons e_str (a_cons e_str a_nil)))))) (a_cons e_str (a_cons e_non (a_cons (e_tup a_nil) a_nil)))))))
  (ss_cons (s_set 4 sc.nd (e_op o_add (e_var 4) (e_lst (a_cons (e_tup (a_cons e_str (a_cons e_str (a_cons e_str (a_cons e_str (a_cons e_str a_nil)))))) (a_cons (e_tup (a_cons e_str (a_cons e_str (a_cons e_str (a_cons e_str (a_cons e_str a_nil)))))) a_nil)))))
  (ss_cons (s_if (t_cmp (o_ne hr) (e_var 1) (e_lst a_nil))
  (ss_cons (s_set 5 sc.nd (e_ix i_ix (e_var 1) (e_call G__law_tap (L2N.takes_of rfl rfl rfl rfl) hr (a_cons (e_var 0) (a_cons (e_callB (c_len) T.b_len PySem.boot_len (a_cons (e_var 1) a_nil)) a_nil)) (len_cons (len_cons len_nil)) (hk := by decide))))
  (ss_cons (s_set 5 sc.nd (e_if (PW.pt (w_and (t_tru (e_callB (c_isiI T.isc) T.b_isinstance PyProof.Rows.boot_isinstance (a_cons (e_var 5) (a_cons (e_bltn T.b_tuple PyProof.Rows.boot_tuple) a_nil)))) (w_and1 (t_cmp (o_eq hr) (e_callB (c_len) T.b_len PySem.boot_len (a_cons (e_var 5) a_nil)) e_int)))) (e_var 5) (e_tup (a_cons e_str (a_cons e_str (a_cons e_str (a_cons e_str (a_cons e_str a_nil))))))))
  (ss_cons (s_set 6 sc.nd (e_call G__law_tap (L2N.takes_of rfl rfl rfl rfl) hr (a_cons (e_var 0) (a_cons e_int a_nil)) (len_cons (len_cons len_nil)) (hk := by decide)))
  (ss_cons (s_set 7 sc.nd (e_op o_add (e_op o_add (e_slice (e_var 5) o_none (o_some (e_var 6))) (e_tup (a_cons (e_ix i_ix (e_var 3) (e_call G__law_tap (L2N.takes_of rfl rfl rfl rfl) hr (a_cons (e_var 0) (a_cons e_int a_nil)) (len_cons (len_cons len_nil)) (hk := by decide))) a_nil))) (e_slice (e_var 5) (o_some (e_op o_add (e_var 6) e_int)) o_none)))
  (ss_one (s_set 4 sc.nd (e_op o_add (e_var 4) (e_lst (a_cons (e_var 7) (a_cons (e_var 7) (a_cons (e_var 7) (a_cons (e_op o_add (e_var 5) (e_tup (a_cons e_str a_nil))) a_nil))))))))))))
  ss_nil)
  (ss_one (s_ret (e_op o_add (e_op o_add (e_slice (e_var 1) o_none (o_some (e_var 2))) (e_lst (a_cons (e_ix i_ix (e_var 4) (e_call G__law_tap (L2N.takes_of rfl rfl rfl rfl) hr (a_cons (e_var 0) (a_cons (e_callB (c_len) T.b_len PySem.boot_len (a_cons (e_var 4) a_nil)) a_nil)) (len_cons (len_cons len_nil)) (hk := by decide))) a_nil))) (e_slice (e_var 1) (o_some (e_var 2)) o_none)))))))))
theorem sc__law_row_good : FnScope ["thing", "words", "bad", "word", "k"] ["thing"] (defScope (top 68)) := ⟨rfl, rfl, rfl, by decide +kernel, rfl, by decide +kernel, by decide +kernel⟩
theorem ok__law_row_good (T : Txt K mg C) {f__law_book_words : Addr} {fd__law_book_words : FuncData} (G__law_book_words : Does P w K mg base (UU K C) 2 "_law_book_words" f__law_book_words fd__law_book_words ["deed"] F__law_book_words) {f : Addr} {fd : FuncData} (F : L2.Fun K "_law_row_good" "_law_row_good" (top 68) f fd) (hm : mg "_law_row_good" = some (.ref f)) (hb : Binds K fd ["thing"] []) : Does P w K mg base (UU K C) 3 "_law_row_good" f fd ["thing"] F__law_row_good := by
  have sc := sc__law_row_good
  exact ok_def F hm hb sc rfl fun cdv A outer s H E hr => (ss_cons (s_if (PW.pt (w_or (t_not (t_tru (e_callB (c_isiI T.isc) T.b_isinstance PyProof.Rows.boot_isinstance (a_cons (e_var 0) (a_cons (e_bltn T.b_tuple PyProof.Rows.boot_tuple) a_nil))))) (w_or (t_cmp (o_ne hr) (e_callB (c_len) T.b_len PySem.boot_len (a_cons (e_var 0) a_nil)) e_int) (w_or1 (t_cmp (o_ne hr) (e_lc [("word", 3)] sc.nd (i_seq (e_var 0)) (blkOk_by (by rfl)) (fun _ _ _ _ _ => (g_name 3 sc.nd)) (fun _ _ _ _ _ => (ts_one (t_not (t_tru (e_callB (c_isiI T.isc) T.b_isinstance PyProof.Rows.boot_isinstance (a_cons (e_var 3) (a_cons (e_bltn T.b_str PyProof.Rows.boot_str) a_nil))))))) (fun _ _ _ _ _ => (e_var 3))) (e_lst a_nil))))))
  (ss_one (s_ret e_bl))
  ss_nil)
  (ss_cons (s_if (t_cmp (o_nin hr) (e_ix i_ix (e_var 0) e_int) (e_tup (a_cons e_str (a_cons e_str (a_cons e_str a_nil)))))
  (ss_one (s_ret e_bl))
  ss_nil)
  (ss_cons (s_set 1 sc.nd (e_call G__law_book_words (L2N.takes_of rfl rfl rfl rfl) hr (a_cons (e_ix i_ix (e_var 0) e_int) a_nil) (len_cons len_nil) (hk := by decide)))
  (ss_cons (s_setLc 2 [("k", 4)] sc.nd (i_range1 T.b_range e_int) (blkOk_by (by rfl)) (fun _ _ _ _ _ => (g_name 4 sc.nd)) (fun _ _ _ _ _ => (ts_one (PW.pt (w_and (t_cmp (o_nin hr) (e_ix i_ix (e_var 0) (e_op o_add (e_var 4) e_int)) (e_ix i_ix (e_var 1) (e_var 4))) (w_and1 (t_not (PW.pt (w_and (t_cmp (o_lt hr) (e_var 4) e_int) (w_and1 (t_cmp (o_eq hr) (e_ix i_ix (e_var 0) (e_op o_add (e_var 4) e_int)) e_str)))))))))) (fun _ _ _ _ _ => (e_var 4)))
  (ss_one (s_ret (e_cmp (o_eq hr) (e_var 2) (e_lst a_nil))))))))
theorem sc__law_book_due : FnScope ["g", "row"] ["g"] (defScope (top 69)) := ⟨rfl, rfl, rfl, by decide +kernel, rfl, by decide +kernel, by decide +kernel⟩
theorem ok__law_book_due (T : Txt K mg C) {f__law_row_good : Addr} {fd__law_row_good : FuncData} (G__law_row_good : Does P w K mg base (UU K C) 3 "_law_row_good" f__law_row_good fd__law_row_good ["thing"] F__law_row_good) {f : Addr} {fd : FuncData} (F : L2.Fun K "_law_book_due" "_law_book_due" (top 69) f fd) (hm : mg "_law_book_due" = some (.ref f)) (hb : Binds K fd ["g"] []) : Does P w K mg base (UU K C) 4 "_law_book_due" f fd ["g"] F__law_book_due := by
  have sc := sc__law_book_due
  exact ok_def F hm hb sc rfl fun cdv A outer s H E hr => (ss_cons (s_if (PW.pt (w_or (t_not (t_tru (e_callB (c_isiI T.isc) T.b_isinstance PyProof.Rows.boot_isinstance (a_cons (e_ix i_ix (e_var 0) e_int) (a_cons (e_bltn T.b_str PyProof.Rows.boot_str) a_nil))))) (w_or1 (t_cmp (o_nin hr) (e_ix i_ix (e_var 0) e_int) (e_tup (a_cons e_str (a_cons e_str a_nil)))))))
  (ss_one (s_ret e_str))
  ss_nil)
  (ss_cons (s_if (PW.pt (w_or (t_not (t_tru (e_callB (c_isiI T.isc) T.b_isinstance PyProof.Rows.boot_isinstance (a_cons (e_ix i_ix (e_var 0) e_int) (a_cons (e_bltn T.b_str PyProof.Rows.boot_str) a_nil))))) (w_or1 (t_cmp (o_nin hr) (e_ix i_ix (e_var 0) e_int) (e_tup (a_cons e_str (a_cons e_str a_nil)))))))
  (ss_one (s_ret e_str))
  ss_nil)
  (ss_cons (s_if (PW.pt (w_or (t_not (t_tru (e_callB (c_isiI T.isc) T.b_isinstance PyProof.Rows.boot_isinstance (a_cons (e_ix i_ix (e_var 0) e_int) (a_cons (e_bltn T.b_list PyProof.Rows.boot_list) a_nil))))) (w_or (t_cmp (o_gt hr) (e_callB (c_len) T.b_len PySem.boot_len (a_cons (e_ix i_ix (e_var 0) e_int) a_nil)) e_int) (w_or1 (t_cmp (o_ne hr) (e_lc [("row", 1)] sc.nd (i_seq (e_ix i_ix (e_var 0) e_int)) (blkOk_by (by rfl)) (fun _ _ _ _ _ => (g_name 1 sc.nd)) (fun _ _ _ _ _ => (ts_one (t_not (t_tru (e_call G__law_row_good takes0N hr (a_cons (e_var 1) a_nil) (len_cons len_nil) (hk := by decide)))))) (fun _ _ _ _ _ => (e_var 1))) (e_lst a_nil))))))
  (ss_one (s_ret e_str))
  ss_nil)
  (ss_one (s_ret e_non)))))
theorem sc_cases_at_O : FnScope ["found", "deed", "role", "relation_word"] [] (defScope (top 46)) := ⟨rfl, rfl, rfl, by decide +kernel, rfl, by decide +kernel, by decide +kernel⟩
theorem ok_cases_at_O (T : Txt K mg C) {f_roles_of : Addr} {fd_roles_of : FuncData} (G_roles_of : Does P w K mg base (UU K C) 2 "roles_of" f_roles_of fd_roles_of ["deed"] F_roles_of) {f_relations_of : Addr} {fd_relations_of : FuncData} (G_relations_of : Does P w K mg base (UU K C) 2 "relations_of" f_relations_of fd_relations_of ["deed"] F_relations_of) {f : Addr} {fd : FuncData} (F : L2.Fun K "cases" "cases" (top 46) f fd) (hm : mg "cases" = some (.ref f)) (hb : Binds K fd [] []) : Does P w K mg base (UU K C) 3 "cases" f fd [] F_cases_at_O := by
  have sc := sc_cases_at_O
  exact ok_def F hm hb sc rfl fun cdv A outer s H E hr => (ss_cons (s_set 0 sc.nd (e_lst a_nil))
  (ss_cons (s_for (i_seq (e_gc T.g_DEED_WORDS)) (g_name 1 sc.nd)
  (ss_one (s_for (i_seq (e_call G_roles_of (L2N.takes_of rfl rfl rfl rfl) hr (a_cons (e_var 1) a_nil) (len_cons len_nil) (hk := by decide))) (g_name 2 sc.nd)
  (ss_one (s_set 0 sc.nd (e_lstO (a_star (e_var 0) (a_star (e_lc [("relation_word", 3)] sc.nd (i_seq (e_call G_relations_of (L2N.takes_of rfl rfl rfl rfl) hr (a_cons (e_var 1) a_nil) (len_cons len_nil) (hk := by decide))) (blkOk_by (by rfl)) (fun _ _ _ _ _ => (g_name 3 sc.nd)) (fun _ _ _ _ _ => ts_nil) (fun _ _ _ _ _ => (e_tup (a_cons (e_var 1) (a_cons (e_var 2) (a_cons (e_var 3) a_nil)))))) a_nil))))) (L2.passes_of rfl))) (L2.passes_of rfl))
  (ss_one (s_ret (e_var 0)))))
theorem sc_law : FnScope ["script", "at", "cask", "turn", "rows_here", "form", "handed", "book_here", "mate", "equal_here", "like", "found", "trial", "thing", "g", "due", "way", "heard", "k", "row"] ["script"] (defScope (top 73)) := ⟨rfl, rfl, rfl, by decide +kernel, rfl, by decide +kernel, by decide +kernel⟩
theorem ok_law (T : Txt K mg C) {f__law_cask : Addr} {fd__law_cask : FuncData} (G__law_cask : Does P w K mg base (UU K C) 2 "_law_cask" f__law_cask fd__law_cask ["script", "at"] F__law_cask) {f__law_tap : Addr} {fd__law_tap : FuncData} (G__law_tap : Does P w K mg base (UU K C) 2 "_law_tap" f__law_tap fd__law_tap ["cask", "span"] F__law_tap) {f__law_any_row : Addr} {fd__law_any_row : FuncData} (G__law_any_row : Does P w K mg base (UU K C) 3 "_law_any_row" f__law_any_row fd__law_any_row ["cask"] F__law_any_row) {f__law_good_rows : Addr} {fd__law_good_rows : FuncData} (G__law_good_rows : Does P w K mg base (UU K C) 4 "_law_good_rows" f__law_good_rows fd__law_good_rows ["cask"] F__law_good_rows) {f_Book___init__ : Addr} {fd_Book___init__ : FuncData} (G_Book___init__ : DoesI P w K mg base (UU K C) 4 4 "Book" f_Book___init__ fd_Book___init__ ["self", "marks", "scope", "rows"] F_Book___init__) {f__law_said : Addr} {fd__law_said : FuncData} (G__law_said : Does P w K mg base (UU K C) 8 "_law_said" f__law_said fd__law_said ["way", "thing", "g"] F__law_said) {f__law_book_right : Addr} {fd__law_book_right : FuncData} (G__law_book_right : Does P w K mg base (UU K C) 9 "_law_book_right" f__law_book_right fd__law_book_right ["book_here", "form", "rows_here"] F__law_book_right) {f__law_change_right : Addr} {fd__law_change_right : FuncData} (G__law_change_right : Does P w K mg base (UU K C) 10 "_law_change_right" f__law_change_right fd__law_change_right ["cask", "book_here", "form", "rows_here"] F__law_change_right) {f_Book_table : Addr} {fd_Book_table : FuncData} (G_Book_table : DoesM P w K mg base (UU K C) 5 4 "table" f_Book_table fd_Book_table ["self"] F_Book_table) {f_Book___eq__ : Addr} {fd_Book___eq__ : FuncData} (G_Book___eq__ : DoesM P w K mg base (UU K C) 5 4 "__eq__" f_Book___eq__ fd_Book___eq__ ["self", "other"] F_Book___eq__) {f__law_agree : Addr} {fd__law_agree : FuncData} (G__law_agree : Does P w K mg base (UU K C) 8 "_law_agree" f__law_agree fd__law_agree ["found", "due"] (F__law_agree 7)) {f_Book_in_form : Addr} {fd_Book_in_form : FuncData} (G_Book_in_form : DoesM P w K mg base (UU K C) 6 4 "in_form" f_Book_in_form fd_Book_in_form ["self", "marks", "scope"] F_Book_in_form) {f__law_bent_rows : Addr} {fd__law_bent_rows : FuncData} (G__law_bent_rows : Does P w K mg base (UU K C) 3 "_law_bent_rows" f__law_bent_rows fd__law_bent_rows ["cask", "rows_here"] F__law_bent_rows) {f__law_book_due : Addr} {fd__law_book_due : FuncData} (G__law_book_due : Does P w K mg base (UU K C) 4 "_law_book_due" f__law_book_due fd__law_book_due ["g"] F__law_book_due) {f_cases_at_O : Addr} {fd_cases_at_O : FuncData} (G_cases_at_O : Does P w K mg base (UU K C) 3 "cases" f_cases_at_O fd_cases_at_O [] F_cases_at_O) {f__law_cases : Addr} {fd__law_cases : FuncData} (G__law_cases : Does P w K mg base (UU K C) 3 "_law_cases" f__law_cases fd__law_cases [] F__law_cases) {f_cases : Addr} {fd_cases : FuncData} (G_cases : Does P w K mg base (UU K C) 3 "cases" f_cases fd_cases [] F_cases) {f : Addr} {fd : FuncData} (F : L2.Fun K "law" "law" (top 73) f fd) (hm : mg "law" = some (.ref f)) (hb : Binds K fd ["script"] []) : Does P w K mg base (UU K C) 11 "law" f fd ["script"] F_law := by
  have sc := sc_law
  exact ok_def F hm hb sc rfl fun cdv A outer s H E hr => (ss_cons (s_for (i_range1 T.b_range (e_callB (c_max) T.b_max PyProof.Rows.boot_max (a_cons e_int (a_cons (e_callB (c_min) T.b_min PyProof.Rows.boot_min (a_cons e_int (a_cons (e_callB (c_len) T.b_len PySem.boot_len (a_cons (e_var 0) a_nil)) a_nil))) a_nil)))) (g_name 1 sc.nd)
  (ss_cons (s_set 2 sc.nd (e_call G__law_cask (L2N.takes_of rfl rfl rfl rfl) hr (a_cons (e_var 0) (a_cons (e_var 1) a_nil)) (len_cons (len_cons len_nil)) (hk := by decide)))
  (ss_one (s_for (i_range1 T.b_range e_int) (g_name 3 sc.nd)
  (ss_cons (s_setLc 4 [("k", 18)] sc.nd (i_range1 T.b_range (e_call G__law_tap (L2N.takes_of rfl rfl rfl rfl) hr (a_cons (e_var 2) (a_cons e_int a_nil)) (len_cons (len_cons len_nil)) (hk := by decide))) (blkOk_by (by rfl)) (fun _ _ _ _ _ => (g_name 18 sc.nd)) (fun _ _ _ _ _ => ts_nil) (fun _ _ _ _ _ => (e_call G__law_any_row takes0N hr (a_cons (e_var 2) a_nil) (len_cons len_nil) (hk := by decide))))
  (ss_cons (s_if (t_cmp (o_eq hr) (e_op o_odd (e_var 3) e_int) e_int)
  (ss_one (s_set 4 sc.nd (e_call G__law_good_rows (L2N.takes_of rfl rfl rfl rfl) hr (a_cons (e_var 2) a_nil) (len_cons len_nil) (hk := by decide))))
  ss_nil)
  (ss_cons (s_set 5 sc.nd (e_tup (a_cons (e_ix i_ix (e_lst (a_cons e_str (a_cons e_str a_nil))) (e_call G__law_tap (L2N.takes_of rfl rfl rfl rfl) hr (a_cons (e_var 2) (a_cons e_int a_nil)) (len_cons (len_cons len_nil)) (hk := by decide))) (a_cons (e_ix i_ix (e_lst (a_cons e_str (a_cons e_str a_nil))) (e_call G__law_tap (L2N.takes_of rfl rfl rfl rfl) hr (a_cons (e_var 2) (a_cons e_int a_nil)) (len_cons (len_cons len_nil)) (hk := by decide))) a_nil))))
  (ss_cons (s_set 6 sc.nd (e_listO T.b_list (a_cons (e_var 4) a_nil)))
  (ss_cons (s_par 7 8 sc.nd (a_cons (e_call G__law_said (L2N.takes_of rfl rfl rfl rfl) hr (a_cons (e_op o_odd (e_var 3) e_int) (a_cons e_non (a_cons (e_op o_add (e_var 5) (e_tup (a_cons (e_var 6) a_nil))) a_nil))) (len_cons (len_cons (len_cons len_nil))) (hk := by decide)) (a_cons (e_make G_Book___init__ (L2N.takes_of rfl rfl rfl rfl) hr (a_cons (e_ix i_ix (e_var 5) e_int) (a_cons (e_ix i_ix (e_var 5) e_int) (a_cons (e_call G__law_good_rows (L2N.takes_of rfl rfl rfl rfl) hr (a_cons (e_var 2) a_nil) (len_cons len_nil) (hk := by decide)) a_nil))) (len1 (len_cons (len_cons (len_cons len_nil)))) (hk := by decide)) a_nil)))
  (ss_cons (s_app (e_var 6) e_non)
  (ss_cons (s_if (t_not (t_tru (e_call G__law_book_right (L2N.takes_of rfl rfl rfl rfl) hr (a_cons (e_var 7) (a_cons (e_var 5) (a_cons (e_var 4) a_nil))) (len_cons (len_cons (len_cons len_nil))) (hk := by decide))))
  (ss_one (s_ret e_bl))
  ss_nil)
  (ss_cons (s_if (t_not (t_tru (e_call G__law_change_right (L2N.takes_of rfl rfl rfl rfl) hr (a_cons (e_var 2) (a_cons (e_var 7) (a_cons (e_var 5) (a_cons (e_var 4) a_nil)))) (len_cons (len_cons (len_cons (len_cons len_nil)))) (hk := by decide))))
  (ss_one (s_ret e_bl))
  ss_nil)
  (ss_cons (s_set 9 sc.nd (e_cmp (o_eq hr) (e_meth0 G_Book_table (L2N.takes_of rfl rfl rfl rfl) hr (e_var 7) (hk := by decide)) (e_meth0 G_Book_table (L2N.takes_of rfl rfl rfl rfl) hr (e_var 8) (hk := by decide))))
  (ss_cons (s_set 10 sc.nd (e_make G_Book___init__ (L2N.takes_of rfl rfl rfl rfl) hr (a_cons (e_ix i_ix (e_var 5) e_int) (a_cons (e_ix i_ix (e_var 5) e_int) (a_cons (e_lc [("row", 19)] sc.nd (i_seq (e_meth0 G_Book_table (L2N.takes_of rfl rfl rfl rfl) hr (e_var 7) (hk := by decide))) (blkOk_by (by rfl)) (fun _ _ _ _ _ => (g_name 19 sc.nd)) (fun _ _ _ _ _ => ts_nil) (fun _ _ _ _ _ => (e_op o_add (e_ix i_ix (e_var 19) e_int) (e_tup (a_cons (e_ix i_ix (e_var 19) e_int) (a_cons (e_ix i_ix (e_var 19) e_int) a_nil)))))) a_nil))) (len1 (len_cons (len_cons (len_cons len_nil)))) (hk := by decide)))
  (ss_cons (s_set 11 sc.nd (e_lst (a_cons (e_eqI G_Book___eq__ nf_lst (L2N.takes_of rfl rfl rfl rfl) hr (e_var 7) (e_var 8)) (a_cons (e_eqI G_Book___eq__ nf_lst (L2N.takes_of rfl rfl rfl rfl) hr (e_var 8) (e_var 7)) (a_cons (e_neI G_Book___eq__ nf_lst T.ne4 T.ob4 (L2N.takes_of rfl rfl rfl rfl) hr (e_var 7) (e_var 8)) (a_cons (e_eqI G_Book___eq__ nf_lst (L2N.takes_of rfl rfl rfl rfl) hr (e_var 7) (e_var 10)) a_nil))))))
  (ss_cons (s_set 11 sc.nd (e_op o_add (e_var 11) (e_lst (a_cons (e_eqI G_Book___eq__ nf_lst (L2N.takes_of rfl rfl rfl rfl) hr (e_var 7) (e_var 4)) a_nil))))
  (ss_cons (s_if (t_not (t_tru (e_call G__law_agree (L2N.takes_of rfl rfl rfl rfl) hr (a_cons (e_var 11) (a_cons (e_lst (a_cons (e_var 9) (a_cons (e_var 9) (a_cons (e_not (e_var 9)) (a_cons e_bl (a_cons e_bl a_nil)))))) a_nil)) (len_cons (len_cons len_nil)) (hk := by decide))))
  (ss_one (s_ret e_bl))
  ss_nil)
  (ss_cons (s_if (t_cmp (o_ne hr) (e_eqI G_Book___eq__ nf_lst (L2N.takes_of rfl rfl rfl rfl) hr (e_var 7) (e_meth G_Book_in_form (L2N.takes_of rfl rfl rfl rfl) hr (e_var 7) (a_cons e_str (a_cons e_str a_nil)) (len1 (len_cons (len_cons len_nil))) (hk := by decide))) (e_cmp (o_eq hr) (e_var 5) (e_tup (a_cons e_str (a_cons e_str a_nil)))))
  (ss_one (s_ret e_bl))
  ss_nil)
  (ss_one (s_for (i_range1 T.b_range e_int) (g_name 12 sc.nd)
  (ss_cons (s_set 13 sc.nd (e_call G__law_bent_rows (L2N.takes_of rfl rfl rfl rfl) hr (a_cons (e_var 2) (a_cons (e_var 4) a_nil)) (len_cons (len_cons len_nil)) (hk := by decide)))
  (ss_cons (s_set 13 sc.nd (e_if (t_cmp (o_eq hr) (e_call G__law_tap (L2N.takes_of rfl rfl rfl rfl) hr (a_cons (e_var 2) (a_cons e_int a_nil)) (len_cons (len_cons len_nil)) (hk := by decide)) e_int) (e_call G__law_bent_rows (L2N.takes_of rfl rfl rfl rfl) hr (a_cons (e_var 2) (a_cons (e_var 13) a_nil)) (len_cons (len_cons len_nil)) (hk := by decide)) (e_var 13)))
  (ss_cons (s_set 13 sc.nd (e_if (t_cmp (o_eq hr) (e_call G__law_tap (L2N.takes_of rfl rfl rfl rfl) hr (a_cons (e_var 2) (a_cons e_int a_nil)) (len_cons (len_cons len_nil)) (hk := by decide)) e_int) (e_ix i_ix (e_lst (a_cons (e_callT (c_tuple) T.b_tuple PyProof.Rows.boot_tuple (a_cons (e_var 13) a_nil)) (a_cons e_non (a_cons e_str a_nil)))) (e_call G__law_tap (L2N.takes_of rfl rfl rfl rfl) hr (a_cons (e_var 2) (a_cons e_int a_nil)) (len_cons (len_cons len_nil)) (hk := by decide))) (e_var 13)))
  (ss_cons (s_set 14 sc.nd (e_tup (a_cons (e_ix i_ix (e_lst (a_cons e_str (a_cons e_str (a_cons e_non (a_cons (e_tup (a_cons e_str a_nil)) a_nil))))) (e_callB (c_max) T.b_max PyProof.Rows.boot_max (a_cons e_int (a_cons (e_op o_sub (e_call G__law_tap (L2N.takes_of rfl rfl rfl rfl) hr (a_cons (e_var 2) (a_cons e_int a_nil)) (len_cons (len_cons len_nil)) (hk := by decide)) e_int) a_nil)))) a_nil)))
  (ss_cons (s_set 14 sc.nd (e_op o_add (e_var 14) (e_tup (a_cons (e_ix i_ix (e_lst (a_cons e_str (a_cons e_str (a_cons (e_lst (a_cons e_str a_nil)) (a_cons e_int a_nil))))) (e_callB (c_max) T.b_max PyProof.Rows.boot_max (a_cons e_int (a_cons (e_op o_sub (e_call G__law_tap (L2N.takes_of rfl rfl rfl rfl) hr (a_cons (e_var 2) (a_cons e_int a_nil)) (len_cons (len_cons len_nil)) (hk := by decide)) e_int) a_nil)))) (a_cons (e_var 13) a_nil)))))
  (ss_cons (s_set 15 sc.nd (e_call G__law_book_due (L2N.takes_of rfl rfl rfl rfl) hr (a_cons (e_var 14) a_nil) (len_cons len_nil) (hk := by decide)))
  (ss_one (s_for (i_seq (e_tup (a_cons e_int (a_cons e_int a_nil)))) (g_name 16 sc.nd)
  (ss_cons (s_set 17 sc.nd (e_call G__law_said (L2N.takes_of rfl rfl rfl rfl) hr (a_cons (e_var 16) (a_cons e_non (a_cons (e_var 14) a_nil))) (len_cons (len_cons (len_cons len_nil))) (hk := by decide)))
  (ss_one (s_if (PW.pt (w_or (PW.pt (w_and (t_cmp (o_isnot) (e_var 15) e_non) (w_and1 (t_cmp (o_ne hr) (e_var 17) (e_var 15))))) (w_or1 (PW.pt (w_and (t_cmp (o_is) (e_var 15) e_non) (w_and1 (t_not (t_tru (e_callB (c_isiI T.isc) T.b_isinstance PyProof.Rows.boot_isinstance (a_cons (e_var 17) (a_cons (e_gc T.c_Book) a_nil)))))))))))
  (ss_one (s_ret e_bl))
  ss_nil))) (L2.passes_of rfl))))))))) (L2.passes_of rfl))))))))))))))))) (L2.passes_of rfl)))) (L2.passes_of rfl))
  (ss_cons (s_app (e_call0 G_cases_at_O (L2N.takes_of rfl rfl rfl rfl) hr (hk := by decide)) e_non)
  (ss_one (s_ret (e_call G__law_agree (L2N.takes_of rfl rfl rfl rfl) hr (a_cons (e_call0 G_cases (L2N.takes_of rfl rfl rfl rfl) hr (hk := by decide)) (a_cons (e_call0 G__law_cases (L2N.takes_of rfl rfl rfl rfl) hr (hk := by decide)) a_nil)) (len_cons (len_cons len_nil)) (hk := by decide))))))
end
end K05
/-! the plain law of k05: words, rows, what rows tell -/
namespace K05
open PySem L2 DL
structure Row where
  a : Str
  b : Str
  c : Str
  d : Str
  e : Str
def dR (r : Row) : D := .tup [.str r.a, .str r.b, .str r.c, .str r.d, .str r.e]
abbrev Case := Str × Str × Str
def dC (k : Case) : D := .tup [.str k.1, .str k.2.1, .str k.2.2]
def dP (p : Str × Str) : D := .tup [.str p.1, .str p.2]
def fits (r : Row) (k : Case) : Bool := decide (r.a = k.1) && ((decide (r.b = k.2.1) || decide (r.b = "any")) && (decide (r.c = k.2.2) || decide (r.c = "any")))
def told (rs : List Row) (k : Case) : Str × Str := match rs.find? (fits · k) with
  | some r => (r.d, r.e)
  | none => ("wait", "nothing")
section
variable {S : Sto} {r : Row} {k : Case} {p : Str × Str}
@[simp] theorem dR0 : ixO S (dR r) (.int 0) = some (.str r.a) := ix_t0
@[simp] theorem dR1 : ixO S (dR r) (.int 1) = some (.str r.b) := ix_t1
@[simp] theorem dR2 : ixO S (dR r) (.int 2) = some (.str r.c) := ix_t2
@[simp] theorem dR3 : ixO S (dR r) (.int 3) = some (.str r.d) := ix_t3
@[simp] theorem dR4 : ixO S (dR r) (.int 4) = some (.str r.e) := ix_t4
@[simp] theorem dC0 : ixO S (dC k) (.int 0) = some (.str k.1) := ix_t0
@[simp] theorem dC1 : ixO S (dC k) (.int 1) = some (.str k.2.1) := ix_t1
@[simp] theorem dC2 : ixO S (dC k) (.int 2) = some (.str k.2.2) := ix_t2
@[simp] theorem dP0 : ixO S (dP p) (.int 0) = some (.str p.1) := ix_t0
@[simp] theorem dP1 : ixO S (dP p) (.int 1) = some (.str p.2) := ix_t1
end
theorem is_for_ok (r : Row) (k : Case) (S : Sto) : F_is_for [dR r, dC k] S = .ok (.bl (fits r k)) S := by
  rw [ev_is_for]
  simp [m_is_for, fits, d_ANY]
theorem find_map (p : Row → Bool) (q : D → Bool) (h : ∀ r, q (dR r) = p r) : ∀ rs : List Row, (rs.map dR).find? q = (rs.find? p).map dR
  | [] => rfl
  | r :: rs => by
    rw [List.map_cons, List.find?_cons, List.find?_cons, h, find_map p q h rs]
    cases p r <;> rfl
/-- what is read off a row's data -/
def unR : D → Row
  | .tup [.str a, .str b, .str c, .str d, .str e] => ⟨a, b, c, d, e⟩
  | _ => ⟨"", "", "", "", ""⟩
theorem unR_dR (r : Row) : unR (dR r) = r := rfl
theorem told_loop {body : MS} {bd : Bd} {rs : List Row} {k : Case} {S : Sto} {I : DL.Env → Prop} {ρ : DL.Env} (hI : I ρ) (h : ∀ r ρ, I ρ → ∃ ρ1, bd (dR r) ρ = some ρ1 ∧ (fits r k = true → body ρ1 S = .rt (dP (r.d, r.e)) S) ∧ (fits r k = false → ∃ ρ2, body ρ1 S = .nx ρ2 S ∧ I ρ2)) :
    (forL bd body (rs.map dR) ρ S = .rt (dP (told rs k)) S) ∨ (told rs k = (("wait", "nothing") : Str × Str) ∧ ∃ ρ', forL bd body (rs.map dR) ρ S = .nx ρ' S ∧ I ρ') := by
  rcases forL_first (S := S) (bd := bd) (body := body) I (fun d => fits (unR d) k) (fun d => dP ((unR d).d, (unR d).e)) (rs.map dR) ρ (fun d hd ρ hρ => by
    obtain ⟨r, _, rfl⟩ := List.mem_map.mp hd
    exact h r ρ hρ) hI with ⟨d, h1, h2⟩ | ⟨h1, ρ', h2, h3⟩
  · rw [find_map (fun r => fits r k) _ (fun r => rfl)] at h1
    obtain ⟨r, hr, rfl⟩ := Option.map_eq_some_iff.mp h1
    refine .inl ?_
    rw [h2]
    have : told rs k = (r.d, r.e) := by unfold told; rw [hr]
    rw [this]; rfl
  · rw [find_map (fun r => fits r k) _ (fun r => rfl)] at h1
    have hn : rs.find? (fun r => fits r k) = none := Option.map_eq_none_iff.mp h1
    exact .inr ⟨by unfold told; rw [hn], ρ', h2, h3⟩
/-- rows in a list or a tuple -/
def isSeq (x : D) (rs : List Row) : Prop := x = .tup (rs.map dR) ∨ x = .lst (rs.map dR)
theorem isSeq.i {x : D} {rs : List Row} (h : isSeq x rs) : seqI x = some (rs.map dR) := by rcases h with rfl | rfl <;> rfl
theorem told_for_ok {x : D} {rs : List Row} (hx : isSeq x rs) (k : Case) (S : Sto) : F_told_for [x, dC k] S = .ok (dP (told rs k)) S := by
  rw [ev_told_for]
  unfold m_told_for
  simp only [sSeq_ev, sFor_ev, iSeq_ev, mVar_z, bind_ok, hx.i, ofO_some, of_ok]
  rcases told_loop (k := k) (S := S) (bd := bName 2) (body := sIf (mTru (mCall F_is_for (aCons (mVar 2) (aCons (mVar 1) aNil)))) (sRet (mTup (aCons (m2 ixO (mVar 2) (mC (.int 3))) (aCons (m2 ixO (mVar 2) (mC (.int 4))) aNil)))) sNil) (rs := rs) (I := fun ρ => ∃ v, ρ = [some x, some (dC k), v]) (ρ := [some x, some (dC k), none]) ⟨_, rfl⟩ (fun r ρ ⟨v, e⟩ => by
    subst e
    refine ⟨[some x, some (dC k), some (dR r)], rfl, fun h => ?_, fun h => ?_⟩
    · simp [is_for_ok, h, dP]
    · refine ⟨[some x, some (dC k), some (dR r)], ?_, _, rfl⟩
      simp [is_for_ok, h]) with h | ⟨h1, ρ', h2, v, rfl⟩
  · rw [h]; rfl
  · rw [h2, h1]
    rfl
theorem law_told_ok {x : D} {rs : List Row} (hx : isSeq x rs) (k : Case) (S : Sto) : F__law_told [x, dC k] S = .ok (dP (told rs k)) S := by
  rw [ev__law_told]
  unfold m__law_told
  simp only [sSeq_ev, sFor_ev, iSeq_ev, mVar_z, bind_ok, hx.i, ofO_some, of_ok]
  rcases told_loop (k := k) (S := S) (bd := bName 2) (body := sIf (tAnd' (mTst (m2 eqO (m2 ixO (mVar 2) (mC (.int 0))) (m2 ixO (mVar 1) (mC (.int 0))))) (tAnd' (mTst (m2 inD (m2 ixO (mVar 2) (mC (.int 1))) (mTup (aCons (m2 ixO (mVar 1) (mC (.int 1))) (aCons (mC (.str "any")) aNil))))) (mTst (m2 inD (m2 ixO (mVar 2) (mC (.int 2))) (mTup (aCons (m2 ixO (mVar 1) (mC (.int 2))) (aCons (mC (.str "any")) aNil))))))) (sRet (mTup (aCons (m2 ixO (mVar 2) (mC (.int 3))) (aCons (m2 ixO (mVar 2) (mC (.int 4))) aNil)))) sNil) (rs := rs) (I := fun ρ => ∃ v, ρ = [some x, some (dC k), v]) (ρ := [some x, some (dC k), none]) ⟨_, rfl⟩ (fun r ρ ⟨v, e⟩ => by
    subst e
    have t : (tAnd' (mTst (m2 eqO (m2 ixO (mVar 2) (mC (.int 0))) (m2 ixO (mVar 1) (mC (.int 0))))) (tAnd' (mTst (m2 inD (m2 ixO (mVar 2) (mC (.int 1))) (mTup (aCons (m2 ixO (mVar 1) (mC (.int 1))) (aCons (mC (.str "any")) aNil))))) (mTst (m2 inD (m2 ixO (mVar 2) (mC (.int 2))) (mTup (aCons (m2 ixO (mVar 1) (mC (.int 2))) (aCons (mC (.str "any")) aNil))))))) [some x, some (dC k), some (dR r)] S = .ok (fits r k) S := by
      simp [fits]
    refine ⟨[some x, some (dC k), some (dR r)], rfl, fun h => ?_, fun h => ?_⟩
    · rw [sIf_ev, t, h]
      simp [dP]
    · refine ⟨[some x, some (dC k), some (dR r)], ?_, _, rfl⟩
      rw [sIf_ev, t, h]
      simp) with h | ⟨h1, ρ', h2, v, rfl⟩
  · rw [h]; rfl
  · rw [h2, h1]
    rfl
end K05
/-! the plain law of k05: what is a row, a case -/
namespace K05
open PySem L2 DL
def isW (ws : List Str) : D → Bool
  | .str s => decide (s ∈ ws)
  | _ => false
/-- a plain thing -/
def okV : D → Bool
  | .non => true
  | .bl _ => true
  | .int _ => true
  | .str _ => true
  | .tup _ => true
  | .lst _ => true
  | .dct [] => true
  | _ => false
theorem word_of_ok (ws : List Str) (d : D) (hd : okV d = true) (S : Sto) : F_is_word_of [.tup (ws.map D.str), d] S = .ok (.bl (isW ws d)) S := by
  rw [ev_is_word_of]
  cases d with
  | dct k => cases k with
    | nil => simp [m_is_word_of, isW]
    | cons _ _ => cases hd
  | str s => simp [m_is_word_of, isW, inD_strs]
  | non => simp [m_is_word_of, isW]
  | bl b => simp [m_is_word_of, isW]
  | int b => simp [m_is_word_of, isW]
  | tup b => simp [m_is_word_of, isW]
  | lst b => simp [m_is_word_of, isW]
  | _ => cases hd
def DW : List Str := ["read", "write", "hand"]
def rolesL (a : Str) : List Str := if a = "read" then ["leads", "follows"] else if a = "write" then ["leads"] else ["any"]
def relsL (a : Str) : List Str := if a = "hand" then ["none", "first", "same", "elder", "newer"] else ["none", "safe", "held", "behind", "lost"]
def actsL (a : Str) : List Str := if a = "read" then ["answer", "safe", "ask", "wait", "tell"] else if a = "write" then ["take", "sure", "wait", "tell"] else ["join", "put", "drop", "wait", "tell"]
def keepsL (a : Str) : List Str := if a = "read" then ["nothing", "raise seen", "raise end", "put seen", "put end"] else if a = "write" then ["nothing", "raise", "put"] else ["nothing"]
abbrev tS (ws : List Str) : D := .tup (ws.map D.str)
theorem mem_DW {a : Str} (h : a ∈ DW) : a = "read" ∨ a = "write" ∨ a = "hand" := by
  simp only [DW, List.mem_cons, List.not_mem_nil, or_false] at h
  exact h
section
variable {a : Str} (h : a ∈ DW) (S : Sto)
include h
theorem roles_ok : F_roles_of [.str a] S = .ok (tS (rolesL a)) S := by rcases mem_DW h with rfl | rfl | rfl <;> kernel_rfl
theorem rels_ok : F_relations_of [.str a] S = .ok (tS (relsL a)) S := by rcases mem_DW h with rfl | rfl | rfl <;> kernel_rfl
theorem acts_ok : F_actions_of [.str a] S = .ok (tS (actsL a)) S := by rcases mem_DW h with rfl | rfl | rfl <;> kernel_rfl
theorem keeps_ok : F_keeps_of [.str a] S = .ok (tS (keepsL a)) S := by rcases mem_DW h with rfl | rfl | rfl <;> kernel_rfl
theorem words_ok : F__law_book_words [.str a] S = .ok (.tup [tS (rolesL a), tS (relsL a), tS (actsL a), tS (keepsL a)]) S := by rcases mem_DW h with rfl | rfl | rfl <;> kernel_rfl
theorem roles_len : (rolesL a).length ≤ 5 ∧ (relsL a).length ≤ 5 := by rcases mem_DW h with rfl | rfl | rfl <;> decide
end
def validRow : D → Bool
  | .tup [.str a, x1, x2, x3, x4] => decide (a ∈ DW) && (isW (rolesL a ++ [("any" : Str)]) x1 && (isW (relsL a ++ [("any" : Str)]) x2 && (isW (actsL a) x3 && isW (keepsL a) x4)))
  | _ => false
def okE (d : D) : Bool := okV d && (pl d && decide (dep d ≤ 40))
def okRow : D → Bool
  | .tup xs => xs.all okE
  | d => okV d
theorem words_DW : d_DEED_WORDS = tS DW := rfl
theorem any_snoc {ws : List Str} : (aCons (mC d_ANY) aNil : MA) = aCons (mC (.str "any")) aNil := rfl
theorem star_any {ws : List Str} {S : Sto} {ρ : DL.Env} (hl : ws.length ≤ 5) : mTup (aStar (mC (tS ws)) (aCons (mC d_ANY) aNil)) ρ S = .ok (tS (ws ++ [("any" : Str)])) S := by
  have : (ws.map D.str ++ [d_ANY]).length ≤ lim := by
    rw [List.length_append, List.length_map]
    have : lim = 1000000 := rfl
    simp; omega
  simp only [mTup_ev, aStar_ev, aCons_ev, aNil_ev, mC_ev, bind_ok, seqD_tup]
  rw [if_pos this]
  simp [tS, d_ANY]
theorem is_book_row_ok {x : D} (hx : okRow x = true) (S : Sto) : F_is_book_row [x] S = .ok (.bl (validRow x)) S := by
  rw [ev_is_book_row]
  cases x with
  | tup xs =>
    have short : ∀ xs : List D, xs.length ≠ 5 → (m_is_book_row [some (.tup xs), none, none, none, none, none] S).fin = .ok (.bl (validRow (.tup xs))) S := fun xs hn => by
      have e : (decide ((xs.length : Int) = 5)) = false := decide_eq_false (by omega)
      have v : validRow (.tup xs) = false := by
        unfold validRow
        split
        · rename_i e; cases e; exact absurd rfl hn
        · rfl
      simp [m_is_book_row, e, v]
    match xs, hx with
    | [x0, x1, x2, x3, x4], hx =>
      simp only [okRow, List.all_cons, List.all_nil, Bool.and_true, Bool.and_eq_true, okE] at hx
      obtain ⟨⟨h0, _⟩, ⟨h1, _⟩, ⟨h2, _⟩, ⟨h3, _⟩, h4, _⟩ := hx
      have w0 := word_of_ok DW x0 h0 S
      have bad : isW DW x0 = false → (m_is_book_row [some (.tup [x0, x1, x2, x3, x4]), none, none, none, none, none] S).fin = .ok (.bl false) S := fun q => by
        rw [q] at w0
        simp [m_is_book_row, words_DW, w0]
      cases x0 with
      | str a =>
        by_cases ha : a ∈ DW
        · have l := roles_len ha
          have w1 := word_of_ok (rolesL a ++ [("any" : Str)]) x1 h1 S
          have w2 := word_of_ok (relsL a ++ [("any" : Str)]) x2 h2 S
          have w3 := word_of_ok (actsL a) x3 h3 S
          have w4 := word_of_ok (keepsL a) x4 h4 S
          have s1 : (rolesL a).length + 1 ≤ lim := by have : lim = 1000000 := rfl; omega
          have s2 : (relsL a).length + 1 ≤ lim := by have : lim = 1000000 := rfl; omega
          simp only [List.map_append, List.map_cons, List.map_nil] at w1 w2
          have w0' : isW DW (.str a) = true := by simp [isW, ha]
          rw [w0'] at w0
          simp [m_is_book_row, words_DW, w0, bTup_ev, roles_ok ha, rels_ok ha, acts_ok ha, keeps_ok ha, s1, s2, d_ANY, w1, w2, validRow, ha, w3, w4]
          cases isW (rolesL a ++ [Str.ofString "any"]) x1 <;> cases isW (relsL a ++ [Str.ofString "any"]) x2 <;> simp [w3, w4, acts_ok ha, keeps_ok ha]
        · rw [bad (by simp [isW, ha])]
          simp [validRow, ha]
      | _ => rw [bad rfl]; rfl
    | [], _ => exact short _ (by simp)
    | [_], _ => exact short _ (by simp)
    | [_, _], _ => exact short _ (by simp)
    | [_, _, _], _ => exact short _ (by simp)
    | [_, _, _, _], _ => exact short _ (by simp)
    | _ :: _ :: _ :: _ :: _ :: _ :: l, _ => exact short _ (by simp)
  | dct k => cases k with
    | nil => simp [m_is_book_row, validRow]
    | cons _ _ => cases hx
  | str s => simp [m_is_book_row, validRow]
  | non => simp [m_is_book_row, validRow]
  | bl b => simp [m_is_book_row, validRow]
  | int b => simp [m_is_book_row, validRow]
  | lst b => simp [m_is_book_row, validRow]
  | _ => cases hx

/-! ### lists beside the empty one -/
theorem dep_lst0 : PyData.depth (toPy (.lst [])) ≤ 1 := by simp [toPy, toPyAll, PyData.depth, PyData.depthAll]
theorem eq_nil {S : Sto} {xs : List D} (h : pl (.lst xs) = true) : eqO S (.lst xs) (.lst []) = some (.bl xs.isEmpty) := by
  have hd : min (dep (.lst xs)) (dep (.lst [])) ≤ 60 := Nat.le_trans (Nat.min_le_right _ _) (Nat.le_trans dep_lst0 (by decide))
  have ok : okEq (.lst xs) (.lst []) = true := by
    unfold okEq
    rw [h, decide_eq_true hd]; rfl
  show (if okEq (.lst xs) (.lst []) = true then some (D.bl (deq (.lst xs) (.lst []))) else none) = _
  rw [if_pos ok]
  cases xs with
  | nil => rfl
  | cons x xs => simp [deq, toPy, toPyAll, PyData.eqv, PyData.eqvAll]
theorem ne_nil {S : Sto} {xs : List D} (h : pl (.lst xs) = true) : neO S (.lst xs) (.lst []) = some (.bl (!xs.isEmpty)) := by
  have hd : min (dep (.lst xs)) (dep (.lst [])) ≤ 60 := Nat.le_trans (Nat.min_le_right _ _) (Nat.le_trans dep_lst0 (by decide))
  have ok : okEq (.lst xs) (.lst []) = true := by
    unfold okEq
    rw [h, decide_eq_true hd]; rfl
  show (if okEq (.lst xs) (.lst []) = true then some (D.bl (!deq (.lst xs) (.lst []))) else none) = _
  rw [if_pos ok]
  cases xs with
  | nil => rfl
  | cons x xs => simp [deq, toPy, toPyAll, PyData.eqv, PyData.eqvAll]
theorem pl_all : ∀ xs : List D, xs.all pl = true → pl (.lst xs) = true
  | [], _ => by simp [pl, toPy, toPyAll, PyData.plain, PyData.plainAll]
  | x :: xs, h => by
    simp only [List.all_cons, Bool.and_eq_true] at h
    have := pl_all xs h.2
    simp only [pl, toPy, PyData.plain] at this ⊢
    simp only [toPyAll, PyData.plainAll, this, Bool.and_true]
    exact h.1
theorem rng4 : rangeD 0 4 = [.int 0, .int 1, .int 2, .int 3] := rfl
theorem ninD_strs (S : Sto) (s : Str) (ws : List Str) : ninD S (.str s) (.tup (ws.map D.str)) = some (.bl (!decide (s ∈ ws))) := by
  have := inD_strs (S := S) (s := s) ws
  unfold inD at this
  unfold ninD
  cases q : inO S (.str s) (.tup (ws.map D.str)) with
  | none => rw [q] at this; cases this
  | some b => rw [q] at this; cases this; rfl
def isS : D → Bool
  | .str _ => true
  | _ => false
theorem isW_f {x : D} (h : ¬ isS x = true) {ws : List Str} : isW ws x = false := by
  cases x with
  | str s => exact absurd rfl h
  | _ => rfl
theorem law_row_good_ok {x : D} (hx : okRow x = true) (S : Sto) : F__law_row_good [x] S = .ok (.bl (validRow x)) S := by
  rw [ev__law_row_good]
  cases x with
  | tup xs =>
    have short : ∀ xs : List D, xs.length ≠ 5 → (m__law_row_good [some (.tup xs), none, none, none, none] S).fin = .ok (.bl (validRow (.tup xs))) S := fun xs hn => by
      have e : (decide ((xs.length : Int) = 5)) = false := decide_eq_false (by omega)
      have v : validRow (.tup xs) = false := by
        unfold validRow
        split
        · rename_i e; cases e; exact absurd rfl hn
        · rfl
      simp [m__law_row_good, e, v]
    match xs, hx with
    | [x0, x1, x2, x3, x4], hx =>
      have hx' := hx
      simp only [okRow, List.all_cons, List.all_nil, Bool.and_true, Bool.and_eq_true, okE] at hx
      obtain ⟨⟨h0, p0, _⟩, ⟨h1, p1, _⟩, ⟨h2, p2, _⟩, ⟨h3, p3, _⟩, h4, p4, _⟩ := hx
      have ty : ∀ d : D, okV d = true → isiI CS S [d, .ty "str"] = some (.bl (isS d)) := fun d hd => by
        cases d with
        | dct k => cases k with
          | nil => simp [isS]
          | cons _ _ => cases hd
        | str s => simp [isS]
        | non => simp [isS]
        | bl b => simp [isS]
        | int b => simp [isS]
        | tup b => simp [isS]
        | lst b => simp [isS]
        | _ => cases hd
      have hlc : ∀ ρ : DL.Env, ρ.length = 5 → lcL (bName 3) (tNot' (mTru (mN (isiI CS) (aCons (mVar 3) (aCons (mC (.ty "str")) aNil))))) (mVar 3) ρ [x0, x1, x2, x3, x4] [] S = .ok (([x0, x1, x2, x3, x4].filter fun d => !isS d).map id) S := fun ρ hρ => by
        rw [lcL_map (fun d => !isS d) id]
        · rfl
        · intro d hd
          have hv : okV d = true := by
            simp only [List.mem_cons, List.not_mem_nil, or_false] at hd
            rcases hd with rfl | rfl | rfl | rfl | rfl <;> assumption
          refine ⟨_, rfl, ?_, fun _ => ?_⟩
          · match ρ, hρ with
            | [a, b, c, d', e], _ => simp [ty d hv]
          · match ρ, hρ with
            | [a, b, c, d', e], _ => simp
        · have : lim = 1000000 := rfl
          simp
      have hpl : pl (.lst ([x0, x1, x2, x3, x4].filter fun d => !isS d)) = true := pl_all _ (List.all_eq_true.mpr fun d hd => by
        have := (List.mem_filter.mp hd).1
        simp only [List.mem_cons, List.not_mem_nil, or_false] at this
        rcases this with rfl | rfl | rfl | rfl | rfl <;> assumption)
      by_cases hs : isS x0 = true ∧ isS x1 = true ∧ isS x2 = true ∧ isS x3 = true ∧ isS x4 = true
      · obtain ⟨s0, s1, s2, s3, s4⟩ := hs
        have hf : ([x0, x1, x2, x3, x4].filter fun d => !isS d) = [] := by simp [s0, s1, s2, s3, s4]
        rw [hf] at hlc hpl
        cases x0 with
        | str a => cases x1 with
          | str b => cases x2 with
            | str c => cases x3 with
              | str d => cases x4 with
                | str e =>
                  by_cases ha : a ∈ DW
                  · have hw : ninD S (.str a) (.tup [.str "read", .str "write", .str "hand"]) = some (.bl false) := by
                      have := ninD_strs S a DW
                      rw [decide_eq_true ha] at this
                      exact this
                    let p : D → Bool := fun k => match k with
                      | .int 0 => !decide (b ∈ rolesL a) && !decide (b = "any")
                      | .int 1 => !decide (c ∈ relsL a) && !decide (c = "any")
                      | .int 2 => !decide (d ∈ actsL a)
                      | _ => !decide (e ∈ keepsL a)
                    have hl2 : ∀ w : D, lcL (bName 4) (tAnd' (mTst (m2 ninD (m2 ixO (mVar 0) (m2 addO (mVar 4) (mC (.int 1)))) (m2 ixO (mVar 1) (mVar 4)))) (tNot' (tAnd' (mTst (m2 ltO (mVar 4) (mC (.int 2)))) (mTst (m2 eqO (m2 ixO (mVar 0) (m2 addO (mVar 4) (mC (.int 1)))) (mC (.str "any"))))))) (mVar 4)
                        [some (.tup [.str a, .str b, .str c, .str d, .str e]), some (.tup [tS (rolesL a), tS (relsL a), tS (actsL a), tS (keepsL a)]), none, none, none] [.int 0, .int 1, .int 2, .int 3] [] S = .ok (([D.int 0, .int 1, .int 2, .int 3].filter p).map id) S := fun _ => by
                      rw [lcL_map p id]
                      · rfl
                      · intro k hk
                        simp only [List.mem_cons, List.not_mem_nil, or_false] at hk
                        refine ⟨_, rfl, ?_, fun _ => by rcases hk with rfl | rfl | rfl | rfl <;> simp⟩
                        rcases hk with rfl | rfl | rfl | rfl
                        · simp [p, ninD_strs, tS]
                        · simp [p, ninD_strs, tS]
                        · simp [p, ninD_strs, tS]
                        · simp [p, ninD_strs, tS]
                      · have : lim = 1000000 := rfl
                        simp
                    have hp2 : pl (.lst (([D.int 0, .int 1, .int 2, .int 3].filter p).map id)) = true := pl_all _ (List.all_eq_true.mpr fun x hx => by
                      rw [List.map_id] at hx
                      have := (List.mem_filter.mp hx).1
                      simp only [List.mem_cons, List.not_mem_nil, or_false] at this
                      rcases this with rfl | rfl | rfl | rfl <;> rfl)
                    have e1 := eq_nil (S := S) hp2
                    have n1 := ne_nil (S := S) hpl
                    have r4 : iRange1 (mC (.int 4)) [some (.tup [.str a, .str b, .str c, .str d, .str e]), some (.tup [tS (rolesL a), tS (relsL a), tS (actsL a), tS (keepsL a)]), none, none, none] S = .ok [.int 0, .int 1, .int 2, .int 3] S := rfl
                    have hE : (([D.int 0, .int 1, .int 2, .int 3].filter p).map id).isEmpty = validRow (.tup [.str a, .str b, .str c, .str d, .str e]) := by
                      simp only [validRow, isW, ha, decide_true, Bool.true_and, List.mem_append, List.mem_singleton, Bool.decide_or]
                      simp only [List.filter, p]
                      cases decide (b ∈ rolesL a) <;> cases decide (b = Str.ofString "any") <;> cases decide (c ∈ relsL a) <;> cases decide (c = Str.ofString "any") <;> cases decide (d ∈ actsL a) <;> cases decide (e ∈ keepsL a) <;> rfl
                    rw [hE, List.map_id] at e1
                    simp [m__law_row_good, hlc, n1, hw, words_ok ha, r4, lim]
                    rw [hl2 .non]
                    simp [e1, lim]
                  · have hw : ninD S (.str a) (.tup [.str "read", .str "write", .str "hand"]) = some (.bl true) := by
                      have := ninD_strs S a DW
                      rw [decide_eq_false ha] at this
                      exact this
                    have n1 := ne_nil (S := S) hpl
                    have v : validRow (.tup [.str a, .str b, .str c, .str d, .str e]) = false := by simp [validRow, ha]
                    rw [v]
                    simp [m__law_row_good, hlc, n1, hw, lim]
                | _ => cases s4
              | _ => cases s3
            | _ => cases s2
          | _ => cases s1
        | _ => cases s0
      · have hne : ([x0, x1, x2, x3, x4].filter fun d => !isS d).isEmpty = false := by
          cases q : ([x0, x1, x2, x3, x4].filter fun d => !isS d) with
          | cons _ _ => rfl
          | nil =>
            exfalso
            apply hs
            have := List.filter_eq_nil_iff.mp q
            simp at this
            exact this
        have n1 := ne_nil (S := S) hpl
        rw [hne] at n1
        have v : validRow (.tup [x0, x1, x2, x3, x4]) = false := by
          cases x0 with
          | str a =>
            simp only [validRow]
            by_cases s1 : isS x1 = true
            · by_cases s2 : isS x2 = true
              · by_cases s3 : isS x3 = true
                · by_cases s4 : isS x4 = true
                  · exact absurd ⟨rfl, s1, s2, s3, s4⟩ hs
                  · simp [isW_f s4]
                · simp [isW_f s3]
              · simp [isW_f s2]
            · simp [isW_f s1]
          | _ => rfl
        rw [v]
        simp [m__law_row_good, hlc, n1, lim]
    | [], _ => exact short _ (by simp)
    | [_], _ => exact short _ (by simp)
    | [_, _], _ => exact short _ (by simp)
    | [_, _, _], _ => exact short _ (by simp)
    | [_, _, _, _], _ => exact short _ (by simp)
    | _ :: _ :: _ :: _ :: _ :: _ :: l, _ => exact short _ (by simp)
  | dct k => cases k with
    | nil => simp [m__law_row_good, validRow]
    | cons _ _ => cases hx
  | str s => simp [m__law_row_good, validRow]
  | non => simp [m__law_row_good, validRow]
  | bl b => simp [m__law_row_good, validRow]
  | int b => simp [m__law_row_good, validRow]
  | lst b => simp [m__law_row_good, validRow]
  | _ => cases hx
end K05
/-! the plain law of k05: cases, tables, books made -/
namespace K05
open PySem L2 DL
def CASES : List Case := [("read", "leads", "none"), ("read", "leads", "safe"), ("read", "leads", "held"), ("read", "leads", "behind"), ("read", "leads", "lost"), ("read", "follows", "none"), ("read", "follows", "safe"), ("read", "follows", "held"), ("read", "follows", "behind"), ("read", "follows", "lost"),
  ("write", "leads", "none"), ("write", "leads", "safe"), ("write", "leads", "held"), ("write", "leads", "behind"), ("write", "leads", "lost"), ("hand", "any", "none"), ("hand", "any", "first"), ("hand", "any", "same"), ("hand", "any", "elder"), ("hand", "any", "newer")]
theorem cases_ok (S : Sto) : F_cases [] S = .ok (.lst (CASES.map dC)) S := by kernel_rfl
theorem law_cases_ok (S : Sto) : F__law_cases [] S = .ok (.lst (CASES.map dC)) S := by kernel_rfl
theorem cases_len : CASES.length = 20 := rfl
theorem forL_acc {bd : Bd} {body : MS} {S : Sto} (I : List D → DL.Env → Prop) (f : D → D) (N : Nat) : ∀ (ds acc : List D) (ρ : DL.Env), (∀ d ∈ ds, ∀ acc ρ, acc.length < N → I acc ρ → ∃ ρ1, bd d ρ = some ρ1 ∧ ∃ ρ2, body ρ1 S = .nx ρ2 S ∧ I (acc ++ [f d]) ρ2) → acc.length + ds.length ≤ N → I acc ρ → ∃ ρ', forL bd body ds ρ S = .nx ρ' S ∧ I (acc ++ ds.map f) ρ'
  | [], acc, ρ, _, _, h => ⟨ρ, rfl, by simpa using h⟩
  | d :: ds, acc, ρ, hs, hN, h => by
    rw [List.length_cons] at hN
    obtain ⟨ρ1, e1, ρ2, e2, h2⟩ := hs d List.mem_cons_self acc ρ (by omega) h
    obtain ⟨ρ3, e3, h3⟩ := forL_acc I f N ds (acc ++ [f d]) ρ2 (fun x hx => hs x (List.mem_cons_of_mem _ hx)) (by rw [List.length_append, List.length_singleton]; omega) h2
    exact ⟨ρ3, by simp only [forL, e1, e2, e3], by simpa using h3⟩
def unC : D → Case
  | .tup [.str a, .str b, .str c] => (a, b, c)
  | _ => ("", "", "")
def dT (k : Case) (p : Str × Str) : D := .tup [dC k, .str p.1, .str p.2]
def table (rs : List Row) : List D := CASES.map fun k => dT k (told rs k)
theorem table_of_ok {x : D} {rs : List Row} (hx : isSeq x rs) (S : Sto) : F_table_of [x] S = .ok (.lst (table rs)) S := by
  rw [ev_table_of]
  unfold m_table_of
  simp only [sSeq_ev, sSet_ev, mLst_ev, aNil_ev, bind_ok, List.length_nil, Nat.zero_le, if_true, of_ok, seq_nx', sFor_ev, iSeq_ev, mCall_ev, cases_ok, seqI_lst, ofO_some, List.set_cons_zero, List.set_cons_succ]
  obtain ⟨ρ', e, v2, v3, v4, rfl⟩ := forL_acc (S := S) (bd := bName 2) (body := sSeq (sAsg (mCall F_told_for (aCons (mVar 0) (aCons (mVar 2) aNil))) (bTup 2 (bCons (bName 3) (bCons (bName 4) bNil)))) (sSet 1 (mLst (aStar (mVar 1) (aCons (mTup (aCons (mVar 2) (aCons (mVar 3) (aCons (mVar 4) aNil)))) aNil)))))
    (fun acc ρ => ∃ v2 v3 v4, ρ = [some x, some (.lst acc), v2, v3, v4]) (fun d => dT (unC d) (told rs (unC d))) lim (CASES.map dC) [] [some x, some (.lst []), none, none, none] (fun d hd acc ρ hN ⟨v2, v3, v4, e⟩ => by
      subst e
      obtain ⟨k, _, rfl⟩ := List.mem_map.mp hd
      have hN' : acc.length + 1 ≤ lim := hN
      refine ⟨_, rfl, [some x, some (.lst (acc ++ [dT k (told rs k)])), some (dC k), some (.str (told rs k).1), some (.str (told rs k).2)], ?_, _, _, _, rfl⟩
      simp [told_for_ok hx, dP, bTup_ev, hN', dT]) (by rw [List.length_map, cases_len]; show 0 + 20 ≤ 1000000; decide) ⟨_, _, _, rfl⟩
  have e2 : (CASES.map dC).map (fun d => dT (unC d) (told rs (unC d))) = table rs := by
    rw [List.map_map]; rfl
  rw [List.nil_append, e2] at e
  rw [e]
  rfl
def validCase : D → Bool
  | .tup [.str a, x1, x2] => decide (a ∈ DW) && (isW (rolesL a) x1 && isW (relsL a) x2)
  | _ => false
def okCase : D → Bool
  | .tup xs => xs.all okV
  | d => okV d
theorem is_case_ok {x : D} (hx : okCase x = true) (S : Sto) : F_is_case [x] S = .ok (.bl (validCase x)) S := by
  rw [ev_is_case]
  cases x with
  | tup xs =>
    have short : ∀ xs : List D, xs.length ≠ 3 → (m_is_case [some (.tup xs), none, none, none] S).fin = .ok (.bl (validCase (.tup xs))) S := fun xs hn => by
      have e : (decide ((xs.length : Int) = 3)) = false := decide_eq_false (by omega)
      have v : validCase (.tup xs) = false := by
        unfold validCase
        split
        · rename_i e; cases e; exact absurd rfl hn
        · rfl
      simp [m_is_case, e, v]
    match xs, hx with
    | [x0, x1, x2], hx =>
      simp only [okCase, List.all_cons, List.all_nil, Bool.and_true, Bool.and_eq_true] at hx
      obtain ⟨h0, h1, h2⟩ := hx
      have w0 := word_of_ok DW x0 h0 S
      have bad : isW DW x0 = false → (m_is_case [some (.tup [x0, x1, x2]), none, none, none] S).fin = .ok (.bl false) S := fun q => by
        rw [q] at w0
        simp [m_is_case, words_DW, w0]
      cases x0 with
      | str a =>
        by_cases ha : a ∈ DW
        · have w1 := word_of_ok (rolesL a) x1 h1 S
          have w2 := word_of_ok (relsL a) x2 h2 S
          have w0' : isW DW (.str a) = true := by simp [isW, ha]
          rw [w0'] at w0
          simp [m_is_case, words_DW, w0, bTup_ev, roles_ok ha, rels_ok ha, w1, w2, validCase, ha]
        · rw [bad (by simp [isW, ha])]
          simp [validCase, ha]
      | _ => rw [bad rfl]; rfl
    | [], _ => exact short _ (by simp)
    | [_], _ => exact short _ (by simp)
    | [_, _], _ => exact short _ (by simp)
    | _ :: _ :: _ :: _ :: l, _ => exact short _ (by simp)
  | dct k => cases k with
    | nil => simp [m_is_case, validCase]
    | cons _ _ => cases hx
  | str s => simp [m_is_case, validCase]
  | non => simp [m_is_case, validCase]
  | bl b => simp [m_is_case, validCase]
  | int b => simp [m_is_case, validCase]
  | lst b => simp [m_is_case, validCase]
  | _ => cases hx
theorem check_case_t {x : D} (hx : okCase x = true) (h : validCase x = true) (S : Sto) : F_check_case [x] S = .ok .non S := by
  rw [ev_check_case]
  simp [m_check_case, is_case_ok hx, h]
theorem check_case_f {x : D} (hx : okCase x = true) (h : validCase x = false) (S : Sto) : F_check_case [x] S = .exc ⟨1, []⟩ S := by
  rw [ev_check_case]
  simp [m_check_case, is_case_ok hx, h]
theorem valid_case {k : Case} (h : k ∈ CASES) : validCase (dC k) = true := by
  have z : CASES.all (fun k => validCase (dC k)) = true := by decide +kernel
  exact List.all_eq_true.mp z k h
theorem okCase_dC (k : Case) : okCase (dC k) = true := rfl
/-! ### books -/
def FORMS : List Str := ["termed", "bare"]
def SCOPES : List Str := ["all", "key"]
abbrev bk (m s : D) (ys : List D) : Ob := .ins 4 [("marks", m), ("scope", s), ("kept_rows", .tup ys)]
def goodForm (m s : D) : Bool := isW FORMS m && isW SCOPES s
theorem check_form_t {m s : D} (hm : okV m = true) (hs : okV s = true) (h : goodForm m s = true) (S : Sto) : F_check_form [m, s] S = .ok .non S := by
  have w1 := word_of_ok FORMS m hm S
  have w2 := word_of_ok SCOPES s hs S
  unfold goodForm at h
  simp only [Bool.and_eq_true] at h
  rw [h.1] at w1
  rw [h.2] at w2
  rw [ev_check_form]
  simp [m_check_form, show d_FORMS = tS FORMS from rfl, show d_SCOPES = tS SCOPES from rfl, w1, w2]
theorem check_form_f {m s : D} (hm : okV m = true) (hs : okV s = true) (h : goodForm m s = false) (S : Sto) : F_check_form [m, s] S = .exc ⟨2, []⟩ S := by
  have w1 := word_of_ok FORMS m hm S
  have w2 := word_of_ok SCOPES s hs S
  unfold goodForm at h
  rw [ev_check_form]
  cases q : isW FORMS m with
  | false =>
    rw [q] at w1
    simp [m_check_form, show d_FORMS = tS FORMS from rfl, show d_SCOPES = tS SCOPES from rfl, w1]
  | true =>
    rw [q] at w1 h
    simp only [Bool.true_and] at h
    rw [h] at w2
    simp [m_check_form, show d_FORMS = tS FORMS from rfl, show d_SCOPES = tS SCOPES from rfl, w1, w2]
/-- what is handed in as rows: a list (one of the store's, too), or a thing that is none -/
def rowsOf (S : Sto) : D → Option (List D)
  | .lst ys => some ys
  | .obj i => match S[i]? with
    | some (.lst ys) => some ys
    | _ => none
  | _ => none
def goodRows (ys : List D) : Bool := decide (ys.length ≤ 40) && ys.all validRow
theorem set_last {S : Sto} {o o' : Ob} : (S ++ [o]).set S.length o' = S ++ [o'] := by
  rw [List.set_append_right _ _ (Nat.le_refl _), Nat.sub_self]; rfl
theorem get_last {S : Sto} {o : Ob} : (S ++ [o])[S.length]? = some o := by
  rw [List.getElem?_append_right (Nat.le_refl _), Nat.sub_self]; rfl
abbrev fld (n : Str) (d : D) : Str × D := (n, d)
theorem put1 {d : D} : putD "marks" d [] = [fld "marks" d] := rfl
theorem put2 {d e : D} : putD "scope" e [fld "marks" d] = [fld "marks" d, fld "scope" e] := by kernel_rfl
theorem put3 {d e f : D} : putD "kept_rows" f [fld "marks" d, fld "scope" e] = [fld "marks" d, fld "scope" e, fld "kept_rows" f] := by kernel_rfl
theorem allG_bls (S : Sto) : ∀ bs : List Bool, allG S [.lst (bs.map D.bl)] = some (.bl (bs.all id)) := fun bs => by
  have : ∀ bs : List Bool, blsD (bs.map D.bl) = some bs := fun bs => by
    induction bs with
    | nil => rfl
    | cons b bs ih => simp [blsD, ih]
  show (blsD (bs.map D.bl)).map _ = _
  rw [this]; rfl
theorem rows_lc {S : Sto} {x : D} {ys : List D} (hx : rowsOf S x = some ys) (hy : ∀ y ∈ ys, okRow y = true) (hl : ys.length ≤ 1000) (a0 a1 a2 : D) :
    mLcU (mVar 3) (bName 4) mYes (mCall F_is_book_row (aCons (mVar 4) aNil)) [4] [some a0, some a1, some a2, some x, none] S = .ok (.lst ((ys.map validRow).map D.bl)) S := by
  have hlim : lim = 1000000 := rfl
  have body : ∀ d ∈ ys, ∃ ρ1, bName 4 d [some a0, some a1, some a2, some x, none] = some ρ1 ∧ mYes ρ1 S = .ok true S ∧ (mCall F_is_book_row (aCons (mVar 4) aNil)) ρ1 S = .ok (.bl (validRow d)) S := fun d hd => ⟨_, rfl, rfl, by simp [is_book_row_ok (hy d hd)]⟩
  cases x with
  | lst zs =>
    cases hx
    show ((mVar 3 _ S).bind _) = _
    simp only [mVar_s, mVar_z, bind_ok, seqI_lst, ofO_some, wipe_cons, wipe_nil, List.set_cons_zero, List.set_cons_succ]
    rw [lcL_all (fun d => .bl (validRow d)) body (by simp; omega)]
    simp
  | obj i =>
    unfold rowsOf at hx
    simp only at hx
    cases q : S[i]? with
    | none => rw [q] at hx; cases hx
    | some ob =>
      rw [q] at hx
      cases ob with
      | ins c fs => cases hx
      | lst zs =>
        cases hx
        show ((mVar 3 _ S).bind _) = _
        simp only [mVar_s, mVar_z, bind_ok, wipe_cons, wipe_nil, List.set_cons_zero, List.set_cons_succ]
        rw [lcLS_eq q (fun _ => true) (fun d => .bl (validRow d)) (fun d hd => let ⟨ρ1, e1, e2, e3⟩ := body d hd; ⟨ρ1, e1, e2, fun _ => e3⟩) (lim + 2) 0 [] (by omega) (by simp; omega), List.drop_zero, List.filter_eq_self.mpr (fun _ _ => rfl)]
        simp
  | _ => cases hx
end K05
/-! the plain law of k05: books made, what is said -/
namespace K05
open PySem L2 DL
section
variable {S : Sto} {x m s : D} {ys : List D}
theorem isi_objL {i : Nat} (h : S[i]? = some (.lst ys)) : isiI CS S [.obj i, .ty "list"] = some (.bl true) := by
  show ((tcI CS S (.obj i)).bind fun t => (clI CS (.ty "list")).map fun k => D.bl (subI t k)) = _
  have : tcI CS S (.obj i) = some (.inl .lst) := by simp [tcI, h, tcD]
  rw [this]
  kernel_rfl
theorem rows_isi (h : rowsOf S x = some ys) : isiI CS S [x, .ty "list"] = some (.bl true) := by
  cases x with
  | lst zs => simp
  | obj i =>
    unfold rowsOf at h
    simp only at h
    cases q : S[i]? with
    | none => rw [q] at h; cases h
    | some ob => cases ob with
      | ins c fs => rw [q] at h; cases h
      | lst zs => exact isi_objL q
  | _ => cases h
theorem rows_seq (h : rowsOf S x = some ys) : seqD S x = some ys := by
  cases x with
  | lst zs => exact h
  | obj i => exact h
  | _ => cases h
theorem rows_len (h : rowsOf S x = some ys) : lenG S [x] = some (.int ys.length) := len_of ys (rows_seq h) fun z e => by subst e; cases h
theorem rows_tup (h : rowsOf S x = some ys) : tupleG S [x] = some (.tup ys) := by
  show (seqD S x).map D.tup = _
  rw [rows_seq h]; rfl
theorem rows_app {l : Sto} (h : rowsOf S x = some ys) : rowsOf (S ++ l) x = some ys := by
  cases x with
  | lst zs => exact h
  | obj i =>
    unfold rowsOf at h ⊢
    simp only at h ⊢
    cases q : S[i]? with
    | none => rw [q] at h; cases h
    | some ob =>
      rw [q] at h
      rw [List.getElem?_append_left (List.getElem?_eq_some_iff.mp q).1, q]
      exact h
  | _ => cases h
theorem init_good (hm : okV m = true) (hs : okV s = true) (hx : rowsOf S x = some ys) (hy : ∀ y ∈ ys, okRow y = true) (hl : ys.length ≤ 1000) (hg : goodForm m s = true) (hr : goodRows ys = true) :
    F_Book___init__ [.obj S.length, m, s, x] (S ++ [.ins 4 []]) = .ok .non (S ++ [bk m s ys]) := by
  have hx1 : ∀ o : Ob, rowsOf (S ++ [o]) x = some ys := fun o => rows_app hx
  simp only [goodRows, Bool.and_eq_true, decide_eq_true_eq] at hr
  have h40 : decide ((40 : Int) < ys.length) = false := decide_eq_false (by omega)
  have lc := rows_lc (hx1 (.ins 4 [])) hy hl (.obj S.length) m s
  have all : (ys.map validRow).all id = true := by simpa using hr.2
  have ag := allG_bls (S ++ [.ins 4 []]) (ys.map validRow)
  rw [all] at ag
  have g1 : ∀ {o : Ob}, (S ++ [o])[S.length]? = some o := get_last
  have g2 : ∀ {o o' : Ob}, (S ++ [o]).set S.length o' = S ++ [o'] := set_last
  rw [ev_Book___init__]
  unfold m_Book___init__
  simp only [sSeq_ev, sDrop_ev, mCall_ev, aCons_ev, aNil_ev, mVar_z, mVar_s, bind_ok, check_form_t hm hs hg, of_ok, seq_nx', sIf_ev, or_ev, not_ev, mTru_ev, mN_ev, mC_ev, rows_isi (hx1 _), ofO_some, tru_b, Bool.not_true, selT_f, mTst_ev, m2_ev, rows_len (hx1 _), d_MOST_ROWS, gtO_i, h40, lc, ag, sNil_ev]
  simp [g1, g2, put1, put2, put3, rows_tup (hx1 _), fld]
theorem init_bad (hm : okV m = true) (hs : okV s = true) (hx : (∃ ys, rowsOf S x = some ys ∧ (∀ y ∈ ys, okRow y = true) ∧ ys.length ≤ 1000 ∧ (goodForm m s && goodRows ys) = false) ∨ (isiI CS (S ++ [.ins 4 []]) [x, .ty "list"] = some (.bl false))) :
    F_Book___init__ [.obj S.length, m, s, x] (S ++ [.ins 4 []]) = .exc ⟨2, []⟩ (S ++ [.ins 4 []]) := by
  rw [ev_Book___init__]
  unfold m_Book___init__
  cases hg : goodForm m s with
  | false => simp [check_form_f hm hs hg]
  | true =>
    rw [hg] at hx
    simp only [sSeq_ev, sDrop_ev, mCall_ev, aCons_ev, aNil_ev, mVar_z, mVar_s, bind_ok, check_form_t hm hs hg, of_ok, seq_nx', sIf_ev, or_ev, not_ev, mTru_ev, mN_ev, mC_ev]
    rcases hx with ⟨ys, hx, hy, hl, hr⟩ | hi
    · have hx1 : ∀ o : Ob, rowsOf (S ++ [o]) x = some ys := fun o => rows_app hx
      have lc := rows_lc (hx1 (.ins 4 [])) hy hl (.obj S.length) m s
      have ag := allG_bls (S ++ [.ins 4 []]) (ys.map validRow)
      simp only [Bool.true_and, goodRows, Bool.and_eq_false_iff, decide_eq_false_iff_not] at hr
      simp only [rows_isi (hx1 _), ofO_some, tru_b, Bool.not_true, selT_f, mTst_ev, m2_ev, rows_len (hx1 _), d_MOST_ROWS, gtO_i, bind_ok, mVar_s, mVar_z, mN_ev, aCons_ev, aNil_ev, mC_ev]
      by_cases h40 : ys.length ≤ 40
      · have h40' : decide ((40 : Int) < ys.length) = false := decide_eq_false (by omega)
        have all : (ys.map validRow).all id = false := by
          rcases hr with hr | hr
          · exact absurd h40 hr
          · simpa using hr
        rw [all] at ag
        simp only [h40', selT_f, lc, bind_ok, ag, ofO_some, tru_b, Bool.not_false, of_ok, selT_t, sRaise_ev, seq_exc', fin_exc]
      · have h40' : decide ((40 : Int) < ys.length) = true := decide_eq_true (by omega)
        simp only [h40', selT_t, of_ok, sRaise_ev, seq_exc', fin_exc]
    · simp [hi]
/-! ### said -/
theorem said_of {w t g d : D} {S S' : Sto} (h : F__law_asked [w, t, g] S = .ok d S') : F__law_said [w, t, g] S = .ok d S' := by
  rw [ev__law_said]
  unfold m__law_said
  have hb : sSet 3 (mCall F__law_asked (aCons (mVar 0) (aCons (mVar 1) (aCons (mVar 2) aNil)))) [some w, some t, some g, some .non, some (.bl true), none] S = .nx [some w, some t, some g, some d, some (.bl true), none] S' := by simp [h]
  have h0 : sAsg (mTup (aCons (mC .non) (aCons (mC (.bl true)) aNil))) (bTup 2 (bCons (bName 3) (bCons (bName 4) bNil))) [some w, some t, some g, none, none, none] S = .nx [some w, some t, some g, some .non, some (.bl true), none] S := rfl
  rw [seq_nx h0]
  rw [seq_nx (ρ1 := [some w, some t, some g, some d, some (.bl true), none]) (S1 := S') (by unfold sTry; rw [hb])]
  rfl
theorem said_exc {w t g : D} {S S' : Sto} {e : Ex} {r : D} (h : F__law_asked [w, t, g] S = .exc e S') (hr : (e = ⟨2, []⟩ ∧ r = .str "book") ∨ (e = ⟨1, []⟩ ∧ r = .str "case")) : F__law_said [w, t, g] S = .ok r S' := by
  rw [ev__law_said]
  unfold m__law_said
  have hb : sSet 3 (mCall F__law_asked (aCons (mVar 0) (aCons (mVar 1) (aCons (mVar 2) aNil)))) [some w, some t, some g, some .non, some (.bl true), none] S = .exc e [some w, some t, some g, some .non, some (.bl true), none] S' := by simp [h]
  have h0 : sAsg (mTup (aCons (mC .non) (aCons (mC (.bl true)) aNil))) (bTup 2 (bCons (bName 3) (bCons (bName 4) bNil))) [some w, some t, some g, none, none, none] S = .nx [some w, some t, some g, some .non, some (.bl true), none] S := rfl
  rw [seq_nx h0]
  rw [seq_nx (ρ1 := [some w, some t, some g, some r, some (.bl true), none]) (S1 := S') (by
    unfold sTry
    rw [hb]
    rcases hr with ⟨rfl, rfl⟩ | ⟨rfl, rfl⟩ <;> rfl)]
  rfl
end
end K05
/-! the plain law of k05: what is asked, way by way -/
namespace K05
open PySem L2 DL
@[simp] theorem lk_marks {m s y : D} : List.lookup ("marks" : Str) [fld "marks" m, fld "scope" s, fld "kept_rows" y] = some m := by kernel_rfl
@[simp] theorem lk_scope {m s y : D} : List.lookup ("scope" : Str) [fld "marks" m, fld "scope" s, fld "kept_rows" y] = some s := by kernel_rfl
@[simp] theorem lk_rows {m s y : D} : List.lookup ("kept_rows" : Str) [fld "marks" m, fld "scope" s, fld "kept_rows" y] = some y := by kernel_rfl
@[simp] theorem lk_wc {m s y : D} : List.lookup ("with_case" : Str) [fld "marks" m, fld "scope" s, fld "kept_rows" y] = none := by kernel_rfl
@[simp] theorem lk_if {m s y : D} : List.lookup ("in_form" : Str) [fld "marks" m, fld "scope" s, fld "kept_rows" y] = none := by kernel_rfl
@[simp] theorem lk_tb {m s y : D} : List.lookup ("table" : Str) [fld "marks" m, fld "scope" s, fld "kept_rows" y] = none := by kernel_rfl
/-- the book at b -/
def Bk (S : Sto) (b : Nat) (m s : D) (rs : List Row) : Prop := S[b]? = some (bk m s (rs.map dR))
theorem Bk.g {S : Sto} {b : Nat} {m s : D} {rs : List Row} (h : Bk S b m s rs) : insG [4] S (.obj b) = some (b, 4, [fld "marks" m, fld "scope" s, fld "kept_rows" (.tup (rs.map dR))]) := by
  have h' : S[b]? = some (bk m s (rs.map dR)) := h
  simp [h', fld]
section
variable {S : Sto} {b : Nat} {m s x t : D} {ys : List D} {rs : List Row} {k : Case}
theorem asked0_good (hm : okV m = true) (hs : okV s = true) (hx : rowsOf S x = some ys) (hy : ∀ y ∈ ys, okRow y = true) (hl : ys.length ≤ 1000) (hg : goodForm m s = true) (hr : goodRows ys = true) {w : Int} (hw : w = 0 ∨ w = 1) :
    F__law_asked [.int w, t, .tup [m, s, x]] S = .ok (.obj S.length) (S ++ [bk m s ys]) := by
  rw [ev__law_asked]
  have h := init_good hm hs hx hy hl hg hr
  rcases hw with rfl | rfl
  · simp [m__law_asked, h]
  · simp [m__law_asked, pick, h]
theorem asked0_bad (hm : okV m = true) (hs : okV s = true) (hx : (∃ ys, rowsOf S x = some ys ∧ (∀ y ∈ ys, okRow y = true) ∧ ys.length ≤ 1000 ∧ (goodForm m s && goodRows ys) = false) ∨ (isiI CS (S ++ [.ins 4 []]) [x, .ty "list"] = some (.bl false))) {w : Int} (hw : w = 0 ∨ w = 1) :
    F__law_asked [.int w, t, .tup [m, s, x]] S = .exc ⟨2, []⟩ (S ++ [.ins 4 []]) := by
  rw [ev__law_asked]
  have h := init_bad hm hs hx
  rcases hw with rfl | rfl
  · simp [m__law_asked, h]
  · simp [m__law_asked, pick, h]
theorem getitem_ok (h : Bk S b m s rs) (hk : k ∈ CASES) : F_Book___getitem__ [.obj b, dC k] S = .ok (dP (told rs k)) S := by
  rw [ev_Book___getitem__]
  simp [m_Book___getitem__, check_case_t (okCase_dC k) (valid_case hk), -insG_ok, h.g, told_for_ok (.inl rfl)]
theorem getitem_bad (h : Bk S b m s rs) (hx : okCase x = true) (hv : validCase x = false) : F_Book___getitem__ [.obj b, x] S = .exc ⟨1, []⟩ S := by
  rw [ev_Book___getitem__]
  simp [m_Book___getitem__, check_case_f hx hv]
theorem asked2_ok (h : Bk S b m s rs) (hk : k ∈ CASES) : F__law_asked [.int 2, .obj b, dC k] S = .ok (dP (told rs k)) S := by
  rw [ev__law_asked]
  simp [m__law_asked, -insG_ok, h.g, getitem_ok h hk]
theorem asked2_bad (h : Bk S b m s rs) (hx : okCase x = true) (hv : validCase x = false) : F__law_asked [.int 2, .obj b, x] S = .exc ⟨1, []⟩ S := by
  rw [ev__law_asked]
  simp [m__law_asked, -insG_ok, h.g, getitem_bad h hx hv]
/-! ### rows that are good -/
def rowOf (k : Case) (p : Str × Str) : Row := ⟨k.1, k.2.1, k.2.2, p.1, p.2⟩
def goodRow (r : Row) : Prop := validRow (dR r) = true
def goodPair (k : Case) (p : Str × Str) : Prop := p.1 ∈ actsL k.1 ∧ p.2 ∈ keepsL k.1
theorem case_dw (hk : k ∈ CASES) : k.1 ∈ DW ∧ k.2.1 ∈ rolesL k.1 ∧ k.2.2 ∈ relsL k.1 := by
  have := valid_case hk
  simpa [validCase, dC, isW] using this
theorem goodRow_iff (r : Row) : goodRow r ↔ r.a ∈ DW ∧ (r.b ∈ rolesL r.a ∨ r.b = "any") ∧ (r.c ∈ relsL r.a ∨ r.c = "any") ∧ r.d ∈ actsL r.a ∧ r.e ∈ keepsL r.a := by
  simp [goodRow, validRow, dR, isW]
theorem good_rowOf {p : Str × Str} (hk : k ∈ CASES) (hp : goodPair k p) : goodRow (rowOf k p) := by
  obtain ⟨h1, h2, h3⟩ := case_dw hk
  exact (goodRow_iff _).mpr ⟨h1, .inl h2, .inl h3, hp.1, hp.2⟩
theorem told_good (hr : ∀ r ∈ rs, goodRow r) (hk : k ∈ CASES) : goodPair k (told rs k) := by
  unfold told
  cases q : rs.find? (fun r => fits r k) with
  | none =>
    have z : CASES.all (fun k => decide (("wait" : Str) ∈ actsL k.1) && decide (("nothing" : Str) ∈ keepsL k.1)) = true := by decide +kernel
    have := List.all_eq_true.mp z k hk
    simp only [Bool.and_eq_true, decide_eq_true_eq] at this
    exact this
  | some r =>
    have h1 := List.find?_some q
    have h2 := (goodRow_iff r).mp (hr r (List.mem_of_find?_eq_some q))
    simp only [fits, Bool.and_eq_true, decide_eq_true_eq] at h1
    have e : r.a = k.1 := h1.1
    rw [e] at h2
    exact ⟨h2.2.2.2.1, h2.2.2.2.2⟩
def withRows (rs : List Row) (k : Case) (p : Str × Str) : List Row := CASES.map fun k' => rowOf k' (if k' = k then p else told rs k')
theorem withRows_len (p : Str × Str) : (withRows rs k p).length = 20 := by unfold withRows; rw [List.length_map]; rfl
theorem withRows_good {p : Str × Str} (hr : ∀ r ∈ rs, goodRow r) (hp : goodPair k p) : ∀ r ∈ withRows rs k p, goodRow r := fun r h => by
  obtain ⟨k', hk', rfl⟩ := List.mem_map.mp h
  refine good_rowOf hk' ?_
  by_cases e : k' = k
  · rw [if_pos e, e]; exact hp
  · rw [if_neg e]; exact told_good hr hk'
theorem okRow_dR (r : Row) : okRow (dR r) = true := rfl
theorem okRows (rs : List Row) : ∀ y ∈ rs.map dR, okRow y = true := fun y hy => by
  obtain ⟨r, _, rfl⟩ := List.mem_map.mp hy
  rfl
theorem goodRows_of (hr : ∀ r ∈ rs, goodRow r) (hl : rs.length ≤ 40) : goodRows (rs.map dR) = true := by
  unfold goodRows
  rw [List.length_map, decide_eq_true hl, Bool.true_and]
  exact List.all_eq_true.mpr fun y hy => by
    obtain ⟨r, h, rfl⟩ := List.mem_map.mp hy
    exact hr r h
theorem eqO_dC (k k' : Case) : eqO S (dC k) (dC k') = some (.bl (decide (k = k'))) := by
  obtain ⟨a, b, c⟩ := k
  obtain ⟨a', b', c'⟩ := k'
  have ok : okEq (dC (a, b, c)) (dC (a', b', c')) = true := rfl
  show (if okEq (dC (a, b, c)) (dC (a', b', c')) = true then some (D.bl (deq (dC (a, b, c)) (dC (a', b', c')))) else none) = _
  rw [if_pos ok]
  have : deq (dC (a, b, c)) (dC (a', b', c')) = decide ((a, b, c) = (a', b', c')) := by
    show PyData.eqv (.tuple [.str a, .str b, .str c]) (.tuple [.str a', .str b', .str c']) = _
    simp only [PyData.eqv, PyData.eqvAll, eqv_str, Prod.mk.injEq, Bool.decide_and, Bool.and_true]
    by_cases h1 : a = a' <;> by_cases h2 : b = b' <;> by_cases h3 : c = c' <;> simp [h1, h2, h3]
  rw [this]
theorem with_case_ok (h : Bk S b m s rs) (hm : okV m = true) (hs : okV s = true) (hg : goodForm m s = true) (hr : ∀ r ∈ rs, goodRow r) (hk : k ∈ CASES) {a e : Str} (hp : goodPair k (a, e)) :
    F_Book_with_case [.obj b, dC k, .str a, .str e] S = .ok (.obj S.length) (S ++ [bk m s ((withRows rs k (a, e)).map dR)]) := by
  have dw := (case_dw hk).1
  have w1 := word_of_ok (actsL k.1) (.str a) rfl S
  have w2 := word_of_ok (keepsL k.1) (.str e) rfl S
  have e1 : isW (actsL k.1) (.str a) = true := by simp [isW, hp.1]
  have e2 : isW (keepsL k.1) (.str e) = true := by simp [isW, hp.2]
  rw [e1] at w1
  rw [e2] at w2
  have lc1 : lcL (bName 5) mYes (mTup (aCons (mVar 5) (aCons (mIf (mTst (m2 eqO (mVar 5) (mVar 1))) (mTup (aCons (mVar 2) (aCons (mVar 3) aNil))) (mCall F_told_for (aCons (mFld [4] "kept_rows" (mVar 0)) (aCons (mVar 5) aNil)))) aNil))) [some (.obj b), some (dC k), some (.str a), some (.str e), none, none, none] (CASES.map dC) [] S = .ok ([] ++ (CASES.map dC).map fun d => .tup [d, dP (if unC d = k then (a, e) else told rs (unC d))]) S := by
    refine lcL_all _ (fun d hd => ?_) (by rw [List.length_map, cases_len]; show 0 + 20 ≤ 1000000; decide)
    obtain ⟨k', hk', rfl⟩ := List.mem_map.mp hd
    refine ⟨_, rfl, rfl, ?_⟩
    by_cases q : k' = k
    · subst q
      have hu : unC (dC k') = k' := rfl
      rw [hu, if_pos rfl]
      simp [eqO_dC, dP]
    · have hu : unC (dC k') = k' := rfl
      rw [hu, if_neg q]
      simp [eqO_dC, q, -insG_ok, h.g, told_for_ok (.inl rfl)]
  have lc2 : ∀ l : D, lcL (bTup 2 (bCons (bName 5) (bCons (bName 6) bNil))) mYes (mTup (aStar (mVar 5) (aCons (m2 ixO (mVar 6) (mC (.int 0))) (aCons (m2 ixO (mVar 6) (mC (.int 1))) aNil)))) [some (.obj b), some (dC k), some (.str a), some (.str e), some l, none, none] ((CASES.map dC).map fun d => .tup [d, dP (if unC d = k then (a, e) else told rs (unC d))]) [] S = .ok ([] ++ (((CASES.map dC).map fun d => D.tup [d, dP (if unC d = k then (a, e) else told rs (unC d))]).map fun d => match d with | .tup [x, .tup [.str a, .str e]] => dR (rowOf (unC x) (a, e)) | _ => .non)) S := fun l => by
    refine lcL_all _ (fun d hd => ?_) (by rw [List.length_map, List.length_map, cases_len]; show 0 + 20 ≤ 1000000; decide)
    obtain ⟨d', hd', rfl⟩ := List.mem_map.mp hd
    obtain ⟨k', hk', rfl⟩ := List.mem_map.mp hd'
    have hu : unC (dC k') = k' := rfl
    rw [hu]
    refine ⟨_, rfl, rfl, ?_⟩
    simp [dP, dC, dR, rowOf, unC]
  have e3 : (((CASES.map dC).map fun d => D.tup [d, dP (if unC d = k then (a, e) else told rs (unC d))]).map fun d => match d with | .tup [x, .tup [.str a, .str e]] => dR (rowOf (unC x) (a, e)) | _ => D.non) = (withRows rs k (a, e)).map dR := by
    unfold withRows
    rw [List.map_map, List.map_map, List.map_map]
    rfl
  have hi := init_good (S := S) (x := .lst ((withRows rs k (a, e)).map dR)) hm hs rfl (okRows _) (by rw [List.length_map, withRows_len]; decide) hg (goodRows_of (withRows_good hr hp) (by rw [withRows_len]; decide))
  rw [ev_Book_with_case]
  unfold m_Book_with_case
  simp only [sSeq_ev, sDrop_ev, mCall_ev, aCons_ev, aNil_ev, mVar_z, mVar_s, bind_ok, check_case_t (okCase_dC k) (valid_case hk), of_ok, seq_nx', sIf_ev, or_ev, not_ev, mTru_ev, m2_ev, mC_ev, dC0, ofO_some, acts_ok dw, keeps_ok dw, w1, w2, tru_b, Bool.not_true, selT_f, sNil_ev, sSet_ev, mLc_ev, iSeq_ev, cases_ok, seqI_lst, wipe_cons, wipe_nil, List.set_cons_zero, List.set_cons_succ, lc1, List.nil_append, sRet_ev, mMake_ev, mFld_ev, h.g, lk_marks, lk_scope, lc2, e3, hi, fin_rt]
end
end K05
/-! the plain law of k05: the other ways; equal data agree -/
namespace K05
open PySem L2 DL
section
variable {S : Sto} {b : Nat} {m s x t a e : D} {ys : List D} {rs : List Row} {k : Case}
theorem with_case_bad (hk : k ∈ CASES) (ha : okV a = true) (he : okV e = true) (hb : (isW (actsL k.1) a && isW (keepsL k.1) e) = false) {o : D} : F_Book_with_case [o, dC k, a, e] S = .exc ⟨2, []⟩ S := by
  have dw := (case_dw hk).1
  have w1 := word_of_ok (actsL k.1) a ha S
  have w2 := word_of_ok (keepsL k.1) e he S
  rw [ev_Book_with_case]
  cases q : isW (actsL k.1) a with
  | false =>
    rw [q] at w1
    simp [m_Book_with_case, check_case_t (okCase_dC k) (valid_case hk), acts_ok dw, w1]
  | true =>
    rw [q] at w1 hb
    rw [Bool.true_and] at hb
    rw [hb] at w2
    simp [m_Book_with_case, check_case_t (okCase_dC k) (valid_case hk), acts_ok dw, keeps_ok dw, w1, w2]
theorem with_case_inv (hx : okCase x = true) (hv : validCase x = false) {o : D} : F_Book_with_case [o, x, a, e] S = .exc ⟨1, []⟩ S := by
  rw [ev_Book_with_case]
  simp [m_Book_with_case, check_case_f hx hv]
theorem asked3 (h : Bk S b m s rs) {w : Int} (hw : w = 3 ∨ w = 4) : F__law_asked [.int w, .obj b, .tup [x, a, e]] S = F_Book_with_case [.obj b, x, a, e] S := by
  rw [ev__law_asked]
  have fe : ∀ o : Out D, (OS.of o [some (D.int w), some (.obj b), some (.tup [x, a, e])] fun d S1 => OS.rt d S1).fin = o := fun o => by cases o <;> rfl
  rcases hw with rfl | rfl
  · simp [m__law_asked, -insG_ok, h.g]
    rw [seq_of, fe]
  · simp [m__law_asked, -insG_ok, h.g, pick]
    rw [seq_of, fe]
theorem in_form_eq (h : Bk S b m s rs) {m2 s2 : D} : F_Book_in_form [.obj b, m2, s2] S = (F_Book___init__ [.obj S.length, m2, s2, .lst (rs.map dR)] (S ++ [.ins 4 []])).bind fun d S2 => match d with
    | .non => .ok (.obj S.length) S2
    | _ => .stuck := by
  rw [ev_Book_in_form]
  simp [m_Book_in_form, -insG_ok, h.g]
  cases F_Book___init__ [.obj S.length, m2, s2, .lst (rs.map dR)] (S ++ [.ins 4 []]) with
  | ok d S2 => cases d <;> rfl
  | _ => rfl
theorem asked5 (h : Bk S b m s rs) {m2 s2 : D} {w : Int} (hw : w = 5 ∨ w = 6) : F__law_asked [.int w, .obj b, .tup [m2, s2]] S = F_Book_in_form [.obj b, m2, s2] S := by
  rw [ev__law_asked]
  have fe : ∀ o : Out D, (OS.of o [some (D.int w), some (.obj b), some (.tup [m2, s2])] fun d S1 => OS.rt d S1).fin = o := fun o => by cases o <;> rfl
  rcases hw with rfl | rfl
  · simp [m__law_asked, -insG_ok, h.g]
    rw [fe]
  · simp [m__law_asked, -insG_ok, h.g, pick]
    rw [fe]
end
/-! ### equal data agree -/
def agr : Nat → D → Bool
  | 0, _ => false
  | n + 1, .tup xs => decide (xs.length ≤ 1000) && xs.all (agr n)
  | n + 1, .lst xs => decide (xs.length ≤ 1000) && xs.all (agr n)
  | _ + 1, .non => true
  | _ + 1, .bl _ => true
  | _ + 1, .int _ => true
  | _ + 1, .str _ => true
  | _ + 1, _ => false
theorem nil_nil {S : Sto} : eqO S (.lst []) (.lst []) = some (.bl true) := rfl
theorem agree_lc {G : Mi} {S : Sto} {d d2 : D} {xs : List D} (hx : ∀ i : Nat, i < xs.length → ∃ y, ixO S d (.int (0 + (i : Nat))) = some y ∧ ixO S d2 (.int (0 + (i : Nat))) = some y ∧ G [y, y] S = .ok (.bl true) S) (hl : xs.length ≤ 1000) :
    lcL (bName 2) (tNot' (mTru (mCall G (aCons (m2 ixO (mVar 0) (mVar 2)) (aCons (m2 ixO (mVar 1) (mVar 2)) aNil))))) (mVar 2) [some d, some d2, none] (rangeD 0 xs.length) [] S = .ok [] S := by
  refine lcL_none (fun k hk => ?_) (by rw [rangeD_length]; show 0 + xs.length ≤ 1000000; omega)
  obtain ⟨i, hi, rfl⟩ := mem_rangeD hk
  obtain ⟨y, h1, h2, h3⟩ := hx i hi
  refine ⟨_, rfl, ?_⟩
  simp only [not_ev, mTru_ev, mCall_ev, aCons_ev, m2_ev, mVar_z, mVar_s, List.set_cons_zero, List.set_cons_succ, bind_ok, h1, h2, ofO_some, aNil_ev, h3, tru_b, Bool.not_true]
theorem agree_step {G : Mi} {n : Nat} {S : Sto} (ih : ∀ d, agr n d = true → G [d, d] S = .ok (.bl true) S) (d : D) (h : agr (n + 1) d = true) : (m__law_agree G [some d, some d, none] S).fin = .ok (.bl true) S := by
  cases d with
  | non => simp [m__law_agree]; rfl
  | bl b => simp [m__law_agree]
  | int i => simp [m__law_agree]
  | str x => simp [m__law_agree]
  | tup xs =>
    simp only [agr, Bool.and_eq_true, decide_eq_true_eq] at h
    have lc := agree_lc (G := G) (S := S) (d := .tup xs) (d2 := .tup xs) (xs := xs) (fun i hi => ⟨xs[i], by rw [Int.zero_add]; exact L2.atI_nat (List.getElem?_eq_getElem hi), by rw [Int.zero_add]; exact L2.atI_nat (List.getElem?_eq_getElem hi), ih _ (List.all_eq_true.mp h.2 _ (List.getElem_mem hi))⟩) h.1
    have rg : iRange1 (mN lenG (aCons (mVar 1) aNil)) [some (D.tup xs), some (.tup xs), none] S = .ok (rangeD 0 xs.length) S := rng_ok (by simp) (Nat.le_trans h.1 (by decide))
    simp [m__law_agree, rg, lc, nil_nil]
  | lst xs =>
    simp only [agr, Bool.and_eq_true, decide_eq_true_eq] at h
    have lc := agree_lc (G := G) (S := S) (d := .lst xs) (d2 := .lst xs) (xs := xs) (fun i hi => ⟨xs[i], by rw [Int.zero_add]; exact L2.atI_nat (List.getElem?_eq_getElem hi), by rw [Int.zero_add]; exact L2.atI_nat (List.getElem?_eq_getElem hi), ih _ (List.all_eq_true.mp h.2 _ (List.getElem_mem hi))⟩) h.1
    have rg : iRange1 (mN lenG (aCons (mVar 1) aNil)) [some (D.lst xs), some (.lst xs), none] S = .ok (rangeD 0 xs.length) S := rng_ok (by simp) (Nat.le_trans h.1 (by decide))
    simp [m__law_agree, rg, lc, nil_nil]
  | _ => cases h
theorem agree_refl (n : Nat) : ∀ (d : D), agr n d = true → ∀ S : Sto, F__law_agree n [d, d] S = .ok (.bl true) S := by
  induction n with
  | zero => exact fun d h S => by cases h
  | succ n ih =>
    intro d h S
    rw [ev__law_agree]
    exact agree_step (fun d h => ih d h S) d h
end K05
/-! the plain law of k05: a book beside its rows -/
namespace K05
open PySem L2 DL
theorem Bk.app {S l : Sto} {b : Nat} {m s : D} {rs : List Row} (h : Bk S b m s rs) : Bk (S ++ l) b m s rs := by
  have h' : S[b]? = some (bk m s (rs.map dR)) := h
  show (S ++ l)[b]? = _
  rw [List.getElem?_append_left (List.getElem?_eq_some_iff.mp h').1, h']
theorem table_len (rs : List Row) : (table rs).length = 20 := by unfold table; rw [List.length_map]; rfl
theorem table_get {rs : List Row} {i : Nat} {k : Case} (h : CASES[i]? = some k) : (table rs)[i]? = some (dT k (told rs k)) := by
  unfold table
  rw [List.getElem?_map, h]; rfl
theorem tableO_ok {rs : List Row} (S : Sto) : ∃ l n, F_table_of_at_O [.tup (rs.map dR)] S = .ok (.obj n) (S ++ l) ∧ S.length ≤ n ∧ (S ++ l)[n]? = some (.lst (table rs)) := by
  rw [ev_table_of_at_O]
  unfold m_table_of_at_O
  simp only [sSeq_ev, sSet_ev, mLst_ev, aNil_ev, bind_ok, List.length_nil, lim_0, if_true, of_ok, seq_nx', sFor_ev, iSeq_ev, mCall_ev, cases_ok, seqI_lst, ofO_some, List.set_cons_zero, List.set_cons_succ]
  obtain ⟨ρ', S', e, l, v, v2, v3, v4, rfl, rfl, hv⟩ := forL_ix (b := bName 2) (body := sSeq (sAsg (mCall F_told_for (aCons (mVar 0) (aCons (mVar 2) aNil))) (bTup 2 (bCons (bName 3) (bCons (bName 4) bNil)))) (sSet 1 (mLstO (aStar (mVar 1) (aCons (mTup (aCons (mVar 2) (aCons (mVar 3) (aCons (mVar 4) aNil)))) aNil)))))
    (fun i ρ S' => ∃ l v v2 v3 v4, ρ = [some (.tup (rs.map dR)), some v, v2, v3, v4] ∧ S' = S ++ l ∧ ((i = 0 ∧ v = .lst []) ∨ ∃ n, v = .obj n ∧ S.length ≤ n ∧ S'[n]? = some (.lst ((table rs).take i)))) (CASES.map dC) 0 (fun i d hd ρ S' ⟨l, v, v2, v3, v4, e, e2, hv⟩ => by
      subst e
      subst e2
      rw [Nat.zero_add] at hv
      rw [List.getElem?_map] at hd
      cases hk : CASES[i]? with
      | none => rw [hk] at hd; cases hd
      | some k =>
        rw [hk] at hd
        cases hd
        have hsq : seqD (S ++ l) v = some ((table rs).take i) := by
          rcases hv with ⟨rfl, rfl⟩ | ⟨n, rfl, _, h⟩
          · rfl
          · show (match (S ++ l)[n]? with | some (.lst xs) => some xs | _ => none) = _
            rw [h]
        have hti : (table rs).take i ++ [dT k (told rs k)] = (table rs).take (i + 1) := by
          rw [List.take_add_one, table_get hk]; rfl
        have hlen : ((table rs).take (i + 1)).length ≤ lim := by
          rw [List.length_take, table_len]
          exact Nat.le_trans (Nat.min_le_right _ _) (by decide)
        refine ⟨_, rfl, [some (.tup (rs.map dR)), some (.obj (S ++ l).length), some (dC k), some (.str (told rs k).1), some (.str (told rs k).2)], (S ++ l) ++ [.lst ((table rs).take (i + 1))], ?_, l ++ [.lst ((table rs).take (i + 1))], _, _, _, _, rfl, List.append_assoc _ _ _, .inr ⟨_, rfl, by rw [List.length_append]; omega, by rw [Nat.zero_add]; exact get_last⟩⟩
        have ht : D.tup [dC k, D.str (told rs k).1, D.str (told rs k).2] = dT k (told rs k) := rfl
        simp only [sSeq_ev, sAsg_ev, mCall_ev, aCons_ev, aNil_ev, mVar_z, mVar_s, bind_ok, told_for_ok (.inl rfl), of_ok, dP, bTup_ev, List.length_cons, List.length_nil, Nat.zero_add, Nat.reduceAdd, if_true, bCons_ev, bName_ev, Option.bind_some, bNil_ev, List.set_cons_zero, List.set_cons_succ, seq_nx', sSet_ev, mLstO_ev, aStar_ev, hsq, mTup_ev, lim_3, ht, hti, if_pos hlen]) [some (.tup (rs.map dR)), some (.lst []), none, none, none] S ⟨[], _, _, _, _, rfl, (List.append_nil S).symm, .inl ⟨rfl, rfl⟩⟩
  rw [e]
  have h20 : 0 + (CASES.map dC).length = 20 := rfl
  rw [h20] at hv
  rcases hv with ⟨h, _⟩ | ⟨n, rfl, h1, h2⟩
  · omega
  · refine ⟨l, n, rfl, h1, ?_⟩
    rw [h2, List.take_of_length_le (by rw [table_len]; exact Nat.le_refl _)]
theorem tableO_meth {S : Sto} {b : Nat} {m s : D} {rs : List Row} (h : Bk S b m s rs) : ∃ l n, F_Book_table_at_O [.obj b] S = .ok (.obj n) (S ++ l) ∧ S.length ≤ n ∧ (S ++ l)[n]? = some (.lst (table rs)) := by
  obtain ⟨l, n, e, h1, h2⟩ := tableO_ok (rs := rs) S
  refine ⟨l, n, ?_, h1, h2⟩
  rw [ev_Book_table_at_O]
  simp [m_Book_table_at_O, -insG_ok, h.g, e]
theorem table_meth {S : Sto} {b : Nat} {m s : D} {rs : List Row} (h : Bk S b m s rs) : F_Book_table [.obj b] S = .ok (.lst (table rs)) S := by
  rw [ev_Book_table]
  simp [m_Book_table, -insG_ok, h.g, table_of_ok (.inl rfl)]
theorem len_meth {S : Sto} {b : Nat} {m s : D} {rs : List Row} (h : Bk S b m s rs) : F_Book___len__ [.obj b] S = .ok (.int rs.length) S := by
  rw [ev_Book___len__]
  simp [m_Book___len__, -insG_ok, h.g]
theorem agr_str (n : Nat) (x : Str) : agr (n + 1) (.str x) = true := rfl
theorem agr_dR (n : Nat) (r : Row) : agr (n + 2) (dR r) = true := by simp [agr, dR]
theorem agr_dP (n : Nat) (p : Str × Str) : agr (n + 2) (dP p) = true := by simp [agr, dP]
theorem agr_dT (n : Nat) (k : Case) (p : Str × Str) : agr (n + 3) (dT k p) = true := by simp [agr, dT, dC]
theorem agr_map {α : Type} {f : α → D} {n : Nat} {xs : List α} (hl : xs.length ≤ 1000) (h : ∀ x ∈ xs, agr n (f x) = true) : agr (n + 1) (.lst (xs.map f)) = true := by
  simp only [agr, List.length_map, decide_eq_true hl, Bool.true_and, List.all_map]
  exact List.all_eq_true.mpr h
theorem agr5 {n : Nat} {a b c d e : D} (h1 : agr n a = true) (h2 : agr n b = true) (h3 : agr n c = true) (h4 : agr n d = true) (h5 : agr n e = true) : agr (n + 1) (.lst [a, b, c, d, e]) = true := by
  simp [agr, h1, h2, h3, h4, h5]
def tolds (rs : List Row) : List D := CASES.map fun k => dP (told rs k)
theorem ix_cases {i : Nat} {k : Case} {S : Sto} (h : CASES[i]? = some k) : ixO S (.lst (CASES.map dC)) (.int (0 + (i : Nat))) = some (dC k) := by
  rw [Int.zero_add]
  exact L2.atI_nat (by rw [List.getElem?_map, h]; rfl)
theorem ix_tolds {i : Nat} {k : Case} {S : Sto} {rs : List Row} (h : CASES[i]? = some k) : ixO S (.lst (tolds rs)) (.int (0 + (i : Nat))) = some (dP (told rs k)) := by
  rw [Int.zero_add]
  exact L2.atI_nat (by unfold tolds; rw [List.getElem?_map, h]; rfl)
theorem len_cases (f : Case → D) : (CASES.map f).length = 20 := by rw [List.length_map]; rfl
theorem book_right {S : Sto} {b : Nat} {m s : Str} {rs : List Row} (h : Bk S b (.str m) (.str s) rs) (hl : rs.length ≤ 100) : ∃ l, F__law_book_right [.obj b, .tup [.str m, .str s], .lst (rs.map dR)] S = .ok (.bl true) (S ++ l) := by
  have lc1 : ∀ S : Sto, lcL (bName 8) mYes (mCall F__law_told (aCons (mVar 2) (aCons (mVar 8) aNil))) [some (.obj b), some (.tup [.str m, .str s]), some (.lst (rs.map dR)), some (.lst (CASES.map dC)), none, none, none, none, none, none, none] (CASES.map dC) [] S = .ok (tolds rs) S := fun S => by
    rw [lcL_all (fun d => dP (told rs (unC d))) (fun d hd => by
      obtain ⟨k, hk, rfl⟩ := List.mem_map.mp hd
      exact ⟨_, rfl, rfl, law_told_ok (.inr rfl) k S⟩) (by rw [len_cases]; decide), List.nil_append, List.map_map]
    rfl
  have lc2 : ∀ S : Sto, lcL (bName 9) mYes (mTup (aCons (m2 ixO (mVar 3) (mVar 9)) (aCons (m2 ixO (m2 ixO (mVar 4) (mVar 9)) (mC (.int 0))) (aCons (m2 ixO (m2 ixO (mVar 4) (mVar 9)) (mC (.int 1))) aNil)))) [some (.obj b), some (.tup [.str m, .str s]), some (.lst (rs.map dR)), some (.lst (CASES.map dC)), some (.lst (tolds rs)), none, none, none, none, none, none] (rangeD 0 20) [] S = .ok (table rs) S := fun S => by
    rw [lcL_all (fun d => match d with | .int i => (table rs).getD i.toNat .non | _ => .non) (fun d hd => by
      obtain ⟨i, hi, rfl⟩ := mem_rangeD hd
      obtain ⟨k, hk⟩ : ∃ k, CASES[i]? = some k := ⟨_, List.getElem?_eq_getElem (show i < CASES.length from hi)⟩
      refine ⟨_, rfl, rfl, ?_⟩
      have hg : (table rs).getD i .non = dT k (told rs k) := by
        rw [List.getD_eq_getElem?_getD, table_get hk]; rfl
      have hi' : (0 + (i : Int)).toNat = i := by omega
      simp only [mTup_ev, aCons_ev, aNil_ev, m2_ev, mVar_z, mVar_s, mC_ev, List.set_cons_zero, List.set_cons_succ, bind_ok, ix_cases hk, ix_tolds hk, dP0, dP1, ofO_some, List.length_cons, List.length_nil, Nat.zero_add, Nat.reduceAdd, lim_3, if_true, hi', hg]
      rfl) (by rw [rangeD_length]; decide), List.nil_append]
    have : (rangeD 0 20).map (fun d => match d with | .int i => (table rs).getD i.toNat .non | _ => .non) = table rs := by kernel_rfl
    rw [this]
  obtain ⟨l, n, e1, e2, e3⟩ := tableO_meth h
  let S4 := (S ++ l).set n (.lst (table rs ++ [.non]))
  have hS4 : ∃ l', S4 = S ++ l' := ⟨l.set (n - S.length) (.lst (table rs ++ [.non])), List.set_append_right _ _ e2⟩
  obtain ⟨l', eS4⟩ := hS4
  have h4 : Bk S4 b (.str m) (.str s) rs := by rw [eS4]; exact h.app
  have happ : sApp (mMeth 4 "table" F_Book_table_at_O (mVar 0) aNil) (mC .non) [some (.obj b), some (.tup [.str m, .str s]), some (.lst (rs.map dR)), some (.lst (CASES.map dC)), some (.lst (tolds rs)), some (.lst (table rs)), none, none, none, none, none] S = .nx [some (.obj b), some (.tup [.str m, .str s]), some (.lst (rs.map dR)), some (.lst (CASES.map dC)), some (.lst (tolds rs)), some (.lst (table rs)), none, none, none, none, none] S4 :=
    sApp_ok (S1 := S ++ l) (by simp only [mMeth_ev, mVar_z, bind_ok, h.g, lk_tb, aNil_ev, e1]) e3 rfl e3 (by rw [table_len]; decide)
  have heard : (mLst (aCons (mFld [4] "marks" (mVar 0)) (aCons (mFld [4] "scope" (mVar 0)) (aCons (mMeth 4 "table" F_Book_table (mVar 0) aNil) (aCons (mLenI 4 F_Book___len__ (aCons (mVar 0) aNil)) (aCons (mLc (iOwn 4 "kept_rows" (mVar 0)) (bName 10) mYes (mVar 10) [10]) aNil)))))) [some (.obj b), some (.tup [.str m, .str s]), some (.lst (rs.map dR)), some (.lst (CASES.map dC)), some (.lst (tolds rs)), some (.lst (table rs)), none, none, none, none, none] S4 = .ok (.lst [.str m, .str s, .lst (table rs), .int rs.length, .lst (rs.map dR)]) S4 := by
    have lc : lcL (bName 10) mYes (mVar 10) [some (.obj b), some (.tup [.str m, .str s]), some (.lst (rs.map dR)), some (.lst (CASES.map dC)), some (.lst (tolds rs)), some (.lst (table rs)), none, none, none, none, none] (rs.map dR) [] S4 = .ok (rs.map dR) S4 := by
      rw [lcL_all (bd := bName 10) (t := mYes) (m := mVar 10) id (fun d hd => ⟨_, rfl, rfl, rfl⟩) (by rw [List.length_map, List.length_nil, Nat.zero_add]; exact Nat.le_trans hl (by decide))]
      simp
    have ho : iOwn 4 "kept_rows" (mVar 0) [some (.obj b), some (.tup [.str m, .str s]), some (.lst (rs.map dR)), some (.lst (CASES.map dC)), some (.lst (tolds rs)), some (.lst (table rs)), none, none, none, none, none] S4 = .ok (rs.map dR) S4 := by
      unfold iOwn
      simp only [mVar_z, bind_ok, h4.g, lk_rows]
    have hn : mLenI 4 F_Book___len__ (aCons (mVar 0) aNil) [some (.obj b), some (.tup [.str m, .str s]), some (.lst (rs.map dR)), some (.lst (CASES.map dC)), some (.lst (tolds rs)), some (.lst (table rs)), none, none, none, none, none] S4 = .ok (.int rs.length) S4 := by
      have hb : 0 ≤ (rs.length : Int) ∧ (rs.length : Int) < 2 ^ 63 := by omega
      unfold mLenI
      simp only [aCons_ev, aNil_ev, mVar_z, bind_ok, h4.g]
      unfold lenI
      simp only [len_meth h4, bind_ok, if_pos hb]
    simp only [mLst_ev, aCons_ev, aNil_ev, mFld_ev, mMeth_ev, mVar_z, bind_ok, h4.g, lk_marks, lk_scope, lk_tb, table_meth h4, hn, mLc_ev, ho, wipe_cons, wipe_nil, List.set_cons_zero, List.set_cons_succ, lc, List.length_cons, List.length_nil, Nat.zero_add, Nat.reduceAdd, lim_5, if_true]
  have ag1 : F__law_agree 7 [.lst [.str m, .str s, .lst (table rs), .int rs.length, .lst (rs.map dR)], .lst [.str m, .str s, .lst (table rs), .int rs.length, .lst (rs.map dR)]] S4 = .ok (.bl true) S4 := agree_refl 7 _ (by
    have a1 : agr 6 (.lst (table rs)) = true := agr_map (by decide) fun k _ => agr_dT 2 k _
    have a2 : agr 6 (.lst (rs.map dR)) = true := agr_map (by omega) fun r _ => agr_dR 3 r
    exact agr5 rfl rfl a1 rfl a2) S4
  have ag2 : F__law_agree 7 [.lst (tolds rs), .lst (tolds rs)] S4 = .ok (.bl true) S4 := agree_refl 7 _ (agr_map (by decide) fun k _ => agr_dP 4 _) S4
  have lc3 : ∀ w7 : D, lcL (bName 8) mYes (mCall F__law_said (aCons (mC (.int 2)) (aCons (mVar 0) (aCons (mVar 8) aNil)))) [some (.obj b), some (.tup [.str m, .str s]), some (.lst (rs.map dR)), some (.lst (CASES.map dC)), some (.lst (tolds rs)), some (.lst (table rs)), some w7, some w7, none, none, none] (CASES.map dC) [] S4 = .ok (tolds rs) S4 := fun w7 => by
    rw [lcL_all (fun d => dP (told rs (unC d))) (fun d hd => by
      obtain ⟨k, hk, rfl⟩ := List.mem_map.mp hd
      exact ⟨_, rfl, rfl, said_of (asked2_ok h4 hk)⟩) (by rw [len_cases]; decide), List.nil_append, List.map_map]
    rfl
  refine ⟨l', ?_⟩
  rw [ev__law_book_right]
  unfold m__law_book_right
  rw [← eS4]
  rw [sSeq_ev, sSet_ev]
  simp only [mCall_ev, aNil_ev, bind_ok, law_cases_ok, of_ok, seq_nx', List.set_cons_zero, List.set_cons_succ]
  rw [sSeq_ev, sSet_ev]
  simp only [mLc_ev, iSeq_ev, mVar_z, mVar_s, bind_ok, seqI_lst, ofO_some, wipe_cons, wipe_nil, List.set_cons_zero, List.set_cons_succ, lc1, of_ok, seq_nx']
  rw [sSeq_ev, sSet_ev]
  have r20 : iRange1 (mC (.int 20)) [some (.obj b), some (.tup [.str m, .str s]), some (.lst (rs.map dR)), some (.lst (CASES.map dC)), some (.lst (tolds rs)), none, none, none, none, none, none] S = .ok (rangeD 0 20) S := rng_ok (n := 20) rfl (by decide)
  rw [mLc_ev, r20]
  simp only [bind_ok, wipe_cons, wipe_nil, List.set_cons_zero, List.set_cons_succ, lc2, of_ok, seq_nx']
  rw [sSeq_ev, happ, seq_nx', sSeq_ev, sSet_ev, heard]
  simp only [of_ok, seq_nx', List.set_cons_zero, List.set_cons_succ]
  rw [sSeq_ev, sSet_ev]
  simp only [mLst_ev, aCons_ev, aNil_ev, m2_ev, mVar_z, mVar_s, mC_ev, mN_ev, bind_ok, ix_t0, ix_t1, ofO_some, len_lst, List.length_map, List.length_cons, List.length_nil, Nat.zero_add, Nat.reduceAdd, lim_5, if_true, of_ok, seq_nx', List.set_cons_zero, List.set_cons_succ]
  rw [sRet_ev, mAnd_ev]
  simp only [mCall_ev, aCons_ev, aNil_ev, mVar_z, mVar_s, bind_ok, ag1, tru_b, selB_t, mLc_ev, iSeq_ev, seqI_lst, ofO_some, wipe_cons, wipe_nil, List.set_cons_zero, List.set_cons_succ, lc3, ag2, of_ok, fin_rt]
end K05
/-! the plain law of k05: draws -/
namespace K05
open PySem L2 DL
theorem tap_eq : F__law_tap = tapF := rfl
/-- the cask at c, at most n draws behind it -/
def Ck (S : Sto) (c n : Nat) : Prop := ∃ k : Int, Cask S c k ∧ k ≤ n
theorem Ck.mono {S : Sto} {c n m : Nat} (h : Ck S c n) (hn : n ≤ m) : Ck S c m := let ⟨k, a, b⟩ := h; ⟨k, a, by omega⟩
theorem Ck.app {S l : Sto} {c n : Nat} (h : Ck S c n) : Ck (S ++ l) c n := let ⟨k, a, b⟩ := h; ⟨k, a.app, b⟩
theorem Ck.lt {S : Sto} {c n : Nat} (h : Ck S c n) : c < S.length := let ⟨_, a, _⟩ := h; a.lt
theorem Ck.other {S : Sto} {c n f : Nat} {o : Ob} (h : Ck S c n) (hf : f ≠ c) : Ck (S.set f o) c n := let ⟨k, ⟨a, b, e, r⟩, hk⟩ := h; ⟨k, ⟨a, b, (List.getElem?_set_ne hf).trans e, r⟩, hk⟩
theorem tap {S : Sto} {c n span : Nat} (h : Ck S c n) (hn : n < 10 ^ 8) (h0 : 0 < span) (h1 : span < 10 ^ 9) : ∃ (d : Nat) (S' : Sto), F__law_tap [.obj c, .int span] S = .ok (.int d) S' ∧ d < span ∧ Ck S' c (n + 1) ∧ S'.length = S.length ∧ Gr c S S' := by
  obtain ⟨k, hc, hk⟩ := h
  obtain ⟨d, S', k', e, a, b, h2, h3, h4⟩ := tap_n hc (by omega) h0 h1
  exact ⟨d, S', by rw [tap_eq]; exact e, a, ⟨k', h2, by omega⟩, h3, h4⟩
def rowBody : MS := (sSeq (sSet 5 (m2 ixO (mVar 2) (mVar 4)))
  (sSeq (sIf (tAnd' (mTst (m2 ltO (mVar 4) (mC (.int 2)))) (mTst (m2 eqO (mCall F__law_tap (aCons (mVar 0) (aCons (mC (.int 3)) aNil))) (mC (.int 0)))))
  (sSet 5 (mTup (aCons (mC (.str "any")) aNil)))
  sNil)
  (sApp (mVar 3) (m2 ixO (mVar 5) (mCall F__law_tap (aCons (mVar 0) (aCons (mN lenG (aCons (mVar 5) aNil)) aNil)))))))
/-- an item of a list of texts is drawn and put at the list's end -/
theorem app_ok {S : Sto} {c n f : Nat} {a0 a1 a2 : Option D} {a4 : Option D} {acc : List D} {ws : List Str} (h : Ck S c n) (hn : n < 10 ^ 8) (hf : f ≠ c) (hS : S[f]? = some (.lst acc)) (ha : acc.length < 100) (hw : 0 < ws.length) (hw2 : ws.length < 100) :
    ∃ w S', sApp (mVar 3) (m2 ixO (mVar 5) (mCall F__law_tap (aCons (mVar 0) (aCons (mN lenG (aCons (mVar 5) aNil)) aNil)))) [some (.obj c), a1, a2, some (.obj f), a4, some (tS ws)] S = .nx [some (.obj c), a1, a2, some (.obj f), a4, some (tS ws)] S' ∧ w ∈ ws ∧ S'[f]? = some (.lst (acc ++ [.str w])) ∧ Ck S' c (n + 1) ∧ S'.length = S.length ∧ ∀ i, i ≠ c → i ≠ f → S'[i]? = S[i]? := by
  obtain ⟨d, S1, e1, hd, h1, hl, hg⟩ := tap h hn hw (by omega)
  have hlen : f < S.length := (List.getElem?_eq_some_iff.mp hS).1
  obtain ⟨x, hx, _, ex, _⟩ := ix_nat (S := S1) (xs := ws.map D.str) (n := d) (by rw [List.length_map]; exact hd)
  obtain ⟨w, hw, rfl⟩ := List.mem_map.mp hx
  have hS1 := hg.at_ hf hS
  refine ⟨w, S1.set f (.lst (acc ++ [.str w])), sApp_ok (S1 := S) rfl hS (by simp only [m2_ev, mVar_s, mVar_z, bind_ok, mCall_ev, aCons_ev, mN_ev, aNil_ev, len_tup, List.length_map, ofO_some, e1, ex]) hS1 (by show acc.length < 1000000; omega), hw, List.getElem?_set_self (by rw [hl]; exact hlen), h1.other hf, by rw [List.length_set, hl], fun i h2 h3 => ?_⟩
  rw [List.getElem?_set_ne (Ne.symm h3)]
  by_cases hi : i < S.length
  · exact hg.eq i h2 hi
  · rw [List.getElem?_eq_none (by rw [hl]; omega), List.getElem?_eq_none (by omega)]
theorem rowBody_ok {S : Sto} {c n f : Nat} {a1 v5 : Option D} {W : List D} {acc : List D} {k : Nat} {ws : List Str} (h : Ck S c n) (hn : n + 2 < 10 ^ 8) (hf : f ≠ c) (hS : S[f]? = some (.lst acc)) (ha : acc.length < 100) (hk : W[k]? = some (tS ws)) (hw : 0 < ws.length) (hw2 : ws.length < 100) :
    ∃ w S' v, rowBody [some (.obj c), a1, some (.tup W), some (.obj f), some (.int k), v5] S = .nx [some (.obj c), a1, some (.tup W), some (.obj f), some (.int k), v] S' ∧ (w ∈ ws ∨ (k < 2 ∧ w = "any")) ∧ S'[f]? = some (.lst (acc ++ [.str w])) ∧ Ck S' c (n + 2) ∧ S'.length = S.length ∧ ∀ i, i ≠ c → i ≠ f → S'[i]? = S[i]? := by
  have ek : ixO S (.tup W) (.int k) = some (tS ws) := L2.atI_nat hk
  unfold rowBody
  rw [sSeq_ev, sSet_ev]
  simp only [m2_ev, mVar_z, mVar_s, bind_ok, ek, ofO_some, of_ok, seq_nx', List.set_cons_zero, List.set_cons_succ, sSeq_ev]
  rw [sIf_ev, and_ev]
  simp only [mTst_ev, m2_ev, mVar_z, mVar_s, mC_ev, bind_ok, ltO_i, ofO_some]
  by_cases h2 : k < 2
  · have h2' : decide ((k : Int) < 2) = true := decide_eq_true (by omega)
    obtain ⟨d, S1, e1, hd, h1, hl, hg⟩ := tap (span := 3) h (by omega) (by decide) (by decide)
    have e1' : F__law_tap [.obj c, .int 3] S = .ok (.int d) S1 := e1
    have hS1 := hg.at_ hf hS
    have eqs : ∀ i, i ≠ c → S1[i]? = S[i]? := fun i h2 => by
      by_cases hi : i < S.length
      · exact hg.eq i h2 hi
      · rw [List.getElem?_eq_none (by rw [hl]; omega), List.getElem?_eq_none (by omega)]
    simp only [h2', selT_t, mCall_ev, aCons_ev, aNil_ev, mVar_z, mC_ev, bind_ok, e1', eqO_i, ofO_some, of_ok]
    by_cases hd0 : d = 0
    · subst hd0
      obtain ⟨w, S2, e2, hw', h3, h4, h5, h6⟩ := app_ok (a0 := none) (a1 := a1) (a2 := some (.tup W)) (a4 := some (.int k)) (ws := ["any"]) h1 (by omega) hf hS1 ha (by decide) (by decide)
      refine ⟨w, S2, some (tS ["any"]), ?_, .inr ⟨h2, by simpa using hw'⟩, h3, h4, by rw [h5, hl], fun i a b => (h6 i a b).trans (eqs i a)⟩
      have ez : decide (((0 : Nat) : Int) = 0) = true := rfl
      rw [ez, selT_t, sSet_ev, mTup_ev]
      simp only [aCons_ev, aNil_ev, mC_ev, bind_ok, List.length_cons, List.length_nil, Nat.zero_add, lim_1, if_true, of_ok, seq_nx', List.set_cons_zero, List.set_cons_succ]
      exact e2
    · obtain ⟨w, S2, e2, hw', h3, h4, h5, h6⟩ := app_ok (a0 := none) (a1 := a1) (a2 := some (.tup W)) (a4 := some (.int k)) (ws := ws) h1 (by omega) hf hS1 ha hw hw2
      refine ⟨w, S2, some (tS ws), ?_, .inl hw', h3, h4, by rw [h5, hl], fun i a b => (h6 i a b).trans (eqs i a)⟩
      have ez : decide (((d : Nat) : Int) = 0) = false := decide_eq_false (by omega)
      rw [ez, selT_f, sNil_ev, seq_nx']
      exact e2
  · have h2' : decide ((k : Int) < 2) = false := decide_eq_false (by omega)
    obtain ⟨w, S2, e2, hw', h3, h4, h5, h6⟩ := app_ok (a0 := none) (a1 := a1) (a2 := some (.tup W)) (a4 := some (.int k)) (ws := ws) h (by omega) hf hS ha hw hw2
    refine ⟨w, S2, some (tS ws), ?_, .inl hw', h3, h4.mono (by omega), h5, h6⟩
    simp only [h2', selT_f, of_ok, sNil_ev, seq_nx']
    exact e2
def WL (a : Str) : List D := [tS (rolesL a), tS (relsL a), tS (actsL a), tS (keepsL a)]
theorem wordsL {a : Str} (h : a ∈ DW) (S : Sto) : F__law_book_words [.str a] S = .ok (.tup (WL a)) S := words_ok h S
theorem any_row {S : Sto} {c n : Nat} (h : Ck S c n) (hn : n + 20 < 10 ^ 8) : ∃ r S', F__law_any_row [.obj c] S = .ok (dR r) S' ∧ goodRow r ∧ Ck S' c (n + 10) ∧ Gr c S S' := by
  obtain ⟨d, S1, e1, hd, h1, hl1, hg1⟩ := tap (span := 4) h (by omega) (by decide) (by decide)
  have e1' : F__law_tap [.obj c, .int 4] S = .ok (.int d) S1 := e1
  obtain ⟨x, hx, ex, _, _⟩ := ix_nat (S := S1) (xs := [.str "read", .str "read", .str "write", .str "hand"]) (n := d) hd
  obtain ⟨a, rfl, ha⟩ : ∃ a : Str, x = .str a ∧ a ∈ DW := by
    simp only [List.mem_cons, List.not_mem_nil, or_false] at hx
    rcases hx with rfl | rfl | rfl | rfl <;> exact ⟨_, rfl, by decide⟩
  obtain ⟨f, hfd⟩ : ∃ f, f = S1.length := ⟨_, rfl⟩
  have hcl : c < f := by rw [hfd]; exact h1.lt
  have hgl : (S1 ++ [Ob.lst [.str a]])[f]? = some (.lst [.str a]) := by rw [hfd]; exact get_last
  have hf : f ≠ c := by omega
  have hw : (0 < (rolesL a).length ∧ (rolesL a).length < 100) ∧ (0 < (relsL a).length ∧ (relsL a).length < 100) ∧ (0 < (actsL a).length ∧ (actsL a).length < 100) ∧ (0 < (keepsL a).length ∧ (keepsL a).length < 100) := by rcases mem_DW ha with rfl | rfl | rfl <;> decide
  have h1' : Ck (S1 ++ [.lst [.str a]]) c (n + 1) := h1.app
  obtain ⟨w0, S2, v0, e2, mm0, f0, k0, l0, g0⟩ := rowBody_ok (a1 := some (.str a)) (v5 := none) (W := WL a) (k := 0) (f := f) h1' (by omega) hf hgl (by simp) rfl hw.1.1 hw.1.2
  obtain ⟨w1, S3, v1, e3, mm1, f1, k1, l1, g1⟩ := rowBody_ok (a1 := some (.str a)) (v5 := v0) (W := WL a) (k := 1) (f := f) k0 (by omega) hf f0 (by simp) rfl hw.2.1.1 hw.2.1.2
  obtain ⟨w2, S4, v2, e4, mm2, f2, k2, l2, g2⟩ := rowBody_ok (a1 := some (.str a)) (v5 := v1) (W := WL a) (k := 2) (f := f) k1 (by omega) hf f1 (by simp) rfl hw.2.2.1.1 hw.2.2.1.2
  obtain ⟨w3, S5, v3, e5, mm3, f3, k3, l3, g3⟩ := rowBody_ok (a1 := some (.str a)) (v5 := v2) (W := WL a) (k := 3) (f := f) k2 (by omega) hf f2 (by simp) rfl hw.2.2.2.1 hw.2.2.2.2
  refine ⟨⟨a, w0, w1, w2, w3⟩, S5, ?_, ?_, k3.mono (by omega), ⟨?_, fun i hi hl => ?_⟩⟩
  · rw [ev__law_any_row]
    show (m__law_any_row [some (.obj c), none, none, none, none, none] S).fin = _
    have em : m__law_any_row = (sSeq (sSet 1 (m2 ixO (mLst (aCons (mC (.str "read")) (aCons (mC (.str "read")) (aCons (mC (.str "write")) (aCons (mC (.str "hand")) aNil))))) (mCall F__law_tap (aCons (mVar 0) (aCons (mC (.int 4)) aNil)))))
      (sSeq (sPar 2 3 (aCons (mCall F__law_book_words (aCons (mVar 1) aNil)) (aCons (mLstO (aCons (mVar 1) aNil)) aNil)))
      (sSeq (sFor (iRange1 (mC (.int 4))) (bName 4) rowBody) (sRet (mN tupleG (aCons (mVar 3) aNil)))))) := rfl
    rw [em, sSeq_ev, sSet_ev]
    simp only [m2_ev, mLst_ev, aCons_ev, aNil_ev, mC_ev, bind_ok, List.length_cons, List.length_nil, Nat.zero_add, Nat.reduceAdd, lim_4, if_true, mCall_ev, mVar_z, e1', ex, ofO_some, of_ok, seq_nx', List.set_cons_zero, List.set_cons_succ]
    rw [sSeq_ev, sPar_ev]
    simp only [mCall_ev, aCons_ev, aNil_ev, mVar_z, mVar_s, bind_ok, wordsL ha, mLstO_ev, List.length_cons, List.length_nil, Nat.zero_add, lim_1, if_true, of_ok, seq_nx', List.set_cons_zero, List.set_cons_succ]
    have r4 : ∀ ρ S, iRange1 (mC (.int 4)) ρ S = .ok [.int 0, .int 1, .int 2, .int 3] S := fun _ _ => rng_ok (n := 4) rfl (by decide)
    rw [sSeq_ev, sFor_ev, r4]
    have e2' : rowBody [some (.obj c), some (.str a), some (.tup (WL a)), some (.obj f), some (.int 0), none] (S1 ++ [.lst [.str a]]) = .nx [some (.obj c), some (.str a), some (.tup (WL a)), some (.obj f), some (.int 0), v0] S2 := e2
    have e3' : rowBody [some (.obj c), some (.str a), some (.tup (WL a)), some (.obj f), some (.int 1), v0] S2 = .nx [some (.obj c), some (.str a), some (.tup (WL a)), some (.obj f), some (.int 1), v1] S3 := e3
    have e4' : rowBody [some (.obj c), some (.str a), some (.tup (WL a)), some (.obj f), some (.int 2), v1] S3 = .nx [some (.obj c), some (.str a), some (.tup (WL a)), some (.obj f), some (.int 2), v2] S4 := e4
    have e5' : rowBody [some (.obj c), some (.str a), some (.tup (WL a)), some (.obj f), some (.int 3), v2] S4 = .nx [some (.obj c), some (.str a), some (.tup (WL a)), some (.obj f), some (.int 3), v3] S5 := e5
    have lp : forL (bName 4) rowBody [.int 0, .int 1, .int 2, .int 3] [some (.obj c), some (.str a), some (.tup (WL a)), some (.obj f), none, none] (S1 ++ [.lst [.str a]]) = .nx [some (.obj c), some (.str a), some (.tup (WL a)), some (.obj f), some (.int 3), v3] S5 := by
      simp only [forL_cons, bName_ev, List.set_cons_zero, List.set_cons_succ, e2', e3', e4', e5', forL_nil]
    have tl : tupleG S5 [.obj f] = some (dR ⟨a, w0, w1, w2, w3⟩) := rows_tup (x := .obj f) (by unfold rowsOf; simp only [f3]; rfl)
    rw [← hfd]
    simp only [of_ok]
    rw [lp]
    simp only [seq_nx', sRet_ev, mN_ev, aCons_ev, aNil_ev, mVar_z, mVar_s, bind_ok, tl, ofO_some, of_ok, fin_rt]
  · refine (goodRow_iff _).mpr ⟨ha, ?_, ?_, ?_, ?_⟩
    · rcases mm0 with m | ⟨_, rfl⟩
      · exact .inl m
      · exact .inr rfl
    · rcases mm1 with m | ⟨_, rfl⟩
      · exact .inl m
      · exact .inr rfl
    · rcases mm2 with m | ⟨z, _⟩
      · exact m
      · omega
    · rcases mm3 with m | ⟨z, _⟩
      · exact m
      · omega
  · rw [l3, l2, l1, l0, List.length_append, hl1]; omega
  · have hif : i ≠ f := by rw [hfd, hl1]; omega
    rw [g3 i hi hif, g2 i hi hif, g1 i hi hif, g0 i hi hif, List.getElem?_append_left (by rw [hl1]; exact hl)]
    exact hg1.eq i hi hl
end K05
/-! the plain law of k05: rows drawn -/
namespace K05
open PySem L2 DL
theorem lcL_draw {c : Nat} {i : Nat} : ∀ (ds : List D) (ρ : DL.Env) (acc : List D) (S : Sto) (n : Nat), (∀ d, (ρ.set i (some d))[0]? = some (some (.obj c))) → Ck S c n → n + 10 * ds.length + 20 < 10 ^ 8 → acc.length + ds.length ≤ lim →
    ∃ (rs : List Row) (S' : Sto), lcL (bName i) mYes (mCall F__law_any_row (aCons (mVar 0) aNil)) ρ ds acc S = .ok (acc ++ rs.map dR) S' ∧ rs.length = ds.length ∧ (∀ r ∈ rs, goodRow r) ∧ Ck S' c (n + 10 * ds.length) ∧ Gr c S S'
  | [], ρ, acc, S, n, _, h, _, _ => ⟨[], S, by simp [lcL], rfl, fun r hr => (by cases hr), h, .refl⟩
  | d :: ds, ρ, acc, S, n, h0, h, hn, hl => by
    rw [List.length_cons] at hn hl
    obtain ⟨r, S1, e1, g1, k1, gr1⟩ := any_row h (by omega)
    obtain ⟨rs, S2, e2, l2, g2, k2, gr2⟩ := lcL_draw ds ρ (acc ++ [dR r]) S1 (n + 10) h0 k1 (by omega) (by rw [List.length_append, List.length_singleton]; omega)
    refine ⟨r :: rs, S2, ?_, by rw [List.length_cons, List.length_cons, l2], fun x hx => ?_, k2.mono (by rw [List.length_cons]; omega), gr1.trans gr2⟩
    · have hlt : acc.length < lim := by omega
      have hm : (mCall F__law_any_row (aCons (mVar 0) aNil)) (ρ.set i (some d)) S = .ok (dR r) S1 := by
        have : mVar 0 (ρ.set i (some d)) S = .ok (.obj c) S := by unfold mVar; rw [h0 d]
        simp only [mCall_ev, aCons_ev, aNil_ev, this, bind_ok, e1]
      simp only [lcL, bName_ev, mYes_ev, bindN_ok, if_true, hm, if_pos hlt, e2]
      simp
    · rcases List.mem_cons.mp hx with rfl | hx
      · exact g1
      · exact g2 x hx
theorem rng_le {c n : Nat} {S S1 : Sto} {ρ : DL.Env} {m : ME} {d : Nat} (h : m ρ S = .ok (.int d) S1) (hd : d ≤ 1000) : iRange1 m ρ S = .ok (rangeD 0 d) S1 := rng_ok h (Nat.le_trans hd (by decide))
/-- a text out of a written list is drawn -/
theorem pick_ok {S : Sto} {c n : Nat} {ρ : DL.Env} {ms : ME} {ws : List Str} {sp : Int} (h : Ck S c n) (hn : n < 10 ^ 8) (h0 : ρ[0]? = some (some (.obj c))) (hm : ms ρ S = .ok (.lst (ws.map D.str)) S) (hs : sp = ws.length) (hw : 0 < ws.length) (hw2 : ws.length < 100) :
    ∃ w S', m2 ixO ms (mCall F__law_tap (aCons (mVar 0) (aCons (mC (.int sp)) aNil))) ρ S = .ok (.str w) S' ∧ w ∈ ws ∧ Ck S' c (n + 1) ∧ S'.length = S.length ∧ Gr c S S' := by
  obtain ⟨d, S1, e1, hd, h1, hl, hg⟩ := tap (span := ws.length) h hn hw (by omega)
  obtain ⟨x, hx, ex, _, _⟩ := ix_nat (S := S1) (xs := ws.map D.str) (n := d) (by rw [List.length_map]; exact hd)
  obtain ⟨w, hw', rfl⟩ := List.mem_map.mp hx
  refine ⟨w, S1, ?_, hw', h1, hl, hg⟩
  have hv : mVar 0 ρ S = .ok (.obj c) S := by unfold mVar; rw [h0]
  subst hs
  simp only [m2_ev, hm, bind_ok, mCall_ev, aCons_ev, aNil_ev, hv, mC_ev, e1, ex, ofO_some]
def mkR (a b c d e : Str) : Row := ⟨a, b, c, d, e⟩
theorem addL {S : Sto} {xs ys : List D} (h : xs.length + ys.length ≤ 1000) : addO S (.lst xs) (.lst ys) = some (.lst (xs ++ ys)) := by
  rw [add_ll, if_pos (Nat.le_trans h (by decide))]
theorem dR_lit {a b c d e : Str} : D.tup [.str a, .str b, .str c, .str d, .str e] = dR (mkR a b c d e) := rfl
def rowW (w : Str) : Row := mkR "write" "any" "any" w "raise"
/-- the tail of the good rows -/
def tailR (w1 w2 w3 w4 : Str) : List Row := [mkR "write" "any" "behind" "wait" "nothing", mkR "write" "any" "lost" "tell" "nothing", mkR "write" "any" "any" w1 "raise", mkR "read" "any" "behind" w2 "nothing", mkR "read" "any" "lost" "tell" "nothing", mkR "read" "any" "any" w3 "raise seen", mkR "hand" "any" "any" w4 "nothing"]
theorem tail_good {w1 w2 w3 w4 : Str} (h1 : w1 ∈ (["take", "sure"] : List Str)) (h2 : w2 ∈ (["wait", "ask"] : List Str)) (h3 : w3 ∈ (["answer", "safe"] : List Str)) (h4 : w4 ∈ (["join", "put", "drop"] : List Str)) : ∀ r ∈ tailR w1 w2 w3 w4, goodRow r := by
  have z : (["take", "sure"] : List Str).all (fun w1 => (["wait", "ask"] : List Str).all fun w2 => (["answer", "safe"] : List Str).all fun w3 => (["join", "put", "drop"] : List Str).all fun w4 => (tailR w1 w2 w3 w4).all fun r => validRow (dR r)) = true := by decide +kernel
  intro r hr
  exact List.all_eq_true.mp (List.all_eq_true.mp (List.all_eq_true.mp (List.all_eq_true.mp (List.all_eq_true.mp z _ h1) _ h2) _ h3) _ h4) r hr
theorem good_rows {S : Sto} {c n : Nat} (h : Ck S c n) (hn : n + 200 < 10 ^ 8) : ∃ (rs : List Row) (S' : Sto), F__law_good_rows [.obj c] S = .ok (.lst (rs.map dR)) S' ∧ rs.length ≤ 40 ∧ (∀ r ∈ rs, goodRow r) ∧ Ck S' c (n + 100) ∧ Gr c S S' := by
  obtain ⟨d, S0, e0, hd, k0, l0, g0⟩ := tap (span := 4) h (by omega) (by decide) (by decide)
  have e0' : F__law_tap [.obj c, .int 4] S = .ok (.int d) S0 := e0
  obtain ⟨rs, S1, e1, l1, q1, k1, g1⟩ := lcL_draw (i := 2) (rangeD 0 d) [some (.obj c), none, none] [] S0 (n + 1) (fun _ => rfl) k0 (by rw [rangeD_length]; omega) (by rw [rangeD_length]; exact Nat.le_trans (show 0 + d ≤ 1000 by omega) (by decide))
  rw [rangeD_length] at l1 k1
  rw [List.nil_append] at e1
  have hr : iRange1 (mCall F__law_tap (aCons (mVar 0) (aCons (mC (.int 4)) aNil))) [some (.obj c), none, none] S = .ok (rangeD 0 d) S0 := rng_le (c := c) (n := n) (by simp only [mCall_ev, aCons_ev, aNil_ev, mVar_z, mC_ev, bind_ok, e0']) (by omega)
  obtain ⟨f, hf⟩ : ∃ f, f = S1.length := ⟨_, rfl⟩
  have hcf : f ≠ c := by have := k1.lt; omega
  let L0 := rs.map dR
  let L2 := (rs.map dR ++ [dR (mkR "write" "any" "behind" "wait" "nothing")]) ++ [dR (mkR "write" "any" "lost" "tell" "nothing")]
  let S2 : Sto := S1 ++ [.lst L2]
  have k2 : Ck S2 c (n + 1 + 10 * d) := k1.app
  have hL2 : L2.length = rs.length + 2 := by simp [L2]
  have hS2 : S2[f]? = some (.lst L2) := by rw [hf]; exact get_last
  obtain ⟨w1, T1, x1, m1, c1, t1, G1⟩ := pick_ok (ρ := [some (.obj c), some (.obj f), none]) (ms := mLst (aCons (mC (.str "take")) (aCons (mC (.str "sure")) aNil))) (ws := ["take", "sure"]) (sp := 2) k2 (by omega) rfl rfl rfl (by decide) (by decide)
  have hT1 := G1.at_ hcf hS2
  let L3 := L2 ++ [dR (mkR "write" "any" "any" w1 "raise")]
  obtain ⟨w2, T2, x2, m2', c2, t2, G2⟩ := pick_ok (ρ := [some (.obj c), some (.lst L3), none]) (ms := mLst (aCons (mC (.str "wait")) (aCons (mC (.str "ask")) aNil))) (ws := ["wait", "ask"]) (sp := 2) c1 (by omega) rfl rfl rfl (by decide) (by decide)
  let L5 := (L3 ++ [dR (mkR "read" "any" "behind" w2 "nothing")]) ++ [dR (mkR "read" "any" "lost" "tell" "nothing")]
  obtain ⟨w3, T3, x3, m3, c3, t3, G3⟩ := pick_ok (ρ := [some (.obj c), some (.lst L5), none]) (ms := mLst (aCons (mC (.str "answer")) (aCons (mC (.str "safe")) aNil))) (ws := ["answer", "safe"]) (sp := 2) c2 (by omega) rfl rfl rfl (by decide) (by decide)
  let L6 := L5 ++ [dR (mkR "read" "any" "any" w3 "raise seen")]
  obtain ⟨w4, T4, x4, m4, c4, t4, G4⟩ := pick_ok (ρ := [some (.obj c), some (.lst L6), none]) (ms := mLst (aCons (mC (.str "join")) (aCons (mC (.str "put")) (aCons (mC (.str "drop")) aNil)))) (ws := ["join", "put", "drop"]) (sp := 3) c3 (by omega) rfl rfl rfl (by decide) (by decide)
  have hd3 : rs.length ≤ 3 := by rw [l1]; omega
  refine ⟨rs ++ tailR w1 w2 w3 w4, T4, ?_, by rw [List.length_append]; show rs.length + 7 ≤ 40; omega, fun r hr => ?_, c4.mono (by omega), ?_⟩
  rotate_left
  · rcases List.mem_append.mp hr with hr | hr
    · exact q1 r hr
    · exact tail_good m1 m2' m3 m4 r hr
  · exact ((g0.trans g1).trans ((Gr.app (c := c) (S := S1) (l := [.lst L2])).trans G1)).trans (G2.trans (G3.trans G4))
  rw [ev__law_good_rows]
  unfold m__law_good_rows
  rw [sSeq_ev, sSet_ev, mLcO_ev, hr, bind_ok]
  simp only [wipe_cons, wipe_nil, List.set_cons_zero, List.set_cons_succ, e1, bind_ok, of_ok, seq_nx']
  rw [← hf]
  have a1 : sApp (mVar 1) (mTup (aCons (mC (.str "write")) (aCons (mC (.str "any")) (aCons (mC (.str "behind")) (aCons (mC (.str "wait")) (aCons (mC (.str "nothing")) aNil)))))) [some (.obj c), some (.obj f), none] (S1 ++ [.lst (rs.map dR)]) = .nx [some (.obj c), some (.obj f), none] (S1 ++ [.lst (rs.map dR ++ [dR (mkR "write" "any" "behind" "wait" "nothing")])]) := by
    have := sApp_ok (mo := mVar 1) (m := mTup (aCons (mC (.str "write")) (aCons (mC (.str "any")) (aCons (mC (.str "behind")) (aCons (mC (.str "wait")) (aCons (mC (.str "nothing")) aNil)))))) (ρ := [some (.obj c), some (.obj f), none]) (S := S1 ++ [.lst (rs.map dR)]) (S1 := S1 ++ [.lst (rs.map dR)]) (S2 := S1 ++ [.lst (rs.map dR)]) (n := f) (d := dR (mkR "write" "any" "behind" "wait" "nothing")) (zs := rs.map dR) (xs := rs.map dR) rfl (by rw [hf]; exact get_last) rfl (by rw [hf]; exact get_last) (by rw [List.length_map]; exact Nat.lt_of_le_of_lt hd3 (by decide))
    rw [this, hf, set_last]
  have a2 : sApp (mVar 1) (mTup (aCons (mC (.str "write")) (aCons (mC (.str "any")) (aCons (mC (.str "lost")) (aCons (mC (.str "tell")) (aCons (mC (.str "nothing")) aNil)))))) [some (.obj c), some (.obj f), none] (S1 ++ [.lst (rs.map dR ++ [dR (mkR "write" "any" "behind" "wait" "nothing")])]) = .nx [some (.obj c), some (.obj f), none] S2 := by
    have := sApp_ok (mo := mVar 1) (m := mTup (aCons (mC (.str "write")) (aCons (mC (.str "any")) (aCons (mC (.str "lost")) (aCons (mC (.str "tell")) (aCons (mC (.str "nothing")) aNil)))))) (ρ := [some (.obj c), some (.obj f), none]) (S := S1 ++ [.lst (rs.map dR ++ [dR (mkR "write" "any" "behind" "wait" "nothing")])]) (S1 := S1 ++ [.lst (rs.map dR ++ [dR (mkR "write" "any" "behind" "wait" "nothing")])]) (S2 := S1 ++ [.lst (rs.map dR ++ [dR (mkR "write" "any" "behind" "wait" "nothing")])]) (n := f) (d := dR (mkR "write" "any" "lost" "tell" "nothing")) (zs := rs.map dR ++ [dR (mkR "write" "any" "behind" "wait" "nothing")]) (xs := rs.map dR ++ [dR (mkR "write" "any" "behind" "wait" "nothing")]) rfl (by rw [hf]; exact get_last) rfl (by rw [hf]; exact get_last) (by rw [List.length_append, List.length_map]; exact Nat.lt_of_le_of_lt (Nat.add_le_add_right hd3 1) (by decide : 3 + 1 < lim))
    rw [this, hf, set_last]
  rw [sSeq_ev, a1, seq_nx', sSeq_ev, a2, seq_nx']
  have o1 : addO T1 (.obj f) (.lst [dR (mkR "write" "any" "any" w1 "raise")]) = some (.lst L3) := by
    show (match T1[f]? with | some (.lst xs) => if xs.length + [dR (mkR "write" "any" "any" w1 "raise")].length ≤ lim then some (D.lst (xs ++ [dR (mkR "write" "any" "any" w1 "raise")])) else none | _ => none) = _
    rw [hT1]
    show (if L2.length + 1 ≤ lim then some (D.lst L3) else none) = _
    rw [if_pos (by rw [hL2]; exact Nat.le_trans (show rs.length + 2 + 1 ≤ 10 by omega) (by decide))]
  have hL3 : L3.length = rs.length + 3 := by simp [L3, hL2]
  have hL5 : L5.length = rs.length + 5 := by simp [L5, hL3]
  have hL6 : L6.length = rs.length + 6 := by simp [L6, hL5]
  have o2 : addO T2 (.lst L3) (.lst [dR (mkR "read" "any" "behind" w2 "nothing")]) = some (.lst (L3 ++ [dR (mkR "read" "any" "behind" w2 "nothing")])) := addL (by rw [hL3, List.length_singleton]; omega)
  have o3 : addO T2 (.lst (L3 ++ [dR (mkR "read" "any" "behind" w2 "nothing")])) (.lst [dR (mkR "read" "any" "lost" "tell" "nothing")]) = some (.lst L5) := addL (by rw [List.length_append, hL3, List.length_singleton, List.length_singleton]; omega)
  have o4 : addO T3 (.lst L5) (.lst [dR (mkR "read" "any" "any" w3 "raise seen")]) = some (.lst L6) := addL (by rw [hL5, List.length_singleton]; omega)
  have o5 : addO T4 (.lst L6) (.lst [dR (mkR "hand" "any" "any" w4 "nothing")]) = some (.lst (L6 ++ [dR (mkR "hand" "any" "any" w4 "nothing")])) := addL (by rw [hL6, List.length_singleton]; omega)
  have dl := @dR_lit
  rw [sSeq_ev, sSet_ev, m2_ev, mVar_s, mVar_z, bind_ok, mLst_ev, aCons_ev, mTup_ev]
  simp only [aCons_ev, mC_ev, bind_ok, x1, aNil_ev, List.length_cons, List.length_nil, Nat.zero_add, Nat.reduceAdd, lim_5, lim_1, if_true, dl, o1, ofO_some, of_ok, seq_nx', List.set_cons_zero, List.set_cons_succ]
  rw [sSeq_ev, sSet_ev, m2_ev, mVar_s, mVar_z, bind_ok, mLst_ev, aCons_ev, mTup_ev]
  simp only [aCons_ev, mC_ev, bind_ok, x2, aNil_ev, List.length_cons, List.length_nil, Nat.zero_add, Nat.reduceAdd, lim_5, lim_1, if_true, dl, o2, ofO_some, of_ok, seq_nx', List.set_cons_zero, List.set_cons_succ]
  rw [sSeq_ev, sSet_ev, m2_ev, mVar_s, mVar_z, bind_ok, mLst_ev, aCons_ev, mTup_ev]
  simp only [aCons_ev, mC_ev, bind_ok, aNil_ev, List.length_cons, List.length_nil, Nat.zero_add, Nat.reduceAdd, lim_5, lim_1, if_true, dl, o3, ofO_some, of_ok, seq_nx', List.set_cons_zero, List.set_cons_succ]
  rw [sSeq_ev, sSet_ev, m2_ev, mVar_s, mVar_z, bind_ok, mLst_ev, aCons_ev, mTup_ev]
  simp only [aCons_ev, mC_ev, bind_ok, x3, aNil_ev, List.length_cons, List.length_nil, Nat.zero_add, Nat.reduceAdd, lim_5, lim_1, if_true, dl, o4, ofO_some, of_ok, seq_nx', List.set_cons_zero, List.set_cons_succ]
  rw [sRet_ev, m2_ev, mVar_s, mVar_z, bind_ok, mLst_ev, aCons_ev, mTup_ev]
  simp only [aCons_ev, mC_ev, bind_ok, x4, aNil_ev, List.length_cons, List.length_nil, Nat.zero_add, Nat.reduceAdd, lim_5, lim_1, if_true, dl, o5, ofO_some, of_ok, fin_rt]
  simp [L6, L5, L3, L2, tailR, List.map_append]
end K05
/-! the plain law of k05: rows bent -/
namespace K05
open PySem L2 DL
theorem mVar_at {ρ : DL.Env} {i : Nat} {d : D} (h : ρ[i]? = some (some d)) (S : Sto) : mVar i ρ S = .ok d S := by unfold mVar; rw [h]
/-- an item of a sequence in hand is drawn -/
theorem pickV {S : Sto} {c n i : Nat} {ρ : DL.Env} {v : D} {xs : List D} (h : Ck S c n) (hn : n < 10 ^ 8) (h0 : ρ[0]? = some (some (.obj c))) (hi : ρ[i]? = some (some v)) (hv : v = .lst xs ∨ v = .tup xs) (hw : 0 < xs.length) (hw2 : xs.length < 1000) :
    ∃ x S', m2 ixO (mVar i) (mCall F__law_tap (aCons (mVar 0) (aCons (mN lenG (aCons (mVar i) aNil)) aNil))) ρ S = .ok x S' ∧ x ∈ xs ∧ Ck S' c (n + 1) ∧ S'.length = S.length ∧ Gr c S S' := by
  obtain ⟨d, S1, e1, hd, h1, hl, hg⟩ := tap (span := xs.length) h hn hw (by omega)
  obtain ⟨x, hx, ex, ex2, _⟩ := ix_nat (S := S1) (xs := xs) (n := d) hd
  refine ⟨x, S1, ?_, hx, h1, hl, hg⟩
  have hv0 := mVar_at h0
  have hvi := mVar_at hi
  rcases hv with rfl | rfl
  · simp only [m2_ev, hvi, bind_ok, mCall_ev, aCons_ev, aNil_ev, hv0, mN_ev, len_lst, ofO_some, e1, ex]
  · simp only [m2_ev, hvi, bind_ok, mCall_ev, aCons_ev, aNil_ev, hv0, mN_ev, len_tup, ofO_some, e1, ex2]
theorem pickL {S : Sto} {c n : Nat} {ρ : DL.Env} {ms : ME} {xs : List D} {sp : Int} (h : Ck S c n) (hn : n < 10 ^ 8) (h0 : ρ[0]? = some (some (.obj c))) (hm : ms ρ S = .ok (.lst xs) S) (hs : sp = xs.length) (hw : 0 < xs.length) (hw2 : xs.length < 100) :
    ∃ x S', m2 ixO ms (mCall F__law_tap (aCons (mVar 0) (aCons (mC (.int sp)) aNil))) ρ S = .ok x S' ∧ x ∈ xs ∧ Ck S' c (n + 1) ∧ S'.length = S.length ∧ Gr c S S' := by
  obtain ⟨d, S1, e1, hd, h1, hl, hg⟩ := tap (span := xs.length) h hn hw (by omega)
  obtain ⟨x, hx, ex, _, _⟩ := ix_nat (S := S1) (xs := xs) (n := d) hd
  refine ⟨x, S1, ?_, hx, h1, hl, hg⟩
  subst hs
  simp only [m2_ev, hm, bind_ok, mCall_ev, aCons_ev, aNil_ev, mVar_at h0, mC_ev, e1, ex, ofO_some]
def BR (y : D) : Prop := okRow y = true ∧ pl y = true ∧ ∀ xs, y = .tup xs → xs.length ≤ 20
theorem BR_dR (r : Row) : BR (dR r) := ⟨rfl, rfl, fun xs e => by cases e; exact (by decide : 5 ≤ 20)⟩
theorem mem_cut {x : D} {xs : List D} {lo hi : Option Int} (h : x ∈ cutD xs lo hi) : x ∈ xs := List.mem_of_mem_drop (List.mem_of_mem_take h)
theorem len_cut (xs : List D) (lo hi : Option Int) : (cutD xs lo hi).length ≤ xs.length := by
  unfold cutD
  rw [List.length_take, List.length_drop]
  omega
def odds : List D := [.str "", .str "Any", .str "none", .str "held ", .int 1, .lst [.str "any"], .tup [.str "any"], .str "any", .str "raise", .str "join"]
theorem odds_ok : ∀ x ∈ odds, okE x = true := by
  have z : odds.all okE = true := by decide +kernel
  exact fun x hx => List.all_eq_true.mp z x hx
def some1 : List D := [.tup [.str "read", .str "any", .str "any", .str "answer"], .lst [.str "read", .str "any", .str "any", .str "answer", .str "nothing"], .str "row", .non, .tup [],
  .tup [.str "hand", .str "leads", .str "none", .str "join", .str "nothing"], .tup [.str "write", .str "follows", .str "any", .str "take", .str "raise"]]
def brB (y : D) : Bool := okRow y && pl y && (match y with | .tup xs => decide (xs.length ≤ 20) | _ => true)
theorem BR_of {y : D} (h : brB y = true) : BR y := by
  simp only [brB, Bool.and_eq_true] at h
  refine ⟨h.1.1, h.1.2, fun xs e => ?_⟩
  subst e
  simpa using h.2
theorem some1_ok : ∀ x ∈ some1, BR x := by
  have z : some1.all brB = true := by decide +kernel
  exact fun x hx => BR_of (List.all_eq_true.mp z x hx)
theorem BR_tup {xs : List D} (h : ∀ x ∈ xs, okE x = true) (hl : xs.length ≤ 20) : BR (.tup xs) := by
  refine ⟨List.all_eq_true.mpr h, ?_, fun ys e => by cases e; exact hl⟩
  exact pl_all xs (List.all_eq_true.mpr fun x hx => by
    have := h x hx
    simp only [okE, Bool.and_eq_true] at this
    exact this.2.1)
theorem bent_rows {S : Sto} {c n : Nat} {ys : List D} (h : Ck S c n) (hn : n + 20 < 10 ^ 8) (hy : ∀ y ∈ ys, BR y) (hl : ys.length ≤ 60) :
    ∃ (ys' : List D) (S' : Sto), F__law_bent_rows [.obj c, .lst ys] S = .ok (.lst ys') S' ∧ (∀ y ∈ ys', BR y) ∧ ys'.length ≤ ys.length + 1 ∧ Ck S' c (n + 10) ∧ Gr c S S' := by
  obtain ⟨k, S1, e1, hk, k1, l1, g1⟩ := tap (span := ys.length + 1) h (by omega) (by omega) (by omega)
  have e1' : F__law_tap [.obj c, .int ((ys.length : Int) + 1)] S = .ok (.int k) S1 := e1
  -- the end, whatever is put in
  have fin : ∀ (sm : List D) (S2 : Sto) (m : Nat) (a3 a5 a6 a7 : Option D), Ck S2 c m → m ≤ n + 9 → Gr c S S2 → (∀ x ∈ sm, BR x) → 0 < sm.length → sm.length < 1000 →
      ∃ (ys' : List D) (S' : Sto), ((sRet (m2 addO (m2 addO (mSl (mVar 1) oNone (oSome (mVar 2))) (mLst (aCons (m2 ixO (mVar 4) (mCall F__law_tap (aCons (mVar 0) (aCons (mN lenG (aCons (mVar 4) aNil)) aNil)))) aNil))) (mSl (mVar 1) (oSome (mVar 2)) oNone))) [some (.obj c), some (.lst ys), some (.int k), a3, some (.lst sm), a5, a6, a7] S2).fin = .ok (.lst ys') S' ∧ (∀ y ∈ ys', BR y) ∧ ys'.length ≤ ys.length + 1 ∧ Ck S' c (n + 10) ∧ Gr c S S' := fun sm S2 m a3 a5 a6 a7 hc hm hg hsm h0 h1 => by
    obtain ⟨x, S3, e3, hx, k3, _, g3⟩ := pickV (ρ := [some (.obj c), some (.lst ys), some (.int k), a3, some (.lst sm), a5, a6, a7]) (i := 4) hc (by omega) rfl rfl (.inl rfl) h0 h1
    have s1 : mSl (mVar 1) oNone (oSome (mVar 2)) [some (.obj c), some (.lst ys), some (.int k), a3, some (.lst sm), a5, a6, a7] S2 = .ok (.lst (cutD ys none (some k))) S2 := rfl
    have s2 : mSl (mVar 1) (oSome (mVar 2)) oNone [some (.obj c), some (.lst ys), some (.int k), a3, some (.lst sm), a5, a6, a7] S3 = .ok (.lst (cutD ys (some k) none)) S3 := rfl
    have c1 := len_cut ys none (some (k : Int))
    have c2 := len_cut ys (some (k : Int)) none
    have c3 : (cutD ys none (some (k : Int)) ++ [x] ++ cutD ys (some (k : Int)) none).length ≤ ys.length + 1 := by
      simp only [List.length_append, List.length_singleton]
      unfold cutD
      simp only [List.length_take, List.length_drop]
      have i1 : HT.sIx ys.length 0 none = 0 := rfl
      have i2 : HT.sIx ys.length ys.length none = ys.length := rfl
      have i3 : HT.sIx ys.length ys.length (some (k : Int)) = HT.sIx ys.length 0 (some (k : Int)) := rfl
      rw [i1, i2, i3]
      have : HT.sIx ys.length 0 (some (k : Int)) ≤ ys.length := by
        show HT.sIx ys.length 0 (some (k : Int)) ≤ ys.length
        unfold HT.sIx
        simp
        split <;> omega
      omega
    refine ⟨cutD ys none (some k) ++ [x] ++ cutD ys (some k) none, S3, ?_, fun y hy' => ?_, c3, k3.mono (by omega), hg.trans g3⟩
    · rw [sRet_ev, m2_ev, m2_ev, s1, bind_ok, mLst_ev, aCons_ev, e3]
      simp only [bind_ok, aNil_ev, List.length_cons, List.length_nil, Nat.zero_add, lim_1, if_true]
      rw [addL (by rw [List.length_singleton]; omega), ofO_some, bind_ok, s2, bind_ok, addL (by rw [List.length_append, List.length_singleton]; omega), ofO_some]
      rfl
    · rcases List.mem_append.mp hy' with hy' | hy'
      · rcases List.mem_append.mp hy' with hy' | hy'
        · exact hy y (mem_cut hy')
        · rw [List.mem_singleton.mp hy']; exact hsm x hx
      · exact hy y (mem_cut hy')
  rw [ev__law_bent_rows]
  unfold m__law_bent_rows
  rw [sSeq_ev, sSet_ev]
  simp only [mCall_ev, aCons_ev, aNil_ev, mVar_z, mVar_s, m2_ev, mN_ev, mC_ev, bind_ok, len_lst, ofO_some, add_ii, e1', of_ok, seq_nx', List.set_cons_zero, List.set_cons_succ]
  rw [sSeq_ev, sSet_ev, show ∀ (ρ : DL.Env) (S : Sto), mLst (aCons (mC (.str "")) (aCons (mC (.str "Any")) (aCons (mC (.str "none")) (aCons (mC (.str "held ")) (aCons (mC (.int 1)) (aCons (mLst (aCons (mC (.str "any")) aNil)) (aCons (mTup (aCons (mC (.str "any")) aNil)) (aCons (mC (.str "any")) (aCons (mC (.str "raise")) (aCons (mC (.str "join")) aNil)))))))))) ρ S = .ok (.lst odds) S from fun _ _ => rfl]
  simp only [of_ok, seq_nx', List.set_cons_zero, List.set_cons_succ]
  have hs1 : ∀ (ρ : DL.Env) (S : Sto), sSeq (sSet 4 (mLst (aCons (mTup (aCons (mC (.str "read")) (aCons (mC (.str "any")) (aCons (mC (.str "any")) (aCons (mC (.str "answer")) aNil))))) (aCons (mLst (aCons (mC (.str "read")) (aCons (mC (.str "any")) (aCons (mC (.str "any")) (aCons (mC (.str "answer")) (aCons (mC (.str "nothing")) aNil)))))) (aCons (mC (.str "row")) (aCons (mC .non) (aCons (mTup aNil) aNil)))))))
      (sSet 4 (m2 addO (mVar 4) (mLst (aCons (mTup (aCons (mC (.str "hand")) (aCons (mC (.str "leads")) (aCons (mC (.str "none")) (aCons (mC (.str "join")) (aCons (mC (.str "nothing")) aNil)))))) (aCons (mTup (aCons (mC (.str "write")) (aCons (mC (.str "follows")) (aCons (mC (.str "any")) (aCons (mC (.str "take")) (aCons (mC (.str "raise")) aNil)))))) aNil))))) [some (.obj c), some (.lst ys), some (.int k), some (.lst odds), none, none, none, none] S = .nx [some (.obj c), some (.lst ys), some (.int k), some (.lst odds), some (.lst some1), none, none, none] S := fun _ _ => rfl
  have assoc : ∀ (a b r : MS) (ρ : DL.Env) (S : Sto), sSeq a (sSeq b r) ρ S = sSeq (sSeq a b) r ρ S := fun a b r ρ S => by
    show (a ρ S).seq _ = ((a ρ S).seq b).seq r
    cases a ρ S <;> rfl
  rw [assoc, sSeq_ev, hs1 [] S1, seq_nx', sSeq_ev, sIf_ev]
  have hpl : pl (.lst ys) = true := pl_all ys (List.all_eq_true.mpr fun y hy' => (hy y hy').2.1)
  have hne : mTst (m2 neO (mVar 1) (mLst aNil)) [some (.obj c), some (.lst ys), some (.int k), some (.lst odds), some (.lst some1), none, none, none] S1 = .ok (!ys.isEmpty) S1 := by
    simp only [mTst_ev, m2_ev, mVar_z, mVar_s, bind_ok, mLst_ev, aNil_ev, List.length_nil, lim_0, if_true, ne_nil hpl, ofO_some]
  rw [hne, of_ok]
  cases hE : ys with
  | nil =>
    rw [← hE]
    have : (!ys.isEmpty) = false := by rw [hE]; rfl
    rw [this, selT_f, sNil_ev, seq_nx']
    exact fin some1 S1 (n + 1) _ _ _ _ k1 (by omega) g1 some1_ok (by decide) (by decide)
  | cons y0 ys0 =>
    rw [← hE]
    have hpos : 0 < ys.length := by rw [hE, List.length_cons]; omega
    have : (!ys.isEmpty) = true := by rw [hE]; rfl
    rw [this, selT_t]
    obtain ⟨row, S2, e2, hrow, k2, l2, g2⟩ := pickV (ρ := [some (.obj c), some (.lst ys), some (.int k), some (.lst odds), some (.lst some1), none, none, none]) (i := 1) k1 (by omega) rfl rfl (.inl rfl) hpos (by omega)
    have hbr := hy row hrow
    -- a row of five
    obtain ⟨rw5, hr5, hlen5, hok5⟩ : ∃ rw5 : List D, mIf (tAnd' (mTru (mN (isiI CS) (aCons (mVar 5) (aCons (mC (.ty "tuple")) aNil)))) (mTst (m2 eqO (mN lenG (aCons (mVar 5) aNil)) (mC (.int 5))))) (mVar 5) (mTup (aCons (mC (.str "read")) (aCons (mC (.str "any")) (aCons (mC (.str "any")) (aCons (mC (.str "wait")) (aCons (mC (.str "nothing")) aNil)))))) [some (.obj c), some (.lst ys), some (.int k), some (.lst odds), some (.lst some1), some row, none, none] S2 = .ok (.tup rw5) S2 ∧ rw5.length = 5 ∧ ∀ x ∈ rw5, okE x = true := by
      have dflt : ∀ x ∈ ([.str "read", .str "any", .str "any", .str "wait", .str "nothing"] : List D), okE x = true := fun x hx => List.all_eq_true.mp (by decide +kernel : ([.str "read", .str "any", .str "any", .str "wait", .str "nothing"] : List D).all okE = true) x hx
      cases row with
      | tup xs =>
        by_cases h5 : xs.length = 5
        · refine ⟨xs, ?_, h5, fun x hx => List.all_eq_true.mp hbr.1 x hx⟩
          have : decide ((xs.length : Int) = 5) = true := decide_eq_true (by omega)
          simp [this]
        · refine ⟨_, ?_, rfl, dflt⟩
          have : decide ((xs.length : Int) = 5) = false := decide_eq_false (by omega)
          simp [this]
      | dct kk => cases kk with
        | nil => exact ⟨_, by simp, rfl, dflt⟩
        | cons _ _ => cases hbr.1
      | str s => exact ⟨_, by simp, rfl, dflt⟩
      | non => exact ⟨_, by simp, rfl, dflt⟩
      | bl b => exact ⟨_, by simp, rfl, dflt⟩
      | int b => exact ⟨_, by simp, rfl, dflt⟩
      | lst b => exact ⟨_, by simp, rfl, dflt⟩
      | _ => cases hbr.1
    obtain ⟨j, S3, e3, hj, k3, l3, g3⟩ := tap (span := 5) k2 (by omega) (by decide) (by decide)
    have e3' : F__law_tap [.obj c, .int 5] S2 = .ok (.int j) S3 := e3
    obtain ⟨od, S4, e4, hod, k4, l4, g4⟩ := pickL (ρ := [some (.obj c), some (.lst ys), some (.int k), some (.lst odds), some (.lst some1), some (.tup rw5), some (.int j), none]) (ms := mVar 3) (xs := odds) (sp := 10) k3 (by omega) rfl rfl rfl (by decide) (by decide)
    obtain ⟨bt, ebt⟩ : ∃ bt, bt = cutD rw5 none (some (j : Int)) ++ [od] ++ cutD rw5 (some ((j : Int) + 1)) none := ⟨_, rfl⟩
    have b1 := len_cut rw5 none (some (j : Int))
    have b2 := len_cut rw5 (some ((j : Int) + 1)) none
    have hbt : bt.length ≤ 11 := by
      rw [ebt, List.length_append, List.length_append, List.length_singleton]; omega
    have okbt : BR (.tup bt) := BR_tup (fun x hx => by
      rw [ebt] at hx
      rcases List.mem_append.mp hx with hx | hx
      · rcases List.mem_append.mp hx with hx | hx
        · exact hok5 x (mem_cut hx)
        · rw [List.mem_singleton.mp hx]; exact odds_ok od hod
      · exact hok5 x (mem_cut hx)) (by omega)
    have okex : BR (.tup (rw5 ++ [.str "nothing"])) := BR_tup (fun x hx => by
      rcases List.mem_append.mp hx with hx | hx
      · exact hok5 x hx
      · rw [List.mem_singleton.mp hx]; rfl) (by rw [List.length_append, List.length_singleton]; omega)
    have e5 : m2 addO (m2 addO (mSl (mVar 5) oNone (oSome (mVar 6))) (mTup (aCons (m2 ixO (mVar 3) (mCall F__law_tap (aCons (mVar 0) (aCons (mC (.int 10)) aNil)))) aNil))) (mSl (mVar 5) (oSome (m2 addO (mVar 6) (mC (.int 1)))) oNone) [some (.obj c), some (.lst ys), some (.int k), some (.lst odds), some (.lst some1), some (.tup rw5), some (.int j), none] S3 = .ok (.tup bt) S4 := by
      have s1 : mSl (mVar 5) oNone (oSome (mVar 6)) [some (.obj c), some (.lst ys), some (.int k), some (.lst odds), some (.lst some1), some (.tup rw5), some (.int j), none] S3 = .ok (.tup (cutD rw5 none (some j))) S3 := rfl
      have s2 : mSl (mVar 5) (oSome (m2 addO (mVar 6) (mC (.int 1)))) oNone [some (.obj c), some (.lst ys), some (.int k), some (.lst odds), some (.lst some1), some (.tup rw5), some (.int j), none] S4 = .ok (.tup (cutD rw5 (some ((j : Int) + 1)) none)) S4 := rfl
      rw [m2_ev, m2_ev, s1, bind_ok, mTup_ev, aCons_ev, e4]
      simp only [bind_ok, aNil_ev, List.length_cons, List.length_nil, Nat.zero_add, lim_1, if_true]
      rw [add_tt, if_pos (by rw [List.length_singleton]; exact Nat.le_trans (show _ ≤ 6 by omega) (by decide)), ofO_some, bind_ok, s2, bind_ok, add_tt, if_pos (by rw [List.length_append, List.length_singleton]; exact Nat.le_trans (show _ ≤ 11 by omega) (by decide)), ofO_some, ebt]
    have add5 : addO S4 (.tup rw5) (.tup [.str "nothing"]) = some (.tup (rw5 ++ [.str "nothing"])) := by
      rw [add_tt, if_pos (by rw [List.length_singleton, hlen5]; decide)]
    have s7 : some1.length = 7 := rfl
    rw [sSeq_ev, sSet_ev, e2]
    simp only [of_ok, seq_nx', List.set_cons_zero, List.set_cons_succ]
    rw [sSeq_ev, sSet_ev, hr5]
    simp only [of_ok, seq_nx', List.set_cons_zero, List.set_cons_succ]
    rw [sSeq_ev, sSet_ev]
    simp only [mCall_ev, aCons_ev, aNil_ev, mVar_z, mC_ev, bind_ok, e3', of_ok, seq_nx', List.set_cons_zero, List.set_cons_succ]
    rw [sSeq_ev, sSet_ev, e5]
    simp only [of_ok, seq_nx', List.set_cons_zero, List.set_cons_succ]
    rw [sSet_ev, m2_ev, mVar_s, mVar_s, mVar_s, mVar_s, mVar_z, bind_ok, mLst_ev]
    simp only [aCons_ev, mVar_z, mVar_s, bind_ok, m2_ev, mTup_ev, mC_ev, aNil_ev, List.length_cons, List.length_nil, Nat.zero_add, Nat.reduceAdd, lim_1, lim_4, if_true, add5, ofO_some]
    rw [addL (by rw [s7]; simp), ofO_some]
    simp only [of_ok, seq_nx', List.set_cons_zero, List.set_cons_succ]
    have h4 : ∀ x ∈ some1 ++ [D.tup bt, D.tup bt, D.tup bt, D.tup (rw5 ++ [D.str "nothing"])], BR x := fun x hx => by
      rcases List.mem_append.mp hx with hx | hx
      · exact some1_ok x hx
      · simp only [List.mem_cons, List.not_mem_nil, or_false] at hx
        rcases hx with rfl | rfl | rfl | rfl
        · exact okbt
        · exact okbt
        · exact okbt
        · exact okex
    have h5 : (some1 ++ [D.tup bt, D.tup bt, D.tup bt, D.tup (rw5 ++ [D.str "nothing"])]).length = 11 := by rw [List.length_append, s7]; rfl
    generalize some1 ++ [D.tup bt, D.tup bt, D.tup bt, D.tup (rw5 ++ [D.str "nothing"])] = sm at h4 h5 ⊢
    have key := fin sm S4 (n + 1 + 1 + 1 + 1) (some (.lst odds)) (some (.tup rw5)) (some (.int j)) (some (.tup bt)) k4 (by omega) (g1.trans (g2.trans (g3.trans g4))) h4 (by omega) (by omega)
    exact key
end K05
/-! the plain law of k05: what is said, with good and bad arguments -/
namespace K05
open PySem L2 DL
section
variable {S : Sto} {b : Nat} {m s x a e : D} {ys : List D} {rs : List Row} {k : Case}
theorem said3_ok (h : Bk S b m s rs) (hm : okV m = true) (hs : okV s = true) (hg : goodForm m s = true) (hr : ∀ r ∈ rs, goodRow r) (hk : k ∈ CASES) {a e : Str} (hp : goodPair k (a, e)) {w : Int} (hw : w = 3 ∨ w = 4) :
    F__law_said [.int w, .obj b, .tup [dC k, .str a, .str e]] S = .ok (.obj S.length) (S ++ [bk m s ((withRows rs k (a, e)).map dR)]) := said_of ((asked3 h hw).trans (with_case_ok h hm hs hg hr hk hp))
theorem said3_bad (h : Bk S b m s rs) (hk : k ∈ CASES) (ha : okV a = true) (he : okV e = true) (hb : (isW (actsL k.1) a && isW (keepsL k.1) e) = false) {w : Int} (hw : w = 3 ∨ w = 4) : F__law_said [.int w, .obj b, .tup [dC k, a, e]] S = .ok (.str "book") S :=
  said_exc ((asked3 h hw).trans (with_case_bad hk ha he hb)) (.inl ⟨rfl, rfl⟩)
theorem said3_inv (h : Bk S b m s rs) (hx : okCase x = true) (hv : validCase x = false) {w : Int} (hw : w = 3 ∨ w = 4) : F__law_said [.int w, .obj b, .tup [x, a, e]] S = .ok (.str "case") S :=
  said_exc ((asked3 h hw).trans (with_case_inv hx hv)) (.inr ⟨rfl, rfl⟩)
theorem said2_inv (h : Bk S b m s rs) (hx : okCase x = true) (hv : validCase x = false) : F__law_said [.int 2, .obj b, x] S = .ok (.str "case") S := said_exc (asked2_bad h hx hv) (.inr ⟨rfl, rfl⟩)
theorem said5_ok (h : Bk S b m s rs) (hr : ∀ r ∈ rs, goodRow r) (hl : rs.length ≤ 40) {m2 s2 : D} (hm : okV m2 = true) (hs : okV s2 = true) (hg : goodForm m2 s2 = true) {w : Int} (hw : w = 5 ∨ w = 6) :
    F__law_said [.int w, .obj b, .tup [m2, s2]] S = .ok (.obj S.length) (S ++ [bk m2 s2 (rs.map dR)]) := by
  refine said_of ((asked5 h hw).trans ?_)
  rw [in_form_eq h, init_good hm hs rfl (okRows rs) (by rw [List.length_map]; omega) hg (goodRows_of hr hl)]
  rfl
theorem said5_bad (h : Bk S b m s rs) {m2 s2 : D} (hl : rs.length ≤ 40) (hm : okV m2 = true) (hs : okV s2 = true) (hg : goodForm m2 s2 = false) {w : Int} (hw : w = 5 ∨ w = 6) :
    F__law_said [.int w, .obj b, .tup [m2, s2]] S = .ok (.str "book") (S ++ [.ins 4 []]) := by
  refine said_exc (e := ⟨2, []⟩) ((asked5 h hw).trans ?_) (.inl ⟨rfl, rfl⟩)
  rw [in_form_eq h, init_bad hm hs (.inl ⟨rs.map dR, rfl, okRows rs, by rw [List.length_map]; omega, by rw [hg]; rfl⟩)]
  rfl
end
/-! ### rows, one for each case -/
theorem fits_rowOf {k k' : Case} (hk : k ∈ CASES) (hk' : k' ∈ CASES) (p : Str × Str) : fits (rowOf k p) k' = decide (k = k') := by
  have z : CASES.all (fun k => CASES.all fun k' => fits (rowOf k ("", "")) k' == decide (k = k')) = true := by decide +kernel
  have := List.all_eq_true.mp (List.all_eq_true.mp z k hk) k' hk'
  exact beq_iff_eq.mp this
theorem told_table {f : Case → Str × Str} : ∀ (L : List Case) {k' : Case}, (∀ k ∈ L, k ∈ CASES) → k' ∈ L → told (L.map fun k => rowOf k (f k)) k' = f k'
  | [], _, _, h => by cases h
  | k :: L, k', hL, h => by
    have hk := hL k List.mem_cons_self
    have hk' := hL k' h
    unfold told
    rw [List.map_cons, List.find?_cons, fits_rowOf hk hk']
    by_cases q : k = k'
    · subst q
      simp [rowOf]
    · rw [decide_eq_false q]
      have ih := told_table L (fun x hx => hL x (List.mem_cons_of_mem _ hx)) ((List.mem_cons.mp h).resolve_left (Ne.symm q)) (f := f)
      unfold told at ih
      exact ih
theorem told_with {rs : List Row} {k k' : Case} {p : Str × Str} (hk' : k' ∈ CASES) : told (withRows rs k p) k' = if k' = k then p else told rs k' := told_table (f := fun k' => if k' = k then p else told rs k') CASES (fun _ h => h) hk'
theorem told_cons {rs : List Row} {k k' : Case} {p : Str × Str} (hk : k ∈ CASES) (hk' : k' ∈ CASES) : told (rowOf k p :: rs) k' = if k' = k then p else told rs k' := by
  unfold told
  rw [List.find?_cons, fits_rowOf hk hk']
  by_cases q : k = k'
  · subst q; simp [rowOf]
  · rw [decide_eq_false q, if_neg (Ne.symm q)]
/-! ### the lists that the law makes -/
section
variable {S : Sto} {ρ : DL.Env} {rs : List Row} {k : Case} {a e : Str}
/-- [(one, told) ..] -/
def toldL (rs : List Row) : List D := CASES.map fun k => .tup [dC k, dP (told rs k)]
theorem lc_told {i j : Nat} (h : ∀ d, (ρ.set i (some d))[j]? = some (some (.lst (rs.map dR)))) (hi : i < ρ.length) :
    lcL (bName i) mYes (mTup (aCons (mVar i) (aCons (mCall F__law_told (aCons (mVar j) (aCons (mVar i) aNil))) aNil))) ρ (CASES.map dC) [] S = .ok (toldL rs) S := by
  rw [lcL_all (fun d => .tup [d, dP (told rs (unC d))]) (fun d hd => by
    obtain ⟨k, hk, rfl⟩ := List.mem_map.mp hd
    refine ⟨_, rfl, rfl, ?_⟩
    have h1 := mVar_at (h (dC k)) S
    have h2 : mVar i (ρ.set i (some (dC k))) S = .ok (dC k) S := mVar_at (List.getElem?_set_self hi) S
    simp only [mTup_ev, aCons_ev, aNil_ev, mCall_ev, h1, h2, bind_ok, law_told_ok (.inr rfl), List.length_cons, List.length_nil, Nat.zero_add, Nat.reduceAdd, lim_2, if_true]
    rfl) (by rw [len_cases]; decide), List.nil_append, List.map_map]
  rfl
theorem add_row {k : Case} {p : Str × Str} : addO S (dC k) (dP p) = some (dR (rowOf k p)) := rfl
theorem add_row2 {k : Case} {a e : Str} : addO S (dC k) (.tup [.str a, .str e]) = some (dR (rowOf k (a, e))) := rfl
/-- [one + (new if one == affair else pair) ..] -/
theorem lc_due {i j ia ib ik : Nat} (hk : ∀ d1 d2, ((ρ.set i (some d1)).set j (some d2))[ik]? = some (some (dC k))) (ha : ∀ d1 d2, ((ρ.set i (some d1)).set j (some d2))[ia]? = some (some (.str a))) (he : ∀ d1 d2, ((ρ.set i (some d1)).set j (some d2))[ib]? = some (some (.str e))) (hi : i < ρ.length) (hj : j < ρ.length) (hij : i ≠ j) :
    lcL (bTup 2 (bCons (bName i) (bCons (bName j) bNil))) mYes (m2 addO (mVar i) (mIf (mTst (m2 eqO (mVar i) (mVar ik))) (mTup (aCons (mVar ia) (aCons (mVar ib) aNil))) (mVar j))) ρ (toldL rs) [] S = .ok ((withRows rs k (a, e)).map dR) S := by
  rw [lcL_all (fun d => match d with | .tup [x, .tup [.str u, .str v]] => dR (rowOf (unC x) (if unC x = k then (a, e) else (u, v))) | _ => .non) (fun d hd => by
    obtain ⟨k', hk', rfl⟩ := List.mem_map.mp hd
    refine ⟨_, rfl, rfl, ?_⟩
    have h1 : mVar i ((ρ.set i (some (dC k'))).set j (some (dP (told rs k')))) S = .ok (dC k') S := mVar_at (by rw [List.getElem?_set_ne (Ne.symm hij)]; exact List.getElem?_set_self hi) S
    have h2 : mVar j ((ρ.set i (some (dC k'))).set j (some (dP (told rs k')))) S = .ok (dP (told rs k')) S := mVar_at (List.getElem?_set_self (by rw [List.length_set]; exact hj)) S
    have h3 := mVar_at (hk (dC k') (dP (told rs k'))) S
    have h4 := mVar_at (ha (dC k') (dP (told rs k'))) S
    have h5 := mVar_at (he (dC k') (dP (told rs k'))) S
    have hu : unC (dC k') = k' := rfl
    show m2 addO _ _ _ S = .ok (dR (rowOf k' (if k' = k then (a, e) else told rs k'))) S
    simp only [m2_ev, h1, bind_ok, mIf_ev, mTst_ev, h3, eqO_dC, ofO_some]
    by_cases q : k' = k
    · rw [decide_eq_true q, if_pos q]
      simp only [selT_t, mTup_ev, aCons_ev, aNil_ev, h4, h5, bind_ok, List.length_cons, List.length_nil, Nat.zero_add, Nat.reduceAdd, lim_2, if_true, add_row2, ofO_some]
    · rw [decide_eq_false q, if_neg q]
      simp only [selT_f, h2, bind_ok, add_row, ofO_some]) (by unfold toldL; rw [len_cases]; decide), List.nil_append]
  unfold toldL withRows
  rw [List.map_map, List.map_map]
  rfl
theorem cut3 {k : Case} {p : Str × Str} : slD S (dR (rowOf k p)) none (some 3) = some (dC k) := rfl
theorem cut3b {k : Case} {p : Str × Str} : slD S (dR (rowOf k p)) (some 3) none = some (dP p) := rfl
/-- [row[:3] + (new if row[:3] == affair else row[3:]) ..] -/
theorem lc_due2 {i ip ik : Nat} {f : Case → Str × Str} {p : Str × Str} (hk : ∀ d, (ρ.set i (some d))[ik]? = some (some (dC k))) (hp : ∀ d, (ρ.set i (some d))[ip]? = some (some (dP p))) (hi : i < ρ.length) :
    lcL (bName i) mYes (m2 addO (mSl (mVar i) oNone (oSome (mC (.int 3)))) (mIf (mTst (m2 eqO (mSl (mVar i) oNone (oSome (mC (.int 3)))) (mVar ik))) (mVar ip) (mSl (mVar i) (oSome (mC (.int 3))) oNone))) ρ ((CASES.map fun k => rowOf k (f k)).map dR) [] S = .ok ((CASES.map fun k' => rowOf k' (if k' = k then p else f k')).map dR) S := by
  rw [lcL_all (fun d => match d with | .tup [.str x, .str y, .str z, .str u, .str v] => dR (rowOf (x, y, z) (if (x, y, z) = k then p else (u, v))) | _ => .non) (fun d hd => by
    obtain ⟨r, hr, rfl⟩ := List.mem_map.mp hd
    obtain ⟨k', hk', rfl⟩ := List.mem_map.mp hr
    refine ⟨_, rfl, rfl, ?_⟩
    have h1 : ∀ S, mVar i (ρ.set i (some (dR (rowOf k' (f k'))))) S = .ok (dR (rowOf k' (f k'))) S := mVar_at (List.getElem?_set_self hi)
    have s1 : mSl (mVar i) oNone (oSome (mC (.int 3))) (ρ.set i (some (dR (rowOf k' (f k'))))) S = .ok (dC k') S := by
      show (mVar i _ S).bind _ = _
      rw [h1]; rfl
    have s2 : mSl (mVar i) (oSome (mC (.int 3))) oNone (ρ.set i (some (dR (rowOf k' (f k'))))) S = .ok (dP (f k')) S := by
      show (mVar i _ S).bind _ = _
      rw [h1]; rfl
    have h3 := mVar_at (hk (dR (rowOf k' (f k')))) S
    have h4 := mVar_at (hp (dR (rowOf k' (f k')))) S
    show m2 addO _ _ _ S = .ok (dR (rowOf k' (if k' = k then p else f k'))) S
    simp only [m2_ev, s1, bind_ok, mIf_ev, mTst_ev, h3, eqO_dC, ofO_some]
    by_cases q : k' = k
    · rw [decide_eq_true q, if_pos q]
      simp only [selT_t, h4, bind_ok, add_row, ofO_some]
    · rw [decide_eq_false q, if_neg q]
      simp only [selT_f, s2, bind_ok, add_row, ofO_some]) (by rw [List.length_map, List.length_map]; decide), List.nil_append]
  rw [List.map_map, List.map_map, List.map_map]
  rfl
/-- [one + told ..] -/
theorem lc_due3 {i j : Nat} {rs : List Row} (h : ∀ d, (ρ.set i (some d))[j]? = some (some (.lst (rs.map dR)))) (hi : i < ρ.length) :
    lcL (bName i) mYes (m2 addO (mVar i) (mCall F__law_told (aCons (mVar j) (aCons (mVar i) aNil)))) ρ (CASES.map dC) [] S = .ok ((CASES.map fun k => rowOf k (told rs k)).map dR) S := by
  rw [lcL_all (fun d => dR (rowOf (unC d) (told rs (unC d)))) (fun d hd => by
    obtain ⟨k, hk, rfl⟩ := List.mem_map.mp hd
    refine ⟨_, rfl, rfl, ?_⟩
    have h1 := mVar_at (h (dC k)) S
    have h2 : mVar i (ρ.set i (some (dC k))) S = .ok (dC k) S := mVar_at (List.getElem?_set_self hi) S
    simp only [m2_ev, aCons_ev, aNil_ev, mCall_ev, h1, h2, bind_ok, law_told_ok (.inr rfl), add_row, ofO_some]
    rfl) (by rw [len_cases]; decide), List.nil_append, List.map_map, List.map_map]
  rfl
end
end K05
/-! the plain law of k05: a book changed, one way (printed by k05p12.py) -/
namespace K05
open PySem L2 DL
def w0 : MS := (sSet 10 (mCall F__law_said (aCons (mVar 9) (aCons (mVar 1) (aCons (mTup (aCons (mVar 4) (aCons (mVar 7) (aCons (mVar 8) aNil)))) aNil)))))
def w1 : MS := (sSet 11 (mLc (iSeq (mCall F__law_cases aNil)) (bName 25) mYes (mTup (aCons (mVar 25) (aCons (mCall F__law_told (aCons (mVar 3) (aCons (mVar 25) aNil))) aNil))) [25]))
def w2 : MS := (sSet 12 (mLc (iSeq (mVar 11)) (bTup 2 (bCons (bName 25) (bCons (bName 26) bNil))) mYes (m2 addO (mVar 25) (mIf (mTst (m2 eqO (mVar 25) (mVar 4))) (mTup (aCons (mVar 7) (aCons (mVar 8) aNil))) (mVar 26))) [25, 26]))
def w3 : MS := (sIf (tOr' (mTru (mN (isiI CS) (aCons (mVar 10) (aCons (mC (.ty "str")) aNil)))) (tNot' (mTru (mCall F__law_book_right (aCons (mVar 10) (aCons (mVar 2) (aCons (mVar 12) aNil))))))) (sRet (mC (.bl false))) sNil)
def w4 : MS := (sSet 13 (m2 ixO (mCall F__law_cases aNil) (mCall F__law_tap (aCons (mVar 0) (aCons (mC (.int 20)) aNil)))))
def w5 : MS := (sSet 14 (mCall F__law_book_words (aCons (m2 ixO (mVar 13) (mC (.int 0))) aNil)))
def w6 : MS := (sSet 15 (mTup (aCons (m2 ixO (m2 ixO (mVar 14) (mC (.int 2))) (mCall F__law_tap (aCons (mVar 0) (aCons (mN lenG (aCons (m2 ixO (mVar 14) (mC (.int 2))) aNil)) aNil)))) (aCons (m2 ixO (m2 ixO (mVar 14) (mC (.int 3))) (mCall F__law_tap (aCons (mVar 0) (aCons (mN lenG (aCons (m2 ixO (mVar 14) (mC (.int 3))) aNil)) aNil)))) aNil))))
def w7 : MS := (sSet 16 (mCall F__law_said (aCons (mVar 9) (aCons (mVar 10) (aCons (mTup (aCons (mVar 13) (aCons (m2 ixO (mVar 15) (mC (.int 0))) (aCons (m2 ixO (mVar 15) (mC (.int 1))) aNil)))) aNil)))))
def w8 : MS := (sSet 17 (mLc (iSeq (mVar 12)) (bName 27) mYes (m2 addO (mSl (mVar 27) oNone (oSome (mC (.int 3)))) (mIf (mTst (m2 eqO (mSl (mVar 27) oNone (oSome (mC (.int 3)))) (mVar 13))) (mVar 15) (mSl (mVar 27) (oSome (mC (.int 3))) oNone))) [27]))
def w9 : MS := (sIf (tOr' (tNot' (mTru (mCall F__law_book_right (aCons (mVar 16) (aCons (mVar 2) (aCons (mVar 17) aNil)))))) (tNot' (mTru (mCall F__law_book_right (aCons (mVar 10) (aCons (mVar 2) (aCons (mVar 12) aNil))))))) (sRet (mC (.bl false))) sNil)
def w10 : MS := (sSet 18 (m2 ixO (mVar 6) (mCall F__law_tap (aCons (mVar 0) (aCons (mC (.int 10)) aNil)))))
def w11 : MS := (sBuild 19 (aCons (mCall F__law_said (aCons (mVar 9) (aCons (mVar 1) (aCons (mTup (aCons (mVar 4) (aCons (mVar 18) (aCons (mVar 8) aNil)))) aNil)))) aNil) (mCall F__law_said (aCons (mVar 9) (aCons (mVar 1) (aCons (mTup (aCons (mVar 4) (aCons (mVar 7) (aCons (mVar 18) aNil)))) aNil)))))
def w12 : MS := (sSet 20 (mLc (iSeq (mVar 19)) (bName 22) mYes (mN (isiI CS) (aCons (mVar 22) (aCons (mC (.ty "str")) aNil))) [22]))
def w13 : MS := (sIf (mTst (m2 neO (mVar 20) (mLst (aCons (m2 ninD (mVar 18) (m2 ixO (mVar 5) (mC (.int 2)))) (aCons (m2 ninD (mVar 18) (m2 ixO (mVar 5) (mC (.int 3)))) aNil))))) (sRet (mC (.bl false))) sNil)
def w14 : MS := (sIf (mTst (m2 neO (mLc (iSeq (mVar 19)) (bName 22) (tAnd' (mTru (mN (isiI CS) (aCons (mVar 22) (aCons (mC (.ty "str")) aNil)))) (mTst (m2 neO (mVar 22) (mC (.str "book"))))) (mVar 22) [22]) (mLst aNil))) (sRet (mC (.bl false))) sNil)
def w15 : MS := (sSet 21 (mLst (aCons (mSl (mVar 4) oNone (oSome (mC (.int 2)))) (aCons (mN listG (aCons (mVar 4) aNil)) (aCons (mTup (aCons (mC (.str "read")) (aCons (mC (.str "any")) (aCons (mC (.str "none")) aNil)))) (aCons (mC .non) (aCons (mC (.str "read")) (aCons (m2 addO (mVar 4) (mTup (aCons (mC (.str "")) aNil))) aNil))))))))
def w16 : MS := (sSet 21 (m2 addO (mVar 21) (mLst (aCons (mTup (aCons (mC (.str "hand")) (aCons (mC (.str "any")) (aCons (mC (.str "held")) aNil)))) (aCons (mTup (aCons (mC (.int 1)) (aCons (mC (.int 2)) (aCons (mC (.int 3)) aNil)))) aNil)))))
def w17 : MS := (sSet 21 (m2 addO (mVar 21) (mLst (aCons (mTup (aCons (mC (.str "read")) (aCons (mLst (aCons (mC (.str "leads")) aNil)) (aCons (mC (.str "none")) aNil)))) (aCons (mTup (aCons (mLst (aCons (mC (.str "read")) aNil)) (aCons (mC (.str "leads")) (aCons (mC (.str "none")) aNil)))) (aCons (mTup (aCons (mC (.dct [])) (aCons (mC (.str "leads")) (aCons (mC (.str "none")) aNil)))) aNil))))))
def w18 : MS := (sSet 22 (m2 ixO (mVar 21) (mCall F__law_tap (aCons (mVar 0) (aCons (mC (.int 11)) aNil)))))
def w19 : MS := (sIf (mTst (m2 neO (mLst (aCons (mCall F__law_said (aCons (mVar 9) (aCons (mVar 1) (aCons (mTup (aCons (mVar 22) (aCons (mVar 18) (aCons (mC .non) aNil)))) aNil)))) (aCons (mCall F__law_said (aCons (mC (.int 2)) (aCons (mVar 1) (aCons (mVar 22) aNil)))) aNil))) (mLst (aCons (mC (.str "case")) (aCons (mC (.str "case")) aNil))))) (sRet (mC (.bl false))) sNil)
def wayBody : MS := (sSeq w0 (sSeq w1 (sSeq w2 (sSeq w3 (sSeq w4 (sSeq w5 (sSeq w6 (sSeq w7 (sSeq w8 (sSeq w9 (sSeq w10 (sSeq w11 (sSeq w12 (sSeq w13 (sSeq w14 (sSeq w15 (sSeq w16 (sSeq w17 (sSeq w18 w19)))))))))))))))))))
def odds2 : List D := [.str "", .str "Wait", .str "any", .non, .int 1, .lst [.str "wait"], .str "nothing", .str "join", .str "raise seen", .str "take"]
theorem odds2_ok : ∀ x ∈ odds2, okV x = true := by
  have z : odds2.all okV = true := by decide +kernel
  exact fun x hx => List.all_eq_true.mp z x hx
theorem isi_objI {S : Sto} {i : Nat} {m s : D} {ys : List D} (h : S[i]? = some (bk m s ys)) : isiI CS S [.obj i, .ty "str"] = some (.bl false) := by
  show ((tcI CS S (.obj i)).bind fun t => (clI CS (.ty "str")).map fun k => D.bl (subI t k)) = _
  have : tcI CS S (.obj i) = some (.inr 4) := by simp [tcI, h]
  rw [this]
  kernel_rfl
def badL (k : Case) : List D := [.tup [.str k.1, .str k.2.1], .lst [.str k.1, .str k.2.1, .str k.2.2], .tup [.str "read", .str "any", .str "none"], .non, .str "read", .tup [.str k.1, .str k.2.1, .str k.2.2, .str ""],
  .tup [.str "hand", .str "any", .str "held"], .tup [.int 1, .int 2, .int 3], .tup [.str "read", .lst [.str "leads"], .str "none"], .tup [.lst [.str "read"], .str "leads", .str "none"], .tup [.dct [], .str "leads", .str "none"]]
theorem badL_ok {k : Case} (hk : k ∈ CASES) : ∀ x ∈ badL k, okCase x = true ∧ validCase x = false := by
  have z : CASES.all (fun k => (badL k).all fun x => okCase x && !validCase x) = true := by decide +kernel
  intro x hx
  have := List.all_eq_true.mp (List.all_eq_true.mp z k hk) x hx
  simpa using this
theorem ninD_odd {x : D} (hx : x ∈ odds2) {k : Str} (hk : k ∈ DW) (S : Sto) : ninD S x (tS (actsL k)) = some (.bl (!isW (actsL k) x)) ∧ ninD S x (tS (keepsL k)) = some (.bl (!isW (keepsL k) x)) := by
  have z1 : ∀ S : Sto, DW.map (fun k => odds2.map fun x => ninD S x (tS (actsL k))) = DW.map (fun k => odds2.map fun x => some (.bl (!isW (actsL k) x))) := fun S => by kernel_rfl
  have z2 : ∀ S : Sto, DW.map (fun k => odds2.map fun x => ninD S x (tS (keepsL k))) = DW.map (fun k => odds2.map fun x => some (.bl (!isW (keepsL k) x))) := fun S => by kernel_rfl
  exact ⟨List.map_inj_left.mp (List.map_inj_left.mp (z1 S) k hk) x hx, List.map_inj_left.mp (List.map_inj_left.mp (z2 S) k hk) x hx⟩
theorem ne_bls {S : Sto} (p q : Bool) : neO S (.lst [.bl p, .bl q]) (.lst [.bl p, .bl q]) = some (.bl false) := by cases p <;> cases q <;> rfl

theorem sBuild_ok {i : Nat} {ma : MA} {mb : ME} {ρ : DL.Env} {S S1 S2 : Sto} {xs : List D} {d : D} (h1 : ma ρ S = .ok xs S1) (h2 : i < ρ.length ∧ xs.length < lim) (h3 : mb (ρ.set i none) S1 = .ok d S2) : sBuild i ma mb ρ S = .nx (ρ.set i (some (.lst (xs ++ [d])))) S2 := by
  unfold sBuild
  rw [h1, of_ok, if_pos h2, h3, of_ok]
theorem wayBody_ok {S : Sto} {c n b : Nat} {m s : Str} {rs : List Row} {k : Case} {a e : Str} {w : Int} {o10 o11 o12 o13 o14 o15 o16 o17 o18 o19 o20 o21 o22 o23 o24 o25 o26 o27 : Option D} (h : Ck S c n) (hn : n + 20 < 10 ^ 8) (hB : Bk S b (.str m) (.str s) rs) (hbc : b ≠ c) (hg : goodForm (.str m) (.str s) = true) (hr : ∀ r ∈ rs, goodRow r) (hl : rs.length ≤ 40) (hk : k ∈ CASES) (hp : goodPair k (a, e)) (hw : w = 3 ∨ w = 4) :
    ∃ (ρ' : DL.Env) (S' : Sto), wayBody [some (.obj c), some (.obj b), some (.tup [.str m, .str s]), some (.lst (rs.map dR)), some (dC k), some (.tup (WL k.1)), some (.lst odds2), some (.str a), some (.str e), some (.int w), o10, o11, o12, o13, o14, o15, o16, o17, o18, o19, o20, o21, o22, o23, o24, o25, o26, o27] S = .nx ρ' S' ∧ (∃ o10 o11 o12 o13 o14 o15 o16 o17 o18 o19 o20 o21 o22 o23 o24 o25 o26 o27, ρ' = [some (.obj c), some (.obj b), some (.tup [.str m, .str s]), some (.lst (rs.map dR)), some (dC k), some (.tup (WL k.1)), some (.lst odds2), some (.str a), some (.str e), some (.int w), o10, o11, o12, o13, o14, o15, o16, o17, o18, o19, o20, o21, o22, o23, o24, o25, o26, o27]) ∧ Ck S' c (n + 10) ∧ Gr c S S' := by
  have dw := (case_dw hk).1
  obtain ⟨R1, hR1⟩ : ∃ R1, R1 = withRows rs k (a, e) := ⟨_, rfl⟩
  have hR1g : ∀ r ∈ R1, goodRow r := by rw [hR1]; exact withRows_good hr hp
  have hR1l : R1.length = 20 := by rw [hR1]; exact withRows_len _
  obtain ⟨S1, hS1⟩ : ∃ S1, S1 = S ++ [bk (.str m) (.str s) (R1.map dR)] := ⟨_, rfl⟩
  obtain ⟨b1, hb1⟩ : ∃ b1, b1 = S.length := ⟨_, rfl⟩
  have e0 : F__law_said [.int w, .obj b, .tup [dC k, .str a, .str e]] S = .ok (.obj b1) S1 := by rw [hS1, hb1, hR1]; exact said3_ok hB rfl rfl hg hr hk hp hw
  have B1 : Bk S1 b1 (.str m) (.str s) R1 := by rw [hS1, hb1]; exact get_last
  have hcl := h.lt
  have hb1c : b1 ≠ c := by omega
  have B1b : Bk S1 b (.str m) (.str s) rs := by rw [hS1]; exact hB.app
  have k1 : Ck S1 c n := by rw [hS1]; exact h.app
  have G1 : Gr c S S1 := by rw [hS1]; exact .app
  obtain ⟨l1, e3⟩ := book_right B1 (by omega)
  obtain ⟨S2, hS2⟩ : ∃ S2, S2 = S1 ++ l1 := ⟨_, rfl⟩
  rw [← hS2] at e3
  have B2 : Bk S2 b1 (.str m) (.str s) R1 := by rw [hS2]; exact B1.app
  have B2b : Bk S2 b (.str m) (.str s) rs := by rw [hS2]; exact B1b.app
  have k2 : Ck S2 c n := by rw [hS2]; exact k1.app
  have G2 : Gr c S1 S2 := by rw [hS2]; exact .app
  -- the second case
  obtain ⟨d4, S3, e4, hd4, k3, l3, G3⟩ := tap (span := 20) k2 (by omega) (by decide) (by decide)
  have e4' : F__law_tap [.obj c, .int 20] S2 = .ok (.int d4) S3 := e4
  obtain ⟨x2, hx2, ex2, _, _⟩ := ix_nat (S := S3) (xs := CASES.map dC) (n := d4) (by rw [len_cases]; exact hd4)
  obtain ⟨kk, hkk, rfl⟩ := List.mem_map.mp hx2
  have dw2 := (case_dw hkk).1
  have lw : (0 < (actsL kk.1).length ∧ (actsL kk.1).length < 1000) ∧ (0 < (keepsL kk.1).length ∧ (keepsL kk.1).length < 1000) := by rcases mem_DW dw2 with q | q | q <;> rw [q] <;> decide
  obtain ⟨d5, S4, e5, hd5, k4, l4, G4⟩ := tap (span := (actsL kk.1).length) k3 (by omega) lw.1.1 (by omega)
  obtain ⟨xa, hxa, _, exa, _⟩ := ix_nat (S := S4) (xs := (actsL kk.1).map D.str) (n := d5) (by rw [List.length_map]; exact hd5)
  obtain ⟨a2, ha2, rfl⟩ := List.mem_map.mp hxa
  obtain ⟨d6, S5, e6, hd6, k5, l5, G5⟩ := tap (span := (keepsL kk.1).length) k4 (by omega) lw.2.1 (by omega)
  obtain ⟨xe, hxe, _, exe, _⟩ := ix_nat (S := S5) (xs := (keepsL kk.1).map D.str) (n := d6) (by rw [List.length_map]; exact hd6)
  obtain ⟨e2, he2, rfl⟩ := List.mem_map.mp hxe
  have hp2 : goodPair kk (a2, e2) := ⟨ha2, he2⟩
  have G35 : Gr c S2 S5 := G3.trans (G4.trans G5)
  have B5 : Bk S5 b1 (.str m) (.str s) R1 := G35.at_ hb1c B2
  have B5b : Bk S5 b (.str m) (.str s) rs := G35.at_ hbc B2b
  obtain ⟨R2, hR2⟩ : ∃ R2, R2 = withRows R1 kk (a2, e2) := ⟨_, rfl⟩
  have hR2l : R2.length = 20 := by rw [hR2]; exact withRows_len _
  obtain ⟨S6, hS6⟩ : ∃ S6, S6 = S5 ++ [bk (.str m) (.str s) (R2.map dR)] := ⟨_, rfl⟩
  obtain ⟨b2, hb2⟩ : ∃ b2, b2 = S5.length := ⟨_, rfl⟩
  have e7 : F__law_said [.int w, .obj b1, .tup [dC kk, .str a2, .str e2]] S5 = .ok (.obj b2) S6 := by rw [hS6, hb2, hR2]; exact said3_ok B5 rfl rfl hg hR1g hkk hp2 hw
  have B6 : Bk S6 b2 (.str m) (.str s) R2 := by rw [hS6, hb2]; exact get_last
  have B61 : Bk S6 b1 (.str m) (.str s) R1 := by rw [hS6]; exact B5.app
  have B6b : Bk S6 b (.str m) (.str s) rs := by rw [hS6]; exact B5b.app
  have k6 : Ck S6 c (n + 3) := by rw [hS6]; exact k5.app
  have G6 : Gr c S5 S6 := by rw [hS6]; exact .app
  obtain ⟨l6, e9⟩ := book_right B6 (by omega)
  obtain ⟨l7, e10⟩ := book_right (B61.app (l := l6)) (by omega)
  obtain ⟨S7, hS7⟩ : ∃ S7, S7 = S6 ++ l6 ++ l7 := ⟨_, rfl⟩
  rw [← hS7] at e10
  have B7b : Bk S7 b (.str m) (.str s) rs := by rw [hS7]; exact B6b.app.app
  have k7 : Ck S7 c (n + 3) := by rw [hS7]; exact k6.app.app
  have G7 : Gr c S6 S7 := by rw [hS7]; exact Gr.app.trans .app
  -- something strange
  obtain ⟨d8, S8, e11, hd8, k8, l8, G8⟩ := tap (span := 10) k7 (by omega) (by decide) (by decide)
  have e11' : F__law_tap [.obj c, .int 10] S7 = .ok (.int d8) S8 := e11
  obtain ⟨sg, hsg, esg, _, _⟩ := ix_nat (S := S8) (xs := odds2) (n := d8) hd8
  have vsg := odds2_ok sg hsg
  have B8b : Bk S8 b (.str m) (.str s) rs := G8.at_ hbc B7b
  have both : ∀ (T : Sto) (u v : D), Bk T b (.str m) (.str s) rs → okV u = true → okV v = true → (isW (actsL k.1) u = true → isW (keepsL k.1) v = true → ∃ u' v', u = .str u' ∧ v = .str v') → ∃ r l, F__law_said [.int w, .obj b, .tup [dC k, u, v]] T = .ok r (T ++ l) ∧ ∀ l', isiI CS (T ++ l ++ l') [r, .ty "str"] = some (.bl (!(isW (actsL k.1) u && isW (keepsL k.1) v))) ∧ (r = .str "book" ∨ isiI CS (T ++ l ++ l') [r, .ty "str"] = some (.bl false)) := fun T u v hT hu hv hstr => by
    cases q : (isW (actsL k.1) u && isW (keepsL k.1) v) with
    | false => exact ⟨.str "book", [], by rw [List.append_nil]; exact said3_bad hT hk hu hv q hw, fun l' => ⟨isiI_str_str, .inl rfl⟩⟩
    | true =>
      simp only [Bool.and_eq_true] at q
      obtain ⟨u', v', rfl, rfl⟩ := hstr q.1 q.2
      have hp' : goodPair k (u', v') := ⟨by simpa [isW] using q.1, by simpa [isW] using q.2⟩
      refine ⟨_, _, said3_ok hT rfl rfl hg hr hk hp' hw, fun l' => ?_⟩
      have hi : (T ++ [bk (.str m) (.str s) ((withRows rs k (u', v')).map dR)] ++ l')[T.length]? = some (bk (.str m) (.str s) ((withRows rs k (u', v')).map dR)) := by
        rw [List.getElem?_append_left (by rw [List.length_append, List.length_singleton]; omega)]; exact get_last
      have := isi_objI hi
      exact ⟨this, .inr this⟩
  have strOf : ∀ {ws : List Str} {x : D}, isW ws x = true → ∃ y, x = .str y := fun {ws x} hx => by
    cases x with
    | str y => exact ⟨y, rfl⟩
    | _ => cases hx
  have ia : isW (actsL k.1) (.str a) = true := by simp [isW, hp.1]
  have ie : isW (keepsL k.1) (.str e) = true := by simp [isW, hp.2]
  obtain ⟨r1, l9, f1, q1⟩ := both S8 sg (.str e) B8b vsg rfl (fun h _ => let ⟨y, hy⟩ := strOf h; ⟨y, e, hy, rfl⟩)
  obtain ⟨r2, l10, f2, q2⟩ := both (S8 ++ l9) (.str a) sg B8b.app rfl vsg (fun _ h => let ⟨y, hy⟩ := strOf h; ⟨a, y, rfl, hy⟩)
  obtain ⟨S9, hS9⟩ : ∃ S9, S9 = S8 ++ l9 ++ l10 := ⟨_, rfl⟩
  rw [← hS9] at f2
  have p1 := (q1 l10).1
  have p1' := (q1 l10).2
  rw [← hS9] at p1 p1'
  have p2 := (q2 []).1
  have p2' := (q2 []).2
  rw [List.append_nil, ← hS9] at p2 p2'
  rw [ia] at p2
  rw [ie, Bool.and_true] at p1
  rw [Bool.true_and] at p2
  have B9b : Bk S9 b (.str m) (.str s) rs := by rw [hS9]; exact B8b.app.app
  have k9 : Ck S9 c (n + 4) := by rw [hS9]; exact k8.app.app
  have G9 : Gr c S8 S9 := by rw [hS9]; exact Gr.app.trans .app
  obtain ⟨nd1, nd2⟩ := ninD_odd hsg dw S9
  -- no case
  obtain ⟨d10, S10, e18, hd10, k10, l11, G10⟩ := tap (span := 11) k9 (by omega) (by decide) (by decide)
  have e18' : F__law_tap [.obj c, .int 11] S9 = .ok (.int d10) S10 := e18
  obtain ⟨th, hth, eth, _, _⟩ := ix_nat (S := S10) (xs := badL k) (n := d10) hd10
  obtain ⟨okth, vth⟩ := badL_ok hk th hth
  have B10b : Bk S10 b (.str m) (.str s) rs := G10.at_ hbc B9b
  have x0 : w0 [some (.obj c), some (.obj b), some (.tup [.str m, .str s]), some (.lst (rs.map dR)), some (dC k), some (.tup (WL k.1)), some (.lst odds2), some (.str a), some (.str e), some (.int w), o10, o11, o12, o13, o14, o15, o16, o17, o18, o19, o20, o21, o22, o23, o24, o25, o26, o27] S = .nx [some (.obj c), some (.obj b), some (.tup [.str m, .str s]), some (.lst (rs.map dR)), some (dC k), some (.tup (WL k.1)), some (.lst odds2), some (.str a), some (.str e), some (.int w), some (.obj b1), o11, o12, o13, o14, o15, o16, o17, o18, o19, o20, o21, o22, o23, o24, o25, o26, o27] S1 := by
    unfold w0
    rw [sSet_ev]
    simp only [mCall_ev, aCons_ev, aNil_ev, mVar_z, mVar_s, bind_ok, mTup_ev, List.length_cons, List.length_nil, Nat.zero_add, Nat.reduceAdd, lim_3, if_true, e0, of_ok, List.set_cons_zero, List.set_cons_succ]
  have x1 : w1 [some (.obj c), some (.obj b), some (.tup [.str m, .str s]), some (.lst (rs.map dR)), some (dC k), some (.tup (WL k.1)), some (.lst odds2), some (.str a), some (.str e), some (.int w), some (.obj b1), o11, o12, o13, o14, o15, o16, o17, o18, o19, o20, o21, o22, o23, o24, o25, o26, o27] S1 = .nx [some (.obj c), some (.obj b), some (.tup [.str m, .str s]), some (.lst (rs.map dR)), some (dC k), some (.tup (WL k.1)), some (.lst odds2), some (.str a), some (.str e), some (.int w), some (.obj b1), some (.lst (toldL rs)), o12, o13, o14, o15, o16, o17, o18, o19, o20, o21, o22, o23, o24, o25, o26, o27] S1 := by
    have q := lc_told (S := S1) (ρ := [some (.obj c), some (.obj b), some (.tup [.str m, .str s]), some (.lst (rs.map dR)), some (dC k), some (.tup (WL k.1)), some (.lst odds2), some (.str a), some (.str e), some (.int w), some (.obj b1), o11, o12, o13, o14, o15, o16, o17, o18, o19, o20, o21, o22, o23, o24, none, o26, o27]) (rs := rs) (i := 25) (j := 3) (fun _ => rfl) (by simp)
    unfold w1
    rw [sSet_ev, mLc_ev]
    simp only [iSeq_ev, mCall_ev, aNil_ev, bind_ok, law_cases_ok, seqI_lst, ofO_some, wipe_cons, wipe_nil, List.set_cons_zero, List.set_cons_succ, q, of_ok]
  have x2 : w2 [some (.obj c), some (.obj b), some (.tup [.str m, .str s]), some (.lst (rs.map dR)), some (dC k), some (.tup (WL k.1)), some (.lst odds2), some (.str a), some (.str e), some (.int w), some (.obj b1), some (.lst (toldL rs)), o12, o13, o14, o15, o16, o17, o18, o19, o20, o21, o22, o23, o24, o25, o26, o27] S1 = .nx [some (.obj c), some (.obj b), some (.tup [.str m, .str s]), some (.lst (rs.map dR)), some (dC k), some (.tup (WL k.1)), some (.lst odds2), some (.str a), some (.str e), some (.int w), some (.obj b1), some (.lst (toldL rs)), some (.lst (R1.map dR)), o13, o14, o15, o16, o17, o18, o19, o20, o21, o22, o23, o24, o25, o26, o27] S1 := by
    have q := lc_due (S := S1) (ρ := [some (.obj c), some (.obj b), some (.tup [.str m, .str s]), some (.lst (rs.map dR)), some (dC k), some (.tup (WL k.1)), some (.lst odds2), some (.str a), some (.str e), some (.int w), some (.obj b1), some (.lst (toldL rs)), o12, o13, o14, o15, o16, o17, o18, o19, o20, o21, o22, o23, o24, none, none, o27]) (rs := rs) (k := k) (a := a) (e := e) (i := 25) (j := 26) (ia := 7) (ib := 8) (ik := 4) (fun _ _ => rfl) (fun _ _ => rfl) (fun _ _ => rfl) (by simp) (by simp) (by decide)
    rw [← hR1] at q
    unfold w2
    rw [sSet_ev, mLc_ev]
    simp only [iSeq_ev, mVar_z, mVar_s, bind_ok, seqI_lst, ofO_some, wipe_cons, wipe_nil, List.set_cons_zero, List.set_cons_succ, q, of_ok]
  have x3 : w3 [some (.obj c), some (.obj b), some (.tup [.str m, .str s]), some (.lst (rs.map dR)), some (dC k), some (.tup (WL k.1)), some (.lst odds2), some (.str a), some (.str e), some (.int w), some (.obj b1), some (.lst (toldL rs)), some (.lst (R1.map dR)), o13, o14, o15, o16, o17, o18, o19, o20, o21, o22, o23, o24, o25, o26, o27] S1 = .nx [some (.obj c), some (.obj b), some (.tup [.str m, .str s]), some (.lst (rs.map dR)), some (dC k), some (.tup (WL k.1)), some (.lst odds2), some (.str a), some (.str e), some (.int w), some (.obj b1), some (.lst (toldL rs)), some (.lst (R1.map dR)), o13, o14, o15, o16, o17, o18, o19, o20, o21, o22, o23, o24, o25, o26, o27] S2 := by
    have i1 := isi_objI (S := S1) (i := b1) B1
    unfold w3
    rw [sIf_ev]
    simp only [or_ev, mTru_ev, not_ev, mN_ev, mCall_ev, aCons_ev, aNil_ev, mVar_z, mVar_s, mC_ev, bind_ok, i1, ofO_some, tru_b, selT_f, e3, Bool.not_true, of_ok, sNil_ev]
  have x4 : w4 [some (.obj c), some (.obj b), some (.tup [.str m, .str s]), some (.lst (rs.map dR)), some (dC k), some (.tup (WL k.1)), some (.lst odds2), some (.str a), some (.str e), some (.int w), some (.obj b1), some (.lst (toldL rs)), some (.lst (R1.map dR)), o13, o14, o15, o16, o17, o18, o19, o20, o21, o22, o23, o24, o25, o26, o27] S2 = .nx [some (.obj c), some (.obj b), some (.tup [.str m, .str s]), some (.lst (rs.map dR)), some (dC k), some (.tup (WL k.1)), some (.lst odds2), some (.str a), some (.str e), some (.int w), some (.obj b1), some (.lst (toldL rs)), some (.lst (R1.map dR)), some (dC kk), o14, o15, o16, o17, o18, o19, o20, o21, o22, o23, o24, o25, o26, o27] S3 := by
    unfold w4
    rw [sSet_ev]
    simp only [m2_ev, mCall_ev, aNil_ev, aCons_ev, mVar_z, mC_ev, bind_ok, law_cases_ok, e4', ex2, ofO_some, of_ok, List.set_cons_zero, List.set_cons_succ]
  have x5 : w5 [some (.obj c), some (.obj b), some (.tup [.str m, .str s]), some (.lst (rs.map dR)), some (dC k), some (.tup (WL k.1)), some (.lst odds2), some (.str a), some (.str e), some (.int w), some (.obj b1), some (.lst (toldL rs)), some (.lst (R1.map dR)), some (dC kk), o14, o15, o16, o17, o18, o19, o20, o21, o22, o23, o24, o25, o26, o27] S3 = .nx [some (.obj c), some (.obj b), some (.tup [.str m, .str s]), some (.lst (rs.map dR)), some (dC k), some (.tup (WL k.1)), some (.lst odds2), some (.str a), some (.str e), some (.int w), some (.obj b1), some (.lst (toldL rs)), some (.lst (R1.map dR)), some (dC kk), some (.tup (WL kk.1)), o15, o16, o17, o18, o19, o20, o21, o22, o23, o24, o25, o26, o27] S3 := by
    unfold w5
    rw [sSet_ev]
    simp only [m2_ev, mCall_ev, aNil_ev, aCons_ev, mVar_z, mVar_s, mC_ev, bind_ok, dC0, ofO_some, wordsL dw2, of_ok, List.set_cons_zero, List.set_cons_succ]
  have x6 : w6 [some (.obj c), some (.obj b), some (.tup [.str m, .str s]), some (.lst (rs.map dR)), some (dC k), some (.tup (WL k.1)), some (.lst odds2), some (.str a), some (.str e), some (.int w), some (.obj b1), some (.lst (toldL rs)), some (.lst (R1.map dR)), some (dC kk), some (.tup (WL kk.1)), o15, o16, o17, o18, o19, o20, o21, o22, o23, o24, o25, o26, o27] S3 = .nx [some (.obj c), some (.obj b), some (.tup [.str m, .str s]), some (.lst (rs.map dR)), some (dC k), some (.tup (WL k.1)), some (.lst odds2), some (.str a), some (.str e), some (.int w), some (.obj b1), some (.lst (toldL rs)), some (.lst (R1.map dR)), some (dC kk), some (.tup (WL kk.1)), some (.tup [.str a2, .str e2]), o16, o17, o18, o19, o20, o21, o22, o23, o24, o25, o26, o27] S5 := by
    have u5 : F__law_tap [.obj c, .int ((actsL kk.1).map D.str).length] S3 = .ok (.int d5) S4 := by rw [List.length_map]; exact e5
    have u6 : F__law_tap [.obj c, .int ((keepsL kk.1).map D.str).length] S4 = .ok (.int d6) S5 := by rw [List.length_map]; exact e6
    have g2 : ∀ S : Sto, ixO S (.tup (WL kk.1)) (.int 2) = some (tS (actsL kk.1)) := fun _ => ix_t2
    have g3 : ∀ S : Sto, ixO S (.tup (WL kk.1)) (.int 3) = some (tS (keepsL kk.1)) := fun _ => ix_t3
    unfold w6
    rw [sSet_ev]
    simp only [mTup_ev, m2_ev, mN_ev, mCall_ev, aNil_ev, aCons_ev, mVar_z, mVar_s, mC_ev, bind_ok, g2, g3, len_tup, u5, u6, exa, exe, ofO_some, List.length_cons, List.length_nil, Nat.zero_add, Nat.reduceAdd, lim_2, if_true, of_ok, List.set_cons_zero, List.set_cons_succ]
  have x7 : w7 [some (.obj c), some (.obj b), some (.tup [.str m, .str s]), some (.lst (rs.map dR)), some (dC k), some (.tup (WL k.1)), some (.lst odds2), some (.str a), some (.str e), some (.int w), some (.obj b1), some (.lst (toldL rs)), some (.lst (R1.map dR)), some (dC kk), some (.tup (WL kk.1)), some (.tup [.str a2, .str e2]), o16, o17, o18, o19, o20, o21, o22, o23, o24, o25, o26, o27] S5 = .nx [some (.obj c), some (.obj b), some (.tup [.str m, .str s]), some (.lst (rs.map dR)), some (dC k), some (.tup (WL k.1)), some (.lst odds2), some (.str a), some (.str e), some (.int w), some (.obj b1), some (.lst (toldL rs)), some (.lst (R1.map dR)), some (dC kk), some (.tup (WL kk.1)), some (.tup [.str a2, .str e2]), some (.obj b2), o17, o18, o19, o20, o21, o22, o23, o24, o25, o26, o27] S6 := by
    unfold w7
    rw [sSet_ev]
    simp only [mTup_ev, m2_ev, mCall_ev, aNil_ev, aCons_ev, mVar_z, mVar_s, mC_ev, bind_ok, ix_t0, ix_t1, ofO_some, List.length_cons, List.length_nil, Nat.zero_add, Nat.reduceAdd, lim_3, if_true, e7, of_ok, List.set_cons_zero, List.set_cons_succ]
  have x8 : w8 [some (.obj c), some (.obj b), some (.tup [.str m, .str s]), some (.lst (rs.map dR)), some (dC k), some (.tup (WL k.1)), some (.lst odds2), some (.str a), some (.str e), some (.int w), some (.obj b1), some (.lst (toldL rs)), some (.lst (R1.map dR)), some (dC kk), some (.tup (WL kk.1)), some (.tup [.str a2, .str e2]), some (.obj b2), o17, o18, o19, o20, o21, o22, o23, o24, o25, o26, o27] S6 = .nx [some (.obj c), some (.obj b), some (.tup [.str m, .str s]), some (.lst (rs.map dR)), some (dC k), some (.tup (WL k.1)), some (.lst odds2), some (.str a), some (.str e), some (.int w), some (.obj b1), some (.lst (toldL rs)), some (.lst (R1.map dR)), some (dC kk), some (.tup (WL kk.1)), some (.tup [.str a2, .str e2]), some (.obj b2), some (.lst (R2.map dR)), o18, o19, o20, o21, o22, o23, o24, o25, o26, o27] S6 := by
    have q := lc_due2 (S := S6) (ρ := [some (.obj c), some (.obj b), some (.tup [.str m, .str s]), some (.lst (rs.map dR)), some (dC k), some (.tup (WL k.1)), some (.lst odds2), some (.str a), some (.str e), some (.int w), some (.obj b1), some (.lst (toldL rs)), some (.lst (R1.map dR)), some (dC kk), some (.tup (WL kk.1)), some (.tup [.str a2, .str e2]), some (.obj b2), o17, o18, o19, o20, o21, o22, o23, o24, o25, o26, none]) (i := 27) (ip := 15) (ik := 13) (k := kk) (p := (a2, e2)) (f := fun k' => if k' = k then (a, e) else told rs k') (fun _ => rfl) (fun _ => rfl) (by simp)
    have q1 : (CASES.map fun k' => rowOf k' ((fun k' => if k' = k then (a, e) else told rs k') k')) = R1 := hR1.symm
    have q2 : (CASES.map fun k' => rowOf k' (if k' = kk then (a2, e2) else (fun k' => if k' = k then (a, e) else told rs k') k')) = R2 := by
      rw [hR2]
      unfold withRows
      exact List.map_congr_left fun k' hk' => by rw [hR1, told_with hk']
    rw [q1, q2] at q
    unfold w8
    rw [sSet_ev, mLc_ev]
    simp only [iSeq_ev, mVar_z, mVar_s, bind_ok, seqI_lst, ofO_some, wipe_cons, wipe_nil, List.set_cons_zero, List.set_cons_succ, q, of_ok]
  have x9 : w9 [some (.obj c), some (.obj b), some (.tup [.str m, .str s]), some (.lst (rs.map dR)), some (dC k), some (.tup (WL k.1)), some (.lst odds2), some (.str a), some (.str e), some (.int w), some (.obj b1), some (.lst (toldL rs)), some (.lst (R1.map dR)), some (dC kk), some (.tup (WL kk.1)), some (.tup [.str a2, .str e2]), some (.obj b2), some (.lst (R2.map dR)), o18, o19, o20, o21, o22, o23, o24, o25, o26, o27] S6 = .nx [some (.obj c), some (.obj b), some (.tup [.str m, .str s]), some (.lst (rs.map dR)), some (dC k), some (.tup (WL k.1)), some (.lst odds2), some (.str a), some (.str e), some (.int w), some (.obj b1), some (.lst (toldL rs)), some (.lst (R1.map dR)), some (dC kk), some (.tup (WL kk.1)), some (.tup [.str a2, .str e2]), some (.obj b2), some (.lst (R2.map dR)), o18, o19, o20, o21, o22, o23, o24, o25, o26, o27] S7 := by
    unfold w9
    rw [sIf_ev]
    simp only [or_ev, mTru_ev, not_ev, mCall_ev, aCons_ev, aNil_ev, mVar_z, mVar_s, bind_ok, ofO_some, tru_b, selT_f, e9, e10, Bool.not_true, of_ok, sNil_ev]
  have x10 : w10 [some (.obj c), some (.obj b), some (.tup [.str m, .str s]), some (.lst (rs.map dR)), some (dC k), some (.tup (WL k.1)), some (.lst odds2), some (.str a), some (.str e), some (.int w), some (.obj b1), some (.lst (toldL rs)), some (.lst (R1.map dR)), some (dC kk), some (.tup (WL kk.1)), some (.tup [.str a2, .str e2]), some (.obj b2), some (.lst (R2.map dR)), o18, o19, o20, o21, o22, o23, o24, o25, o26, o27] S7 = .nx [some (.obj c), some (.obj b), some (.tup [.str m, .str s]), some (.lst (rs.map dR)), some (dC k), some (.tup (WL k.1)), some (.lst odds2), some (.str a), some (.str e), some (.int w), some (.obj b1), some (.lst (toldL rs)), some (.lst (R1.map dR)), some (dC kk), some (.tup (WL kk.1)), some (.tup [.str a2, .str e2]), some (.obj b2), some (.lst (R2.map dR)), some sg, o19, o20, o21, o22, o23, o24, o25, o26, o27] S8 := by
    unfold w10
    rw [sSet_ev]
    simp only [m2_ev, mCall_ev, aNil_ev, aCons_ev, mVar_z, mVar_s, mC_ev, bind_ok, e11', esg, ofO_some, of_ok, List.set_cons_zero, List.set_cons_succ]
  have x11 : w11 [some (.obj c), some (.obj b), some (.tup [.str m, .str s]), some (.lst (rs.map dR)), some (dC k), some (.tup (WL k.1)), some (.lst odds2), some (.str a), some (.str e), some (.int w), some (.obj b1), some (.lst (toldL rs)), some (.lst (R1.map dR)), some (dC kk), some (.tup (WL kk.1)), some (.tup [.str a2, .str e2]), some (.obj b2), some (.lst (R2.map dR)), some sg, o19, o20, o21, o22, o23, o24, o25, o26, o27] S8 = .nx [some (.obj c), some (.obj b), some (.tup [.str m, .str s]), some (.lst (rs.map dR)), some (dC k), some (.tup (WL k.1)), some (.lst odds2), some (.str a), some (.str e), some (.int w), some (.obj b1), some (.lst (toldL rs)), some (.lst (R1.map dR)), some (dC kk), some (.tup (WL kk.1)), some (.tup [.str a2, .str e2]), some (.obj b2), some (.lst (R2.map dR)), some sg, some (.lst [r1, r2]), o20, o21, o22, o23, o24, o25, o26, o27] S9 := by
    unfold w11
    refine sBuild_ok (xs := [r1]) (S1 := S8 ++ l9) ?_ (by simp) ?_
    · simp only [mTup_ev, mCall_ev, aNil_ev, aCons_ev, mVar_z, mVar_s, bind_ok, List.length_cons, List.length_nil, Nat.zero_add, Nat.reduceAdd, lim_3, if_true, f1]
    · simp only [mTup_ev, mCall_ev, aNil_ev, aCons_ev, mVar_z, mVar_s, bind_ok, List.length_cons, List.length_nil, Nat.zero_add, Nat.reduceAdd, lim_3, if_true, f2, List.set_cons_zero, List.set_cons_succ]
  have x12 : w12 [some (.obj c), some (.obj b), some (.tup [.str m, .str s]), some (.lst (rs.map dR)), some (dC k), some (.tup (WL k.1)), some (.lst odds2), some (.str a), some (.str e), some (.int w), some (.obj b1), some (.lst (toldL rs)), some (.lst (R1.map dR)), some (dC kk), some (.tup (WL kk.1)), some (.tup [.str a2, .str e2]), some (.obj b2), some (.lst (R2.map dR)), some sg, some (.lst [r1, r2]), o20, o21, o22, o23, o24, o25, o26, o27] S9 = .nx [some (.obj c), some (.obj b), some (.tup [.str m, .str s]), some (.lst (rs.map dR)), some (dC k), some (.tup (WL k.1)), some (.lst odds2), some (.str a), some (.str e), some (.int w), some (.obj b1), some (.lst (toldL rs)), some (.lst (R1.map dR)), some (dC kk), some (.tup (WL kk.1)), some (.tup [.str a2, .str e2]), some (.obj b2), some (.lst (R2.map dR)), some sg, some (.lst [r1, r2]), some (.lst [.bl (!isW (actsL k.1) sg), .bl (!isW (keepsL k.1) sg)]), o21, o22, o23, o24, o25, o26, o27] S9 := by
    unfold w12
    rw [sSet_ev, mLc_ev]
    simp only [iSeq_ev, mVar_z, mVar_s, bind_ok, seqI_lst, ofO_some, wipe_cons, wipe_nil, List.set_cons_zero, List.set_cons_succ, lcL, bName_ev, mYes_ev, bindN_ok, if_true, mN_ev, aCons_ev, aNil_ev, mC_ev, p1, p2, List.length_cons, List.length_nil, Nat.zero_add, Nat.reduceAdd, liml_0, liml_1, List.nil_append, List.cons_append, of_ok]
  have x13 : w13 [some (.obj c), some (.obj b), some (.tup [.str m, .str s]), some (.lst (rs.map dR)), some (dC k), some (.tup (WL k.1)), some (.lst odds2), some (.str a), some (.str e), some (.int w), some (.obj b1), some (.lst (toldL rs)), some (.lst (R1.map dR)), some (dC kk), some (.tup (WL kk.1)), some (.tup [.str a2, .str e2]), some (.obj b2), some (.lst (R2.map dR)), some sg, some (.lst [r1, r2]), some (.lst [.bl (!isW (actsL k.1) sg), .bl (!isW (keepsL k.1) sg)]), o21, o22, o23, o24, o25, o26, o27] S9 = .nx [some (.obj c), some (.obj b), some (.tup [.str m, .str s]), some (.lst (rs.map dR)), some (dC k), some (.tup (WL k.1)), some (.lst odds2), some (.str a), some (.str e), some (.int w), some (.obj b1), some (.lst (toldL rs)), some (.lst (R1.map dR)), some (dC kk), some (.tup (WL kk.1)), some (.tup [.str a2, .str e2]), some (.obj b2), some (.lst (R2.map dR)), some sg, some (.lst [r1, r2]), some (.lst [.bl (!isW (actsL k.1) sg), .bl (!isW (keepsL k.1) sg)]), o21, o22, o23, o24, o25, o26, o27] S9 := by
    have g2 : ∀ S : Sto, ixO S (.tup (WL k.1)) (.int 2) = some (tS (actsL k.1)) := fun _ => ix_t2
    have g3 : ∀ S : Sto, ixO S (.tup (WL k.1)) (.int 3) = some (tS (keepsL k.1)) := fun _ => ix_t3
    unfold w13
    rw [sIf_ev]
    simp only [mTst_ev, m2_ev, mLst_ev, aCons_ev, aNil_ev, mVar_z, mVar_s, mC_ev, bind_ok, g2, g3, ofO_some, nd1, nd2, List.length_cons, List.length_nil, Nat.zero_add, Nat.reduceAdd, lim_2, if_true, ne_bls, of_ok, selT_f, sNil_ev]
  have x14 : w14 [some (.obj c), some (.obj b), some (.tup [.str m, .str s]), some (.lst (rs.map dR)), some (dC k), some (.tup (WL k.1)), some (.lst odds2), some (.str a), some (.str e), some (.int w), some (.obj b1), some (.lst (toldL rs)), some (.lst (R1.map dR)), some (dC kk), some (.tup (WL kk.1)), some (.tup [.str a2, .str e2]), some (.obj b2), some (.lst (R2.map dR)), some sg, some (.lst [r1, r2]), some (.lst [.bl (!isW (actsL k.1) sg), .bl (!isW (keepsL k.1) sg)]), o21, o22, o23, o24, o25, o26, o27] S9 = .nx [some (.obj c), some (.obj b), some (.tup [.str m, .str s]), some (.lst (rs.map dR)), some (dC k), some (.tup (WL k.1)), some (.lst odds2), some (.str a), some (.str e), some (.int w), some (.obj b1), some (.lst (toldL rs)), some (.lst (R1.map dR)), some (dC kk), some (.tup (WL kk.1)), some (.tup [.str a2, .str e2]), some (.obj b2), some (.lst (R2.map dR)), some sg, some (.lst [r1, r2]), some (.lst [.bl (!isW (actsL k.1) sg), .bl (!isW (keepsL k.1) sg)]), o21, o22, o23, o24, o25, o26, o27] S9 := by
    have t0 : ∀ d ∈ [r1, r2], ∃ ρ1, bName 22 d [some (.obj c), some (.obj b), some (.tup [.str m, .str s]), some (.lst (rs.map dR)), some (dC k), some (.tup (WL k.1)), some (.lst odds2), some (.str a), some (.str e), some (.int w), some (.obj b1), some (.lst (toldL rs)), some (.lst (R1.map dR)), some (dC kk), some (.tup (WL kk.1)), some (.tup [.str a2, .str e2]), some (.obj b2), some (.lst (R2.map dR)), some sg, some (.lst [r1, r2]), some (.lst [.bl (!isW (actsL k.1) sg), .bl (!isW (keepsL k.1) sg)]), o21, none, o23, o24, o25, o26, o27] = some ρ1 ∧ tAnd' (mTru (mN (isiI CS) (aCons (mVar 22) (aCons (mC (.ty "str")) aNil)))) (mTst (m2 neO (mVar 22) (mC (.str "book")))) ρ1 S9 = .ok false S9 := by
      intro d hd
      have hd' : d = .str "book" ∨ isiI CS S9 [d, .ty "str"] = some (.bl false) := by
        simp only [List.mem_cons, List.not_mem_nil, or_false] at hd
        rcases hd with rfl | rfl
        · exact p1'
        · exact p2'
      refine ⟨_, rfl, ?_⟩
      rcases hd' with rfl | hd'
      · simp only [and_ev, mTru_ev, mN_ev, aCons_ev, aNil_ev, mVar_z, mVar_s, mC_ev, bind_ok, List.set_cons_zero, List.set_cons_succ, isiI_str_str, ofO_some, tru_b, selT_t, mTst_ev, m2_ev, neO_str, decide_true, Bool.not_true]
      · simp only [and_ev, mTru_ev, mN_ev, aCons_ev, aNil_ev, mVar_z, mVar_s, mC_ev, bind_ok, List.set_cons_zero, List.set_cons_succ, hd', ofO_some, tru_b, selT_f]
    have q := lcL_none (S := S9) (m := mVar 22) (acc := []) t0 (by simp)
    have nn : neO S9 (.lst []) (.lst []) = some (.bl false) := rfl
    unfold w14
    rw [sIf_ev, mTst_ev, m2_ev, mLc_ev]
    simp only [iSeq_ev, mVar_z, mVar_s, bind_ok, seqI_lst, ofO_some, wipe_cons, wipe_nil, List.set_cons_zero, List.set_cons_succ, q, mLst_ev, aNil_ev, List.length_nil, lim_0, if_true, nn, of_ok, selT_f, sNil_ev]
  have x15 : w15 [some (.obj c), some (.obj b), some (.tup [.str m, .str s]), some (.lst (rs.map dR)), some (dC k), some (.tup (WL k.1)), some (.lst odds2), some (.str a), some (.str e), some (.int w), some (.obj b1), some (.lst (toldL rs)), some (.lst (R1.map dR)), some (dC kk), some (.tup (WL kk.1)), some (.tup [.str a2, .str e2]), some (.obj b2), some (.lst (R2.map dR)), some sg, some (.lst [r1, r2]), some (.lst [.bl (!isW (actsL k.1) sg), .bl (!isW (keepsL k.1) sg)]), o21, o22, o23, o24, o25, o26, o27] S9 = .nx [some (.obj c), some (.obj b), some (.tup [.str m, .str s]), some (.lst (rs.map dR)), some (dC k), some (.tup (WL k.1)), some (.lst odds2), some (.str a), some (.str e), some (.int w), some (.obj b1), some (.lst (toldL rs)), some (.lst (R1.map dR)), some (dC kk), some (.tup (WL kk.1)), some (.tup [.str a2, .str e2]), some (.obj b2), some (.lst (R2.map dR)), some sg, some (.lst [r1, r2]), some (.lst [.bl (!isW (actsL k.1) sg), .bl (!isW (keepsL k.1) sg)]), some (.lst ((badL k).take 6)), o22, o23, o24, o25, o26, o27] S9 := by
    rfl
  have x16 : w16 [some (.obj c), some (.obj b), some (.tup [.str m, .str s]), some (.lst (rs.map dR)), some (dC k), some (.tup (WL k.1)), some (.lst odds2), some (.str a), some (.str e), some (.int w), some (.obj b1), some (.lst (toldL rs)), some (.lst (R1.map dR)), some (dC kk), some (.tup (WL kk.1)), some (.tup [.str a2, .str e2]), some (.obj b2), some (.lst (R2.map dR)), some sg, some (.lst [r1, r2]), some (.lst [.bl (!isW (actsL k.1) sg), .bl (!isW (keepsL k.1) sg)]), some (.lst ((badL k).take 6)), o22, o23, o24, o25, o26, o27] S9 = .nx [some (.obj c), some (.obj b), some (.tup [.str m, .str s]), some (.lst (rs.map dR)), some (dC k), some (.tup (WL k.1)), some (.lst odds2), some (.str a), some (.str e), some (.int w), some (.obj b1), some (.lst (toldL rs)), some (.lst (R1.map dR)), some (dC kk), some (.tup (WL kk.1)), some (.tup [.str a2, .str e2]), some (.obj b2), some (.lst (R2.map dR)), some sg, some (.lst [r1, r2]), some (.lst [.bl (!isW (actsL k.1) sg), .bl (!isW (keepsL k.1) sg)]), some (.lst ((badL k).take 8)), o22, o23, o24, o25, o26, o27] S9 := by
    rfl
  have x17 : w17 [some (.obj c), some (.obj b), some (.tup [.str m, .str s]), some (.lst (rs.map dR)), some (dC k), some (.tup (WL k.1)), some (.lst odds2), some (.str a), some (.str e), some (.int w), some (.obj b1), some (.lst (toldL rs)), some (.lst (R1.map dR)), some (dC kk), some (.tup (WL kk.1)), some (.tup [.str a2, .str e2]), some (.obj b2), some (.lst (R2.map dR)), some sg, some (.lst [r1, r2]), some (.lst [.bl (!isW (actsL k.1) sg), .bl (!isW (keepsL k.1) sg)]), some (.lst ((badL k).take 8)), o22, o23, o24, o25, o26, o27] S9 = .nx [some (.obj c), some (.obj b), some (.tup [.str m, .str s]), some (.lst (rs.map dR)), some (dC k), some (.tup (WL k.1)), some (.lst odds2), some (.str a), some (.str e), some (.int w), some (.obj b1), some (.lst (toldL rs)), some (.lst (R1.map dR)), some (dC kk), some (.tup (WL kk.1)), some (.tup [.str a2, .str e2]), some (.obj b2), some (.lst (R2.map dR)), some sg, some (.lst [r1, r2]), some (.lst [.bl (!isW (actsL k.1) sg), .bl (!isW (keepsL k.1) sg)]), some (.lst (badL k)), o22, o23, o24, o25, o26, o27] S9 := by
    rfl
  have x18 : w18 [some (.obj c), some (.obj b), some (.tup [.str m, .str s]), some (.lst (rs.map dR)), some (dC k), some (.tup (WL k.1)), some (.lst odds2), some (.str a), some (.str e), some (.int w), some (.obj b1), some (.lst (toldL rs)), some (.lst (R1.map dR)), some (dC kk), some (.tup (WL kk.1)), some (.tup [.str a2, .str e2]), some (.obj b2), some (.lst (R2.map dR)), some sg, some (.lst [r1, r2]), some (.lst [.bl (!isW (actsL k.1) sg), .bl (!isW (keepsL k.1) sg)]), some (.lst (badL k)), o22, o23, o24, o25, o26, o27] S9 = .nx [some (.obj c), some (.obj b), some (.tup [.str m, .str s]), some (.lst (rs.map dR)), some (dC k), some (.tup (WL k.1)), some (.lst odds2), some (.str a), some (.str e), some (.int w), some (.obj b1), some (.lst (toldL rs)), some (.lst (R1.map dR)), some (dC kk), some (.tup (WL kk.1)), some (.tup [.str a2, .str e2]), some (.obj b2), some (.lst (R2.map dR)), some sg, some (.lst [r1, r2]), some (.lst [.bl (!isW (actsL k.1) sg), .bl (!isW (keepsL k.1) sg)]), some (.lst (badL k)), some th, o23, o24, o25, o26, o27] S10 := by
    unfold w18
    rw [sSet_ev]
    simp only [m2_ev, mCall_ev, aNil_ev, aCons_ev, mVar_z, mVar_s, mC_ev, bind_ok, e18', eth, ofO_some, of_ok, List.set_cons_zero, List.set_cons_succ]
  have x19 : w19 [some (.obj c), some (.obj b), some (.tup [.str m, .str s]), some (.lst (rs.map dR)), some (dC k), some (.tup (WL k.1)), some (.lst odds2), some (.str a), some (.str e), some (.int w), some (.obj b1), some (.lst (toldL rs)), some (.lst (R1.map dR)), some (dC kk), some (.tup (WL kk.1)), some (.tup [.str a2, .str e2]), some (.obj b2), some (.lst (R2.map dR)), some sg, some (.lst [r1, r2]), some (.lst [.bl (!isW (actsL k.1) sg), .bl (!isW (keepsL k.1) sg)]), some (.lst (badL k)), some th, o23, o24, o25, o26, o27] S10 = .nx [some (.obj c), some (.obj b), some (.tup [.str m, .str s]), some (.lst (rs.map dR)), some (dC k), some (.tup (WL k.1)), some (.lst odds2), some (.str a), some (.str e), some (.int w), some (.obj b1), some (.lst (toldL rs)), some (.lst (R1.map dR)), some (dC kk), some (.tup (WL kk.1)), some (.tup [.str a2, .str e2]), some (.obj b2), some (.lst (R2.map dR)), some sg, some (.lst [r1, r2]), some (.lst [.bl (!isW (actsL k.1) sg), .bl (!isW (keepsL k.1) sg)]), some (.lst (badL k)), some th, o23, o24, o25, o26, o27] S10 := by
    have u1 := said3_inv (a := sg) (e := .non) B10b okth vth hw
    have u2 := said2_inv B10b okth vth
    have nn : neO S10 (.lst [.str "case", .str "case"]) (.lst [.str "case", .str "case"]) = some (.bl false) := rfl
    unfold w19
    rw [sIf_ev]
    simp only [mTst_ev, m2_ev, mLst_ev, mTup_ev, mCall_ev, aCons_ev, aNil_ev, mVar_z, mVar_s, mC_ev, bind_ok, List.length_cons, List.length_nil, Nat.zero_add, Nat.reduceAdd, lim_2, lim_3, if_true, u1, u2, ofO_some, nn, of_ok, selT_f, sNil_ev]
  refine ⟨_, S10, ?_, ⟨some (.obj b1), some (.lst (toldL rs)), some (.lst (R1.map dR)), some (dC kk), some (.tup (WL kk.1)), some (.tup [.str a2, .str e2]), some (.obj b2), some (.lst (R2.map dR)), some sg, some (.lst [r1, r2]), some (.lst [.bl (!isW (actsL k.1) sg), .bl (!isW (keepsL k.1) sg)]), some (.lst (badL k)), some th, o23, o24, o25, o26, o27, rfl⟩, k10.mono (by omega), G1.trans (G2.trans (G35.trans (G6.trans (G7.trans (G8.trans (G9.trans G10))))))⟩
  unfold wayBody
  rw [sSeq_ev, x0, seq_nx']
  rw [sSeq_ev, x1, seq_nx']
  rw [sSeq_ev, x2, seq_nx']
  rw [sSeq_ev, x3, seq_nx']
  rw [sSeq_ev, x4, seq_nx']
  rw [sSeq_ev, x5, seq_nx']
  rw [sSeq_ev, x6, seq_nx']
  rw [sSeq_ev, x7, seq_nx']
  rw [sSeq_ev, x8, seq_nx']
  rw [sSeq_ev, x9, seq_nx']
  rw [sSeq_ev, x10, seq_nx']
  rw [sSeq_ev, x11, seq_nx']
  rw [sSeq_ev, x12, seq_nx']
  rw [sSeq_ev, x13, seq_nx']
  rw [sSeq_ev, x14, seq_nx']
  rw [sSeq_ev, x15, seq_nx']
  rw [sSeq_ev, x16, seq_nx']
  rw [sSeq_ev, x17, seq_nx']
  rw [sSeq_ev, x18, seq_nx']
  exact x19
end K05
/-! the plain law of k05: books changed and moved (printed by k05p13.py) -/
namespace K05
open PySem L2 DL
def v0 : MS := (sSet 4 (m2 ixO (mCall F__law_cases aNil) (mCall F__law_tap (aCons (mVar 0) (aCons (mC (.int 20)) aNil)))))
def v1 : MS := (sPar 5 6 (aCons (mCall F__law_book_words (aCons (m2 ixO (mVar 4) (mC (.int 0))) aNil)) (aCons (mLst (aCons (mC (.str "")) (aCons (mC (.str "Wait")) (aCons (mC (.str "any")) (aCons (mC .non) (aCons (mC (.int 1)) (aCons (mLst (aCons (mC (.str "wait")) aNil)) (aCons (mC (.str "nothing")) (aCons (mC (.str "join")) aNil))))))))) aNil)))
def v2 : MS := (sSet 6 (m2 addO (mVar 6) (mLst (aCons (mC (.str "raise seen")) (aCons (mC (.str "take")) aNil)))))
def v3 : MS := (sAsg (mTup (aCons (m2 ixO (m2 ixO (mVar 5) (mC (.int 2))) (mCall F__law_tap (aCons (mVar 0) (aCons (mN lenG (aCons (m2 ixO (mVar 5) (mC (.int 2))) aNil)) aNil)))) (aCons (m2 ixO (m2 ixO (mVar 5) (mC (.int 3))) (mCall F__law_tap (aCons (mVar 0) (aCons (mN lenG (aCons (m2 ixO (mVar 5) (mC (.int 3))) aNil)) aNil)))) aNil))) (bTup 2 (bCons (bName 7) (bCons (bName 8) bNil))))
def v4 : MS := (sFor (iSeq (mTup (aCons (mC (.int 3)) (aCons (mC (.int 4)) aNil)))) (bName 9) wayBody)
def v5 : MS := (sSet 23 (mTup (aCons (m2 ixO (mLst (aCons (mC (.str "termed")) (aCons (mC (.str "bare")) aNil))) (mCall F__law_tap (aCons (mVar 0) (aCons (mC (.int 2)) aNil)))) (aCons (m2 ixO (mLst (aCons (mC (.str "all")) (aCons (mC (.str "key")) aNil))) (mCall F__law_tap (aCons (mVar 0) (aCons (mC (.int 2)) aNil)))) aNil))))
def v6 : MS := (sSet 24 (mCall F__law_said (aCons (m2 addO (mC (.int 5)) (mCall F__law_tap (aCons (mVar 0) (aCons (mC (.int 2)) aNil)))) (aCons (mVar 1) (aCons (mVar 23) aNil)))))
def v7 : MS := (sSet 18 (m2 ixO (mLst (aCons (mC (.str "")) (aCons (mC (.str "Termed")) (aCons (mC .non) (aCons (mC (.int 1)) (aCons (mC (.str "key ")) (aCons (mLst (aCons (mC (.str "all")) aNil)) aNil))))))) (mCall F__law_tap (aCons (mVar 0) (aCons (mC (.int 6)) aNil)))))
def v8 : MS := (sSet 16 (mCall F__law_said (aCons (mC (.int 3)) (aCons (mVar 24) (aCons (mTup (aCons (mVar 4) (aCons (mVar 7) (aCons (mVar 8) aNil)))) aNil)))))
def v9 : MS := (sSet 12 (m2 addO (mLst (aCons (m2 addO (mVar 4) (mTup (aCons (mVar 7) (aCons (mVar 8) aNil)))) aNil)) (mVar 3)))
def v10 : MS := (sSet 12 (mLc (iSeq (mCall F__law_cases aNil)) (bName 25) mYes (m2 addO (mVar 25) (mCall F__law_told (aCons (mVar 12) (aCons (mVar 25) aNil)))) [25]))
def v11 : MS := (sIf (tOr' (tNot' (mTru (mCall F__law_book_right (aCons (mVar 16) (aCons (mVar 23) (aCons (mVar 12) aNil)))))) (tNot' (mTru (mCall F__law_book_right (aCons (mCall F__law_said (aCons (mC (.int 5)) (aCons (mVar 16) (aCons (mVar 2) aNil)))) (aCons (mVar 2) (aCons (mVar 12) aNil))))))) (sRet (mC (.bl false))) sNil)
def v12 : MS := (sIf (tOr' (tNot' (mTru (mCall F__law_book_right (aCons (mVar 24) (aCons (mVar 23) (aCons (mVar 3) aNil)))))) (mTst (m2 neO (mCall F__law_said (aCons (mC (.int 5)) (aCons (mVar 1) (aCons (mTup (aCons (mVar 18) (aCons (m2 ixO (mVar 23) (mC (.int 1))) aNil))) aNil)))) (mC (.str "book"))))) (sRet (mC (.bl false))) sNil)
def v13 : MS := (sRet (mAnd (m2 eqO (mCall F__law_said (aCons (mC (.int 6)) (aCons (mVar 1) (aCons (mTup (aCons (m2 ixO (mVar 23) (mC (.int 0))) (aCons (mVar 18) aNil))) aNil)))) (mC (.str "book"))) (mCall F__law_book_right (aCons (mVar 1) (aCons (mVar 2) (aCons (mVar 3) aNil))))))
def chgBody : MS := (sSeq v0 (sSeq v1 (sSeq v2 (sSeq v3 (sSeq v4 (sSeq v5 (sSeq v6 (sSeq v7 (sSeq v8 (sSeq v9 (sSeq v10 (sSeq v11 (sSeq v12 v13)))))))))))))
theorem chg_eq : m__law_change_right = chgBody := rfl
def odds3 : List D := [.str "", .str "Termed", .non, .int 1, .str "key ", .lst [.str "all"]]
theorem odds3_ok : ∀ x ∈ odds3, okV x = true ∧ isW FORMS x = false ∧ isW SCOPES x = false := by
  have z : odds3.all (fun x => okV x && (!isW FORMS x && !isW SCOPES x)) = true := by decide +kernel
  intro x hx
  simpa using List.all_eq_true.mp z x hx
theorem good_ms {m s : Str} (hm : m ∈ FORMS) (hs : s ∈ SCOPES) : goodForm (.str m) (.str s) = true := by simp [goodForm, isW, hm, hs]
theorem way56 {w : Nat} (h : w < 2) : ((5 : Int) + (w : Int) = 5 ∨ (5 : Int) + (w : Int) = 6) := by omega
theorem change_right {S : Sto} {c n b : Nat} {m s : Str} {rs : List Row} (h : Ck S c n) (hn : n + 200 < 10 ^ 8) (hB : Bk S b (.str m) (.str s) rs) (hbc : b ≠ c) (hm : m ∈ FORMS) (hs : s ∈ SCOPES) (hr : ∀ r ∈ rs, goodRow r) (hl : rs.length ≤ 40) :
    ∃ S', F__law_change_right [.obj c, .obj b, .tup [.str m, .str s], .lst (rs.map dR)] S = .ok (.bl true) S' ∧ Ck S' c (n + 50) ∧ Gr c S S' := by
  have hg := good_ms hm hs
  obtain ⟨d0, T0, e0, hd0, k0, l0, G0⟩ := tap (span := 20) h (by omega) (by decide) (by decide)
  have e0' : F__law_tap [.obj c, .int 20] S = .ok (.int d0) T0 := e0
  obtain ⟨x0, hx0, ex0, _, _⟩ := ix_nat (S := T0) (xs := CASES.map dC) (n := d0) (by rw [len_cases]; exact hd0)
  obtain ⟨k, hk, rfl⟩ := List.mem_map.mp hx0
  have dw := (case_dw hk).1
  have lw : (0 < (actsL k.1).length ∧ (actsL k.1).length < 1000) ∧ (0 < (keepsL k.1).length ∧ (keepsL k.1).length < 1000) := by rcases mem_DW dw with q | q | q <;> rw [q] <;> decide
  obtain ⟨d1, T1, e1, hd1, k1, l1, G1⟩ := tap (span := (actsL k.1).length) k0 (by omega) lw.1.1 (by omega)
  obtain ⟨xa, hxa, _, exa, _⟩ := ix_nat (S := T1) (xs := (actsL k.1).map D.str) (n := d1) (by rw [List.length_map]; exact hd1)
  obtain ⟨a, ha, rfl⟩ := List.mem_map.mp hxa
  obtain ⟨d2, T2, e2, hd2, k2, l2, G2⟩ := tap (span := (keepsL k.1).length) k1 (by omega) lw.2.1 (by omega)
  obtain ⟨xe, hxe, _, exe, _⟩ := ix_nat (S := T2) (xs := (keepsL k.1).map D.str) (n := d2) (by rw [List.length_map]; exact hd2)
  obtain ⟨e, he, rfl⟩ := List.mem_map.mp hxe
  have hp : goodPair k (a, e) := ⟨ha, he⟩
  have H2 : Gr c S T2 := G0.trans (G1.trans G2)
  obtain ⟨ρ3, T3, w3', ⟨o10, o11, o12, o13, o14, o15, o16, o17, o18, o19, o20, o21, o22, o23, o24, o25, o26, o27, hρ3⟩, k3, G3⟩ := wayBody_ok (w := 3) (o10 := none) (o11 := none) (o12 := none) (o13 := none) (o14 := none) (o15 := none) (o16 := none) (o17 := none) (o18 := none) (o19 := none) (o20 := none) (o21 := none) (o22 := none) (o23 := none) (o24 := none) (o25 := none) (o26 := none) (o27 := none) k2 (by omega) (H2.at_ hbc hB) hbc hg hr hl hk hp (.inl rfl)
  have H3 : Gr c S T3 := H2.trans G3
  obtain ⟨ρ4, T4, w4', ⟨p10, p11, p12, p13, p14, p15, p16, p17, p18, p19, p20, p21, p22, p23, p24, p25, p26, p27, hρ4⟩, k4, G4⟩ := wayBody_ok (w := 4) (o10 := o10) (o11 := o11) (o12 := o12) (o13 := o13) (o14 := o14) (o15 := o15) (o16 := o16) (o17 := o17) (o18 := o18) (o19 := o19) (o20 := o20) (o21 := o21) (o22 := o22) (o23 := o23) (o24 := o24) (o25 := o25) (o26 := o26) (o27 := o27) k3 (by omega) (H3.at_ hbc hB) hbc hg hr hl hk hp (.inr rfl)
  have H4 : Gr c S T4 := H3.trans G4
  obtain ⟨d5, T5, e5, hd5, k5, l5, G5⟩ := tap (span := 2) k4 (by omega) (by decide) (by decide)
  have e5' : F__law_tap [.obj c, .int 2] T4 = .ok (.int d5) T5 := e5
  obtain ⟨xm, hxm, exm, _, _⟩ := ix_nat (S := T5) (xs := FORMS.map D.str) (n := d5) hd5
  obtain ⟨m2, hm2, rfl⟩ := List.mem_map.mp hxm
  obtain ⟨d6, T6, e6, hd6, k6, l6, G6⟩ := tap (span := 2) k5 (by omega) (by decide) (by decide)
  have e6' : F__law_tap [.obj c, .int 2] T5 = .ok (.int d6) T6 := e6
  obtain ⟨xs2, hxs2, exs2, _, _⟩ := ix_nat (S := T6) (xs := SCOPES.map D.str) (n := d6) hd6
  obtain ⟨s2, hs2, rfl⟩ := List.mem_map.mp hxs2
  have hg2 := good_ms hm2 hs2
  obtain ⟨d7, T7, e7, hd7, k7, l7, G7⟩ := tap (span := 2) k6 (by omega) (by decide) (by decide)
  have e7' : F__law_tap [.obj c, .int 2] T6 = .ok (.int d7) T7 := e7
  have H7 : Gr c S T7 := H4.trans (G5.trans (G6.trans G7))
  have B7 : Bk T7 b (.str m) (.str s) rs := H7.at_ hbc hB
  obtain ⟨T8, hT8⟩ : ∃ T8, T8 = T7 ++ [bk (.str m2) (.str s2) (rs.map dR)] := ⟨_, rfl⟩
  obtain ⟨b1, hb1⟩ : ∃ b1, b1 = T7.length := ⟨_, rfl⟩
  have f8 : F__law_said [.int (5 + (d7 : Int)), .obj b, .tup [.str m2, .str s2]] T7 = .ok (.obj b1) T8 := by rw [hT8, hb1]; exact said5_ok B7 hr hl rfl rfl hg2 (way56 hd7)
  have B8 : Bk T8 b1 (.str m2) (.str s2) rs := by rw [hT8, hb1]; exact get_last
  have k8 : Ck T8 c (n + 26) := by rw [hT8]; exact k7.app.mono (by omega)
  have hb1c : b1 ≠ c := by have := k7.lt; omega
  have G8 : Gr c T7 T8 := by rw [hT8]; exact .app
  obtain ⟨d9, T9, e9, hd9, k9, l9, G9⟩ := tap (span := 6) k8 (by omega) (by decide) (by decide)
  have e9' : F__law_tap [.obj c, .int 6] T8 = .ok (.int d9) T9 := e9
  obtain ⟨sg, hsg, esg, _, _⟩ := ix_nat (S := T9) (xs := odds3) (n := d9) hd9
  obtain ⟨vsg, nf, ns⟩ := odds3_ok sg hsg
  have H9 : Gr c S T9 := H7.trans (G8.trans G9)
  have B9 : Bk T9 b (.str m) (.str s) rs := H9.at_ hbc hB
  have B91 : Bk T9 b1 (.str m2) (.str s2) rs := G9.at_ hb1c B8
  obtain ⟨R, hR⟩ : ∃ R, R = withRows rs k (a, e) := ⟨_, rfl⟩
  have hRg : ∀ r ∈ R, goodRow r := by rw [hR]; exact withRows_good hr hp
  have hRl : R.length = 20 := by rw [hR]; exact withRows_len _
  obtain ⟨T10, hT10⟩ : ∃ T10, T10 = T9 ++ [bk (.str m2) (.str s2) (R.map dR)] := ⟨_, rfl⟩
  obtain ⟨b2, hb2⟩ : ∃ b2, b2 = T9.length := ⟨_, rfl⟩
  have f10 : F__law_said [.int 3, .obj b1, .tup [dC k, .str a, .str e]] T9 = .ok (.obj b2) T10 := by rw [hT10, hb2, hR]; exact said3_ok B91 rfl rfl hg2 hr hk hp (.inl rfl)
  have B10 : Bk T10 b2 (.str m2) (.str s2) R := by rw [hT10, hb2]; exact get_last
  obtain ⟨l11, f11⟩ := book_right B10 (by omega)
  obtain ⟨T11, hT11⟩ : ∃ T11, T11 = T10 ++ l11 := ⟨_, rfl⟩
  rw [← hT11] at f11
  have B11 : Bk T11 b2 (.str m2) (.str s2) R := by rw [hT11]; exact B10.app
  obtain ⟨T12, hT12⟩ : ∃ T12, T12 = T11 ++ [bk (.str m) (.str s) (R.map dR)] := ⟨_, rfl⟩
  obtain ⟨b3, hb3⟩ : ∃ b3, b3 = T11.length := ⟨_, rfl⟩
  have f12 : F__law_said [.int 5, .obj b2, .tup [.str m, .str s]] T11 = .ok (.obj b3) T12 := by rw [hT12, hb3]; exact said5_ok B11 hRg (by omega) rfl rfl hg (.inl rfl)
  have B12 : Bk T12 b3 (.str m) (.str s) R := by rw [hT12, hb3]; exact get_last
  obtain ⟨l13, f13⟩ := book_right B12 (by omega)
  obtain ⟨T13, hT13⟩ : ∃ T13, T13 = T12 ++ l13 := ⟨_, rfl⟩
  rw [← hT13] at f13
  have G13 : Gr c T9 T13 := by rw [hT13, hT12, hT11, hT10]; exact Gr.app.trans (Gr.app.trans (Gr.app.trans .app))
  have k13 : Ck T13 c (n + 30) := by rw [hT13, hT12, hT11, hT10]; exact k9.app.app.app.app.mono (by omega)
  have B13 : Bk T13 b1 (.str m2) (.str s2) rs := G13.at_ hb1c B91
  have B13b : Bk T13 b (.str m) (.str s) rs := G13.at_ hbc B9
  obtain ⟨l14, f14⟩ := book_right B13 (by omega)
  obtain ⟨T14, hT14⟩ : ∃ T14, T14 = T13 ++ l14 := ⟨_, rfl⟩
  rw [← hT14] at f14
  have B14 : Bk T14 b (.str m) (.str s) rs := by rw [hT14]; exact B13b.app
  have f15 := said5_bad B14 (m2 := sg) (s2 := .str s2) hl vsg rfl (by unfold goodForm; rw [nf]; rfl) (w := 5) (.inl rfl)
  have B15 : Bk (T14 ++ [.ins 4 []]) b (.str m) (.str s) rs := B14.app
  have f16 := said5_bad B15 (m2 := .str m2) (s2 := sg) hl rfl vsg (by unfold goodForm; rw [ns, Bool.and_false]) (w := 6) (.inr rfl)
  obtain ⟨l17, f17⟩ := book_right (B15.app (l := [.ins 4 []])) (by omega)
  have x0 : v0 [some (.obj c), some (.obj b), some (.tup [.str m, .str s]), some (.lst (rs.map dR)), none, none, none, none, none, none, none, none, none, none, none, none, none, none, none, none, none, none, none, none, none, none, none, none] S = .nx [some (.obj c), some (.obj b), some (.tup [.str m, .str s]), some (.lst (rs.map dR)), some (dC k), none, none, none, none, none, none, none, none, none, none, none, none, none, none, none, none, none, none, none, none, none, none, none] T0 := by
    unfold v0
    rw [sSet_ev]
    simp only [mCall_ev, aCons_ev, aNil_ev, mVar_z, mVar_s, mC_ev, bind_ok, mTup_ev, mLst_ev, m2_ev, mN_ev, ofO_some, List.length_cons, List.length_nil, Nat.zero_add, Nat.reduceAdd, lim_1, lim_2, lim_3, lim_4, lim_5, lim_6, if_true, of_ok, List.set_cons_zero, List.set_cons_succ, law_cases_ok, e0', ex0]
  have x1 : v1 [some (.obj c), some (.obj b), some (.tup [.str m, .str s]), some (.lst (rs.map dR)), some (dC k), none, none, none, none, none, none, none, none, none, none, none, none, none, none, none, none, none, none, none, none, none, none, none] T0 = .nx [some (.obj c), some (.obj b), some (.tup [.str m, .str s]), some (.lst (rs.map dR)), some (dC k), some (.tup (WL k.1)), some (.lst (odds2.take 8)), none, none, none, none, none, none, none, none, none, none, none, none, none, none, none, none, none, none, none, none, none] T0 := by
    have q : ∀ (ρ : DL.Env), mLst (aCons (mC (.str "")) (aCons (mC (.str "Wait")) (aCons (mC (.str "any")) (aCons (mC .non) (aCons (mC (.int 1)) (aCons (mLst (aCons (mC (.str "wait")) aNil)) (aCons (mC (.str "nothing")) (aCons (mC (.str "join")) aNil)))))))) ρ T0 = .ok (.lst (odds2.take 8)) T0 := fun _ => rfl
    unfold v1
    rw [sPar_ev, aCons_ev]
    simp only [mCall_ev, aCons_ev, aNil_ev, m2_ev, mVar_z, mVar_s, mC_ev, bind_ok, dC0, ofO_some, wordsL dw, q, of_ok, List.set_cons_zero, List.set_cons_succ]
  have x2 : v2 [some (.obj c), some (.obj b), some (.tup [.str m, .str s]), some (.lst (rs.map dR)), some (dC k), some (.tup (WL k.1)), some (.lst (odds2.take 8)), none, none, none, none, none, none, none, none, none, none, none, none, none, none, none, none, none, none, none, none, none] T0 = .nx [some (.obj c), some (.obj b), some (.tup [.str m, .str s]), some (.lst (rs.map dR)), some (dC k), some (.tup (WL k.1)), some (.lst odds2), none, none, none, none, none, none, none, none, none, none, none, none, none, none, none, none, none, none, none, none, none] T0 := by
    rfl
  have x3 : v3 [some (.obj c), some (.obj b), some (.tup [.str m, .str s]), some (.lst (rs.map dR)), some (dC k), some (.tup (WL k.1)), some (.lst odds2), none, none, none, none, none, none, none, none, none, none, none, none, none, none, none, none, none, none, none, none, none] T0 = .nx [some (.obj c), some (.obj b), some (.tup [.str m, .str s]), some (.lst (rs.map dR)), some (dC k), some (.tup (WL k.1)), some (.lst odds2), some (.str a), some (.str e), none, none, none, none, none, none, none, none, none, none, none, none, none, none, none, none, none, none, none] T2 := by
    have u5 : F__law_tap [.obj c, .int ((actsL k.1).map D.str).length] T0 = .ok (.int d1) T1 := by rw [List.length_map]; exact e1
    have u6 : F__law_tap [.obj c, .int ((keepsL k.1).map D.str).length] T1 = .ok (.int d2) T2 := by rw [List.length_map]; exact e2
    have g2 : ∀ S : Sto, ixO S (.tup (WL k.1)) (.int 2) = some (tS (actsL k.1)) := fun _ => ix_t2
    have g3 : ∀ S : Sto, ixO S (.tup (WL k.1)) (.int 3) = some (tS (keepsL k.1)) := fun _ => ix_t3
    unfold v3
    rw [sAsg_ev]
    simp only [mTup_ev, m2_ev, mN_ev, mCall_ev, aNil_ev, aCons_ev, mVar_z, mVar_s, mC_ev, bind_ok, g2, g3, len_tup, u5, u6, exa, exe, ofO_some, List.length_cons, List.length_nil, Nat.zero_add, Nat.reduceAdd, lim_2, if_true, of_ok, bTup_ev, bCons_ev, bName_ev, Option.bind_some, bNil_ev, List.set_cons_zero, List.set_cons_succ]
  have x4 : v4 [some (.obj c), some (.obj b), some (.tup [.str m, .str s]), some (.lst (rs.map dR)), some (dC k), some (.tup (WL k.1)), some (.lst odds2), some (.str a), some (.str e), none, none, none, none, none, none, none, none, none, none, none, none, none, none, none, none, none, none, none] T2 = .nx [some (.obj c), some (.obj b), some (.tup [.str m, .str s]), some (.lst (rs.map dR)), some (dC k), some (.tup (WL k.1)), some (.lst odds2), some (.str a), some (.str e), some (.int 4), p10, p11, p12, p13, p14, p15, p16, p17, p18, p19, p20, p21, p22, p23, p24, p25, p26, p27] T4 := by
    unfold v4
    rw [sFor_ev]
    simp only [iSeq_ev, mTup_ev, aCons_ev, aNil_ev, mC_ev, bind_ok, List.length_cons, List.length_nil, Nat.zero_add, Nat.reduceAdd, lim_2, if_true, seqI_tup, ofO_some, of_ok]
    rw [forL_cons]
    simp only [bName_ev, List.set_cons_zero, List.set_cons_succ, w3']
    rw [hρ3, forL_cons]
    simp only [bName_ev, List.set_cons_zero, List.set_cons_succ, w4']
    rw [hρ4]
    rfl
  have x5 : v5 [some (.obj c), some (.obj b), some (.tup [.str m, .str s]), some (.lst (rs.map dR)), some (dC k), some (.tup (WL k.1)), some (.lst odds2), some (.str a), some (.str e), some (.int 4), p10, p11, p12, p13, p14, p15, p16, p17, p18, p19, p20, p21, p22, p23, p24, p25, p26, p27] T4 = .nx [some (.obj c), some (.obj b), some (.tup [.str m, .str s]), some (.lst (rs.map dR)), some (dC k), some (.tup (WL k.1)), some (.lst odds2), some (.str a), some (.str e), some (.int 4), p10, p11, p12, p13, p14, p15, p16, p17, p18, p19, p20, p21, p22, some (.tup [.str m2, .str s2]), p24, p25, p26, p27] T6 := by
    have em : ixO T5 (.lst [.str "termed", .str "bare"]) (.int d5) = some (.str m2) := exm
    have es : ixO T6 (.lst [.str "all", .str "key"]) (.int d6) = some (.str s2) := exs2
    unfold v5
    rw [sSet_ev]
    simp only [mCall_ev, aCons_ev, aNil_ev, mVar_z, mVar_s, mC_ev, bind_ok, mTup_ev, mLst_ev, m2_ev, mN_ev, ofO_some, List.length_cons, List.length_nil, Nat.zero_add, Nat.reduceAdd, lim_1, lim_2, lim_3, lim_4, lim_5, lim_6, if_true, of_ok, List.set_cons_zero, List.set_cons_succ, e5', e6', em, es]
  have x6 : v6 [some (.obj c), some (.obj b), some (.tup [.str m, .str s]), some (.lst (rs.map dR)), some (dC k), some (.tup (WL k.1)), some (.lst odds2), some (.str a), some (.str e), some (.int 4), p10, p11, p12, p13, p14, p15, p16, p17, p18, p19, p20, p21, p22, some (.tup [.str m2, .str s2]), p24, p25, p26, p27] T6 = .nx [some (.obj c), some (.obj b), some (.tup [.str m, .str s]), some (.lst (rs.map dR)), some (dC k), some (.tup (WL k.1)), some (.lst odds2), some (.str a), some (.str e), some (.int 4), p10, p11, p12, p13, p14, p15, p16, p17, p18, p19, p20, p21, p22, some (.tup [.str m2, .str s2]), some (.obj b1), p25, p26, p27] T8 := by
    unfold v6
    rw [sSet_ev]
    simp only [mCall_ev, aCons_ev, aNil_ev, mVar_z, mVar_s, mC_ev, bind_ok, mTup_ev, mLst_ev, m2_ev, mN_ev, ofO_some, List.length_cons, List.length_nil, Nat.zero_add, Nat.reduceAdd, lim_1, lim_2, lim_3, lim_4, lim_5, lim_6, if_true, of_ok, List.set_cons_zero, List.set_cons_succ, e7', add_ii, f8]
  have x7 : v7 [some (.obj c), some (.obj b), some (.tup [.str m, .str s]), some (.lst (rs.map dR)), some (dC k), some (.tup (WL k.1)), some (.lst odds2), some (.str a), some (.str e), some (.int 4), p10, p11, p12, p13, p14, p15, p16, p17, p18, p19, p20, p21, p22, some (.tup [.str m2, .str s2]), some (.obj b1), p25, p26, p27] T8 = .nx [some (.obj c), some (.obj b), some (.tup [.str m, .str s]), some (.lst (rs.map dR)), some (dC k), some (.tup (WL k.1)), some (.lst odds2), some (.str a), some (.str e), some (.int 4), p10, p11, p12, p13, p14, p15, p16, p17, some sg, p19, p20, p21, p22, some (.tup [.str m2, .str s2]), some (.obj b1), p25, p26, p27] T9 := by
    have eg : ixO T9 (.lst [.str "", .str "Termed", .non, .int 1, .str "key ", .lst [.str "all"]]) (.int d9) = some sg := esg
    unfold v7
    rw [sSet_ev]
    simp only [mCall_ev, aCons_ev, aNil_ev, mVar_z, mVar_s, mC_ev, bind_ok, mTup_ev, mLst_ev, m2_ev, mN_ev, ofO_some, List.length_cons, List.length_nil, Nat.zero_add, Nat.reduceAdd, lim_1, lim_2, lim_3, lim_4, lim_5, lim_6, if_true, of_ok, List.set_cons_zero, List.set_cons_succ, e9', eg]
  have x8 : v8 [some (.obj c), some (.obj b), some (.tup [.str m, .str s]), some (.lst (rs.map dR)), some (dC k), some (.tup (WL k.1)), some (.lst odds2), some (.str a), some (.str e), some (.int 4), p10, p11, p12, p13, p14, p15, p16, p17, some sg, p19, p20, p21, p22, some (.tup [.str m2, .str s2]), some (.obj b1), p25, p26, p27] T9 = .nx [some (.obj c), some (.obj b), some (.tup [.str m, .str s]), some (.lst (rs.map dR)), some (dC k), some (.tup (WL k.1)), some (.lst odds2), some (.str a), some (.str e), some (.int 4), p10, p11, p12, p13, p14, p15, some (.obj b2), p17, some sg, p19, p20, p21, p22, some (.tup [.str m2, .str s2]), some (.obj b1), p25, p26, p27] T10 := by
    unfold v8
    rw [sSet_ev]
    simp only [mCall_ev, aCons_ev, aNil_ev, mVar_z, mVar_s, mC_ev, bind_ok, mTup_ev, mLst_ev, m2_ev, mN_ev, ofO_some, List.length_cons, List.length_nil, Nat.zero_add, Nat.reduceAdd, lim_1, lim_2, lim_3, lim_4, lim_5, lim_6, if_true, of_ok, List.set_cons_zero, List.set_cons_succ, f10]
  have x9 : v9 [some (.obj c), some (.obj b), some (.tup [.str m, .str s]), some (.lst (rs.map dR)), some (dC k), some (.tup (WL k.1)), some (.lst odds2), some (.str a), some (.str e), some (.int 4), p10, p11, p12, p13, p14, p15, some (.obj b2), p17, some sg, p19, p20, p21, p22, some (.tup [.str m2, .str s2]), some (.obj b1), p25, p26, p27] T10 = .nx [some (.obj c), some (.obj b), some (.tup [.str m, .str s]), some (.lst (rs.map dR)), some (dC k), some (.tup (WL k.1)), some (.lst odds2), some (.str a), some (.str e), some (.int 4), p10, p11, some (.lst ((rowOf k (a, e) :: rs).map dR)), p13, p14, p15, some (.obj b2), p17, some sg, p19, p20, p21, p22, some (.tup [.str m2, .str s2]), some (.obj b1), p25, p26, p27] T10 := by
    have q : addO T10 (.lst [dR (rowOf k (a, e))]) (.lst (rs.map dR)) = some (.lst ((rowOf k (a, e) :: rs).map dR)) := addL (by rw [List.length_singleton, List.length_map]; omega)
    unfold v9
    rw [sSet_ev]
    simp only [mCall_ev, aCons_ev, aNil_ev, mVar_z, mVar_s, mC_ev, bind_ok, mTup_ev, mLst_ev, m2_ev, mN_ev, ofO_some, List.length_cons, List.length_nil, Nat.zero_add, Nat.reduceAdd, lim_1, lim_2, lim_3, lim_4, lim_5, lim_6, if_true, of_ok, List.set_cons_zero, List.set_cons_succ, add_row2, q]
  have x10 : v10 [some (.obj c), some (.obj b), some (.tup [.str m, .str s]), some (.lst (rs.map dR)), some (dC k), some (.tup (WL k.1)), some (.lst odds2), some (.str a), some (.str e), some (.int 4), p10, p11, some (.lst ((rowOf k (a, e) :: rs).map dR)), p13, p14, p15, some (.obj b2), p17, some sg, p19, p20, p21, p22, some (.tup [.str m2, .str s2]), some (.obj b1), p25, p26, p27] T10 = .nx [some (.obj c), some (.obj b), some (.tup [.str m, .str s]), some (.lst (rs.map dR)), some (dC k), some (.tup (WL k.1)), some (.lst odds2), some (.str a), some (.str e), some (.int 4), p10, p11, some (.lst (R.map dR)), p13, p14, p15, some (.obj b2), p17, some sg, p19, p20, p21, p22, some (.tup [.str m2, .str s2]), some (.obj b1), p25, p26, p27] T10 := by
    have q := lc_due3 (S := T10) (ρ := [some (.obj c), some (.obj b), some (.tup [.str m, .str s]), some (.lst (rs.map dR)), some (dC k), some (.tup (WL k.1)), some (.lst odds2), some (.str a), some (.str e), some (.int 4), p10, p11, some (.lst ((rowOf k (a, e) :: rs).map dR)), p13, p14, p15, some (.obj b2), p17, some sg, p19, p20, p21, p22, some (.tup [.str m2, .str s2]), some (.obj b1), none, p26, p27]) (i := 25) (j := 12) (rs := rowOf k (a, e) :: rs) (fun _ => rfl) (by simp)
    have q2 : (CASES.map fun k' => rowOf k' (told (rowOf k (a, e) :: rs) k')) = R := by
      rw [hR]
      unfold withRows
      exact List.map_congr_left fun k' hk' => by rw [told_cons hk hk']
    rw [q2] at q
    unfold v10
    rw [sSet_ev, mLc_ev]
    simp only [iSeq_ev, mCall_ev, aNil_ev, bind_ok, law_cases_ok, seqI_lst, ofO_some, wipe_cons, wipe_nil, List.set_cons_zero, List.set_cons_succ, q, of_ok]
  have x11 : v11 [some (.obj c), some (.obj b), some (.tup [.str m, .str s]), some (.lst (rs.map dR)), some (dC k), some (.tup (WL k.1)), some (.lst odds2), some (.str a), some (.str e), some (.int 4), p10, p11, some (.lst (R.map dR)), p13, p14, p15, some (.obj b2), p17, some sg, p19, p20, p21, p22, some (.tup [.str m2, .str s2]), some (.obj b1), p25, p26, p27] T10 = .nx [some (.obj c), some (.obj b), some (.tup [.str m, .str s]), some (.lst (rs.map dR)), some (dC k), some (.tup (WL k.1)), some (.lst odds2), some (.str a), some (.str e), some (.int 4), p10, p11, some (.lst (R.map dR)), p13, p14, p15, some (.obj b2), p17, some sg, p19, p20, p21, p22, some (.tup [.str m2, .str s2]), some (.obj b1), p25, p26, p27] T13 := by
    unfold v11
    rw [sIf_ev]
    simp only [or_ev, mTru_ev, not_ev, mCall_ev, aCons_ev, aNil_ev, mVar_z, mVar_s, mC_ev, bind_ok, ofO_some, tru_b, selT_f, f11, f12, f13, Bool.not_true, of_ok, sNil_ev]
  have x12 : v12 [some (.obj c), some (.obj b), some (.tup [.str m, .str s]), some (.lst (rs.map dR)), some (dC k), some (.tup (WL k.1)), some (.lst odds2), some (.str a), some (.str e), some (.int 4), p10, p11, some (.lst (R.map dR)), p13, p14, p15, some (.obj b2), p17, some sg, p19, p20, p21, p22, some (.tup [.str m2, .str s2]), some (.obj b1), p25, p26, p27] T13 = .nx [some (.obj c), some (.obj b), some (.tup [.str m, .str s]), some (.lst (rs.map dR)), some (dC k), some (.tup (WL k.1)), some (.lst odds2), some (.str a), some (.str e), some (.int 4), p10, p11, some (.lst (R.map dR)), p13, p14, p15, some (.obj b2), p17, some sg, p19, p20, p21, p22, some (.tup [.str m2, .str s2]), some (.obj b1), p25, p26, p27] (T14 ++ [.ins 4 []]) := by
    unfold v12
    rw [sIf_ev]
    simp only [or_ev, mTru_ev, mTst_ev, not_ev, mCall_ev, mTup_ev, aCons_ev, aNil_ev, mVar_z, mVar_s, mC_ev, bind_ok, ofO_some, tru_b, selT_f, f14, m2_ev, ix_t0, ix_t1, List.length_cons, List.length_nil, Nat.zero_add, Nat.reduceAdd, lim_2, if_true, f15, neO_str, decide_true, Bool.not_true, of_ok, sNil_ev]
  have x13 : v13 [some (.obj c), some (.obj b), some (.tup [.str m, .str s]), some (.lst (rs.map dR)), some (dC k), some (.tup (WL k.1)), some (.lst odds2), some (.str a), some (.str e), some (.int 4), p10, p11, some (.lst (R.map dR)), p13, p14, p15, some (.obj b2), p17, some sg, p19, p20, p21, p22, some (.tup [.str m2, .str s2]), some (.obj b1), p25, p26, p27] (T14 ++ [.ins 4 []]) = .rt (.bl true) (T14 ++ [.ins 4 []] ++ [.ins 4 []] ++ l17) := by
    unfold v13
    rw [sRet_ev]
    simp only [mAnd_ev, mCall_ev, mTup_ev, aCons_ev, aNil_ev, mVar_z, mVar_s, mC_ev, bind_ok, ofO_some, tru_b, selB_t, m2_ev, ix_t0, ix_t1, List.length_cons, List.length_nil, Nat.zero_add, Nat.reduceAdd, lim_2, if_true, f16, eqO_str, decide_true, f17, of_ok]
  refine ⟨T14 ++ [.ins 4 []] ++ [.ins 4 []] ++ l17, ?_, ?_, ?_⟩
  rotate_left
  · rw [hT14]
    exact k13.app.app.app.app.mono (by omega)
  · exact H9.trans (G13.trans (by rw [hT14]; exact Gr.app.trans (Gr.app.trans (Gr.app.trans .app))))
  have hx : chgBody [some (.obj c), some (.obj b), some (.tup [.str m, .str s]), some (.lst (rs.map dR)), none, none, none, none, none, none, none, none, none, none, none, none, none, none, none, none, none, none, none, none, none, none, none, none] S = .rt (.bl true) (T14 ++ [.ins 4 []] ++ [.ins 4 []] ++ l17) := by
    unfold chgBody
    rw [sSeq_ev, x0, seq_nx']
    rw [sSeq_ev, x1, seq_nx']
    rw [sSeq_ev, x2, seq_nx']
    rw [sSeq_ev, x3, seq_nx']
    rw [sSeq_ev, x4, seq_nx']
    rw [sSeq_ev, x5, seq_nx']
    rw [sSeq_ev, x6, seq_nx']
    rw [sSeq_ev, x7, seq_nx']
    rw [sSeq_ev, x8, seq_nx']
    rw [sSeq_ev, x9, seq_nx']
    rw [sSeq_ev, x10, seq_nx']
    rw [sSeq_ev, x11, seq_nx']
    rw [sSeq_ev, x12, seq_nx']
    exact x13
  rw [ev__law_change_right, chg_eq]
  exact (congrArg OS.fin hx).trans (fin_rt ..)
end K05
/-! the plain law of k05: what is due, and books beside books -/
namespace K05
open PySem L2 DL
theorem isi_objC {S : Sto} {i : Nat} {m s : D} {ys : List D} (h : S[i]? = some (bk m s ys)) : isiI CS S [.obj i, .cls 4] = some (.bl true) := by
  show ((tcI CS S (.obj i)).bind fun t => (clI CS (.cls 4)).map fun k => D.bl (subI t k)) = _
  have : tcI CS S (.obj i) = some (.inr 4) := by simp [tcI, h]
  rw [this]
  kernel_rfl
theorem isi_lstC {S : Sto} {ys : List D} : isiI CS S [.lst ys, .cls 4] = some (.bl false) := by kernel_rfl
theorem isi_ty (S : Sto) (d : D) (hd : okV d = true) : isiI CS S [d, .ty "str"] = some (.bl (isS d)) := by
  cases d with
  | dct k => cases k with
    | nil => simp [isS]
    | cons _ _ => cases hd
  | str s => simp [isS]
  | non => simp [isS]
  | bl b => simp [isS]
  | int b => simp [isS]
  | tup b => simp [isS]
  | lst b => simp [isS]
  | _ => cases hd
theorem cond_word {m me : ME} {ws : List Str} {d : D} {ρ : DL.Env} {S : Sto} (h1 : m ρ S = .ok d S) (hd : okV d = true) (h2 : me ρ S = .ok (tS ws) S) :
    tOr' (tNot' (mTru (mN (isiI CS) (aCons m (aCons (mC (.ty "str")) aNil))))) (mTst (m2 ninD m me)) ρ S = .ok (!isW ws d) S := by
  rw [or_ev, not_ev, mTru_ev, mN_ev, aCons_ev, h1]
  simp only [bind_ok, aCons_ev, mC_ev, aNil_ev, isi_ty S d hd, ofO_some, tru_b]
  cases d with
  | str s => simp only [isS, Bool.not_true, selT_f, mTst_ev, m2_ev, h1, bind_ok, h2, ninD_strs, ofO_some, isW]
  | dct k => cases k with
    | nil => simp [isS, isW]
    | cons _ _ => cases hd
  | _ => first | cases hd; done | simp [isS, isW]
def Thing (x : D) : Prop := (∃ ys, x = .lst ys ∧ (∀ y ∈ ys, BR y) ∧ ys.length ≤ 60) ∨ ((∃ ys, x = .tup ys) ∨ x = .non ∨ x = .str "rows")
def rowsGood : D → Bool
  | .lst ys => goodRows ys
  | _ => false
def goodG (m s x : D) : Bool := goodForm m s && rowsGood x
theorem row_filter {S : Sto} {ys : List D} (hy : ∀ y ∈ ys, BR y) (hl : ys.length ≤ 60) (g : D) : lcL (bName 1) (tNot' (mTru (mCall F__law_row_good (aCons (mVar 1) aNil)))) (mVar 1) [some g, none] ys [] S = .ok (ys.filter fun y => !validRow y) S := by
  have q := lcL_map (bd := bName 1) (t := tNot' (mTru (mCall F__law_row_good (aCons (mVar 1) aNil)))) (m := mVar 1) (ρ := [some g, none]) (S := S) (fun d => !validRow d) id ys [] (fun d hd => ⟨_, rfl, by
    simp only [not_ev, mTru_ev, mCall_ev, aCons_ev, aNil_ev, mVar_z, mVar_s, List.set_cons_zero, List.set_cons_succ, bind_ok, law_row_good_ok (hy d hd).1, ofO_some, tru_b], fun _ => rfl⟩) (by rw [List.length_nil, Nat.zero_add]; exact Nat.le_trans hl (by decide))
  rw [q]
  simp
theorem book_due_ok {m s x : D} {S : Sto} (hm : okV m = true) (hs : okV s = true) (hx : Thing x) : F__law_book_due [.tup [m, s, x]] S = .ok (if goodG m s x then .non else .str "book") S := by
  have c1 : tOr' (tNot' (mTru (mN (isiI CS) (aCons (m2 ixO (mVar 0) (mC (.int 0))) (aCons (mC (.ty "str")) aNil))))) (mTst (m2 ninD (m2 ixO (mVar 0) (mC (.int 0))) (mTup (aCons (mC (.str "termed")) (aCons (mC (.str "bare")) aNil))))) [some (.tup [m, s, x]), none] S = .ok (!isW FORMS m) S :=
    cond_word (by simp only [m2_ev, mVar_z, mC_ev, bind_ok, ix_t0, ofO_some]) hm rfl
  have c2 : tOr' (tNot' (mTru (mN (isiI CS) (aCons (m2 ixO (mVar 0) (mC (.int 1))) (aCons (mC (.ty "str")) aNil))))) (mTst (m2 ninD (m2 ixO (mVar 0) (mC (.int 1))) (mTup (aCons (mC (.str "all")) (aCons (mC (.str "key")) aNil))))) [some (.tup [m, s, x]), none] S = .ok (!isW SCOPES s) S :=
    cond_word (by simp only [m2_ev, mVar_z, mC_ev, bind_ok, ix_t1, ofO_some]) hs rfl
  rw [ev__law_book_due]
  unfold m__law_book_due
  rw [sSeq_ev, sIf_ev, c1]
  cases q1 : isW FORMS m with
  | false => simp only [Bool.not_false, of_ok, selT_t, sRet_ev, mC_ev, seq_rt', fin_rt, goodG, goodForm, q1, Bool.false_and, Bool.false_eq_true, if_false]
  | true =>
    simp only [Bool.not_true, of_ok, selT_f, sNil_ev, seq_nx']
    rw [sSeq_ev, sIf_ev, c2]
    cases q2 : isW SCOPES s with
    | false => simp only [Bool.not_false, of_ok, selT_t, sRet_ev, mC_ev, seq_rt', fin_rt, goodG, goodForm, q1, q2, Bool.and_false, Bool.false_and, Bool.false_eq_true, if_false]
    | true =>
      simp only [Bool.not_true, of_ok, selT_f, sNil_ev, seq_nx']
      have gg : goodG m s x = rowsGood x := by
        unfold goodG goodForm
        rw [q1, q2]; rfl
      rw [gg]
      rcases hx with ⟨ys, rfl, hy, hl⟩ | ⟨ys, rfl⟩ | rfl | rfl
      · have pf : pl (.lst (ys.filter fun y => !validRow y)) = true := pl_all _ (List.all_eq_true.mpr fun y hy' => (hy y (List.mem_filter.mp hy').1).2.1)
        have ef : (ys.filter fun y => !validRow y).isEmpty = ys.all validRow := by
          rw [Bool.eq_iff_iff, List.isEmpty_iff, List.filter_eq_nil_iff, List.all_eq_true]
          simp
        have g40 : decide ((40 : Int) < ys.length) = !decide (ys.length ≤ 40) := by
          by_cases h : ys.length ≤ 40
          · rw [decide_eq_true h, decide_eq_false (by omega)]; rfl
          · rw [decide_eq_false h, decide_eq_true (by omega)]; rfl
        simp only [sSeq_ev, sIf_ev, or_ev, not_ev, mTru_ev, mTst_ev, mN_ev, m2_ev, aCons_ev, aNil_ev, mVar_z, mC_ev, bind_ok, ix_t2, ofO_some, isiI_lst_list, tru_b, Bool.not_true, selT_f, len_lst, gtO_i, g40, rowsGood, goodRows]
        by_cases h : ys.length ≤ 40
        · simp only [decide_eq_true h, Bool.not_true, selT_f, mLc_ev, iSeq_ev, m2_ev, mVar_z, mC_ev, bind_ok, ix_t2, ofO_some, seqI_lst, wipe_cons, wipe_nil, List.set_cons_zero, List.set_cons_succ, row_filter hy hl, mLst_ev, aNil_ev, List.length_nil, lim_0, if_true, ne_nil pf, ef, of_ok, Bool.true_and]
          cases ys.all validRow with
          | false => simp only [Bool.not_false, selT_t, sRet_ev, mC_ev, of_ok, seq_rt', fin_rt, Bool.false_eq_true, if_false]
          | true => simp only [Bool.not_true, selT_f, sNil_ev, seq_nx', sRet_ev, mC_ev, of_ok, fin_rt, if_true]
        · simp only [decide_eq_false h, Bool.not_false, selT_t, of_ok, sRet_ev, mC_ev, seq_rt', fin_rt, Bool.false_and, Bool.false_eq_true, if_false]
      · simp [rowsGood]
      · simp [rowsGood]
      · simp [rowsGood]
theorem okRows_BR {ys : List D} (h : ∀ y ∈ ys, BR y) : ∀ y ∈ ys, okRow y = true := fun y hy => (h y hy).1
theorem said01_good {m s : D} {ys : List D} {S : Sto} (hm : okV m = true) (hs : okV s = true) (hy : ∀ y ∈ ys, BR y) (hl : ys.length ≤ 60) (hg : goodG m s (.lst ys) = true) {w : Int} (hw : w = 0 ∨ w = 1) :
    F__law_said [.int w, .non, .tup [m, s, .lst ys]] S = .ok (.obj S.length) (S ++ [bk m s ys]) := by
  simp only [goodG, Bool.and_eq_true] at hg
  exact said_of (asked0_good hm hs rfl (okRows_BR hy) (by omega) hg.1 hg.2 hw)
theorem said01_bad {m s x : D} {S : Sto} (hm : okV m = true) (hs : okV s = true) (hx : Thing x) (hg : goodG m s x = false) {w : Int} (hw : w = 0 ∨ w = 1) :
    F__law_said [.int w, .non, .tup [m, s, x]] S = .ok (.str "book") (S ++ [.ins 4 []]) := by
  refine said_exc (e := ⟨2, []⟩) (asked0_bad hm hs ?_ hw) (.inl ⟨rfl, rfl⟩)
  rcases hx with ⟨ys, rfl, hy, hl⟩ | ⟨ys, rfl⟩ | rfl | rfl
  · exact .inl ⟨ys, rfl, okRows_BR hy, by omega, hg⟩
  · exact .inr isiI_tup_list
  · exact .inr isiI_non_list
  · exact .inr isiI_str_list
/-! ### books beside books -/
def tq (rs rs2 : List Row) : Bool := decide (CASES.map (told rs) = CASES.map (told rs2))
theorem tq_refl (rs : List Row) : tq rs rs = true := decide_eq_true rfl
theorem tq_symm (rs rs2 : List Row) : tq rs rs2 = tq rs2 rs := decide_eq_decide.mpr eq_comm
theorem tq_table {rs : List Row} : tq rs (CASES.map fun k => rowOf k (told rs k)) = true := by
  refine decide_eq_true (List.map_congr_left fun k hk => ?_)
  exact (told_table (f := told rs) CASES (fun _ h => h) hk).symm
theorem pl_dT (k : Case) (p : Str × Str) : pl (dT k p) = true := rfl
theorem dep_dT (k : Case) (p : Str × Str) : PyData.depth (toPy (dT k p)) ≤ 10 := by
  simp [dT, dC, toPy, toPyAll, PyData.depth, PyData.depthAll]
theorem dep_list {n : Nat} : ∀ xs : List D, (∀ x ∈ xs, PyData.depth (toPy x) ≤ n) → PyData.depthAll (toPyAll xs) ≤ n
  | [], _ => by simp [toPyAll, PyData.depthAll]
  | x :: xs, h => by
    have h1 := h x List.mem_cons_self
    have h2 := dep_list xs (fun y hy => h y (List.mem_cons_of_mem _ hy))
    simp only [toPyAll, PyData.depthAll]
    omega
theorem eqv_dT (k : Case) (p q : Str × Str) : PyData.eqv (toPy (dT k p)) (toPy (dT k q)) = decide (p = q) := by
  obtain ⟨p1, p2⟩ := p
  obtain ⟨q1, q2⟩ := q
  simp only [dT, dC, toPy, toPyAll, PyData.eqv, PyData.eqvAll, eqv_str, Bool.and_true, decide_true, Bool.true_and, Prod.mk.injEq, Bool.decide_and]
  by_cases h1 : p1 = q1 <;> by_cases h2 : p2 = q2 <;> simp [h1, h2]
theorem eqv_tables (f g : Case → Str × Str) : ∀ L : List Case, PyData.eqvAll (toPyAll (L.map fun k => dT k (f k))) (toPyAll (L.map fun k => dT k (g k))) = decide (L.map f = L.map g)
  | [] => by simp [toPyAll, PyData.eqvAll]
  | k :: L => by
    simp only [List.map_cons, toPyAll, PyData.eqvAll, eqv_dT, eqv_tables f g L, List.cons.injEq, Bool.decide_and]
theorem eq_tables {S : Sto} (rs rs2 : List Row) : eqO S (.lst (table rs)) (.lst (table rs2)) = some (.bl (tq rs rs2)) := by
  have hp : ∀ rs : List Row, pl (.lst (table rs)) = true := fun rs => pl_all _ (List.all_eq_true.mpr fun y hy => by
    obtain ⟨k, _, rfl⟩ := List.mem_map.mp hy
    rfl)
  have hd : dep (.lst (table rs)) ≤ 20 := by
    have := dep_list (table rs) (n := 10) (fun y hy => by
      obtain ⟨k, _, rfl⟩ := List.mem_map.mp hy
      exact dep_dT _ _)
    simp only [dep, toPy, PyData.depth]
    omega
  have ok : okEq (.lst (table rs)) (.lst (table rs2)) = true := by
    unfold okEq
    rw [hp, hp, decide_eq_true (Nat.le_trans (Nat.min_le_left _ _) (Nat.le_trans hd (by decide)))]; rfl
  show (if okEq (.lst (table rs)) (.lst (table rs2)) = true then some (D.bl (deq (.lst (table rs)) (.lst (table rs2)))) else none) = _
  rw [if_pos ok]
  have : deq (.lst (table rs)) (.lst (table rs2)) = tq rs rs2 := by
    show PyData.eqv (toPy _) (toPy _) = _
    simp only [toPy, PyData.eqv]
    exact eqv_tables (told rs) (told rs2) CASES
  rw [this]
theorem eqO_pair {S : Sto} (m s m2 s2 : Str) : eqO S (.tup [.str m, .str s]) (.tup [.str m2, .str s2]) = some (.bl (decide (m = m2) && decide (s = s2))) := by
  have ok : okEq (.tup [.str m, .str s]) (.tup [.str m2, .str s2]) = true := rfl
  show (if okEq (.tup [.str m, .str s]) (.tup [.str m2, .str s2]) = true then some (D.bl (deq (.tup [.str m, .str s]) (.tup [.str m2, .str s2]))) else none) = _
  rw [if_pos ok]
  show some (D.bl (PyData.eqv (.tuple [.str m, .str s]) (.tuple [.str m2, .str s2]))) = _
  simp only [PyData.eqv, PyData.eqvAll, eqv_str, Bool.and_true]
  by_cases h1 : m = m2 <;> by_cases h2 : s = s2 <;> simp [h1, h2]
theorem neO_pair {S : Sto} (m s m2 s2 : Str) : neO S (.tup [.str m, .str s]) (.tup [.str m2, .str s2]) = some (.bl (!(decide (m = m2) && decide (s = s2)))) := by
  have ok : okEq (.tup [.str m, .str s]) (.tup [.str m2, .str s2]) = true := rfl
  show (if okEq (.tup [.str m, .str s]) (.tup [.str m2, .str s2]) = true then some (D.bl (!deq (.tup [.str m, .str s]) (.tup [.str m2, .str s2]))) else none) = _
  rw [if_pos ok]
  show some (D.bl (!PyData.eqv (.tuple [.str m, .str s]) (.tuple [.str m2, .str s2]))) = _
  simp only [PyData.eqv, PyData.eqvAll, eqv_str, Bool.and_true]
  by_cases h1 : m = m2 <;> by_cases h2 : s = s2 <;> simp [h1, h2]
theorem book_eq {S : Sto} {i j : Nat} {m s m2 s2 : Str} {rs rs2 : List Row} (h1 : Bk S i (.str m) (.str s) rs) (h2 : Bk S j (.str m2) (.str s2) rs2) :
    F_Book___eq__ [.obj i, .obj j] S = .ok (.bl ((decide (m = m2) && decide (s = s2)) && tq rs rs2)) S := by
  have i1 := isi_objC (S := S) (i := j) h2
  rw [ev_Book___eq__]
  unfold m_Book___eq__
  rw [sSeq_ev, sIf_ev]
  simp only [or_ev, not_ev, mTru_ev, mTst_ev, mN_ev, m2_ev, mTup_ev, aCons_ev, aNil_ev, mFld_ev, mVar_z, mVar_s, mC_ev, bind_ok, i1, ofO_some, tru_b, Bool.not_true, selT_f, h1.g, h2.g, lk_marks, lk_scope, List.length_cons, List.length_nil, Nat.zero_add, Nat.reduceAdd, lim_2, if_true, neO_pair, of_ok]
  cases decide (m = m2) && decide (s = s2) with
  | false => simp only [Bool.not_false, selT_t, sRet_ev, mC_ev, of_ok, seq_rt', fin_rt, Bool.false_and]
  | true => simp only [Bool.not_true, selT_f, sNil_ev, seq_nx', sRet_ev, m2_ev, mCall_ev, aCons_ev, aNil_ev, mFld_ev, mVar_z, mVar_s, bind_ok, h1.g, h2.g, lk_rows, table_of_ok (.inl rfl), eq_tables, ofO_some, of_ok, fin_rt, Bool.true_and]
theorem book_eq_rows {S : Sto} {i : Nat} {ys : List D} : F_Book___eq__ [.obj i, .lst ys] S = .ok (.bl false) S := by
  rw [ev_Book___eq__]
  unfold m_Book___eq__
  rw [sSeq_ev, sIf_ev]
  simp only [or_ev, not_ev, mTru_ev, mN_ev, aCons_ev, aNil_ev, mVar_z, mVar_s, mC_ev, bind_ok, isi_lstC, ofO_some, tru_b, Bool.not_false, selT_t, of_ok, sRet_ev, seq_rt', fin_rt]
theorem mEqI_ok {c : Nat} {F : Mi} {ma mb : ME} {ρ : DL.Env} {S S1 S2 S3 : Sto} {x y : D} {z : Bool} {fs} (h1 : ma ρ S = .ok x S1) (h2 : mb ρ S1 = .ok y S2) (h3 : insG [c] S2 x = some fs) (h4 : okR c S2 y = true) (h5 : F [x, y] S2 = .ok (.bl z) S3) : mEqI c F ma mb ρ S = .ok (.bl z) S3 := by
  unfold mEqI
  rw [h1, bind_ok, h2, bind_ok]
  simp only [h3, if_pos h4, h5, bind_ok]
theorem mNeI_ok {c : Nat} {F : Mi} {ma mb : ME} {ρ : DL.Env} {S S1 S2 S3 : Sto} {x y : D} {z : Bool} {fs} (h1 : ma ρ S = .ok x S1) (h2 : mb ρ S1 = .ok y S2) (h3 : insG [c] S2 x = some fs) (h4 : okR c S2 y = true) (h5 : F [x, y] S2 = .ok (.bl z) S3) : mNeI c F ma mb ρ S = .ok (.bl (!z)) S3 := by
  unfold mNeI
  rw [h1, bind_ok, h2, bind_ok]
  simp only [h3, if_pos h4, h5, bind_ok]
theorem okR_bk {S : Sto} {i : Nat} {m s : D} {rs : List Row} (h : Bk S i m s rs) : okR 4 S (.obj i) = true := by
  have h' : S[i]? = some (bk m s (rs.map dR)) := h
  unfold okR
  simp only [h']; rfl
theorem in_form_ok {S : Sto} {b : Nat} {m s : D} {rs : List Row} (h : Bk S b m s rs) (hr : ∀ r ∈ rs, goodRow r) (hl : rs.length ≤ 40) {m2 s2 : D} (hm : okV m2 = true) (hs : okV s2 = true) (hg : goodForm m2 s2 = true) :
    F_Book_in_form [.obj b, m2, s2] S = .ok (.obj S.length) (S ++ [bk m2 s2 (rs.map dR)]) := by
  rw [in_form_eq h, init_good hm hs rfl (okRows rs) (by rw [List.length_map]; omega) hg (goodRows_of hr hl)]
  rfl
end K05
/-! the plain law of k05: one trial with bent rows (printed by k05p15.py) -/
namespace K05
open PySem L2 DL
def t0 : MS := (sSet 13 (mCall F__law_bent_rows (aCons (mVar 2) (aCons (mVar 4) aNil))))
def t1 : MS := (sSet 13 (mIf (mTst (m2 eqO (mCall F__law_tap (aCons (mVar 2) (aCons (mC (.int 3)) aNil))) (mC (.int 0)))) (mCall F__law_bent_rows (aCons (mVar 2) (aCons (mVar 13) aNil))) (mVar 13)))
def t2 : MS := (sSet 13 (mIf (mTst (m2 eqO (mCall F__law_tap (aCons (mVar 2) (aCons (mC (.int 9)) aNil))) (mC (.int 0)))) (m2 ixO (mLst (aCons (mN tupleG (aCons (mVar 13) aNil)) (aCons (mC .non) (aCons (mC (.str "rows")) aNil)))) (mCall F__law_tap (aCons (mVar 2) (aCons (mC (.int 3)) aNil)))) (mVar 13)))
def t3 : MS := (sSet 14 (mTup (aCons (m2 ixO (mLst (aCons (mC (.str "termed")) (aCons (mC (.str "Bare")) (aCons (mC .non) (aCons (mTup (aCons (mC (.str "termed")) aNil)) aNil))))) (mN maxG (aCons (mC (.int 0)) (aCons (m2 subO (mCall F__law_tap (aCons (mVar 2) (aCons (mC (.int 7)) aNil))) (mC (.int 3))) aNil)))) aNil)))
def t4 : MS := (sSet 14 (m2 addO (mVar 14) (mTup (aCons (m2 ixO (mLst (aCons (mC (.str "all")) (aCons (mC (.str "any")) (aCons (mLst (aCons (mC (.str "all")) aNil)) (aCons (mC (.int 1)) aNil))))) (mN maxG (aCons (mC (.int 0)) (aCons (m2 subO (mCall F__law_tap (aCons (mVar 2) (aCons (mC (.int 7)) aNil))) (mC (.int 3))) aNil)))) (aCons (mVar 13) aNil)))))
def t5 : MS := (sSet 15 (mCall F__law_book_due (aCons (mVar 14) aNil)))
def tWay : MS := (sSeq (sSet 17 (mCall F__law_said (aCons (mVar 16) (aCons (mC .non) (aCons (mVar 14) aNil))))) (sIf (tOr' (tAnd' (mTst (m2 notNO (mVar 15) (mC .non))) (mTst (m2 neO (mVar 17) (mVar 15)))) (tAnd' (mTst (m2 isNO (mVar 15) (mC .non))) (tNot' (mTru (mN (isiI CS) (aCons (mVar 17) (aCons (mC (.cls 4)) aNil))))))) (sRet (mC (.bl false))) sNil))
def t6 : MS := (sFor (iSeq (mTup (aCons (mC (.int 0)) (aCons (mC (.int 1)) aNil)))) (bName 16) tWay)
def trialBody : MS := (sSeq t0 (sSeq t1 (sSeq t2 (sSeq t3 (sSeq t4 (sSeq t5 t6))))))
def Ms : List D := [.str "termed", .str "Bare", .non, .tup [.str "termed"]]
def Ss : List D := [.str "all", .str "any", .lst [.str "all"], .int 1]
theorem Ms_ok : ∀ x ∈ Ms, okV x = true := fun x hx => List.all_eq_true.mp (by decide +kernel : Ms.all okV = true) x hx
theorem Ss_ok : ∀ x ∈ Ss, okV x = true := fun x hx => List.all_eq_true.mp (by decide +kernel : Ss.all okV = true) x hx
theorem max0 {S : Sto} {d : Nat} (h : d < 7) : maxG S [.int 0, .int ((d : Int) - 3)] = some (.int ((d - 3 : Nat) : Int)) := by
  show some (D.int (if (d : Int) - 3 > 0 then (d : Int) - 3 else 0)) = _
  congr 2
  split <;> omega
theorem sub_ii {S : Sto} {i j : Int} : subO S (.int i) (.int j) = some (.int (i - j)) := rfl
theorem pickM {S : Sto} {c n : Nat} {ρ : DL.Env} {ml : ME} {xs : List D} (h : Ck S c n) (hn : n < 10 ^ 8) (h2 : ρ[2]? = some (some (.obj c))) (hm : ml ρ S = .ok (.lst xs) S) (hx : xs.length = 4) :
    ∃ x S', m2 ixO ml (mN maxG (aCons (mC (.int 0)) (aCons (m2 subO (mCall F__law_tap (aCons (mVar 2) (aCons (mC (.int 7)) aNil))) (mC (.int 3))) aNil))) ρ S = .ok x S' ∧ x ∈ xs ∧ Ck S' c (n + 1) := by
  obtain ⟨d, S1, e1, hd, h1, hl, hg⟩ := tap (span := 7) h hn (by decide) (by decide)
  have e1' : F__law_tap [.obj c, .int 7] S = .ok (.int d) S1 := e1
  obtain ⟨x, hx, ex, _, _⟩ := ix_nat (S := S1) (xs := xs) (n := d - 3) (by omega)
  refine ⟨x, S1, ?_, hx, h1⟩
  have hv := mVar_at h2
  simp only [m2_ev, hm, bind_ok, mN_ev, mCall_ev, aCons_ev, aNil_ev, hv, mC_ev, e1', sub_ii, max0 hd, ofO_some, ex]
theorem way_good {S : Sto} {c : Nat} {rs : List Row} {m s : D} {ys : List D} {w : Int} {x0 x1 x3 x5 x6 x7 x8 x9 x10 x11 x18 x19 o12 o13 o17 : Option D} (hm : okV m = true) (hs : okV s = true) (hy : ∀ y ∈ ys, BR y) (hl : ys.length ≤ 60) (hg : goodG m s (.lst ys) = true) (hw : w = 0 ∨ w = 1) :
    tWay [x0, x1, some (.obj c), x3, some (.lst (rs.map dR)), x5, x6, x7, x8, x9, x10, x11, o12, o13, some (.tup [m, s, .lst ys]), some .non, some (.int w), o17, x18, x19] S = .nx [x0, x1, some (.obj c), x3, some (.lst (rs.map dR)), x5, x6, x7, x8, x9, x10, x11, o12, o13, some (.tup [m, s, .lst ys]), some .non, some (.int w), some (.obj S.length), x18, x19] (S ++ [bk m s ys]) := by
  have i1 := isi_objC (S := S ++ [bk m s ys]) (i := S.length) get_last
  unfold tWay
  rw [sSeq_ev, sSet_ev]
  simp only [mCall_ev, aCons_ev, aNil_ev, mVar_z, mVar_s, mC_ev, bind_ok, said01_good hm hs hy hl hg hw, of_ok, seq_nx', List.set_cons_zero, List.set_cons_succ]
  rw [sIf_ev]
  simp only [or_ev, and_ev, not_ev, mTst_ev, mTru_ev, mN_ev, m2_ev, aCons_ev, aNil_ev, mVar_z, mVar_s, mC_ev, bind_ok, isn_non, is_non, ofO_some, selT_t, selT_f, i1, tru_b, Bool.not_true, of_ok, sNil_ev]
theorem way_bad {S : Sto} {c : Nat} {rs : List Row} {m s x : D} {w : Int} {x0 x1 x3 x5 x6 x7 x8 x9 x10 x11 x18 x19 o12 o13 o17 : Option D} (hm : okV m = true) (hs : okV s = true) (hx : Thing x) (hg : goodG m s x = false) (hw : w = 0 ∨ w = 1) :
    tWay [x0, x1, some (.obj c), x3, some (.lst (rs.map dR)), x5, x6, x7, x8, x9, x10, x11, o12, o13, some (.tup [m, s, x]), some (.str "book"), some (.int w), o17, x18, x19] S = .nx [x0, x1, some (.obj c), x3, some (.lst (rs.map dR)), x5, x6, x7, x8, x9, x10, x11, o12, o13, some (.tup [m, s, x]), some (.str "book"), some (.int w), some (.str "book"), x18, x19] (S ++ [.ins 4 []]) := by
  unfold tWay
  rw [sSeq_ev, sSet_ev]
  simp only [mCall_ev, aCons_ev, aNil_ev, mVar_z, mVar_s, mC_ev, bind_ok, said01_bad hm hs hx hg hw, of_ok, seq_nx', List.set_cons_zero, List.set_cons_succ]
  rw [sIf_ev]
  simp only [or_ev, and_ev, not_ev, mTst_ev, mTru_ev, mN_ev, m2_ev, aCons_ev, aNil_ev, mVar_z, mVar_s, mC_ev, bind_ok, isn_str, is_str, neO_str, decide_true, ofO_some, selT_t, selT_f, Bool.not_true, of_ok, sNil_ev]
theorem trial_ok {S : Sto} {c n : Nat} {rs : List Row} {x0 x1 x3 x5 x6 x7 x8 x9 x10 x11 x18 x19 o12 o13 o14 o15 o16 o17 : Option D} (h : Ck S c n) (hn : n + 50 < 10 ^ 8) (hl : rs.length ≤ 40) :
    ∃ (ρ' : DL.Env) (S' : Sto), trialBody [x0, x1, some (.obj c), x3, some (.lst (rs.map dR)), x5, x6, x7, x8, x9, x10, x11, o12, o13, o14, o15, o16, o17, x18, x19] S = .nx ρ' S' ∧ (∃ o12 o13 o14 o15 o16 o17, ρ' = [x0, x1, some (.obj c), x3, some (.lst (rs.map dR)), x5, x6, x7, x8, x9, x10, x11, o12, o13, o14, o15, o16, o17, x18, x19]) ∧ Ck S' c (n + 30) := by
  obtain ⟨ys1, S1, e1, hy1, hl1, k1, g1⟩ := bent_rows (ys := rs.map dR) h (by omega) (fun y hy => by
    obtain ⟨r, _, rfl⟩ := List.mem_map.mp hy
    exact BR_dR r) (by rw [List.length_map]; omega)
  rw [List.length_map] at hl1
  obtain ⟨d2, S2, e2, hd2, k2, _, _⟩ := tap (span := 3) k1 (by omega) (by decide) (by decide)
  have e2' : F__law_tap [.obj c, .int 3] S1 = .ok (.int d2) S2 := e2
  obtain ⟨ys2, S3, f2, hy2, hl2, k3⟩ : ∃ ys2 S3, selT (decide ((d2 : Int) = 0)) (F__law_bent_rows [.obj c, .lst ys1] S2) (.ok (.lst ys1) S2) = .ok (.lst ys2) S3 ∧ (∀ y ∈ ys2, BR y) ∧ ys2.length ≤ 60 ∧ Ck S3 c (n + 21) := by
    by_cases q : (d2 : Int) = 0
    · obtain ⟨ys2, S3, e3, hy3, hl3, k3, _⟩ := bent_rows k2 (by omega) hy1 (by omega)
      exact ⟨ys2, S3, by rw [decide_eq_true q, selT_t, e3], hy3, by omega, k3.mono (by omega)⟩
    · exact ⟨ys1, S2, by rw [decide_eq_false q, selT_f], hy1, by omega, k2.mono (by omega)⟩
  obtain ⟨x, S5, f4, hx, k5⟩ : ∃ x S5, (mIf (mTst (m2 eqO (mCall F__law_tap (aCons (mVar 2) (aCons (mC (.int 9)) aNil))) (mC (.int 0)))) (m2 ixO (mLst (aCons (mN tupleG (aCons (mVar 13) aNil)) (aCons (mC .non) (aCons (mC (.str "rows")) aNil)))) (mCall F__law_tap (aCons (mVar 2) (aCons (mC (.int 3)) aNil)))) (mVar 13)) [x0, x1, some (.obj c), x3, some (.lst (rs.map dR)), x5, x6, x7, x8, x9, x10, x11, o12, some (.lst ys2), o14, o15, o16, o17, x18, x19] S3 = .ok x S5 ∧ Thing x ∧ Ck S5 c (n + 23) := by
    obtain ⟨d4, S4, e4, hd4, k4, _, _⟩ := tap (span := 9) k3 (by omega) (by decide) (by decide)
    have e4' : F__law_tap [.obj c, .int 9] S3 = .ok (.int d4) S4 := e4
    by_cases q : (d4 : Int) = 0
    · obtain ⟨d5, S5, e5, hd5, k5, _, _⟩ := tap (span := 3) k4 (by omega) (by decide) (by decide)
      have e5' : F__law_tap [.obj c, .int 3] S4 = .ok (.int d5) S5 := e5
      obtain ⟨x, hx, ex, _, _⟩ := ix_nat (S := S5) (xs := [.tup ys2, .non, .str "rows"]) (n := d5) hd5
      refine ⟨x, S5, ?_, ?_, k5.mono (by omega)⟩
      · simp only [mIf_ev, mTst_ev, m2_ev, mN_ev, mLst_ev, mCall_ev, aCons_ev, aNil_ev, mVar_z, mVar_s, mC_ev, bind_ok, e4', ofO_some, eqO_i, decide_eq_true q, selT_t, tupleG_lst, List.length_cons, List.length_nil, Nat.zero_add, Nat.reduceAdd, lim_3, if_true, e5', ex]
      · simp only [List.mem_cons, List.not_mem_nil, or_false] at hx
        rcases hx with rfl | rfl | rfl
        · exact .inr (.inl ⟨ys2, rfl⟩)
        · exact .inr (.inr (.inl rfl))
        · exact .inr (.inr (.inr rfl))
    · refine ⟨.lst ys2, S4, ?_, .inl ⟨ys2, rfl, hy2, hl2⟩, k4.mono (by omega)⟩
      simp only [mIf_ev, mTst_ev, m2_ev, mCall_ev, aCons_ev, aNil_ev, mVar_z, mVar_s, mC_ev, bind_ok, e4', ofO_some, eqO_i, decide_eq_false q, selT_f]
  obtain ⟨mm, S6, f6, hmm, k6⟩ := pickM (ρ := [x0, x1, some (.obj c), x3, some (.lst (rs.map dR)), x5, x6, x7, x8, x9, x10, x11, o12, some x, o14, o15, o16, o17, x18, x19]) (xs := Ms) (ml := (mLst (aCons (mC (.str "termed")) (aCons (mC (.str "Bare")) (aCons (mC .non) (aCons (mTup (aCons (mC (.str "termed")) aNil)) aNil)))))) k5 (by omega) rfl rfl rfl
  obtain ⟨ss, S7, f7, hss, k7⟩ := pickM (ρ := [x0, x1, some (.obj c), x3, some (.lst (rs.map dR)), x5, x6, x7, x8, x9, x10, x11, o12, some x, some (.tup [mm]), o15, o16, o17, x18, x19]) (xs := Ss) (ml := (mLst (aCons (mC (.str "all")) (aCons (mC (.str "any")) (aCons (mLst (aCons (mC (.str "all")) aNil)) (aCons (mC (.int 1)) aNil)))))) k6 (by omega) rfl rfl rfl
  have vm := Ms_ok mm hmm
  have vs := Ss_ok ss hss
  have y0 : t0 [x0, x1, some (.obj c), x3, some (.lst (rs.map dR)), x5, x6, x7, x8, x9, x10, x11, o12, o13, o14, o15, o16, o17, x18, x19] S = .nx [x0, x1, some (.obj c), x3, some (.lst (rs.map dR)), x5, x6, x7, x8, x9, x10, x11, o12, some (.lst ys1), o14, o15, o16, o17, x18, x19] S1 := by
    unfold t0
    rw [sSet_ev]
    simp only [mCall_ev, aCons_ev, aNil_ev, mVar_z, mVar_s, bind_ok, e1, of_ok, List.set_cons_zero, List.set_cons_succ]
  have y1 : t1 [x0, x1, some (.obj c), x3, some (.lst (rs.map dR)), x5, x6, x7, x8, x9, x10, x11, o12, some (.lst ys1), o14, o15, o16, o17, x18, x19] S1 = .nx [x0, x1, some (.obj c), x3, some (.lst (rs.map dR)), x5, x6, x7, x8, x9, x10, x11, o12, some (.lst ys2), o14, o15, o16, o17, x18, x19] S3 := by
    unfold t1
    rw [sSet_ev]
    simp only [mIf_ev, mTst_ev, m2_ev, mCall_ev, aCons_ev, aNil_ev, mVar_z, mVar_s, mC_ev, bind_ok, e2', ofO_some, eqO_i, f2, of_ok, List.set_cons_zero, List.set_cons_succ]
  have y2 : t2 [x0, x1, some (.obj c), x3, some (.lst (rs.map dR)), x5, x6, x7, x8, x9, x10, x11, o12, some (.lst ys2), o14, o15, o16, o17, x18, x19] S3 = .nx [x0, x1, some (.obj c), x3, some (.lst (rs.map dR)), x5, x6, x7, x8, x9, x10, x11, o12, some x, o14, o15, o16, o17, x18, x19] S5 := by
    unfold t2
    rw [sSet_ev, f4]
    simp only [of_ok, List.set_cons_zero, List.set_cons_succ]
  have y3 : t3 [x0, x1, some (.obj c), x3, some (.lst (rs.map dR)), x5, x6, x7, x8, x9, x10, x11, o12, some x, o14, o15, o16, o17, x18, x19] S5 = .nx [x0, x1, some (.obj c), x3, some (.lst (rs.map dR)), x5, x6, x7, x8, x9, x10, x11, o12, some x, some (.tup [mm]), o15, o16, o17, x18, x19] S6 := by
    unfold t3
    rw [sSet_ev, mTup_ev, aCons_ev, f6]
    simp only [bind_ok, aNil_ev, List.length_cons, List.length_nil, Nat.zero_add, Nat.reduceAdd, lim_1, if_true, of_ok, List.set_cons_zero, List.set_cons_succ]
  have y4 : t4 [x0, x1, some (.obj c), x3, some (.lst (rs.map dR)), x5, x6, x7, x8, x9, x10, x11, o12, some x, some (.tup [mm]), o15, o16, o17, x18, x19] S6 = .nx [x0, x1, some (.obj c), x3, some (.lst (rs.map dR)), x5, x6, x7, x8, x9, x10, x11, o12, some x, some (.tup [mm, ss, x]), o15, o16, o17, x18, x19] S7 := by
    have q : addO S7 (.tup [mm]) (.tup [ss, x]) = some (.tup [mm, ss, x]) := rfl
    unfold t4
    rw [sSet_ev, m2_ev, mVar_s, mVar_s, mVar_s, mVar_s, mVar_s, mVar_s, mVar_s, mVar_s, mVar_s, mVar_s, mVar_s, mVar_s, mVar_s, mVar_s, mVar_z, bind_ok, mTup_ev, aCons_ev, f7]
    simp only [bind_ok, aCons_ev, aNil_ev, mVar_z, mVar_s, List.length_cons, List.length_nil, Nat.zero_add, Nat.reduceAdd, lim_2, if_true, q, ofO_some, of_ok, List.set_cons_zero, List.set_cons_succ]
  have y5 : t5 [x0, x1, some (.obj c), x3, some (.lst (rs.map dR)), x5, x6, x7, x8, x9, x10, x11, o12, some x, some (.tup [mm, ss, x]), o15, o16, o17, x18, x19] S7 = .nx [x0, x1, some (.obj c), x3, some (.lst (rs.map dR)), x5, x6, x7, x8, x9, x10, x11, o12, some x, some (.tup [mm, ss, x]), some (if goodG mm ss x then .non else .str "book"), o16, o17, x18, x19] S7 := by
    unfold t5
    rw [sSet_ev]
    simp only [mCall_ev, aCons_ev, aNil_ev, mVar_z, mVar_s, bind_ok, book_due_ok vm vs hx, of_ok, List.set_cons_zero, List.set_cons_succ]
  obtain ⟨r, S8, y6, k8⟩ : ∃ r S8, t6 [x0, x1, some (.obj c), x3, some (.lst (rs.map dR)), x5, x6, x7, x8, x9, x10, x11, o12, some x, some (.tup [mm, ss, x]), some (if goodG mm ss x then .non else .str "book"), o16, o17, x18, x19] S7 = .nx [x0, x1, some (.obj c), x3, some (.lst (rs.map dR)), x5, x6, x7, x8, x9, x10, x11, o12, some x, some (.tup [mm, ss, x]), some (if goodG mm ss x then .non else .str "book"), some (.int 1), some r, x18, x19] S8 ∧ Ck S8 c (n + 25) := by
    unfold t6
    rw [sFor_ev]
    simp only [iSeq_ev, mTup_ev, aCons_ev, aNil_ev, mC_ev, bind_ok, List.length_cons, List.length_nil, Nat.zero_add, Nat.reduceAdd, lim_2, if_true, seqI_tup, ofO_some, of_ok]
    cases q : goodG mm ss x with
    | false =>
      refine ⟨.str "book", S7 ++ [.ins 4 []] ++ [.ins 4 []], ?_, k7.app.app.mono (by omega)⟩
      rw [if_neg (by decide), forL_cons]
      simp only [bName_ev, List.set_cons_zero, List.set_cons_succ, way_bad vm vs hx q (.inl rfl)]
      rw [forL_cons]
      simp only [bName_ev, List.set_cons_zero, List.set_cons_succ, way_bad vm vs hx q (.inr rfl), forL_nil]
    | true =>
      obtain ⟨ys, rfl, hys, hyl⟩ : ∃ ys, x = .lst ys ∧ (∀ y ∈ ys, BR y) ∧ ys.length ≤ 60 := by
        rcases hx with hx | ⟨ys, rfl⟩ | rfl | rfl
        · exact hx
        · simp [goodG, rowsGood] at q
        · simp [goodG, rowsGood] at q
        · simp [goodG, rowsGood] at q
      refine ⟨.obj (S7 ++ [bk mm ss ys]).length, S7 ++ [bk mm ss ys] ++ [bk mm ss ys], ?_, k7.app.app.mono (by omega)⟩
      rw [if_pos rfl, forL_cons]
      simp only [bName_ev, List.set_cons_zero, List.set_cons_succ, way_good vm vs hys hyl q (.inl rfl)]
      rw [forL_cons]
      simp only [bName_ev, List.set_cons_zero, List.set_cons_succ, way_good vm vs hys hyl q (.inr rfl), forL_nil]
  refine ⟨_, S8, ?_, ⟨o12, some x, some (.tup [mm, ss, x]), some (if goodG mm ss x then .non else .str "book"), some (.int 1), some r, rfl⟩, k8.mono (by omega)⟩
  unfold trialBody
  rw [sSeq_ev, y0, seq_nx']
  rw [sSeq_ev, y1, seq_nx']
  rw [sSeq_ev, y2, seq_nx']
  rw [sSeq_ev, y3, seq_nx']
  rw [sSeq_ev, y4, seq_nx']
  rw [sSeq_ev, y5, seq_nx']
  exact y6
end K05
/-! the plain law of k05: one turn of the law (printed by k05p16.py) -/
namespace K05
open PySem L2 DL
def u0 : MS := (sSet 4 (mLc (iRange1 (mCall F__law_tap (aCons (mVar 2) (aCons (mC (.int 41)) aNil)))) (bName 18) mYes (mCall F__law_any_row (aCons (mVar 2) aNil)) [18]))
def u1 : MS := (sIf (mTst (m2 eqO (m2 oddO (mVar 3) (mC (.int 1))) (mC (.int 0)))) (sSet 4 (mCall F__law_good_rows (aCons (mVar 2) aNil))) sNil)
def u2 : MS := (sSet 5 (mTup (aCons (m2 ixO (mLst (aCons (mC (.str "termed")) (aCons (mC (.str "bare")) aNil))) (mCall F__law_tap (aCons (mVar 2) (aCons (mC (.int 2)) aNil)))) (aCons (m2 ixO (mLst (aCons (mC (.str "all")) (aCons (mC (.str "key")) aNil))) (mCall F__law_tap (aCons (mVar 2) (aCons (mC (.int 2)) aNil)))) aNil))))
def u3 : MS := (sSet 6 (mListO (aCons (mVar 4) aNil)))
def u4 : MS := (sPar 7 8 (aCons (mCall F__law_said (aCons (m2 oddO (mVar 3) (mC (.int 1))) (aCons (mC .non) (aCons (m2 addO (mVar 5) (mTup (aCons (mVar 6) aNil))) aNil)))) (aCons (mMake 4 F_Book___init__ (aCons (m2 ixO (mVar 5) (mC (.int 0))) (aCons (m2 ixO (mVar 5) (mC (.int 1))) (aCons (mCall F__law_good_rows (aCons (mVar 2) aNil)) aNil)))) aNil)))
def u5 : MS := (sApp (mVar 6) (mC .non))
def u6 : MS := (sIf (tNot' (mTru (mCall F__law_book_right (aCons (mVar 7) (aCons (mVar 5) (aCons (mVar 4) aNil)))))) (sRet (mC (.bl false))) sNil)
def u7 : MS := (sIf (tNot' (mTru (mCall F__law_change_right (aCons (mVar 2) (aCons (mVar 7) (aCons (mVar 5) (aCons (mVar 4) aNil))))))) (sRet (mC (.bl false))) sNil)
def u8 : MS := (sSet 9 (m2 eqO (mMeth 4 "table" F_Book_table (mVar 7) aNil) (mMeth 4 "table" F_Book_table (mVar 8) aNil)))
def u9 : MS := (sSet 10 (mMake 4 F_Book___init__ (aCons (m2 ixO (mVar 5) (mC (.int 0))) (aCons (m2 ixO (mVar 5) (mC (.int 1))) (aCons (mLc (iSeq (mMeth 4 "table" F_Book_table (mVar 7) aNil)) (bName 19) mYes (m2 addO (m2 ixO (mVar 19) (mC (.int 0))) (mTup (aCons (m2 ixO (mVar 19) (mC (.int 1))) (aCons (m2 ixO (mVar 19) (mC (.int 2))) aNil)))) [19]) aNil)))))
def u10 : MS := (sSet 11 (mLst (aCons (mEqI 4 F_Book___eq__ (mVar 7) (mVar 8)) (aCons (mEqI 4 F_Book___eq__ (mVar 8) (mVar 7)) (aCons (mNeI 4 F_Book___eq__ (mVar 7) (mVar 8)) (aCons (mEqI 4 F_Book___eq__ (mVar 7) (mVar 10)) aNil))))))
def u11 : MS := (sSet 11 (m2 addO (mVar 11) (mLst (aCons (mEqI 4 F_Book___eq__ (mVar 7) (mVar 4)) aNil))))
def u12 : MS := (sIf (tNot' (mTru (mCall (F__law_agree 7) (aCons (mVar 11) (aCons (mLst (aCons (mVar 9) (aCons (mVar 9) (aCons (mNot (mVar 9)) (aCons (mC (.bl true)) (aCons (mC (.bl false)) aNil)))))) aNil))))) (sRet (mC (.bl false))) sNil)
def u13 : MS := (sIf (mTst (m2 neO (mEqI 4 F_Book___eq__ (mVar 7) (mMeth 4 "in_form" F_Book_in_form (mVar 7) (aCons (mC (.str "termed")) (aCons (mC (.str "all")) aNil)))) (m2 eqO (mVar 5) (mTup (aCons (mC (.str "termed")) (aCons (mC (.str "all")) aNil)))))) (sRet (mC (.bl false))) sNil)
def u14 : MS := (sFor (iRange1 (mC (.int 8))) (bName 12) trialBody)
def turnBody : MS := (sSeq u0 (sSeq u1 (sSeq u2 (sSeq u3 (sSeq u4 (sSeq u5 (sSeq u6 (sSeq u7 (sSeq u8 (sSeq u9 (sSeq u10 (sSeq u11 (sSeq u12 (sSeq u13 u14))))))))))))))
theorem lcL_draw2 {c j : Nat} {i : Nat} : ∀ (ds : List D) (ρ : DL.Env) (acc : List D) (S : Sto) (n : Nat), (∀ d, (ρ.set i (some d))[j]? = some (some (.obj c))) → Ck S c n → n + 10 * ds.length + 20 < 10 ^ 8 → acc.length + ds.length ≤ lim →
    ∃ (rs : List Row) (S' : Sto), lcL (bName i) mYes (mCall F__law_any_row (aCons (mVar j) aNil)) ρ ds acc S = .ok (acc ++ rs.map dR) S' ∧ rs.length = ds.length ∧ (∀ r ∈ rs, goodRow r) ∧ Ck S' c (n + 10 * ds.length) ∧ Gr c S S'
  | [], ρ, acc, S, n, _, h, _, _ => ⟨[], S, by simp [lcL], rfl, fun r hr => (by cases hr), h, .refl⟩
  | d :: ds, ρ, acc, S, n, h0, h, hn, hl => by
    rw [List.length_cons] at hn hl
    obtain ⟨r, S1, e1, g1, k1, gr1⟩ := any_row h (by omega)
    obtain ⟨rs, S2, e2, l2, g2, k2, gr2⟩ := lcL_draw2 ds ρ (acc ++ [dR r]) S1 (n + 10) h0 k1 (by omega) (by rw [List.length_append, List.length_singleton]; omega)
    refine ⟨r :: rs, S2, ?_, by rw [List.length_cons, List.length_cons, l2], fun x hx => ?_, k2.mono (by rw [List.length_cons]; omega), gr1.trans gr2⟩
    · have hlt : acc.length < lim := by omega
      have hm : (mCall F__law_any_row (aCons (mVar j) aNil)) (ρ.set i (some d)) S = .ok (dR r) S1 := by
        have : mVar j (ρ.set i (some d)) S = .ok (.obj c) S := mVar_at (h0 d) S
        simp only [mCall_ev, aCons_ev, aNil_ev, this, bind_ok, e1]
      simp only [lcL, bName_ev, mYes_ev, bindN_ok, if_true, hm, if_pos hlt, e2]
      simp
    · rcases List.mem_cons.mp hx with rfl | hx
      · exact g1
      · exact g2 x hx
theorem mListO_ok {ms : MA} {ρ : DL.Env} {S S1 : Sto} {xs : List D} (h : ms ρ S = .ok [.lst xs] S1) : mListO ms ρ S = .ok (.obj S1.length) (S1 ++ [.lst xs]) := by
  unfold mListO
  rw [h]; rfl
theorem odd_w {S : Sto} {t : Int} (h : 0 ≤ t) : oddO S (.int t) (.int 1) = some (.int (t % 2)) := by
  show (if 0 ≤ t ∧ (1 : Int) = 1 then some (D.int (t % 2)) else none) = _
  rw [if_pos ⟨h, rfl⟩]
theorem turn_ok {S : Sto} {c n : Nat} {t : Int} {x0 x1 o4 o5 o6 o7 o8 o9 o10 o11 o12 o13 o14 o15 o16 o17 o18 o19 : Option D} (h : Ck S c n) (hn : n + 3000 < 10 ^ 8) (ht : 0 ≤ t) :
    ∃ (ρ' : DL.Env) (S' : Sto), turnBody [x0, x1, some (.obj c), some (.int t), o4, o5, o6, o7, o8, o9, o10, o11, o12, o13, o14, o15, o16, o17, o18, o19] S = .nx ρ' S' ∧ (∃ o4 o5 o6 o7 o8 o9 o10 o11 o12 o13 o14 o15 o16 o17 o18 o19, ρ' = [x0, x1, some (.obj c), some (.int t), o4, o5, o6, o7, o8, o9, o10, o11, o12, o13, o14, o15, o16, o17, o18, o19]) ∧ Ck S' c (n + 2000) := by
  have hw : t % 2 = 0 ∨ t % 2 = 1 := by omega
  obtain ⟨d, S0, e0, hd, k0, _, _⟩ := tap (span := 41) h (by omega) (by decide) (by decide)
  have e0' : F__law_tap [.obj c, .int 41] S = .ok (.int d) S0 := e0
  obtain ⟨rs0, S1, e1, l1, q1, k1, _⟩ := lcL_draw2 (j := 2) (i := 18) (rangeD 0 d) [x0, x1, some (.obj c), some (.int t), o4, o5, o6, o7, o8, o9, o10, o11, o12, o13, o14, o15, o16, o17, none, o19] [] S0 (n + 1) (fun _ => rfl) k0 (by rw [rangeD_length]; omega) (by rw [rangeD_length]; exact Nat.le_trans (show 0 + d ≤ 1000 by omega) (by decide))
  rw [rangeD_length] at l1 k1
  rw [List.nil_append] at e1
  have hr0 : iRange1 (mCall F__law_tap (aCons (mVar 2) (aCons (mC (.int 41)) aNil))) [x0, x1, some (.obj c), some (.int t), o4, o5, o6, o7, o8, o9, o10, o11, o12, o13, o14, o15, o16, o17, o18, o19] S = .ok (rangeD 0 d) S0 := rng_le (c := c) (n := n) (by simp only [mCall_ev, aCons_ev, aNil_ev, mVar_z, mVar_s, mC_ev, bind_ok, e0']) (by omega)
  obtain ⟨rs, S2, y1, hl, hr, k2⟩ : ∃ (rs : List Row) (S2 : Sto), u1 [x0, x1, some (.obj c), some (.int t), some (.lst (rs0.map dR)), o5, o6, o7, o8, o9, o10, o11, o12, o13, o14, o15, o16, o17, o18, o19] S1 = .nx [x0, x1, some (.obj c), some (.int t), some (.lst (rs.map dR)), o5, o6, o7, o8, o9, o10, o11, o12, o13, o14, o15, o16, o17, o18, o19] S2 ∧ rs.length ≤ 40 ∧ (∀ r ∈ rs, goodRow r) ∧ Ck S2 c (n + 600) := by
    unfold u1
    rw [sIf_ev]
    simp only [mTst_ev, m2_ev, mVar_z, mVar_s, mC_ev, bind_ok, odd_w ht, ofO_some, eqO_i, of_ok]
    by_cases q : t % 2 = 0
    · obtain ⟨rs, S2, e2, hl2, hr2, k2, _⟩ := good_rows k1 (by omega)
      refine ⟨rs, S2, ?_, hl2, hr2, k2.mono (by omega)⟩
      rw [decide_eq_true q, selT_t, sSet_ev]
      simp only [mCall_ev, aCons_ev, aNil_ev, mVar_z, mVar_s, bind_ok, e2, of_ok, List.set_cons_zero, List.set_cons_succ]
    · refine ⟨rs0, S1, ?_, by omega, q1, k1.mono (by omega)⟩
      rw [decide_eq_false q, selT_f, sNil_ev]
  obtain ⟨d5, S3, e5, hd5, k3, _, _⟩ := tap (span := 2) k2 (by omega) (by decide) (by decide)
  have e5' : F__law_tap [.obj c, .int 2] S2 = .ok (.int d5) S3 := e5
  obtain ⟨xm, hxm, exm, _, _⟩ := ix_nat (S := S3) (xs := FORMS.map D.str) (n := d5) hd5
  obtain ⟨m, hm, rfl⟩ := List.mem_map.mp hxm
  obtain ⟨d6, S4, e6, hd6, k4, _, _⟩ := tap (span := 2) k3 (by omega) (by decide) (by decide)
  have e6' : F__law_tap [.obj c, .int 2] S3 = .ok (.int d6) S4 := e6
  obtain ⟨xs2, hxs2, exs2, _, _⟩ := ix_nat (S := S4) (xs := SCOPES.map D.str) (n := d6) hd6
  obtain ⟨s, hs, rfl⟩ := List.mem_map.mp hxs2
  have hg := good_ms hm hs
  obtain ⟨S5, hS5⟩ : ∃ S5, S5 = S4 ++ [.lst (rs.map dR)] := ⟨_, rfl⟩
  obtain ⟨f, hf⟩ : ∃ f, f = S4.length := ⟨_, rfl⟩
  have hfc : f ≠ c := by have := k4.lt; omega
  have hS5f : S5[f]? = some (.lst (rs.map dR)) := by rw [hS5, hf]; exact get_last
  have hS5l : S5.length = f + 1 := by rw [hS5, hf, List.length_append, List.length_singleton]
  have k5 : Ck S5 c (n + 602) := by rw [hS5]; exact k4.app
  obtain ⟨S6, hS6⟩ : ∃ S6, S6 = S5 ++ [bk (.str m) (.str s) (rs.map dR)] := ⟨_, rfl⟩
  obtain ⟨b, hb⟩ : ∃ b, b = S5.length := ⟨_, rfl⟩
  have hbc : b ≠ c := by have := k5.lt; omega
  have f6 : F__law_said [.int (t % 2), .non, .tup [.str m, .str s, .obj f]] S5 = .ok (.obj b) S6 := by
    rw [hS6, hb]
    exact said_of (asked0_good rfl rfl (by unfold rowsOf; simp only [hS5f]) (okRows rs) (by rw [List.length_map]; omega) hg (goodRows_of hr hl) hw)
  have k6 : Ck S6 c (n + 602) := by rw [hS6]; exact k5.app
  have B6 : Bk S6 b (.str m) (.str s) rs := by rw [hS6, hb]; exact get_last
  have hS6f : S6[f]? = some (.lst (rs.map dR)) := by
    rw [hS6, List.getElem?_append_left (by omega)]; exact hS5f
  obtain ⟨rs2, S7, e7, hl2, hr2, k7, G7⟩ := good_rows k6 (by omega)
  have B7 := G7.at_ hbc B6
  have hS7f := G7.at_ hfc hS6f
  have hS7l : S6.length ≤ S7.length := G7.le
  obtain ⟨S8, hS8⟩ : ∃ S8, S8 = S7 ++ [bk (.str m) (.str s) (rs2.map dR)] := ⟨_, rfl⟩
  obtain ⟨b2, hb2⟩ : ∃ b2, b2 = S7.length := ⟨_, rfl⟩
  have hi8 : F_Book___init__ [.obj S7.length, .str m, .str s, .lst (rs2.map dR)] (S7 ++ [.ins 4 []]) = .ok .non S8 := by
    rw [hS8]
    exact init_good rfl rfl rfl (okRows rs2) (by rw [List.length_map]; omega) hg (goodRows_of hr2 hl2)
  have B8 : Bk S8 b (.str m) (.str s) rs := by rw [hS8]; exact Bk.app B7
  have B82 : Bk S8 b2 (.str m) (.str s) rs2 := by rw [hS8, hb2]; exact get_last
  have k8 : Ck S8 c (n + 702) := by rw [hS8]; exact k7.app
  have hS8f : S8[f]? = some (.lst (rs.map dR)) := by
    rw [hS8, List.getElem?_append_left (List.getElem?_eq_some_iff.mp hS7f).1]; exact hS7f
  have hbf : f ≠ b := by omega
  have hS6l : S6.length = f + 2 := by rw [hS6, List.length_append, List.length_singleton]; omega
  have hb2f : f ≠ b2 := by omega
  have hb2c : b2 ≠ c := by have := k7.lt; omega
  obtain ⟨S9, hS9⟩ : ∃ S9, S9 = S8.set f (.lst (rs.map dR ++ [.non])) := ⟨_, rfl⟩
  have k9 : Ck S9 c (n + 702) := by rw [hS9]; exact k8.other hfc
  have B9 : Bk S9 b (.str m) (.str s) rs := by rw [hS9]; exact (List.getElem?_set_ne hbf).trans B8
  have B92 : Bk S9 b2 (.str m) (.str s) rs2 := by rw [hS9]; exact (List.getElem?_set_ne hb2f).trans B82
  obtain ⟨l10, f10⟩ := book_right B9 (by omega)
  obtain ⟨S10, hS10⟩ : ∃ S10, S10 = S9 ++ l10 := ⟨_, rfl⟩
  rw [← hS10] at f10
  have k10 : Ck S10 c (n + 702) := by rw [hS10]; exact k9.app
  have B10 : Bk S10 b (.str m) (.str s) rs := by rw [hS10]; exact B9.app
  have B102 : Bk S10 b2 (.str m) (.str s) rs2 := by rw [hS10]; exact B92.app
  obtain ⟨S11, f11, k11, G11⟩ := change_right k10 (by omega) B10 hbc hm hs hr hl
  have B11 : Bk S11 b (.str m) (.str s) rs := G11.at_ hbc B10
  have B112 : Bk S11 b2 (.str m) (.str s) rs2 := G11.at_ hb2c B102
  obtain ⟨W, hW⟩ : ∃ W, W = CASES.map fun k => rowOf k (told rs k) := ⟨_, rfl⟩
  have hWl : W.length = 20 := by rw [hW, List.length_map]; rfl
  have hWg : ∀ r ∈ W, goodRow r := fun r h => by
    rw [hW] at h
    obtain ⟨k', hk', rfl⟩ := List.mem_map.mp h
    exact good_rowOf hk' (told_good hr hk')
  obtain ⟨S12, hS12⟩ : ∃ S12, S12 = S11 ++ [bk (.str m) (.str s) (W.map dR)] := ⟨_, rfl⟩
  obtain ⟨b3, hb3⟩ : ∃ b3, b3 = S11.length := ⟨_, rfl⟩
  have hi12 : F_Book___init__ [.obj S11.length, .str m, .str s, .lst (W.map dR)] (S11 ++ [.ins 4 []]) = .ok .non S12 := by
    rw [hS12]
    exact init_good rfl rfl rfl (okRows W) (by rw [List.length_map]; omega) hg (goodRows_of hWg (by omega))
  have B12 : Bk S12 b (.str m) (.str s) rs := by rw [hS12]; exact B11.app
  have B122 : Bk S12 b2 (.str m) (.str s) rs2 := by rw [hS12]; exact B112.app
  have B123 : Bk S12 b3 (.str m) (.str s) W := by rw [hS12, hb3]; exact get_last
  have k12 : Ck S12 c (n + 752) := by rw [hS12]; exact k11.app
  obtain ⟨q, hq⟩ : ∃ q, q = tq rs rs2 := ⟨_, rfl⟩
  have g1 : F_Book___eq__ [.obj b, .obj b2] S12 = .ok (.bl q) S12 := by rw [book_eq B12 B122, hq]; simp
  have g2 : F_Book___eq__ [.obj b2, .obj b] S12 = .ok (.bl q) S12 := by rw [book_eq B122 B12, hq, tq_symm]; simp
  have g3 : F_Book___eq__ [.obj b, .obj b3] S12 = .ok (.bl true) S12 := by rw [book_eq B12 B123, hW, tq_table]; simp
  obtain ⟨S13, hS13⟩ : ∃ S13, S13 = S12 ++ [bk (.str "termed") (.str "all") (rs.map dR)] := ⟨_, rfl⟩
  obtain ⟨b4, hb4⟩ : ∃ b4, b4 = S12.length := ⟨_, rfl⟩
  have f13 : F_Book_in_form [.obj b, .str "termed", .str "all"] S12 = .ok (.obj b4) S13 := by
    rw [hS13, hb4]
    exact in_form_ok B12 hr hl rfl rfl rfl
  have B13 : Bk S13 b (.str m) (.str s) rs := by rw [hS13]; exact B12.app
  have B134 : Bk S13 b4 (.str "termed") (.str "all") rs := by rw [hS13, hb4]; exact get_last
  have g5 : F_Book___eq__ [.obj b, .obj b4] S13 = .ok (.bl (decide (m = "termed") && decide (s = "all"))) S13 := by rw [book_eq B13 B134, tq_refl, Bool.and_true]
  have k13 : Ck S13 c (n + 752) := by rw [hS13]; exact k12.app
  have y0 : u0 [x0, x1, some (.obj c), some (.int t), o4, o5, o6, o7, o8, o9, o10, o11, o12, o13, o14, o15, o16, o17, o18, o19] S = .nx [x0, x1, some (.obj c), some (.int t), some (.lst (rs0.map dR)), o5, o6, o7, o8, o9, o10, o11, o12, o13, o14, o15, o16, o17, o18, o19] S1 := by
    unfold u0
    rw [sSet_ev, mLc_ev, hr0, bind_ok]
    simp only [wipe_cons, wipe_nil, List.set_cons_zero, List.set_cons_succ, e1, bind_ok, of_ok]
  have y2 : u2 [x0, x1, some (.obj c), some (.int t), some (.lst (rs.map dR)), o5, o6, o7, o8, o9, o10, o11, o12, o13, o14, o15, o16, o17, o18, o19] S2 = .nx [x0, x1, some (.obj c), some (.int t), some (.lst (rs.map dR)), some (.tup [.str m, .str s]), o6, o7, o8, o9, o10, o11, o12, o13, o14, o15, o16, o17, o18, o19] S4 := by
    have em : ixO S3 (.lst [.str "termed", .str "bare"]) (.int d5) = some (.str m) := exm
    have es : ixO S4 (.lst [.str "all", .str "key"]) (.int d6) = some (.str s) := exs2
    unfold u2
    rw [sSet_ev]
    simp only [mCall_ev, aCons_ev, aNil_ev, mVar_z, mVar_s, mC_ev, bind_ok, mTup_ev, mLst_ev, m2_ev, mN_ev, ofO_some, List.length_cons, List.length_nil, Nat.zero_add, Nat.reduceAdd, lim_1, lim_2, lim_3, lim_4, lim_5, lim_6, if_true, of_ok, List.set_cons_zero, List.set_cons_succ, e5', e6', em, es]
  have y3 : u3 [x0, x1, some (.obj c), some (.int t), some (.lst (rs.map dR)), some (.tup [.str m, .str s]), o6, o7, o8, o9, o10, o11, o12, o13, o14, o15, o16, o17, o18, o19] S4 = .nx [x0, x1, some (.obj c), some (.int t), some (.lst (rs.map dR)), some (.tup [.str m, .str s]), some (.obj f), o7, o8, o9, o10, o11, o12, o13, o14, o15, o16, o17, o18, o19] S5 := by
    unfold u3
    rw [sSet_ev, mListO_ok (S1 := S4) (xs := rs.map dR) rfl, ← hS5, ← hf]
    simp only [of_ok, List.set_cons_zero, List.set_cons_succ]
  have y4 : u4 [x0, x1, some (.obj c), some (.int t), some (.lst (rs.map dR)), some (.tup [.str m, .str s]), some (.obj f), o7, o8, o9, o10, o11, o12, o13, o14, o15, o16, o17, o18, o19] S5 = .nx [x0, x1, some (.obj c), some (.int t), some (.lst (rs.map dR)), some (.tup [.str m, .str s]), some (.obj f), some (.obj b), some (.obj b2), o9, o10, o11, o12, o13, o14, o15, o16, o17, o18, o19] S8 := by
    have q1 : addO S5 (.tup [.str m, .str s]) (.tup [.obj f]) = some (.tup [.str m, .str s, .obj f]) := rfl
    unfold u4
    rw [sPar_ev]
    simp only [mCall_ev, aCons_ev, aNil_ev, mVar_z, mVar_s, mC_ev, bind_ok, mTup_ev, mLst_ev, m2_ev, mN_ev, ofO_some, List.length_cons, List.length_nil, Nat.zero_add, Nat.reduceAdd, lim_1, lim_2, lim_3, lim_4, lim_5, lim_6, if_true, of_ok, List.set_cons_zero, List.set_cons_succ, odd_w ht, q1, f6, mMake_ev, ix_t0, ix_t1, e7, hi8]
    rw [← hb2]
  have y5 : u5 [x0, x1, some (.obj c), some (.int t), some (.lst (rs.map dR)), some (.tup [.str m, .str s]), some (.obj f), some (.obj b), some (.obj b2), o9, o10, o11, o12, o13, o14, o15, o16, o17, o18, o19] S8 = .nx [x0, x1, some (.obj c), some (.int t), some (.lst (rs.map dR)), some (.tup [.str m, .str s]), some (.obj f), some (.obj b), some (.obj b2), o9, o10, o11, o12, o13, o14, o15, o16, o17, o18, o19] S9 := by
    unfold u5
    rw [sApp_ok (S1 := S8) (S2 := S8) (n := f) (d := .non) (zs := rs.map dR) (xs := rs.map dR) rfl hS8f rfl hS8f (by rw [List.length_map]; exact Nat.lt_of_le_of_lt hl (by decide)), ← hS9]
  have y6 : u6 [x0, x1, some (.obj c), some (.int t), some (.lst (rs.map dR)), some (.tup [.str m, .str s]), some (.obj f), some (.obj b), some (.obj b2), o9, o10, o11, o12, o13, o14, o15, o16, o17, o18, o19] S9 = .nx [x0, x1, some (.obj c), some (.int t), some (.lst (rs.map dR)), some (.tup [.str m, .str s]), some (.obj f), some (.obj b), some (.obj b2), o9, o10, o11, o12, o13, o14, o15, o16, o17, o18, o19] S10 := by
    unfold u6
    rw [sIf_ev]
    simp only [not_ev, mTru_ev, mCall_ev, aCons_ev, aNil_ev, mVar_z, mVar_s, mC_ev, bind_ok, mTup_ev, mLst_ev, m2_ev, mN_ev, ofO_some, List.length_cons, List.length_nil, Nat.zero_add, Nat.reduceAdd, lim_1, lim_2, lim_3, lim_4, lim_5, lim_6, if_true, of_ok, List.set_cons_zero, List.set_cons_succ, f10, tru_b, Bool.not_true, selT_f, sNil_ev]
  have y7 : u7 [x0, x1, some (.obj c), some (.int t), some (.lst (rs.map dR)), some (.tup [.str m, .str s]), some (.obj f), some (.obj b), some (.obj b2), o9, o10, o11, o12, o13, o14, o15, o16, o17, o18, o19] S10 = .nx [x0, x1, some (.obj c), some (.int t), some (.lst (rs.map dR)), some (.tup [.str m, .str s]), some (.obj f), some (.obj b), some (.obj b2), o9, o10, o11, o12, o13, o14, o15, o16, o17, o18, o19] S11 := by
    unfold u7
    rw [sIf_ev]
    simp only [not_ev, mTru_ev, mCall_ev, aCons_ev, aNil_ev, mVar_z, mVar_s, mC_ev, bind_ok, mTup_ev, mLst_ev, m2_ev, mN_ev, ofO_some, List.length_cons, List.length_nil, Nat.zero_add, Nat.reduceAdd, lim_1, lim_2, lim_3, lim_4, lim_5, lim_6, if_true, of_ok, List.set_cons_zero, List.set_cons_succ, f11, tru_b, Bool.not_true, selT_f, sNil_ev]
  have y8 : u8 [x0, x1, some (.obj c), some (.int t), some (.lst (rs.map dR)), some (.tup [.str m, .str s]), some (.obj f), some (.obj b), some (.obj b2), o9, o10, o11, o12, o13, o14, o15, o16, o17, o18, o19] S11 = .nx [x0, x1, some (.obj c), some (.int t), some (.lst (rs.map dR)), some (.tup [.str m, .str s]), some (.obj f), some (.obj b), some (.obj b2), some (.bl q), o10, o11, o12, o13, o14, o15, o16, o17, o18, o19] S11 := by
    unfold u8
    rw [sSet_ev]
    simp only [m2_ev, mMeth_ev, aNil_ev, mVar_z, mVar_s, bind_ok, B11.g, B112.g, lk_tb, table_meth B11, table_meth B112, eq_tables, ofO_some, of_ok, List.set_cons_zero, List.set_cons_succ, ← hq]
  have y9 : u9 [x0, x1, some (.obj c), some (.int t), some (.lst (rs.map dR)), some (.tup [.str m, .str s]), some (.obj f), some (.obj b), some (.obj b2), some (.bl q), o10, o11, o12, o13, o14, o15, o16, o17, o18, o19] S11 = .nx [x0, x1, some (.obj c), some (.int t), some (.lst (rs.map dR)), some (.tup [.str m, .str s]), some (.obj f), some (.obj b), some (.obj b2), some (.bl q), some (.obj b3), o11, o12, o13, o14, o15, o16, o17, o18, o19] S12 := by
    have lc : lcL (bName 19) mYes (m2 addO (m2 ixO (mVar 19) (mC (.int 0))) (mTup (aCons (m2 ixO (mVar 19) (mC (.int 1))) (aCons (m2 ixO (mVar 19) (mC (.int 2))) aNil)))) [x0, x1, some (.obj c), some (.int t), some (.lst (rs.map dR)), some (.tup [.str m, .str s]), some (.obj f), some (.obj b), some (.obj b2), some (.bl q), o10, o11, o12, o13, o14, o15, o16, o17, o18, none] (table rs) [] S11 = .ok (W.map dR) S11 := by
      rw [lcL_all (bd := bName 19) (t := mYes) (m := m2 addO (m2 ixO (mVar 19) (mC (.int 0))) (mTup (aCons (m2 ixO (mVar 19) (mC (.int 1))) (aCons (m2 ixO (mVar 19) (mC (.int 2))) aNil)))) (fun d => match d with | .tup [x, .str u, .str v] => dR (rowOf (unC x) (u, v)) | _ => .non) (fun d hd => by
        obtain ⟨k, _, rfl⟩ := List.mem_map.mp hd
        refine ⟨_, rfl, rfl, ?_⟩
        have ar : addO S11 (dC k) (.tup [.str (told rs k).1, .str (told rs k).2]) = some (dR (rowOf k (told rs k))) := rfl
        have hu : unC (dC k) = k := rfl
        show m2 addO _ _ _ S11 = .ok (dR (rowOf k (told rs k))) S11
        simp only [m2_ev, mTup_ev, aCons_ev, aNil_ev, mVar_z, mVar_s, mC_ev, List.set_cons_zero, List.set_cons_succ, bind_ok, dT, ix_t0, ix_t1, ix_t2, ofO_some, List.length_cons, List.length_nil, Nat.zero_add, Nat.reduceAdd, lim_2, if_true, ar]) (by rw [table_len]; decide), List.nil_append, hW]
      unfold table
      rw [List.map_map, List.map_map]
      rfl
    unfold u9
    rw [sSet_ev, mMake_ev]
    simp only [aCons_ev, aNil_ev, m2_ev, mLc_ev, iSeq_ev, mMeth_ev, mVar_z, mVar_s, mC_ev, bind_ok, ix_t0, ix_t1, B11.g, lk_tb, table_meth B11, seqI_lst, ofO_some, wipe_cons, wipe_nil, List.set_cons_zero, List.set_cons_succ, lc, hi12, of_ok]
    rw [← hb3]
  have y10 : u10 [x0, x1, some (.obj c), some (.int t), some (.lst (rs.map dR)), some (.tup [.str m, .str s]), some (.obj f), some (.obj b), some (.obj b2), some (.bl q), some (.obj b3), o11, o12, o13, o14, o15, o16, o17, o18, o19] S12 = .nx [x0, x1, some (.obj c), some (.int t), some (.lst (rs.map dR)), some (.tup [.str m, .str s]), some (.obj f), some (.obj b), some (.obj b2), some (.bl q), some (.obj b3), some (.lst [.bl q, .bl q, .bl (!q), .bl true]), o12, o13, o14, o15, o16, o17, o18, o19] S12 := by
    have z1 : mEqI 4 F_Book___eq__ (mVar 7) (mVar 8) [x0, x1, some (.obj c), some (.int t), some (.lst (rs.map dR)), some (.tup [.str m, .str s]), some (.obj f), some (.obj b), some (.obj b2), some (.bl q), some (.obj b3), o11, o12, o13, o14, o15, o16, o17, o18, o19] S12 = .ok (.bl q) S12 := mEqI_ok rfl rfl B12.g (okR_bk B122) g1
    have z2 : mEqI 4 F_Book___eq__ (mVar 8) (mVar 7) [x0, x1, some (.obj c), some (.int t), some (.lst (rs.map dR)), some (.tup [.str m, .str s]), some (.obj f), some (.obj b), some (.obj b2), some (.bl q), some (.obj b3), o11, o12, o13, o14, o15, o16, o17, o18, o19] S12 = .ok (.bl q) S12 := mEqI_ok rfl rfl B122.g (okR_bk B12) g2
    have z3 : mNeI 4 F_Book___eq__ (mVar 7) (mVar 8) [x0, x1, some (.obj c), some (.int t), some (.lst (rs.map dR)), some (.tup [.str m, .str s]), some (.obj f), some (.obj b), some (.obj b2), some (.bl q), some (.obj b3), o11, o12, o13, o14, o15, o16, o17, o18, o19] S12 = .ok (.bl (!q)) S12 := mNeI_ok rfl rfl B12.g (okR_bk B122) g1
    have z4 : mEqI 4 F_Book___eq__ (mVar 7) (mVar 10) [x0, x1, some (.obj c), some (.int t), some (.lst (rs.map dR)), some (.tup [.str m, .str s]), some (.obj f), some (.obj b), some (.obj b2), some (.bl q), some (.obj b3), o11, o12, o13, o14, o15, o16, o17, o18, o19] S12 = .ok (.bl true) S12 := mEqI_ok rfl rfl B12.g (okR_bk B123) g3
    unfold u10
    rw [sSet_ev]
    simp only [mLst_ev, aCons_ev, aNil_ev, z1, z2, z3, z4, bind_ok, List.length_cons, List.length_nil, Nat.zero_add, Nat.reduceAdd, lim_4, if_true, of_ok, List.set_cons_zero, List.set_cons_succ]
  have y11 : u11 [x0, x1, some (.obj c), some (.int t), some (.lst (rs.map dR)), some (.tup [.str m, .str s]), some (.obj f), some (.obj b), some (.obj b2), some (.bl q), some (.obj b3), some (.lst [.bl q, .bl q, .bl (!q), .bl true]), o12, o13, o14, o15, o16, o17, o18, o19] S12 = .nx [x0, x1, some (.obj c), some (.int t), some (.lst (rs.map dR)), some (.tup [.str m, .str s]), some (.obj f), some (.obj b), some (.obj b2), some (.bl q), some (.obj b3), some (.lst [.bl q, .bl q, .bl (!q), .bl true, .bl false]), o12, o13, o14, o15, o16, o17, o18, o19] S12 := by
    have z1 : mEqI 4 F_Book___eq__ (mVar 7) (mVar 4) [x0, x1, some (.obj c), some (.int t), some (.lst (rs.map dR)), some (.tup [.str m, .str s]), some (.obj f), some (.obj b), some (.obj b2), some (.bl q), some (.obj b3), some (.lst [.bl q, .bl q, .bl (!q), .bl true]), o12, o13, o14, o15, o16, o17, o18, o19] S12 = .ok (.bl false) S12 := mEqI_ok rfl rfl B12.g rfl book_eq_rows
    have q1 : addO S12 (.lst [.bl q, .bl q, .bl (!q), .bl true]) (.lst [.bl false]) = some (.lst [.bl q, .bl q, .bl (!q), .bl true, .bl false]) := rfl
    unfold u11
    rw [sSet_ev, m2_ev]
    simp only [mVar_z, mVar_s, bind_ok, mLst_ev, aCons_ev, aNil_ev, z1, List.length_cons, List.length_nil, Nat.zero_add, Nat.reduceAdd, lim_1, if_true, q1, ofO_some, of_ok, List.set_cons_zero, List.set_cons_succ]
  have y12 : u12 [x0, x1, some (.obj c), some (.int t), some (.lst (rs.map dR)), some (.tup [.str m, .str s]), some (.obj f), some (.obj b), some (.obj b2), some (.bl q), some (.obj b3), some (.lst [.bl q, .bl q, .bl (!q), .bl true, .bl false]), o12, o13, o14, o15, o16, o17, o18, o19] S12 = .nx [x0, x1, some (.obj c), some (.int t), some (.lst (rs.map dR)), some (.tup [.str m, .str s]), some (.obj f), some (.obj b), some (.obj b2), some (.bl q), some (.obj b3), some (.lst [.bl q, .bl q, .bl (!q), .bl true, .bl false]), o12, o13, o14, o15, o16, o17, o18, o19] S12 := by
    have ag : F__law_agree 7 [.lst [.bl q, .bl q, .bl (!q), .bl true, .bl false], .lst [.bl q, .bl q, .bl (!q), .bl true, .bl false]] S12 = .ok (.bl true) S12 := agree_refl 7 _ (agr5 rfl rfl rfl rfl rfl) S12
    unfold u12
    rw [sIf_ev]
    simp only [not_ev, mTru_ev, mNot_ev, mCall_ev, aCons_ev, aNil_ev, mVar_z, mVar_s, mC_ev, bind_ok, mTup_ev, mLst_ev, m2_ev, mN_ev, ofO_some, List.length_cons, List.length_nil, Nat.zero_add, Nat.reduceAdd, lim_1, lim_2, lim_3, lim_4, lim_5, lim_6, if_true, of_ok, List.set_cons_zero, List.set_cons_succ, tru_b, ag, Bool.not_true, selT_f, sNil_ev]
  have y13 : u13 [x0, x1, some (.obj c), some (.int t), some (.lst (rs.map dR)), some (.tup [.str m, .str s]), some (.obj f), some (.obj b), some (.obj b2), some (.bl q), some (.obj b3), some (.lst [.bl q, .bl q, .bl (!q), .bl true, .bl false]), o12, o13, o14, o15, o16, o17, o18, o19] S12 = .nx [x0, x1, some (.obj c), some (.int t), some (.lst (rs.map dR)), some (.tup [.str m, .str s]), some (.obj f), some (.obj b), some (.obj b2), some (.bl q), some (.obj b3), some (.lst [.bl q, .bl q, .bl (!q), .bl true, .bl false]), o12, o13, o14, o15, o16, o17, o18, o19] S13 := by
    have z1 : mEqI 4 F_Book___eq__ (mVar 7) (mMeth 4 "in_form" F_Book_in_form (mVar 7) (aCons (mC (.str "termed")) (aCons (mC (.str "all")) aNil))) [x0, x1, some (.obj c), some (.int t), some (.lst (rs.map dR)), some (.tup [.str m, .str s]), some (.obj f), some (.obj b), some (.obj b2), some (.bl q), some (.obj b3), some (.lst [.bl q, .bl q, .bl (!q), .bl true, .bl false]), o12, o13, o14, o15, o16, o17, o18, o19] S12 = .ok (.bl (decide (m = "termed") && decide (s = "all"))) S13 :=
      mEqI_ok (y := .obj b4) rfl (by simp only [mMeth_ev, mVar_z, mVar_s, bind_ok, B12.g, lk_if, aCons_ev, aNil_ev, mC_ev, f13]) B13.g (okR_bk B134) g5
    have z2 : eqO S13 (.tup [.str m, .str s]) (.tup [.str "termed", .str "all"]) = some (.bl (decide (m = "termed") && decide (s = "all"))) := eqO_pair ..
    unfold u13
    rw [sIf_ev, mTst_ev, m2_ev, z1]
    simp only [bind_ok, m2_ev, mVar_z, mVar_s, mTup_ev, aCons_ev, aNil_ev, mC_ev, List.length_cons, List.length_nil, Nat.zero_add, Nat.reduceAdd, lim_2, if_true, z2, ofO_some, neO_b, decide_true, Bool.not_true, of_ok, selT_f, sNil_ev]
  have r8 : iRange1 (mC (.int 8)) [x0, x1, some (.obj c), some (.int t), some (.lst (rs.map dR)), some (.tup [.str m, .str s]), some (.obj f), some (.obj b), some (.obj b2), some (.bl q), some (.obj b3), some (.lst [.bl q, .bl q, .bl (!q), .bl true, .bl false]), o12, o13, o14, o15, o16, o17, o18, o19] S13 = .ok (rangeD 0 8) S13 := rng_ok (n := 8) rfl (by decide)
  obtain ⟨ρ', S', y14, p12, p13, p14, p15, p16, p17, hρ, k14⟩ := forL_ix (b := bName 12) (body := trialBody) (fun i ρ S' => ∃ p12 p13 p14 p15 p16 p17, ρ = [x0, x1, some (.obj c), some (.int t), some (.lst (rs.map dR)), some (.tup [.str m, .str s]), some (.obj f), some (.obj b), some (.obj b2), some (.bl q), some (.obj b3), some (.lst [.bl q, .bl q, .bl (!q), .bl true, .bl false]), p12, p13, p14, p15, p16, p17, o18, o19] ∧ Ck S' c (n + 752 + 30 * i)) (rangeD 0 8) 0 (fun i d hd ρ S' ⟨p12, p13, p14, p15, p16, p17, e, k⟩ => by
    subst e
    have hi8 : i < 8 := by
      have := (List.getElem?_eq_some_iff.mp hd).1
      rw [rangeD_length] at this
      exact this
    obtain ⟨ρ2, S2, e2, ⟨r12, r13, r14, r15, r16, r17, h2⟩, k2⟩ := trial_ok (rs := rs) (x0 := x0) (x1 := x1) (x3 := some (.int t)) (x5 := some (.tup [.str m, .str s])) (x6 := some (.obj f)) (x7 := some (.obj b)) (x8 := some (.obj b2)) (x9 := some (.bl q)) (x10 := some (.obj b3)) (x11 := some (.lst [.bl q, .bl q, .bl (!q), .bl true, .bl false])) (x18 := o18) (x19 := o19) (o12 := some d) (o13 := p13) (o14 := p14) (o15 := p15) (o16 := p16) (o17 := p17) k (by omega) hl
    exact ⟨_, rfl, ρ2, S2, e2, r12, r13, r14, r15, r16, r17, h2, k2.mono (by omega)⟩) [x0, x1, some (.obj c), some (.int t), some (.lst (rs.map dR)), some (.tup [.str m, .str s]), some (.obj f), some (.obj b), some (.obj b2), some (.bl q), some (.obj b3), some (.lst [.bl q, .bl q, .bl (!q), .bl true, .bl false]), o12, o13, o14, o15, o16, o17, o18, o19] S13 ⟨o12, o13, o14, o15, o16, o17, rfl, k13⟩
  refine ⟨ρ', S', ?_, ⟨some (.lst (rs.map dR)), some (.tup [.str m, .str s]), some (.obj f), some (.obj b), some (.obj b2), some (.bl q), some (.obj b3), some (.lst [.bl q, .bl q, .bl (!q), .bl true, .bl false]), p12, p13, p14, p15, p16, p17, o18, o19, hρ⟩, k14.mono (by rw [rangeD_length]; omega)⟩
  unfold turnBody
  rw [sSeq_ev, y0, seq_nx']
  rw [sSeq_ev, y1, seq_nx']
  rw [sSeq_ev, y2, seq_nx']
  rw [sSeq_ev, y3, seq_nx']
  rw [sSeq_ev, y4, seq_nx']
  rw [sSeq_ev, y5, seq_nx']
  rw [sSeq_ev, y6, seq_nx']
  rw [sSeq_ev, y7, seq_nx']
  rw [sSeq_ev, y8, seq_nx']
  rw [sSeq_ev, y9, seq_nx']
  rw [sSeq_ev, y10, seq_nx']
  rw [sSeq_ev, y11, seq_nx']
  rw [sSeq_ev, y12, seq_nx']
  rw [sSeq_ev, y13, seq_nx']
  unfold u14
  rw [sFor_ev, r8, of_ok]
  exact y14
end K05
/-! the plain law of k05: the law (printed by k05l.py) -/
namespace K05
open PySem L2 DL
def cb : MS := (sSet 0 (mLstO (aStar (mVar 0) (aStar (mLc (iSeq (mCall F_relations_of (aCons (mVar 1) aNil))) (bName 3) mYes (mTup (aCons (mVar 1) (aCons (mVar 2) (aCons (mVar 3) aNil)))) [3]) aNil))))
theorem cb_ok {a r : Str} {v0 : D} {v3 : Option D} {acc : List D} {S : Sto} (ha : a ∈ DW) (h : seqD S v0 = some acc) (hl : acc.length ≤ 100) : cb [some v0, some (.str a), some (.str r), v3] S = .nx [some (.obj S.length), some (.str a), some (.str r), v3] (S ++ [.lst (acc ++ (relsL a).map fun x => dC (a, r, x))]) := by
  have hr := roles_len ha
  have lc : lcL (bName 3) mYes (mTup (aCons (mVar 1) (aCons (mVar 2) (aCons (mVar 3) aNil)))) [some v0, some (.str a), some (.str r), none] ((relsL a).map D.str) [] S = .ok ((relsL a).map fun x => dC (a, r, x)) S := by
    rw [lcL_all (bd := bName 3) (t := mYes) (m := mTup (aCons (mVar 1) (aCons (mVar 2) (aCons (mVar 3) aNil)))) (fun d => .tup [.str a, .str r, d]) (fun d hd => ⟨_, rfl, rfl, by
      simp only [mTup_ev, aCons_ev, aNil_ev, mVar_z, mVar_s, List.set_cons_zero, List.set_cons_succ, bind_ok, List.length_cons, List.length_nil, Nat.zero_add, Nat.reduceAdd, lim_3, if_true]⟩) (by rw [List.length_map, List.length_nil, Nat.zero_add]; exact Nat.le_trans hr.2 (by decide)), List.nil_append, List.map_map]
    rfl
  have hb : (acc ++ (relsL a).map fun x => dC (a, r, x)).length ≤ lim := by
    rw [List.length_append, List.length_map]
    exact Nat.le_trans (Nat.add_le_add hl hr.2) (by decide)
  unfold cb
  rw [sSet_ev]
  simp only [mLstO_ev, aStar_ev, mVar_z, mVar_s, bind_ok, h, mLc_ev, iSeq_ev, mCall_ev, aCons_ev, aNil_ev, rels_ok ha, seqI_tup, ofO_some, wipe_cons, wipe_nil, List.set_cons_zero, List.set_cons_succ, lc, seqD_lst, List.append_nil, if_pos hb, of_ok]
theorem seq_last {S : Sto} {xs : List D} : seqD (S ++ [.lst xs]) (.obj S.length) = some xs := by
  show (match (S ++ [Ob.lst xs])[S.length]? with | some (.lst xs) => some xs | _ => none) = _
  rw [get_last]
theorem casesO_ok (S : Sto) : ∃ (S' : Sto) (n : Nat) (zs : List D), F_cases_at_O [] S = .ok (.obj n) S' ∧ S'[n]? = some (.lst zs) ∧ zs.length ≤ 100 := by
  have h1 : ("read" : Str) ∈ DW := by decide
  have h2 : ("write" : Str) ∈ DW := by decide
  have h3 : ("hand" : Str) ∈ DW := by decide
  obtain ⟨A1, hA1⟩ : ∃ A1 : List D, A1 = [] ++ (relsL "read").map fun x => dC ("read", "leads", x) := ⟨_, rfl⟩
  have a1 := fun v3 => cb_ok (r := "leads") (v0 := .lst []) (v3 := v3) (acc := []) (S := S) h1 rfl (by decide)
  rw [← hA1] at a1
  have l1 : A1.length = 5 := by rw [hA1]; rfl
  obtain ⟨A2, hA2⟩ : ∃ A2 : List D, A2 = A1 ++ (relsL "read").map fun x => dC ("read", "follows", x) := ⟨_, rfl⟩
  obtain ⟨S1, hS1⟩ : ∃ S1, S1 = S ++ [Ob.lst A1] := ⟨_, rfl⟩
  have q1 : seqD S1 (.obj S.length) = some A1 := by rw [hS1]; exact seq_last
  have a2 := fun v3 => cb_ok (r := "follows") (v3 := v3) h1 q1 (by omega)
  rw [← hA2] at a2
  have l2 : A2.length = 10 := by rw [hA2, List.length_append, l1]; rfl
  obtain ⟨A3, hA3⟩ : ∃ A3 : List D, A3 = A2 ++ (relsL "write").map fun x => dC ("write", "leads", x) := ⟨_, rfl⟩
  obtain ⟨S2, hS2⟩ : ∃ S2, S2 = S1 ++ [Ob.lst A2] := ⟨_, rfl⟩
  have q2 : seqD S2 (.obj S1.length) = some A2 := by rw [hS2]; exact seq_last
  have a3 := fun v3 => cb_ok (r := "leads") (v3 := v3) h2 q2 (by omega)
  rw [← hA3] at a3
  have l3 : A3.length = 15 := by rw [hA3, List.length_append, l2]; rfl
  obtain ⟨A4, hA4⟩ : ∃ A4 : List D, A4 = A3 ++ (relsL "hand").map fun x => dC ("hand", "any", x) := ⟨_, rfl⟩
  obtain ⟨S3, hS3⟩ : ∃ S3, S3 = S2 ++ [Ob.lst A3] := ⟨_, rfl⟩
  have q3 : seqD S3 (.obj S2.length) = some A3 := by rw [hS3]; exact seq_last
  have a4 := fun v3 => cb_ok (r := "any") (v3 := v3) h3 q3 (by omega)
  rw [← hA4] at a4
  have l4 : A4.length = 20 := by rw [hA4, List.length_append, l3]; rfl
  rw [← hS1] at a1
  rw [← hS2] at a2
  rw [← hS3] at a3
  refine ⟨S3 ++ [.lst A4], S3.length, A4, ?_, get_last, by omega⟩
  have r1 : F_roles_of [.str "read"] = fun S => .ok (.tup [.str "leads", .str "follows"]) S := funext fun S => roles_ok h1 S
  have r2 : F_roles_of [.str "write"] = fun S => .ok (.tup [.str "leads"]) S := funext fun S => roles_ok h2 S
  have r3 : F_roles_of [.str "hand"] = fun S => .ok (.tup [.str "any"]) S := funext fun S => roles_ok h3 S
  have b1 : sFor (iSeq (mCall F_roles_of (aCons (mVar 1) aNil))) (bName 2) cb [some (.lst []), some (.str "read"), none, none] S = .nx [some (.obj S1.length), some (.str "read"), some (.str "follows"), none] S2 := by
    rw [sFor_ev]
    simp only [iSeq_ev, mCall_ev, aCons_ev, aNil_ev, mVar_z, mVar_s, bind_ok, r1, seqI_tup, ofO_some, of_ok]
    rw [forL_cons]
    simp only [bName_ev, List.set_cons_zero, List.set_cons_succ, a1]
    rw [forL_cons]
    simp only [bName_ev, List.set_cons_zero, List.set_cons_succ, a2, forL_nil]
  have b2 : sFor (iSeq (mCall F_roles_of (aCons (mVar 1) aNil))) (bName 2) cb [some (.obj S1.length), some (.str "write"), some (.str "follows"), none] S2 = .nx [some (.obj S2.length), some (.str "write"), some (.str "leads"), none] S3 := by
    rw [sFor_ev]
    simp only [iSeq_ev, mCall_ev, aCons_ev, aNil_ev, mVar_z, mVar_s, bind_ok, r2, seqI_tup, ofO_some, of_ok]
    rw [forL_cons]
    simp only [bName_ev, List.set_cons_zero, List.set_cons_succ, a3, forL_nil]
  have b3 : sFor (iSeq (mCall F_roles_of (aCons (mVar 1) aNil))) (bName 2) cb [some (.obj S2.length), some (.str "hand"), some (.str "leads"), none] S3 = .nx [some (.obj S3.length), some (.str "hand"), some (.str "any"), none] (S3 ++ [.lst A4]) := by
    rw [sFor_ev]
    simp only [iSeq_ev, mCall_ev, aCons_ev, aNil_ev, mVar_z, mVar_s, bind_ok, r3, seqI_tup, ofO_some, of_ok]
    rw [forL_cons]
    simp only [bName_ev, List.set_cons_zero, List.set_cons_succ, a4, forL_nil]
  have mm : m_cases_at_O = sSeq (sSet 0 (mLst aNil)) (sSeq (sFor (iSeq (mC (tS DW))) (bName 1) (sFor (iSeq (mCall F_roles_of (aCons (mVar 1) aNil))) (bName 2) cb)) (sRet (mVar 0))) := rfl
  rw [ev_cases_at_O, mm, sSeq_ev, sSet_ev, mLst_ev]
  simp only [aNil_ev, bind_ok, List.length_nil, lim_0, if_true, of_ok, List.set_cons_zero, List.set_cons_succ, seq_nx']
  rw [sSeq_ev, sFor_ev]
  simp only [iSeq_ev, mC_ev, bind_ok, seqI_tup, ofO_some, of_ok, DW, List.map_cons, List.map_nil]
  rw [forL_cons]
  simp only [bName_ev, List.set_cons_zero, List.set_cons_succ, b1]
  rw [forL_cons]
  simp only [bName_ev, List.set_cons_zero, List.set_cons_succ, b2]
  rw [forL_cons]
  simp only [bName_ev, List.set_cons_zero, List.set_cons_succ, b3, forL_nil, seq_nx', sRet_ev, mVar_z, of_ok, fin_rt]
theorem agr_dC (n : Nat) (k : Case) : agr (n + 2) (dC k) = true := by simp [agr, dC]
def outer : MS := (sSeq (sSet 2 (mCall F__law_cask (aCons (mVar 0) (aCons (mVar 1) aNil)))) (sFor (iRange1 (mC (.int 4))) (bName 3) turnBody))
theorem law_eq : m_law = (sSeq (sFor (iRange1 (mN maxG (aCons (mC (.int 1)) (aCons (mN minG (aCons (mC (.int 2)) (aCons (mN lenG (aCons (mVar 0) aNil)) aNil))) aNil)))) (bName 1) outer) (sSeq (sApp (mCall F_cases_at_O aNil) (mC .non)) (sRet (mCall (F__law_agree 7) (aCons (mCall F_cases aNil) (aCons (mCall F__law_cases aNil) aNil)))))) := rfl
theorem cask_eq : F__law_cask = caskF := rfl
theorem outer_ok {ns : List Int} {i : Nat} {o2 o3 o4 o5 o6 o7 o8 o9 o10 o11 o12 o13 o14 o15 o16 o17 o18 o19 : Option D} {S : Sto} (hi : i < 64) : ∃ (ρ' : DL.Env) (S' : Sto), outer [some (scr ns), some (.int i), o2, o3, o4, o5, o6, o7, o8, o9, o10, o11, o12, o13, o14, o15, o16, o17, o18, o19] S = .nx ρ' S' ∧ ∃ o2 o3 o4 o5 o6 o7 o8 o9 o10 o11 o12 o13 o14 o15 o16 o17 o18 o19, ρ' = [some (scr ns), some (.int i), o2, o3, o4, o5, o6, o7, o8, o9, o10, o11, o12, o13, o14, o15, o16, o17, o18, o19] := by
  obtain ⟨o, e, hc⟩ := cask_ok ns i hi S
  obtain ⟨c, hc'⟩ : ∃ c, c = S.length := ⟨_, rfl⟩
  rw [← hc'] at e hc
  have e' : F__law_cask [scr ns, .int i] S = .ok (.obj c) (S ++ [o]) := by rw [cask_eq]; exact e
  have r4 : ∀ ρ S, iRange1 (mC (.int 4)) ρ S = .ok (rangeD 0 4) S := fun ρ S => rng_ok (n := 4) rfl (by decide)
  obtain ⟨ρ', S', e2, o3, o4, o5, o6, o7, o8, o9, o10, o11, o12, o13, o14, o15, o16, o17, o18, o19, hρ, k⟩ := forL_ix (b := bName 3) (body := turnBody) (fun j ρ S' => ∃ o3 o4 o5 o6 o7 o8 o9 o10 o11 o12 o13 o14 o15 o16 o17 o18 o19, ρ = [some (scr ns), some (.int i), some (.obj c), o3, o4, o5, o6, o7, o8, o9, o10, o11, o12, o13, o14, o15, o16, o17, o18, o19] ∧ Ck S' c (2000 * j)) (rangeD 0 4) 0 (fun j d hd ρ S' ⟨o3, o4, o5, o6, o7, o8, o9, o10, o11, o12, o13, o14, o15, o16, o17, o18, o19, e, k⟩ => by
    subst e
    have hj : j < 4 := by
      have := (List.getElem?_eq_some_iff.mp hd).1
      rw [rangeD_length] at this
      exact this
    obtain ⟨t, ht, rfl⟩ := mem_rangeD (List.mem_of_getElem? hd)
    obtain ⟨ρ2, S2, e2, ⟨p4, p5, p6, p7, p8, p9, p10, p11, p12, p13, p14, p15, p16, p17, p18, p19, h2⟩, k2⟩ := turn_ok (t := 0 + (t : Int)) (x0 := some (scr ns)) (x1 := some (.int i)) (o4 := o4) (o5 := o5) (o6 := o6) (o7 := o7) (o8 := o8) (o9 := o9) (o10 := o10) (o11 := o11) (o12 := o12) (o13 := o13) (o14 := o14) (o15 := o15) (o16 := o16) (o17 := o17) (o18 := o18) (o19 := o19) k (by omega) (by omega)
    exact ⟨_, rfl, ρ2, S2, e2, some (.int (0 + (t : Int))), p4, p5, p6, p7, p8, p9, p10, p11, p12, p13, p14, p15, p16, p17, p18, p19, h2, k2.mono (by omega)⟩) [some (scr ns), some (.int i), some (.obj c), o3, o4, o5, o6, o7, o8, o9, o10, o11, o12, o13, o14, o15, o16, o17, o18, o19] (S ++ [o]) ⟨o3, o4, o5, o6, o7, o8, o9, o10, o11, o12, o13, o14, o15, o16, o17, o18, o19, rfl, ⟨0, hc, by omega⟩⟩
  refine ⟨ρ', S', ?_, some (.obj c), o3, o4, o5, o6, o7, o8, o9, o10, o11, o12, o13, o14, o15, o16, o17, o18, o19, hρ⟩
  unfold outer
  rw [sSeq_ev, sSet_ev]
  simp only [mCall_ev, aCons_ev, aNil_ev, mVar_z, mVar_s, bind_ok, e', of_ok, seq_nx', List.set_cons_zero, List.set_cons_succ]
  rw [sFor_ev, r4, of_ok]
  exact e2
theorem law_true : ∀ ns : List Int, ns.length ≤ 63 → (∀ z ∈ ns, Builtin.Int.intBits z ≤ 1048576) → ∃ S, F_law [scr ns] [] = .ok (.bl true) S := by
  intro ns hl _
  have e7 : ∃ ρ' S', sFor (iRange1 (mN maxG (aCons (mC (.int 1)) (aCons (mN minG (aCons (mC (.int 2)) (aCons (mN lenG (aCons (mVar 0) aNil)) aNil))) aNil)))) (bName 1) outer [some (scr ns), none, none, none, none, none, none, none, none, none, none, none, none, none, none, none, none, none, none, none] [] = .nx ρ' S' := by
    obtain ⟨n, hn, hn2⟩ : ∃ n : Int, n = (if (if (ns.length : Int) < 2 then (ns.length : Int) else 2) > 1 then (if (ns.length : Int) < 2 then (ns.length : Int) else 2) else 1) ∧ 0 ≤ n ∧ n ≤ 2 := ⟨_, rfl, by split <;> split <;> omega, by split <;> split <;> omega⟩
    have hlen : lenG [] [scr ns] = some (.int ns.length) := by
      have e : lenG [] [scr ns] = some (D.int ((ns.map D.int).length : Nat)) := rfl
      rw [e, List.length_map]
    have hi : (iRange1 (mN maxG (aCons (mC (.int 1)) (aCons (mN minG (aCons (mC (.int 2)) (aCons (mN lenG (aCons (mVar 0) aNil)) aNil))) aNil)))) [some (scr ns), none, none, none, none, none, none, none, none, none, none, none, none, none, none, none, none, none, none, none] [] = .ok (rangeD 0 n.toNat) [] := by
      refine rng_int ?_ (by omega)
      simp only [mN_ev, aCons_ev, aNil_ev, mC_ev, mVar_z, bind_ok, hlen, ofO_some, minG, maxG, ← hn]
    obtain ⟨ρ', S', e, _⟩ := forL_ix (b := bName 1) (body := outer) (fun i ρ S => ∃ o1 o2 o3 o4 o5 o6 o7 o8 o9 o10 o11 o12 o13 o14 o15 o16 o17 o18 o19, ρ = [some (scr ns), o1, o2, o3, o4, o5, o6, o7, o8, o9, o10, o11, o12, o13, o14, o15, o16, o17, o18, o19]) (rangeD 0 n.toNat) 0
      (fun i d hd ρ S ⟨o1, o2, o3, o4, o5, o6, o7, o8, o9, o10, o11, o12, o13, o14, o15, o16, o17, o18, o19, e⟩ => by
        subst e
        obtain ⟨j, hj, rfl⟩ := mem_rangeD (List.mem_of_getElem? hd)
        have hj' : (0 : Int) + (j : Nat) = (j : Int) := by omega
        rw [hj']
        obtain ⟨ρ2, S2, e2, h2⟩ := outer_ok (ns := ns) (i := j) (o2 := o2) (o3 := o3) (o4 := o4) (o5 := o5) (o6 := o6) (o7 := o7) (o8 := o8) (o9 := o9) (o10 := o10) (o11 := o11) (o12 := o12) (o13 := o13) (o14 := o14) (o15 := o15) (o16 := o16) (o17 := o17) (o18 := o18) (o19 := o19) (S := S) (by omega)
        exact ⟨_, rfl, ρ2, S2, e2, some (.int j), h2⟩) [some (scr ns), none, none, none, none, none, none, none, none, none, none, none, none, none, none, none, none, none, none, none] [] ⟨none, none, none, none, none, none, none, none, none, none, none, none, none, none, none, none, none, none, none, rfl⟩
    refine ⟨ρ', S', ?_⟩
    rw [sFor_ev, hi, of_ok]
    exact e
  obtain ⟨ρ', S', e7⟩ := e7
  obtain ⟨S2, n, zs, e8, h8, l8⟩ := casesO_ok S'
  have e9 : sApp (mCall F_cases_at_O aNil) (mC .non) ρ' S' = .nx ρ' (S2.set n (.lst (zs ++ [.non]))) := sApp_ok (by simp only [mCall_ev, aNil_ev, bind_ok, e8]) h8 rfl h8 (Nat.lt_of_le_of_lt l8 (by decide))
  have ag : ∀ S, F__law_agree 7 [.lst (CASES.map dC), .lst (CASES.map dC)] S = .ok (.bl true) S := agree_refl 7 _ (agr_map (by decide) fun k _ => agr_dC 4 k)
  refine ⟨S2.set n (.lst (zs ++ [.non])), ?_⟩
  rw [ev_law, law_eq, sSeq_ev, e7, seq_nx', sSeq_ev, e9, seq_nx', sRet_ev]
  simp only [mCall_ev, aCons_ev, aNil_ev, bind_ok, cases_ok, law_cases_ok, ag, of_ok, fin_rt]
end K05
set_option pp.deepTerms false
set_option pp.maxSteps 300
/-! the head, printed by gen.py -/
namespace K05
open PySem L2 DL
theorem all_mk {l : PySem.W.OpenLaw} {w : World} {K : PySem.W.Frag} {h : Heap} {mg : Str → Option Value} {fa : Addr} (X : K.In h) (G : h.Ns mainGlobals mg) (hfa : mg "law" = some (.ref fa))
    {C4 : Addr} {f0 : Addr} {od0 an0 : Option Addr} {sl0 : Array (Option Value)} {oc0 kV0 dc0 pm0 cd0 ct0 : Value} {f1 : Addr} {od1 an1 : Option Addr} {sl1 : Array (Option Value)} {oc1 kV1 dc1 pm1 cd1 ct1 : Value} {f2 : Addr} {od2 an2 : Option Addr} {sl2 : Array (Option Value)} {oc2 kV2 dc2 pm2 cd2 ct2 : Value} {f3 : Addr} {od3 an3 : Option Addr} {sl3 : Array (Option Value)} {oc3 kV3 dc3 pm3 cd3 ct3 : Value} {f4 : Addr} {od4 an4 : Option Addr} {sl4 : Array (Option Value)} {oc4 kV4 dc4 pm4 cd4 ct4 : Value} {f5 : Addr} {od5 an5 : Option Addr} {sl5 : Array (Option Value)} {oc5 kV5 dc5 pm5 cd5 ct5 : Value} {f6 : Addr} {od6 an6 : Option Addr} {sl6 : Array (Option Value)} {oc6 kV6 dc6 pm6 cd6 ct6 : Value} {f7 : Addr} {od7 an7 : Option Addr} {sl7 : Array (Option Value)} {oc7 kV7 dc7 pm7 cd7 ct7 : Value} {f8 : Addr} {od8 an8 : Option Addr} {sl8 : Array (Option Value)} {oc8 kV8 dc8 pm8 cd8 ct8 : Value} {f9 : Addr} {od9 an9 : Option Addr} {sl9 : Array (Option Value)} {oc9 kV9 dc9 pm9 cd9 ct9 : Value} {f10 : Addr} {od10 an10 : Option Addr} {sl10 : Array (Option Value)} {oc10 kV10 dc10 pm10 cd10 ct10 : Value} {f11 : Addr} {od11 an11 : Option Addr} {sl11 : Array (Option Value)} {oc11 kV11 dc11 pm11 cd11 ct11 : Value} {f12 : Addr} {od12 an12 : Option Addr} {sl12 : Array (Option Value)} {oc12 kV12 dc12 pm12 cd12 ct12 : Value} {f13 : Addr} {od13 an13 : Option Addr} {sl13 : Array (Option Value)} {oc13 kV13 dc13 pm13 cd13 ct13 : Value} {f14 : Addr} {od14 an14 : Option Addr} {sl14 : Array (Option Value)} {oc14 kV14 dc14 pm14 cd14 ct14 : Value} {f15 : Addr} {od15 an15 : Option Addr} {sl15 : Array (Option Value)} {oc15 kV15 dc15 pm15 cd15 ct15 : Value} {f16 : Addr} {od16 an16 : Option Addr} {sl16 : Array (Option Value)} {oc16 kV16 dc16 pm16 cd16 ct16 : Value} {f17 : Addr} {od17 an17 : Option Addr} {sl17 : Array (Option Value)} {oc17 kV17 dc17 pm17 cd17 ct17 : Value} {f18 : Addr} {od18 an18 : Option Addr} {sl18 : Array (Option Value)} {oc18 kV18 dc18 pm18 cd18 ct18 : Value} {f19 : Addr} {od19 an19 : Option Addr} {sl19 : Array (Option Value)} {oc19 kV19 dc19 pm19 cd19 ct19 : Value} {f20 : Addr} {od20 an20 : Option Addr} {sl20 : Array (Option Value)} {oc20 kV20 dc20 pm20 cd20 ct20 : Value} {f21 : Addr} {od21 an21 : Option Addr} {sl21 : Array (Option Value)} {oc21 kV21 dc21 pm21 cd21 ct21 : Value} {f22 : Addr} {od22 an22 : Option Addr} {sl22 : Array (Option Value)} {oc22 kV22 dc22 pm22 cd22 ct22 : Value} {f23 : Addr} {od23 an23 : Option Addr} {sl23 : Array (Option Value)} {oc23 kV23 dc23 pm23 cd23 ct23 : Value} {f24 : Addr} {od24 an24 : Option Addr} {sl24 : Array (Option Value)} {oc24 kV24 dc24 pm24 cd24 ct24 : Value} {f25 : Addr} {od25 an25 : Option Addr} {sl25 : Array (Option Value)} {oc25 kV25 dc25 pm25 cd25 ct25 : Value} {f26 : Addr} {od26 an26 : Option Addr} {sl26 : Array (Option Value)} {oc26 kV26 dc26 pm26 cd26 ct26 : Value} {f27 : Addr} {od27 an27 : Option Addr} {sl27 : Array (Option Value)} {oc27 kV27 dc27 pm27 cd27 ct27 : Value} {f28 : Addr} {od28 an28 : Option Addr} {sl28 : Array (Option Value)} {oc28 kV28 dc28 pm28 cd28 ct28 : Value} {f29 : Addr} {od29 an29 : Option Addr} {sl29 : Array (Option Value)} {oc29 kV29 dc29 pm29 cd29 ct29 : Value} {f30 : Addr} {od30 an30 : Option Addr} {sl30 : Array (Option Value)} {oc30 kV30 dc30 pm30 cd30 ct30 : Value} {f31 : Addr} {od31 an31 : Option Addr} {sl31 : Array (Option Value)} {oc31 kV31 dc31 pm31 cd31 ct31 : Value} {f32 : Addr} {od32 an32 : Option Addr} {sl32 : Array (Option Value)} {oc32 kV32 dc32 pm32 cd32 ct32 : Value} {f33 : Addr} {od33 an33 : Option Addr} {sl33 : Array (Option Value)} {oc33 kV33 dc33 pm33 cd33 ct33 : Value} {f34 : Addr} {od34 an34 : Option Addr} {sl34 : Array (Option Value)} {oc34 kV34 dc34 pm34 cd34 ct34 : Value} {f35 : Addr} {od35 an35 : Option Addr} {sl35 : Array (Option Value)} {oc35 kV35 dc35 pm35 cd35 ct35 : Value} {f36 : Addr} {od36 an36 : Option Addr} {sl36 : Array (Option Value)} {oc36 kV36 dc36 pm36 cd36 ct36 : Value} {tk0 : Tok} {tk1 : Tok} {tk2 : Tok} {tk3 : Tok} {tk4 : Tok} {tk5 : Tok} {tk6 : Tok} {tk7 : Tok} {tk8 : Tok} {at9 : Addr} {dd9 : Option Addr} {nn9 : Nat} {ss9 : Array (Option Value)} {tk9_0 tk9_1 : Tok} {at10 : Addr} {dd10 : Option Addr} {nn10 : Nat} {ss10 : Array (Option Value)} {tk10_0 tk10_1 : Tok} {at11 : Addr} {dd11 : Option Addr} {nn11 : Nat} {ss11 : Array (Option Value)} {tk11_0 tk11_1 tk11_2 : Tok} {at12 : Addr} {dd12 : Option Addr} {nn12 : Nat} {ss12 : Array (Option Value)} {tk12_0 tk12_1 tk12_2 tk12_3 tk12_4 : Tok} {at13 : Addr} {dd13 : Option Addr} {nn13 : Nat} {ss13 : Array (Option Value)} {tk13_0 tk13_1 tk13_2 tk13_3 tk13_4 : Tok} {at14 : Addr} {dd14 : Option Addr} {nn14 : Nat} {ss14 : Array (Option Value)} {tk14_0 tk14_1 tk14_2 tk14_3 tk14_4 : Tok} {at15 : Addr} {dd15 : Option Addr} {nn15 : Nat} {ss15 : Array (Option Value)} {tk15_0 tk15_1 tk15_2 tk15_3 tk15_4 : Tok} {at16 : Addr} {dd16 : Option Addr} {nn16 : Nat} {ss16 : Array (Option Value)} {tk16_0 tk16_1 tk16_2 tk16_3 : Tok} {at17 : Addr} {dd17 : Option Addr} {nn17 : Nat} {ss17 : Array (Option Value)} {tk17_0 tk17_1 tk17_2 : Tok} {at18 : Addr} {dd18 : Option Addr} {nn18 : Nat} {ss18 : Array (Option Value)} {tk18_0 tk18_1 tk18_2 tk18_3 tk18_4 : Tok} {C0 : Addr} {C1 : Addr} {C2 : Addr} {C3 : Addr}
    (v4a : PySem.W.nsIn K mainGlobals "Book" = some (some (.ref C4)))
    (a0 : PySem.W.nsIn K mainGlobals "_law_cask" = some (some (.ref f0)))
    (l0 : K.lookup f0 = some ⟨oc0, od0, .func (PySem.W.fnOf "_law_cask" "_law_cask" (defArgs (top 58)) (defBody (top 58)) (defScope (top 58)) .none kV0 dc0 pm0 an0 cd0 ct0), sl0⟩)
    (c0 : PySem.W.codeIn K cd0 "_law_cask" = true)
    (k0 : PySem.W.keepIn K (.ref f0) = true)
    (a1 : PySem.W.nsIn K mainGlobals "_law_tap" = some (some (.ref f1)))
    (l1 : K.lookup f1 = some ⟨oc1, od1, .func (PySem.W.fnOf "_law_tap" "_law_tap" (defArgs (top 59)) (defBody (top 59)) (defScope (top 59)) .none kV1 dc1 pm1 an1 cd1 ct1), sl1⟩)
    (c1 : PySem.W.codeIn K cd1 "_law_tap" = true)
    (k1 : PySem.W.keepIn K (.ref f1) = true)
    (a2 : PySem.W.nsIn K mainGlobals "_law_book_words" = some (some (.ref f2)))
    (l2 : K.lookup f2 = some ⟨oc2, od2, .func (PySem.W.fnOf "_law_book_words" "_law_book_words" (defArgs (top 61)) (defBody (top 61)) (defScope (top 61)) .none kV2 dc2 pm2 an2 cd2 ct2), sl2⟩)
    (c2 : PySem.W.codeIn K cd2 "_law_book_words" = true)
    (k2 : PySem.W.keepIn K (.ref f2) = true)
    (a3 : PySem.W.nsIn K mainGlobals "_law_any_row" = some (some (.ref f3)))
    (l3 : K.lookup f3 = some ⟨oc3, od3, .func (PySem.W.fnOf "_law_any_row" "_law_any_row" (defArgs (top 64)) (defBody (top 64)) (defScope (top 64)) .none kV3 dc3 pm3 an3 cd3 ct3), sl3⟩)
    (c3 : PySem.W.codeIn K cd3 "_law_any_row" = true)
    (k3 : PySem.W.keepIn K (.ref f3) = true)
    (a4 : PySem.W.nsIn K mainGlobals "_law_good_rows" = some (some (.ref f4)))
    (l4 : K.lookup f4 = some ⟨oc4, od4, .func (PySem.W.fnOf "_law_good_rows" "_law_good_rows" (defArgs (top 65)) (defBody (top 65)) (defScope (top 65)) .none kV4 dc4 pm4 an4 cd4 ct4), sl4⟩)
    (c4 : PySem.W.codeIn K cd4 "_law_good_rows" = true)
    (k4 : PySem.W.keepIn K (.ref f4) = true)
    (a5 : PySem.W.nsIn K mainGlobals "is_word_of" = some (some (.ref f5)))
    (l5 : K.lookup f5 = some ⟨oc5, od5, .func (PySem.W.fnOf "is_word_of" "is_word_of" (defArgs (top 43)) (defBody (top 43)) (defScope (top 43)) .none kV5 dc5 pm5 an5 cd5 ct5), sl5⟩)
    (c5 : PySem.W.codeIn K cd5 "is_word_of" = true)
    (k5 : PySem.W.keepIn K (.ref f5) = true)
    (a6 : PySem.W.nsIn K mainGlobals "check_form" = some (some (.ref f6)))
    (l6 : K.lookup f6 = some ⟨oc6, od6, .func (PySem.W.fnOf "check_form" "check_form" (defArgs (top 55)) (defBody (top 55)) (defScope (top 55)) .none kV6 dc6 pm6 an6 cd6 ct6), sl6⟩)
    (c6 : PySem.W.codeIn K cd6 "check_form" = true)
    (k6 : PySem.W.keepIn K (.ref f6) = true)
    (a7 : PySem.W.nsIn K mainGlobals "roles_of" = some (some (.ref f7)))
    (l7 : K.lookup f7 = some ⟨oc7, od7, .func (PySem.W.fnOf "roles_of" "roles_of" (defArgs (top 44)) (defBody (top 44)) (defScope (top 44)) .none kV7 dc7 pm7 an7 cd7 ct7), sl7⟩)
    (c7 : PySem.W.codeIn K cd7 "roles_of" = true)
    (k7 : PySem.W.keepIn K (.ref f7) = true)
    (a8 : PySem.W.nsIn K mainGlobals "relations_of" = some (some (.ref f8)))
    (l8 : K.lookup f8 = some ⟨oc8, od8, .func (PySem.W.fnOf "relations_of" "relations_of" (defArgs (top 45)) (defBody (top 45)) (defScope (top 45)) .none kV8 dc8 pm8 an8 cd8 ct8), sl8⟩)
    (c8 : PySem.W.codeIn K cd8 "relations_of" = true)
    (k8 : PySem.W.keepIn K (.ref f8) = true)
    (a9 : PySem.W.nsIn K mainGlobals "actions_of" = some (some (.ref f9)))
    (l9 : K.lookup f9 = some ⟨oc9, od9, .func (PySem.W.fnOf "actions_of" "actions_of" (defArgs (top 47)) (defBody (top 47)) (defScope (top 47)) .none kV9 dc9 pm9 an9 cd9 ct9), sl9⟩)
    (c9 : PySem.W.codeIn K cd9 "actions_of" = true)
    (k9 : PySem.W.keepIn K (.ref f9) = true)
    (a10 : PySem.W.nsIn K mainGlobals "keeps_of" = some (some (.ref f10)))
    (l10 : K.lookup f10 = some ⟨oc10, od10, .func (PySem.W.fnOf "keeps_of" "keeps_of" (defArgs (top 48)) (defBody (top 48)) (defScope (top 48)) .none kV10 dc10 pm10 an10 cd10 ct10), sl10⟩)
    (c10 : PySem.W.codeIn K cd10 "keeps_of" = true)
    (k10 : PySem.W.keepIn K (.ref f10) = true)
    (a11 : PySem.W.nsIn K mainGlobals "is_book_row" = some (some (.ref f11)))
    (l11 : K.lookup f11 = some ⟨oc11, od11, .func (PySem.W.fnOf "is_book_row" "is_book_row" (defArgs (top 49)) (defBody (top 49)) (defScope (top 49)) .none kV11 dc11 pm11 an11 cd11 ct11), sl11⟩)
    (c11 : PySem.W.codeIn K cd11 "is_book_row" = true)
    (k11 : PySem.W.keepIn K (.ref f11) = true)
    (a12 : PySem.W.findIn K (.ref C4) "__init__" = some (some (.ref f12)))
    (i12 : PySem.W.isFn K (.ref f12) = true)
    (l12 : K.lookup f12 = some ⟨oc12, od12, .func (PySem.W.fnOf "__init__" "Book.__init__" (defArgs (methOf (top 56) 0)) (defBody (methOf (top 56) 0)) (defScope (methOf (top 56) 0)) .none kV12 dc12 pm12 an12 cd12 ct12), sl12⟩)
    (c12 : PySem.W.codeIn K cd12 "Book.__init__" = true)
    (k12 : PySem.W.keepIn K (.ref f12) = true)
    (a13 : PySem.W.nsIn K mainGlobals "is_case" = some (some (.ref f13)))
    (l13 : K.lookup f13 = some ⟨oc13, od13, .func (PySem.W.fnOf "is_case" "is_case" (defArgs (top 50)) (defBody (top 50)) (defScope (top 50)) .none kV13 dc13 pm13 an13 cd13 ct13), sl13⟩)
    (c13 : PySem.W.codeIn K cd13 "is_case" = true)
    (k13 : PySem.W.keepIn K (.ref f13) = true)
    (a14 : PySem.W.nsIn K mainGlobals "check_case" = some (some (.ref f14)))
    (l14 : K.lookup f14 = some ⟨oc14, od14, .func (PySem.W.fnOf "check_case" "check_case" (defArgs (top 51)) (defBody (top 51)) (defScope (top 51)) .none kV14 dc14 pm14 an14 cd14 ct14), sl14⟩)
    (c14 : PySem.W.codeIn K cd14 "check_case" = true)
    (k14 : PySem.W.keepIn K (.ref f14) = true)
    (a15 : PySem.W.nsIn K mainGlobals "is_for" = some (some (.ref f15)))
    (l15 : K.lookup f15 = some ⟨oc15, od15, .func (PySem.W.fnOf "is_for" "is_for" (defArgs (top 52)) (defBody (top 52)) (defScope (top 52)) .none kV15 dc15 pm15 an15 cd15 ct15), sl15⟩)
    (c15 : PySem.W.codeIn K cd15 "is_for" = true)
    (k15 : PySem.W.keepIn K (.ref f15) = true)
    (a16 : PySem.W.nsIn K mainGlobals "told_for" = some (some (.ref f16)))
    (l16 : K.lookup f16 = some ⟨oc16, od16, .func (PySem.W.fnOf "told_for" "told_for" (defArgs (top 53)) (defBody (top 53)) (defScope (top 53)) .none kV16 dc16 pm16 an16 cd16 ct16), sl16⟩)
    (c16 : PySem.W.codeIn K cd16 "told_for" = true)
    (k16 : PySem.W.keepIn K (.ref f16) = true)
    (a17 : PySem.W.findIn K (.ref C4) "__getitem__" = some (some (.ref f17)))
    (i17 : PySem.W.isFn K (.ref f17) = true)
    (j17 : PySem.W.fnIn K f17 = true)
    (l17 : K.lookup f17 = some ⟨oc17, od17, .func (PySem.W.fnOf "__getitem__" "Book.__getitem__" (defArgs (methOf (top 56) 1)) (defBody (methOf (top 56) 1)) (defScope (methOf (top 56) 1)) .none kV17 dc17 pm17 an17 cd17 ct17), sl17⟩)
    (c17 : PySem.W.codeIn K cd17 "Book.__getitem__" = true)
    (k17 : PySem.W.keepIn K (.ref f17) = true)
    (a18 : PySem.W.nsIn K mainGlobals "cases" = some (some (.ref f18)))
    (l18 : K.lookup f18 = some ⟨oc18, od18, .func (PySem.W.fnOf "cases" "cases" (defArgs (top 46)) (defBody (top 46)) (defScope (top 46)) .none kV18 dc18 pm18 an18 cd18 ct18), sl18⟩)
    (c18 : PySem.W.codeIn K cd18 "cases" = true)
    (k18 : PySem.W.keepIn K (.ref f18) = true)
    (a19 : PySem.W.findIn K (.ref C4) "with_case" = some (some (.ref f19)))
    (i19 : PySem.W.isFn K (.ref f19) = true)
    (l19 : K.lookup f19 = some ⟨oc19, od19, .func (PySem.W.fnOf "with_case" "Book.with_case" (defArgs (methOf (top 56) 3)) (defBody (methOf (top 56) 3)) (defScope (methOf (top 56) 3)) .none kV19 dc19 pm19 an19 cd19 ct19), sl19⟩)
    (c19 : PySem.W.codeIn K cd19 "Book.with_case" = true)
    (k19 : PySem.W.keepIn K (.ref f19) = true)
    (a20 : PySem.W.findIn K (.ref C4) "in_form" = some (some (.ref f20)))
    (i20 : PySem.W.isFn K (.ref f20) = true)
    (l20 : K.lookup f20 = some ⟨oc20, od20, .func (PySem.W.fnOf "in_form" "Book.in_form" (defArgs (methOf (top 56) 4)) (defBody (methOf (top 56) 4)) (defScope (methOf (top 56) 4)) .none kV20 dc20 pm20 an20 cd20 ct20), sl20⟩)
    (c20 : PySem.W.codeIn K cd20 "Book.in_form" = true)
    (k20 : PySem.W.keepIn K (.ref f20) = true)
    (a21 : PySem.W.nsIn K mainGlobals "_law_asked" = some (some (.ref f21)))
    (l21 : K.lookup f21 = some ⟨oc21, od21, .func (PySem.W.fnOf "_law_asked" "_law_asked" (defArgs (top 66)) (defBody (top 66)) (defScope (top 66)) .none kV21 dc21 pm21 an21 cd21 ct21), sl21⟩)
    (c21 : PySem.W.codeIn K cd21 "_law_asked" = true)
    (k21 : PySem.W.keepIn K (.ref f21) = true)
    (a22 : PySem.W.nsIn K mainGlobals "_law_said" = some (some (.ref f22)))
    (l22 : K.lookup f22 = some ⟨oc22, od22, .func (PySem.W.fnOf "_law_said" "_law_said" (defArgs (top 67)) (defBody (top 67)) (defScope (top 67)) .none kV22 dc22 pm22 an22 cd22 ct22), sl22⟩)
    (c22 : PySem.W.codeIn K cd22 "_law_said" = true)
    (k22 : PySem.W.keepIn K (.ref f22) = true)
    (a23 : PySem.W.nsIn K mainGlobals "_law_cases" = some (some (.ref f23)))
    (l23 : K.lookup f23 = some ⟨oc23, od23, .func (PySem.W.fnOf "_law_cases" "_law_cases" (defArgs (top 62)) (defBody (top 62)) (defScope (top 62)) .none kV23 dc23 pm23 an23 cd23 ct23), sl23⟩)
    (c23 : PySem.W.codeIn K cd23 "_law_cases" = true)
    (k23 : PySem.W.keepIn K (.ref f23) = true)
    (a24 : PySem.W.nsIn K mainGlobals "_law_told" = some (some (.ref f24)))
    (l24 : K.lookup f24 = some ⟨oc24, od24, .func (PySem.W.fnOf "_law_told" "_law_told" (defArgs (top 63)) (defBody (top 63)) (defScope (top 63)) .none kV24 dc24 pm24 an24 cd24 ct24), sl24⟩)
    (c24 : PySem.W.codeIn K cd24 "_law_told" = true)
    (k24 : PySem.W.keepIn K (.ref f24) = true)
    (a25 : PySem.W.nsIn K mainGlobals "table_of" = some (some (.ref f25)))
    (l25 : K.lookup f25 = some ⟨oc25, od25, .func (PySem.W.fnOf "table_of" "table_of" (defArgs (top 54)) (defBody (top 54)) (defScope (top 54)) .none kV25 dc25 pm25 an25 cd25 ct25), sl25⟩)
    (c25 : PySem.W.codeIn K cd25 "table_of" = true)
    (k25 : PySem.W.keepIn K (.ref f25) = true)
    (a26 : PySem.W.findIn K (.ref C4) "table" = some (some (.ref f26)))
    (i26 : PySem.W.isFn K (.ref f26) = true)
    (l26 : K.lookup f26 = some ⟨oc26, od26, .func (PySem.W.fnOf "table" "Book.table" (defArgs (methOf (top 56) 2)) (defBody (methOf (top 56) 2)) (defScope (methOf (top 56) 2)) .none kV26 dc26 pm26 an26 cd26 ct26), sl26⟩)
    (c26 : PySem.W.codeIn K cd26 "Book.table" = true)
    (k26 : PySem.W.keepIn K (.ref f26) = true)
    (a27 : PySem.W.findIn K (.ref C4) "__iter__" = some (some (.ref f27)))
    (i27 : PySem.W.isFn K (.ref f27) = true)
    (l27 : K.lookup f27 = some ⟨oc27, od27, .func (PySem.W.fnOf "__iter__" "Book.__iter__" (defArgs (methOf (top 56) 6)) (defBody (methOf (top 56) 6)) (defScope (methOf (top 56) 6)) .none kV27 dc27 pm27 an27 cd27 ct27), sl27⟩)
    (c27 : PySem.W.codeIn K cd27 "Book.__iter__" = true)
    (k27 : PySem.W.keepIn K (.ref f27) = true)
    (a28 : PySem.W.findIn K (.ref C4) "__len__" = some (some (.ref f28)))
    (i28 : PySem.W.isFn K (.ref f28) = true)
    (l28 : K.lookup f28 = some ⟨oc28, od28, .func (PySem.W.fnOf "__len__" "Book.__len__" (defArgs (methOf (top 56) 5)) (defBody (methOf (top 56) 5)) (defScope (methOf (top 56) 5)) .none kV28 dc28 pm28 an28 cd28 ct28), sl28⟩)
    (c28 : PySem.W.codeIn K cd28 "Book.__len__" = true)
    (k28 : PySem.W.keepIn K (.ref f28) = true)
    (a29 : PySem.W.nsIn K mainGlobals "_law_agree" = some (some (.ref f29)))
    (l29 : K.lookup f29 = some ⟨oc29, od29, .func (PySem.W.fnOf "_law_agree" "_law_agree" (defArgs (top 60)) (defBody (top 60)) (defScope (top 60)) .none kV29 dc29 pm29 an29 cd29 ct29), sl29⟩)
    (c29 : PySem.W.codeIn K cd29 "_law_agree" = true)
    (k29 : PySem.W.keepIn K (.ref f29) = true)
    (a30 : PySem.W.nsIn K mainGlobals "_law_book_right" = some (some (.ref f30)))
    (l30 : K.lookup f30 = some ⟨oc30, od30, .func (PySem.W.fnOf "_law_book_right" "_law_book_right" (defArgs (top 70)) (defBody (top 70)) (defScope (top 70)) .none kV30 dc30 pm30 an30 cd30 ct30), sl30⟩)
    (c30 : PySem.W.codeIn K cd30 "_law_book_right" = true)
    (k30 : PySem.W.keepIn K (.ref f30) = true)
    (a31 : PySem.W.nsIn K mainGlobals "_law_change_right" = some (some (.ref f31)))
    (l31 : K.lookup f31 = some ⟨oc31, od31, .func (PySem.W.fnOf "_law_change_right" "_law_change_right" (defArgs (top 72)) (defBody (top 72)) (defScope (top 72)) .none kV31 dc31 pm31 an31 cd31 ct31), sl31⟩)
    (c31 : PySem.W.codeIn K cd31 "_law_change_right" = true)
    (k31 : PySem.W.keepIn K (.ref f31) = true)
    (a32 : PySem.W.findIn K (.ref C4) "__eq__" = some (some (.ref f32)))
    (i32 : PySem.W.isFn K (.ref f32) = true)
    (l32 : K.lookup f32 = some ⟨oc32, od32, .func (PySem.W.fnOf "__eq__" "Book.__eq__" (defArgs (methOf (top 56) 7)) (defBody (methOf (top 56) 7)) (defScope (methOf (top 56) 7)) .none kV32 dc32 pm32 an32 cd32 ct32), sl32⟩)
    (c32 : PySem.W.codeIn K cd32 "Book.__eq__" = true)
    (k32 : PySem.W.keepIn K (.ref f32) = true)
    (a33 : PySem.W.nsIn K mainGlobals "_law_bent_rows" = some (some (.ref f33)))
    (l33 : K.lookup f33 = some ⟨oc33, od33, .func (PySem.W.fnOf "_law_bent_rows" "_law_bent_rows" (defArgs (top 71)) (defBody (top 71)) (defScope (top 71)) .none kV33 dc33 pm33 an33 cd33 ct33), sl33⟩)
    (c33 : PySem.W.codeIn K cd33 "_law_bent_rows" = true)
    (k33 : PySem.W.keepIn K (.ref f33) = true)
    (a34 : PySem.W.nsIn K mainGlobals "_law_row_good" = some (some (.ref f34)))
    (l34 : K.lookup f34 = some ⟨oc34, od34, .func (PySem.W.fnOf "_law_row_good" "_law_row_good" (defArgs (top 68)) (defBody (top 68)) (defScope (top 68)) .none kV34 dc34 pm34 an34 cd34 ct34), sl34⟩)
    (c34 : PySem.W.codeIn K cd34 "_law_row_good" = true)
    (k34 : PySem.W.keepIn K (.ref f34) = true)
    (a35 : PySem.W.nsIn K mainGlobals "_law_book_due" = some (some (.ref f35)))
    (l35 : K.lookup f35 = some ⟨oc35, od35, .func (PySem.W.fnOf "_law_book_due" "_law_book_due" (defArgs (top 69)) (defBody (top 69)) (defScope (top 69)) .none kV35 dc35 pm35 an35 cd35 ct35), sl35⟩)
    (c35 : PySem.W.codeIn K cd35 "_law_book_due" = true)
    (k35 : PySem.W.keepIn K (.ref f35) = true)
    (a36 : PySem.W.nsIn K mainGlobals "law" = some (some (.ref f36)))
    (l36 : K.lookup f36 = some ⟨oc36, od36, .func (PySem.W.fnOf "law" "law" (defArgs (top 73)) (defBody (top 73)) (defScope (top 73)) .none kV36 dc36 pm36 an36 cd36 ct36), sl36⟩)
    (c36 : PySem.W.codeIn K cd36 "law" = true)
    (k36 : PySem.W.keepIn K (.ref f36) = true)
    (y0 : PySem.W.nsIn K mainGlobals "READ" = some (some (.str "read" tk0)))
    (y1 : PySem.W.nsIn K mainGlobals "WRITE" = some (some (.str "write" tk1)))
    (y2 : PySem.W.nsIn K mainGlobals "HAND" = some (some (.str "hand" tk2)))
    (y3 : PySem.W.nsIn K mainGlobals "LEADS" = some (some (.str "leads" tk3)))
    (y4 : PySem.W.nsIn K mainGlobals "FOLLOWS" = some (some (.str "follows" tk4)))
    (y5 : PySem.W.nsIn K mainGlobals "ANY" = some (some (.str "any" tk5)))
    (y6 : PySem.W.nsIn K mainGlobals "WAIT" = some (some (.str "wait" tk6)))
    (y7 : PySem.W.nsIn K mainGlobals "NOTHING" = some (some (.str "nothing" tk7)))
    (y8 : PySem.W.nsIn K mainGlobals "MOST_ROWS" = some (some (.int 40 tk8)))
    (y9 : PySem.W.nsIn K mainGlobals "FORMS" = some (some (.ref at9)))
    (z9 : K.lookup at9 = some ⟨.type "tuple", dd9, .seq #[.str "termed" tk9_0, .str "bare" tk9_1] nn9, ss9⟩)
    (y10 : PySem.W.nsIn K mainGlobals "SCOPES" = some (some (.ref at10)))
    (z10 : K.lookup at10 = some ⟨.type "tuple", dd10, .seq #[.str "all" tk10_0, .str "key" tk10_1] nn10, ss10⟩)
    (y11 : PySem.W.nsIn K mainGlobals "DEED_WORDS" = some (some (.ref at11)))
    (z11 : K.lookup at11 = some ⟨.type "tuple", dd11, .seq #[.str "read" tk11_0, .str "write" tk11_1, .str "hand" tk11_2] nn11, ss11⟩)
    (y12 : PySem.W.nsIn K mainGlobals "AT_SERVERS" = some (some (.ref at12)))
    (z12 : K.lookup at12 = some ⟨.type "tuple", dd12, .seq #[.str "none" tk12_0, .str "safe" tk12_1, .str "held" tk12_2, .str "behind" tk12_3, .str "lost" tk12_4] nn12, ss12⟩)
    (y13 : PySem.W.nsIn K mainGlobals "BETWEEN_MARKS" = some (some (.ref at13)))
    (z13 : K.lookup at13 = some ⟨.type "tuple", dd13, .seq #[.str "none" tk13_0, .str "first" tk13_1, .str "same" tk13_2, .str "elder" tk13_3, .str "newer" tk13_4] nn13, ss13⟩)
    (y14 : PySem.W.nsIn K mainGlobals "READ_ACTIONS" = some (some (.ref at14)))
    (z14 : K.lookup at14 = some ⟨.type "tuple", dd14, .seq #[.str "answer" tk14_0, .str "safe" tk14_1, .str "ask" tk14_2, .str "wait" tk14_3, .str "tell" tk14_4] nn14, ss14⟩)
    (y15 : PySem.W.nsIn K mainGlobals "READ_KEEPS" = some (some (.ref at15)))
    (z15 : K.lookup at15 = some ⟨.type "tuple", dd15, .seq #[.str "nothing" tk15_0, .str "raise seen" tk15_1, .str "raise end" tk15_2, .str "put seen" tk15_3, .str "put end" tk15_4] nn15, ss15⟩)
    (y16 : PySem.W.nsIn K mainGlobals "WRITE_ACTIONS" = some (some (.ref at16)))
    (z16 : K.lookup at16 = some ⟨.type "tuple", dd16, .seq #[.str "take" tk16_0, .str "sure" tk16_1, .str "wait" tk16_2, .str "tell" tk16_3] nn16, ss16⟩)
    (y17 : PySem.W.nsIn K mainGlobals "WRITE_KEEPS" = some (some (.ref at17)))
    (z17 : K.lookup at17 = some ⟨.type "tuple", dd17, .seq #[.str "nothing" tk17_0, .str "raise" tk17_1, .str "put" tk17_2] nn17, ss17⟩)
    (y18 : PySem.W.nsIn K mainGlobals "HAND_ACTIONS" = some (some (.ref at18)))
    (z18 : K.lookup at18 = some ⟨.type "tuple", dd18, .seq #[.str "join" tk18_0, .str "put" tk18_1, .str "drop" tk18_2, .str "wait" tk18_3, .str "tell" tk18_4] nn18, ss18⟩)
    (b_abs : PySem.W.nsIn K mainGlobals "abs" = some none)
    (b_all : PySem.W.nsIn K mainGlobals "all" = some none)
    (b_bool : PySem.W.nsIn K mainGlobals "bool" = some none)
    (b_int : PySem.W.nsIn K mainGlobals "int" = some none)
    (b_isinstance : PySem.W.nsIn K mainGlobals "isinstance" = some none)
    (b_iter : PySem.W.nsIn K mainGlobals "iter" = some none)
    (b_len : PySem.W.nsIn K mainGlobals "len" = some none)
    (b_list : PySem.W.nsIn K mainGlobals "list" = some none)
    (b_max : PySem.W.nsIn K mainGlobals "max" = some none)
    (b_min : PySem.W.nsIn K mainGlobals "min" = some none)
    (b_range : PySem.W.nsIn K mainGlobals "range" = some none)
    (b_str : PySem.W.nsIn K mainGlobals "str" = some none)
    (b_tuple : PySem.W.nsIn K mainGlobals "tuple" = some none)
    (x0a : PySem.W.nsIn K mainGlobals "StoreError" = some (some (.ref C0)))
    (x0q : PySem.W.excIn K C0 [.type "ValueError", .type "Exception", .type "BaseException", .type "object"] "ValueError.__new__" = true)
    (x0k : PySem.W.keepIn K (.ref C0) = true)
    (x0b : PySem.W.subIn K (.ref C0) (.type "BaseException") = some true)
    (x0t : PySem.W.typeIn K (.ref C0) = some (.type "type"))
    (x0d : PySem.W.hasDictIn K C0 = true)
    (x1a : PySem.W.nsIn K mainGlobals "BadCase" = some (some (.ref C1)))
    (x1q : PySem.W.excIn K C1 [.type "ValueError", .type "Exception", .type "BaseException", .type "object"] "ValueError.__new__" = true)
    (x1k : PySem.W.keepIn K (.ref C1) = true)
    (x1b : PySem.W.subIn K (.ref C1) (.type "BaseException") = some true)
    (x1t : PySem.W.typeIn K (.ref C1) = some (.type "type"))
    (x1d : PySem.W.hasDictIn K C1 = true)
    (x2a : PySem.W.nsIn K mainGlobals "BadBook" = some (some (.ref C2)))
    (x2q : PySem.W.excIn K C2 [.type "ValueError", .type "Exception", .type "BaseException", .type "object"] "ValueError.__new__" = true)
    (x2k : PySem.W.keepIn K (.ref C2) = true)
    (x2b : PySem.W.subIn K (.ref C2) (.type "BaseException") = some true)
    (x2t : PySem.W.typeIn K (.ref C2) = some (.type "type"))
    (x2d : PySem.W.hasDictIn K C2 = true)
    (x3a : PySem.W.nsIn K mainGlobals "BadDeed" = some (some (.ref C3)))
    (x3q : PySem.W.excIn K C3 [.type "ValueError", .type "Exception", .type "BaseException", .type "object"] "ValueError.__new__" = true)
    (x3k : PySem.W.keepIn K (.ref C3) = true)
    (x3b : PySem.W.subIn K (.ref C3) (.type "BaseException") = some true)
    (x3t : PySem.W.typeIn K (.ref C3) = some (.type "type"))
    (x3d : PySem.W.hasDictIn K C3 = true)
    (s1_0 : PySem.W.subIn K (.ref C1) (.ref C0) = some true)
    (s1_1 : PySem.W.subIn K (.ref C1) (.ref C1) = some true)
    (s1_2 : PySem.W.subIn K (.ref C1) (.ref C2) = some false)
    (s1_3 : PySem.W.subIn K (.ref C1) (.ref C3) = some false)
    (s2_0 : PySem.W.subIn K (.ref C2) (.ref C0) = some true)
    (s2_1 : PySem.W.subIn K (.ref C2) (.ref C1) = some false)
    (s2_2 : PySem.W.subIn K (.ref C2) (.ref C2) = some true)
    (s2_3 : PySem.W.subIn K (.ref C2) (.ref C3) = some false)
    (e1g : PySem.W.findIn K (.ref C1) "__getattribute__" = some (some (.builtin "BaseException.__getattribute__")))
    (e1k : PySem.W.findIn K (.ref C1) "__getattr__" = some none)
    (e1a : PySem.W.findIn K (.ref C1) "__class__" = some (some (.builtin "object.__class__")))
    (e1m : PySem.W.mroIn K C1 (.type "object") = some true)
    (e2g : PySem.W.findIn K (.ref C2) "__getattribute__" = some (some (.builtin "BaseException.__getattribute__")))
    (e2k : PySem.W.findIn K (.ref C2) "__getattr__" = some none)
    (e2a : PySem.W.findIn K (.ref C2) "__class__" = some (some (.builtin "object.__class__")))
    (e2m : PySem.W.mroIn K C2 (.type "object") = some true)
    (ehn : PySem.W.specialIn K (.builtin "object.__class__") "__get__" = some (some (.builtin "getset_descriptor.__get__")))
    (eht : PySem.W.takesIn K (.builtin "object.__class__") = some true)
    (v4g : PySem.W.plainGet K C4 Str.empty = true)
    (v4d : PySem.W.hasDictIn K C4 = true)
    (v4o : PySem.W.plainOver K C4 = true)
    (v4s : PySem.W.findIn K (.ref C4) "__setattr__" = some (some (.builtin "object.__setattr__")))
    (v4m : PySem.W.makesIn K C4 = true)
    (v4k : PySem.W.keepIn K (.ref C4) = true)
    (v4t : PySem.W.typeIn K (.ref C4) = some (.type "type"))
    (v4i : PySem.W.isClsIn K C4 = true)
    (v4c : PySem.W.findIn K (.ref C4) "__class__" = some (some (.builtin "object.__class__")))
    (v4r : PySem.W.mroIn K C4 (.type "object") = some true)
    (v4_4 : PySem.W.subIn K (.ref C4) (.ref C4) = some true)
    (v4_int : PySem.W.subIn K (.ref C4) (.type "int") = some false)
    (v4_str : PySem.W.subIn K (.ref C4) (.type "str") = some false)
    (v4_bool : PySem.W.subIn K (.ref C4) (.type "bool") = some false)
    (v4_list : PySem.W.subIn K (.ref C4) (.type "list") = some false)
    (v4_tuple : PySem.W.subIn K (.ref C4) (.type "tuple") = some false)
    (v4_dict : PySem.W.subIn K (.ref C4) (.type "dict") = some false)
    (n4_kept_rows : PySem.W.findIn K (.ref C4) "kept_rows" = some none)
    (n4_marks : PySem.W.findIn K (.ref C4) "marks" = some none)
    (n4_scope : PySem.W.findIn K (.ref C4) "scope" = some none)
    (v4n : PySem.W.findIn K (.ref C4) "__ne__" = some (some (.builtin "object.__ne__")))
    : ∃ fd : FuncData, (∀ (s : Shared) (v : Value), BindsTo s fd ⟨[v], []⟩ [("script", v)]) ∧ ∀ base : Heap, K.In base → base.Ns mainGlobals mg → FnOk l.prog w K mg base (L2N.CX l.prog w) 11 fa fd ["script"] (spLaw K) := by
  have e := hfa.symm.trans (PySem.W.mg_of X G a36)
  cases e
  let C : Nat → Addr := fun c => match c with | 0 => C0 | 1 => C1 | 2 => C2 | 3 => C3 | _ => C4
  have T : Txt K mg C := {
    b_abs := PySem.W.mg_none_of X G b_abs
    b_all := PySem.W.mg_none_of X G b_all
    b_bool := PySem.W.mg_none_of X G b_bool
    b_int := PySem.W.mg_none_of X G b_int
    b_isinstance := PySem.W.mg_none_of X G b_isinstance
    b_iter := PySem.W.mg_none_of X G b_iter
    b_len := PySem.W.mg_none_of X G b_len
    b_list := PySem.W.mg_none_of X G b_list
    b_max := PySem.W.mg_none_of X G b_max
    b_min := PySem.W.mg_none_of X G b_min
    b_range := PySem.W.mg_none_of X G b_range
    b_str := PySem.W.mg_none_of X G b_str
    b_tuple := PySem.W.mg_none_of X G b_tuple
    g_READ := gc_str X G y0
    g_WRITE := gc_str X G y1
    g_HAND := gc_str X G y2
    g_LEADS := gc_str X G y3
    g_FOLLOWS := gc_str X G y4
    g_ANY := gc_str X G y5
    g_WAIT := gc_str X G y6
    g_NOTHING := gc_str X G y7
    g_MOST_ROWS := gc_int X G y8
    g_FORMS := gc_tup X G rfl y9 z9 (vals_strs (xs := [("termed", tk9_0), ("bare", tk9_1)])) (by show 2 ≤ 1000000; decide) (fun _ _ => rep_strs (xs := ["termed", "bare"]))
    g_SCOPES := gc_tup X G rfl y10 z10 (vals_strs (xs := [("all", tk10_0), ("key", tk10_1)])) (by show 2 ≤ 1000000; decide) (fun _ _ => rep_strs (xs := ["all", "key"]))
    g_DEED_WORDS := gc_tup X G rfl y11 z11 (vals_strs (xs := [("read", tk11_0), ("write", tk11_1), ("hand", tk11_2)])) (by show 3 ≤ 1000000; decide) (fun _ _ => rep_strs (xs := ["read", "write", "hand"]))
    g_AT_SERVERS := gc_tup X G rfl y12 z12 (vals_strs (xs := [("none", tk12_0), ("safe", tk12_1), ("held", tk12_2), ("behind", tk12_3), ("lost", tk12_4)])) (by show 5 ≤ 1000000; decide) (fun _ _ => rep_strs (xs := ["none", "safe", "held", "behind", "lost"]))
    g_BETWEEN_MARKS := gc_tup X G rfl y13 z13 (vals_strs (xs := [("none", tk13_0), ("first", tk13_1), ("same", tk13_2), ("elder", tk13_3), ("newer", tk13_4)])) (by show 5 ≤ 1000000; decide) (fun _ _ => rep_strs (xs := ["none", "first", "same", "elder", "newer"]))
    g_READ_ACTIONS := gc_tup X G rfl y14 z14 (vals_strs (xs := [("answer", tk14_0), ("safe", tk14_1), ("ask", tk14_2), ("wait", tk14_3), ("tell", tk14_4)])) (by show 5 ≤ 1000000; decide) (fun _ _ => rep_strs (xs := ["answer", "safe", "ask", "wait", "tell"]))
    g_READ_KEEPS := gc_tup X G rfl y15 z15 (vals_strs (xs := [("nothing", tk15_0), ("raise seen", tk15_1), ("raise end", tk15_2), ("put seen", tk15_3), ("put end", tk15_4)])) (by show 5 ≤ 1000000; decide) (fun _ _ => rep_strs (xs := ["nothing", "raise seen", "raise end", "put seen", "put end"]))
    g_WRITE_ACTIONS := gc_tup X G rfl y16 z16 (vals_strs (xs := [("take", tk16_0), ("sure", tk16_1), ("wait", tk16_2), ("tell", tk16_3)])) (by show 4 ≤ 1000000; decide) (fun _ _ => rep_strs (xs := ["take", "sure", "wait", "tell"]))
    g_WRITE_KEEPS := gc_tup X G rfl y17 z17 (vals_strs (xs := [("nothing", tk17_0), ("raise", tk17_1), ("put", tk17_2)])) (by show 3 ≤ 1000000; decide) (fun _ _ => rep_strs (xs := ["nothing", "raise", "put"]))
    g_HAND_ACTIONS := gc_tup X G rfl y18 z18 (vals_strs (xs := [("join", tk18_0), ("put", tk18_1), ("drop", tk18_2), ("wait", tk18_3), ("tell", tk18_4)])) (by show 5 ≤ 1000000; decide) (fun _ _ => rep_strs (xs := ["join", "put", "drop", "wait", "tell"]))
    k0 := ⟨x0q, PySem.W.mg_of X G x0a, x0k, x0b, x0t⟩
    k1 := ⟨x1q, PySem.W.mg_of X G x1a, x1k, x1b, x1t⟩
    k2 := ⟨x2q, PySem.W.mg_of X G x2a, x2k, x2b, x2t⟩
    k3 := ⟨x3q, PySem.W.mg_of X G x3a, x3k, x3b, x3t⟩
    x1 := by
      intro c b hb
      unfold ca1 at hb
      split at hb
      all_goals (cases hb <;> first | exact PySem.W.exm_ref x1b x1d x1t s1_1 | exact PySem.W.exm_ref x1b x1d x1t s2_1)
    x2 := by
      intro c b hb
      unfold ca2 at hb
      split at hb
      all_goals (cases hb <;> first | exact PySem.W.exm_ref x2b x2d x2t s1_2 | exact PySem.W.exm_ref x2b x2d x2t s2_2)
    e1 := ⟨e1g, e1k, x1b, x1d, e1a, ehn, eht, e1m⟩
    e2 := ⟨e2g, e2k, x2b, x2d, e2a, ehn, eht, e2m⟩
    q1_0 := kit_of s1_0 s1_1 x0d x0t
    q1_2 := kit_of s1_2 s1_1 x2d x2t
    q1_3 := kit_of s1_3 s1_1 x3d x3t
    q2_0 := kit_of s2_0 s2_2 x0d x0t
    q2_1 := kit_of s2_1 s2_2 x1d x1t
    q2_3 := kit_of s2_3 s2_2 x3d x3t
    isc := ⟨by
      intro c hc
      simp only [CS, List.mem_cons, List.not_mem_nil, or_false] at hc
      rcases hc with rfl
      · exact ⟨v4g, v4d, v4o, v4s⟩, by
      intro c hc
      simp only [CS, List.mem_cons, List.not_mem_nil, or_false] at hc
      rcases hc with rfl
      · exact v4c, ⟨ehn, eht⟩, by
      intro c hc
      simp only [CS, List.mem_cons, List.not_mem_nil, or_false] at hc
      rcases hc with rfl
      · exact v4r, by
      intro c hc c2 hc2
      simp only [CS, List.mem_cons, List.not_mem_nil, or_false] at hc hc2
      rcases hc with rfl <;> rcases hc2 with rfl
      · exact kit_of v4_4 v4_4 v4d v4t, by
      intro c hc
      simp only [CS, List.mem_cons, List.not_mem_nil, or_false] at hc
      rcases hc with rfl
      · exact fun t => kit_tc t v4i v4t, by
      intro c hc
      simp only [CS, List.mem_cons, List.not_mem_nil, or_false] at hc
      rcases hc with rfl
      · exact fun t ht => kit_ct t ht fun t ht => match t, ht with | .non, ht => absurd rfl ht | .bl, _ => v4_bool | .int, _ => v4_int | .str, _ => v4_str | .tup, _ => v4_tuple | .lst, _ => v4_list | .dct, _ => v4_dict⟩
    c_Book := gc_cls X G rfl v4a
    i4 := ⟨v4g, v4d, v4o, v4s⟩
    n4_kept_rows := n4_kept_rows
    n4_marks := n4_marks
    n4_scope := n4_scope
    ne4 := v4n
    ob4 := v4r }
  have F0 := fun_mk (st := (top 58)) l0 c0 k0
  have B0 := F0.binds (ps := ["script", "at"]) fun _ _ _ _ _ _ us hl => match us, hl with | [_, _], _ => rfl
  have F1 := fun_mk (st := (top 59)) l1 c1 k1
  have B1 := F1.binds (ps := ["cask", "span"]) fun _ _ _ _ _ _ us hl => match us, hl with | [_, _], _ => rfl
  have F2 := fun_mk (st := (top 61)) l2 c2 k2
  have B2 := F2.binds (ps := ["deed"]) fun _ _ _ _ _ _ us hl => match us, hl with | [_], _ => rfl
  have F3 := fun_mk (st := (top 64)) l3 c3 k3
  have B3 := F3.binds (ps := ["cask"]) fun _ _ _ _ _ _ us hl => match us, hl with | [_], _ => rfl
  have F4 := fun_mk (st := (top 65)) l4 c4 k4
  have B4 := F4.binds (ps := ["cask"]) fun _ _ _ _ _ _ us hl => match us, hl with | [_], _ => rfl
  have F5 := fun_mk (st := (top 43)) l5 c5 k5
  have B5 := F5.binds (ps := ["words", "thing"]) fun _ _ _ _ _ _ us hl => match us, hl with | [_, _], _ => rfl
  have F6 := fun_mk (st := (top 55)) l6 c6 k6
  have B6 := F6.binds (ps := ["marks", "scope"]) fun _ _ _ _ _ _ us hl => match us, hl with | [_, _], _ => rfl
  have F7 := fun_mk (st := (top 44)) l7 c7 k7
  have B7 := F7.binds (ps := ["deed"]) fun _ _ _ _ _ _ us hl => match us, hl with | [_], _ => rfl
  have F8 := fun_mk (st := (top 45)) l8 c8 k8
  have B8 := F8.binds (ps := ["deed"]) fun _ _ _ _ _ _ us hl => match us, hl with | [_], _ => rfl
  have F9 := fun_mk (st := (top 47)) l9 c9 k9
  have B9 := F9.binds (ps := ["deed"]) fun _ _ _ _ _ _ us hl => match us, hl with | [_], _ => rfl
  have F10 := fun_mk (st := (top 48)) l10 c10 k10
  have B10 := F10.binds (ps := ["deed"]) fun _ _ _ _ _ _ us hl => match us, hl with | [_], _ => rfl
  have F11 := fun_mk (st := (top 49)) l11 c11 k11
  have B11 := F11.binds (ps := ["thing"]) fun _ _ _ _ _ _ us hl => match us, hl with | [_], _ => rfl
  have F12 := fun_mk (st := (methOf (top 56) 0)) l12 c12 k12
  have B12 := F12.binds (ps := ["self", "marks", "scope", "rows"]) fun _ _ _ _ _ _ us hl => match us, hl with | [_, _, _, _], _ => rfl
  have F13 := fun_mk (st := (top 50)) l13 c13 k13
  have B13 := F13.binds (ps := ["thing"]) fun _ _ _ _ _ _ us hl => match us, hl with | [_], _ => rfl
  have F14 := fun_mk (st := (top 51)) l14 c14 k14
  have B14 := F14.binds (ps := ["thing"]) fun _ _ _ _ _ _ us hl => match us, hl with | [_], _ => rfl
  have F15 := fun_mk (st := (top 52)) l15 c15 k15
  have B15 := F15.binds (ps := ["row", "case"]) fun _ _ _ _ _ _ us hl => match us, hl with | [_, _], _ => rfl
  have F16 := fun_mk (st := (top 53)) l16 c16 k16
  have B16 := F16.binds (ps := ["rows", "case"]) fun _ _ _ _ _ _ us hl => match us, hl with | [_, _], _ => rfl
  have F17 := fun_mk (st := (methOf (top 56) 1)) l17 c17 k17
  have B17 := F17.binds (ps := ["self", "case"]) fun _ _ _ _ _ _ us hl => match us, hl with | [_, _], _ => rfl
  have F18 := fun_mk (st := (top 46)) l18 c18 k18
  have B18 := F18.binds (ps := []) fun _ _ _ _ _ _ us hl => match us, hl with | [], _ => rfl
  have F19 := fun_mk (st := (methOf (top 56) 3)) l19 c19 k19
  have B19 := F19.binds (ps := ["self", "case", "action", "keep"]) fun _ _ _ _ _ _ us hl => match us, hl with | [_, _, _, _], _ => rfl
  have F20 := fun_mk (st := (methOf (top 56) 4)) l20 c20 k20
  have B20 := F20.binds (ps := ["self", "marks", "scope"]) fun _ _ _ _ _ _ us hl => match us, hl with | [_, _, _], _ => rfl
  have F21 := fun_mk (st := (top 66)) l21 c21 k21
  have B21 := F21.binds (ps := ["way", "thing", "g"]) fun _ _ _ _ _ _ us hl => match us, hl with | [_, _, _], _ => rfl
  have F22 := fun_mk (st := (top 67)) l22 c22 k22
  have B22 := F22.binds (ps := ["way", "thing", "g"]) fun _ _ _ _ _ _ us hl => match us, hl with | [_, _, _], _ => rfl
  have F23 := fun_mk (st := (top 62)) l23 c23 k23
  have B23 := F23.binds (ps := []) fun _ _ _ _ _ _ us hl => match us, hl with | [], _ => rfl
  have F24 := fun_mk (st := (top 63)) l24 c24 k24
  have B24 := F24.binds (ps := ["book_rows", "case_here"]) fun _ _ _ _ _ _ us hl => match us, hl with | [_, _], _ => rfl
  have F25 := fun_mk (st := (top 54)) l25 c25 k25
  have B25 := F25.binds (ps := ["rows"]) fun _ _ _ _ _ _ us hl => match us, hl with | [_], _ => rfl
  have F26 := fun_mk (st := (methOf (top 56) 2)) l26 c26 k26
  have B26 := F26.binds (ps := ["self"]) fun _ _ _ _ _ _ us hl => match us, hl with | [_], _ => rfl
  have F27 := fun_mk (st := (methOf (top 56) 6)) l27 c27 k27
  have B27 := F27.binds (ps := ["self"]) fun _ _ _ _ _ _ us hl => match us, hl with | [_], _ => rfl
  have F28 := fun_mk (st := (methOf (top 56) 5)) l28 c28 k28
  have B28 := F28.binds (ps := ["self"]) fun _ _ _ _ _ _ us hl => match us, hl with | [_], _ => rfl
  have F29 := fun_mk (st := (top 60)) l29 c29 k29
  have B29 := F29.binds (ps := ["found", "due"]) fun _ _ _ _ _ _ us hl => match us, hl with | [_, _], _ => rfl
  have F30 := fun_mk (st := (top 70)) l30 c30 k30
  have B30 := F30.binds (ps := ["book_here", "form", "rows_here"]) fun _ _ _ _ _ _ us hl => match us, hl with | [_, _, _], _ => rfl
  have F31 := fun_mk (st := (top 72)) l31 c31 k31
  have B31 := F31.binds (ps := ["cask", "book_here", "form", "rows_here"]) fun _ _ _ _ _ _ us hl => match us, hl with | [_, _, _, _], _ => rfl
  have F32 := fun_mk (st := (methOf (top 56) 7)) l32 c32 k32
  have B32 := F32.binds (ps := ["self", "other"]) fun _ _ _ _ _ _ us hl => match us, hl with | [_, _], _ => rfl
  have F33 := fun_mk (st := (top 71)) l33 c33 k33
  have B33 := F33.binds (ps := ["cask", "rows_here"]) fun _ _ _ _ _ _ us hl => match us, hl with | [_, _], _ => rfl
  have F34 := fun_mk (st := (top 68)) l34 c34 k34
  have B34 := F34.binds (ps := ["thing"]) fun _ _ _ _ _ _ us hl => match us, hl with | [_], _ => rfl
  have F35 := fun_mk (st := (top 69)) l35 c35 k35
  have B35 := F35.binds (ps := ["g"]) fun _ _ _ _ _ _ us hl => match us, hl with | [_], _ => rfl
  have F36 := fun_mk (st := (top 73)) l36 c36 k36
  have B36 := F36.binds (ps := ["script"]) fun _ _ _ _ _ _ us hl => match us, hl with | [_], _ => rfl
  have K_Book___init___1_rows_marks_scope : KwB K _ ["self", "marks", "scope", "rows"] ["rows", "marks", "scope"] 1 [0, 2, 3, 1] := kwb_of F12 fun _ _ _ _ _ _ us ws zs h1 h2 h3 => match us, ws, h1, h2, h3 with | [_], [_, _, _], _, _, h3 => by cases h3; rfl
  have K_Book_in_form_1_scope_marks : KwB K _ ["self", "marks", "scope"] ["scope", "marks"] 1 [0, 2, 1] := kwb_of F20 fun _ _ _ _ _ _ us ws zs h1 h2 h3 => match us, ws, h1, h2, h3 with | [_], [_, _], _, _, h3 => by cases h3; rfl
  have K_Book_with_case_1_keep_case_action : KwB K _ ["self", "case", "action", "keep"] ["keep", "case", "action"] 1 [0, 2, 3, 1] := kwb_of F19 fun _ _ _ _ _ _ us ws zs h1 h2 h3 => match us, ws, h1, h2, h3 with | [_], [_, _, _], _, _, h3 => by cases h3; rfl
  refine ⟨PySem.W.fnOf "law" "law" (defArgs (top 73)) (defBody (top 73)) (defScope (top 73)) .none kV36 dc36 pm36 an36 cd36 ct36, fun s v => .of_eq rfl, fun base _ _ => ?_⟩
  have D__law_cask := ok__law_cask (P := l.prog) (w := w) (base := base) T F0 (PySem.W.mg_of X G a0) B0
  have D__law_tap := ok__law_tap (P := l.prog) (w := w) (base := base) T F1 (PySem.W.mg_of X G a1) B1
  have D__law_book_words := ok__law_book_words (P := l.prog) (w := w) (base := base) T F2 (PySem.W.mg_of X G a2) B2
  have D__law_any_row := ok__law_any_row (P := l.prog) (w := w) (base := base) T D__law_tap D__law_book_words F3 (PySem.W.mg_of X G a3) B3
  have D__law_good_rows := ok__law_good_rows (P := l.prog) (w := w) (base := base) T D__law_tap D__law_any_row F4 (PySem.W.mg_of X G a4) B4
  have D_is_word_of := ok_is_word_of (P := l.prog) (w := w) (base := base) T F5 (PySem.W.mg_of X G a5) B5
  have D_check_form := ok_check_form (P := l.prog) (w := w) (base := base) T D_is_word_of F6 (PySem.W.mg_of X G a6) B6
  have D_roles_of := ok_roles_of (P := l.prog) (w := w) (base := base) T F7 (PySem.W.mg_of X G a7) B7
  have D_relations_of := ok_relations_of (P := l.prog) (w := w) (base := base) T F8 (PySem.W.mg_of X G a8) B8
  have D_actions_of := ok_actions_of (P := l.prog) (w := w) (base := base) T F9 (PySem.W.mg_of X G a9) B9
  have D_keeps_of := ok_keeps_of (P := l.prog) (w := w) (base := base) T F10 (PySem.W.mg_of X G a10) B10
  have D_is_book_row := ok_is_book_row (P := l.prog) (w := w) (base := base) T D_is_word_of D_roles_of D_relations_of D_actions_of D_keeps_of F11 (PySem.W.mg_of X G a11) B11
  have D_Book___init__ := ok_Book___init__ (P := l.prog) (w := w) (base := base) T D_check_form D_is_book_row F12 ⟨v4m, a12, i12, v4k⟩ (PySem.W.mg_of X G v4a) B12
  have D_is_case := ok_is_case (P := l.prog) (w := w) (base := base) T D_is_word_of D_roles_of D_relations_of F13 (PySem.W.mg_of X G a13) B13
  have D_check_case := ok_check_case (P := l.prog) (w := w) (base := base) T D_is_case F14 (PySem.W.mg_of X G a14) B14
  have D_is_for := ok_is_for (P := l.prog) (w := w) (base := base) T F15 (PySem.W.mg_of X G a15) B15
  have D_told_for := ok_told_for (P := l.prog) (w := w) (base := base) T D_is_for F16 (PySem.W.mg_of X G a16) B16
  have D_Book___getitem__ := ok_Book___getitem__ (P := l.prog) (w := w) (base := base) T D_check_case D_told_for F17 ⟨a17, i17, k17⟩ B17
  have D_cases := ok_cases (P := l.prog) (w := w) (base := base) T D_roles_of D_relations_of F18 (PySem.W.mg_of X G a18) B18
  have D_Book_with_case := ok_Book_with_case (P := l.prog) (w := w) (base := base) T D_check_case D_is_word_of D_actions_of D_keeps_of D_cases D_told_for D_Book___init__ F19 ⟨a19, i19, k19⟩ B19
  have D_Book_in_form := ok_Book_in_form (P := l.prog) (w := w) (base := base) T D_Book___init__ F20 ⟨a20, i20, k20⟩ B20
  have D__law_asked := ok__law_asked (P := l.prog) (w := w) (base := base) T D_Book___init__ K_Book___init___1_rows_marks_scope D_Book___getitem__ j17 D_Book_with_case K_Book_with_case_1_keep_case_action D_Book_in_form K_Book_in_form_1_scope_marks F21 (PySem.W.mg_of X G a21) B21
  have D__law_said := ok__law_said (P := l.prog) (w := w) (base := base) T D__law_asked F22 (PySem.W.mg_of X G a22) B22
  have D__law_cases := ok__law_cases (P := l.prog) (w := w) (base := base) T D__law_book_words F23 (PySem.W.mg_of X G a23) B23
  have D__law_told := ok__law_told (P := l.prog) (w := w) (base := base) T F24 (PySem.W.mg_of X G a24) B24
  have D_table_of_at_O := ok_table_of_at_O (P := l.prog) (w := w) (base := base) T D_cases D_told_for F25 (PySem.W.mg_of X G a25) B25
  have D_Book_table_at_O := ok_Book_table_at_O (P := l.prog) (w := w) (base := base) T D_table_of_at_O F26 ⟨a26, i26, k26⟩ B26
  have D_Book___iter__ := ok_Book___iter__ (P := l.prog) (w := w) (base := base) T F27 ⟨a27, i27, k27⟩ B27
  have D_Book___len__ := ok_Book___len__ (P := l.prog) (w := w) (base := base) T F28 ⟨a28, i28, k28⟩ B28
  have D_table_of := ok_table_of (P := l.prog) (w := w) (base := base) T D_cases D_told_for F25 (PySem.W.mg_of X G a25) B25
  have D_Book_table := ok_Book_table (P := l.prog) (w := w) (base := base) T D_table_of F26 ⟨a26, i26, k26⟩ B26
  have D__law_agree := ok__law_agree (P := l.prog) (w := w) (base := base) T F29 (PySem.W.mg_of X G a29) B29 7
  have D__law_book_right := ok__law_book_right (P := l.prog) (w := w) (base := base) T D__law_cases D__law_told D_Book_table_at_O D_Book___iter__ D_Book___len__ D_Book_table D__law_agree D__law_said F30 (PySem.W.mg_of X G a30) B30
  have D__law_change_right := ok__law_change_right (P := l.prog) (w := w) (base := base) T D__law_cases D__law_tap D__law_book_words D__law_said D__law_told D__law_book_right F31 (PySem.W.mg_of X G a31) B31
  have D_Book___eq__ := ok_Book___eq__ (P := l.prog) (w := w) (base := base) T D_table_of F32 ⟨a32, i32, k32⟩ B32
  have D__law_bent_rows := ok__law_bent_rows (P := l.prog) (w := w) (base := base) T D__law_tap F33 (PySem.W.mg_of X G a33) B33
  have D__law_row_good := ok__law_row_good (P := l.prog) (w := w) (base := base) T D__law_book_words F34 (PySem.W.mg_of X G a34) B34
  have D__law_book_due := ok__law_book_due (P := l.prog) (w := w) (base := base) T D__law_row_good F35 (PySem.W.mg_of X G a35) B35
  have D_cases_at_O := ok_cases_at_O (P := l.prog) (w := w) (base := base) T D_roles_of D_relations_of F18 (PySem.W.mg_of X G a18) B18
  have D_law := ok_law (P := l.prog) (w := w) (base := base) T D__law_cask D__law_tap D__law_any_row D__law_good_rows D_Book___init__ D__law_said D__law_book_right D__law_change_right D_Book_table D_Book___eq__ D__law_agree D_Book_in_form D__law_bent_rows D__law_book_due D_cases_at_O D__law_cases D_cases F36 (PySem.W.mg_of X G a36) B36
  exact D_law.fn.imp (law_imp rfl law_true)
end K05
set_option pp.deepTerms false
set_option pp.maxSteps 300

open PySem PySem.W PyProof.Rows
set_option maxRecDepth 100000 in
set_option maxHeartbeats 0 in
theorem PySem.Challenge.cw_tokenreads_k05_books_told_holds : PySem.Challenge.rw_tokenreads_k05_books_told.Holds := by
  w_on; o_law; k_head; (case hw => w_witness2)
  k_fill
  refine DL.walk (l := PySem.Challenge.rw_tokenreads_k05_books_told) 11 rfl rfl ⟨rfl, by decide, by decide⟩ (fun w h Y => PySem.W.kIn_of Y) ?F
  case F =>
    intro w mg fa h KX G hmg
    refine' K05.all_mk KX G hmg ?v4a ?a0 ?l0 ?c0 ?k0 ?a1 ?l1 ?c1 ?k1 ?a2 ?l2 ?c2 ?k2 ?a3 ?l3 ?c3 ?k3 ?a4 ?l4 ?c4 ?k4 ?a5 ?l5 ?c5 ?k5 ?a6 ?l6 ?c6 ?k6 ?a7 ?l7 ?c7 ?k7 ?a8 ?l8 ?c8 ?k8 ?a9 ?l9 ?c9 ?k9 ?a10 ?l10 ?c10 ?k10 ?a11 ?l11 ?c11 ?k11 ?a12 ?i12 ?l12 ?c12 ?k12 ?a13 ?l13 ?c13 ?k13 ?a14 ?l14 ?c14 ?k14 ?a15 ?l15 ?c15 ?k15 ?a16 ?l16 ?c16 ?k16 ?a17 ?i17 ?j17 ?l17 ?c17 ?k17 ?a18 ?l18 ?c18 ?k18 ?a19 ?i19 ?l19 ?c19 ?k19 ?a20 ?i20 ?l20 ?c20 ?k20 ?a21 ?l21 ?c21 ?k21 ?a22 ?l22 ?c22 ?k22 ?a23 ?l23 ?c23 ?k23 ?a24 ?l24 ?c24 ?k24 ?a25 ?l25 ?c25 ?k25 ?a26 ?i26 ?l26 ?c26 ?k26 ?a27 ?i27 ?l27 ?c27 ?k27 ?a28 ?i28 ?l28 ?c28 ?k28 ?a29 ?l29 ?c29 ?k29 ?a30 ?l30 ?c30 ?k30 ?a31 ?l31 ?c31 ?k31 ?a32 ?i32 ?l32 ?c32 ?k32 ?a33 ?l33 ?c33 ?k33 ?a34 ?l34 ?c34 ?k34 ?a35 ?l35 ?c35 ?k35 ?a36 ?l36 ?c36 ?k36 ?y0 ?y1 ?y2 ?y3 ?y4 ?y5 ?y6 ?y7 ?y8 ?y9 ?z9 ?y10 ?z10 ?y11 ?z11 ?y12 ?z12 ?y13 ?z13 ?y14 ?z14 ?y15 ?z15 ?y16 ?z16 ?y17 ?z17 ?y18 ?z18 ?b_abs ?b_all ?b_bool ?b_int ?b_isinstance ?b_iter ?b_len ?b_list ?b_max ?b_min ?b_range ?b_str ?b_tuple ?x0a ?x0q ?x0k ?x0b ?x0t ?x0d ?x1a ?x1q ?x1k ?x1b ?x1t ?x1d ?x2a ?x2q ?x2k ?x2b ?x2t ?x2d ?x3a ?x3q ?x3k ?x3b ?x3t ?x3d ?s1_0 ?s1_1 ?s1_2 ?s1_3 ?s2_0 ?s2_1 ?s2_2 ?s2_3 ?e1g ?e1k ?e1a ?e1m ?e2g ?e2k ?e2a ?e2m ?ehn ?eht ?v4g ?v4d ?v4o ?v4s ?v4m ?v4k ?v4t ?v4i ?v4c ?v4r ?v4_4 ?v4_int ?v4_str ?v4_bool ?v4_list ?v4_tuple ?v4_dict ?n4_kept_rows ?n4_marks ?n4_scope ?v4n
    (case v4a => k_is)
    (case a0 => k_is)
    (case l0 => k_is)
    (case c0 => k_is)
    (case k0 => k_is)
    (case a1 => k_is)
    (case l1 => k_is)
    (case c1 => k_is)
    (case k1 => k_is)
    (case a2 => k_is)
    (case l2 => k_is)
    (case c2 => k_is)
    (case k2 => k_is)
    (case a3 => k_is)
    (case l3 => k_is)
    (case c3 => k_is)
    (case k3 => k_is)
    (case a4 => k_is)
    (case l4 => k_is)
    (case c4 => k_is)
    (case k4 => k_is)
    (case a5 => k_is)
    (case l5 => k_is)
    (case c5 => k_is)
    (case k5 => k_is)
    (case a6 => k_is)
    (case l6 => k_is)
    (case c6 => k_is)
    (case k6 => k_is)
    (case a7 => k_is)
    (case l7 => k_is)
    (case c7 => k_is)
    (case k7 => k_is)
    (case a8 => k_is)
    (case l8 => k_is)
    (case c8 => k_is)
    (case k8 => k_is)
    (case a9 => k_is)
    (case l9 => k_is)
    (case c9 => k_is)
    (case k9 => k_is)
    (case a10 => k_is)
    (case l10 => k_is)
    (case c10 => k_is)
    (case k10 => k_is)
    (case a11 => k_is)
    (case l11 => k_is)
    (case c11 => k_is)
    (case k11 => k_is)
    (case a12 => k_is)
    (case i12 => k_is)
    (case l12 => k_is)
    (case c12 => k_is)
    (case k12 => k_is)
    (case a13 => k_is)
    (case l13 => k_is)
    (case c13 => k_is)
    (case k13 => k_is)
    (case a14 => k_is)
    (case l14 => k_is)
    (case c14 => k_is)
    (case k14 => k_is)
    (case a15 => k_is)
    (case l15 => k_is)
    (case c15 => k_is)
    (case k15 => k_is)
    (case a16 => k_is)
    (case l16 => k_is)
    (case c16 => k_is)
    (case k16 => k_is)
    (case a17 => k_is)
    (case i17 => k_is)
    (case j17 => k_is)
    (case l17 => k_is)
    (case c17 => k_is)
    (case k17 => k_is)
    (case a18 => k_is)
    (case l18 => k_is)
    (case c18 => k_is)
    (case k18 => k_is)
    (case a19 => k_is)
    (case i19 => k_is)
    (case l19 => k_is)
    (case c19 => k_is)
    (case k19 => k_is)
    (case a20 => k_is)
    (case i20 => k_is)
    (case l20 => k_is)
    (case c20 => k_is)
    (case k20 => k_is)
    (case a21 => k_is)
    (case l21 => k_is)
    (case c21 => k_is)
    (case k21 => k_is)
    (case a22 => k_is)
    (case l22 => k_is)
    (case c22 => k_is)
    (case k22 => k_is)
    (case a23 => k_is)
    (case l23 => k_is)
    (case c23 => k_is)
    (case k23 => k_is)
    (case a24 => k_is)
    (case l24 => k_is)
    (case c24 => k_is)
    (case k24 => k_is)
    (case a25 => k_is)
    (case l25 => k_is)
    (case c25 => k_is)
    (case k25 => k_is)
    (case a26 => k_is)
    (case i26 => k_is)
    (case l26 => k_is)
    (case c26 => k_is)
    (case k26 => k_is)
    (case a27 => k_is)
    (case i27 => k_is)
    (case l27 => k_is)
    (case c27 => k_is)
    (case k27 => k_is)
    (case a28 => k_is)
    (case i28 => k_is)
    (case l28 => k_is)
    (case c28 => k_is)
    (case k28 => k_is)
    (case a29 => k_is)
    (case l29 => k_is)
    (case c29 => k_is)
    (case k29 => k_is)
    (case a30 => k_is)
    (case l30 => k_is)
    (case c30 => k_is)
    (case k30 => k_is)
    (case a31 => k_is)
    (case l31 => k_is)
    (case c31 => k_is)
    (case k31 => k_is)
    (case a32 => k_is)
    (case i32 => k_is)
    (case l32 => k_is)
    (case c32 => k_is)
    (case k32 => k_is)
    (case a33 => k_is)
    (case l33 => k_is)
    (case c33 => k_is)
    (case k33 => k_is)
    (case a34 => k_is)
    (case l34 => k_is)
    (case c34 => k_is)
    (case k34 => k_is)
    (case a35 => k_is)
    (case l35 => k_is)
    (case c35 => k_is)
    (case k35 => k_is)
    (case a36 => k_is)
    (case l36 => k_is)
    (case c36 => k_is)
    (case k36 => k_is)
    (case y0 => k_is)
    (case y1 => k_is)
    (case y2 => k_is)
    (case y3 => k_is)
    (case y4 => k_is)
    (case y5 => k_is)
    (case y6 => k_is)
    (case y7 => k_is)
    (case y8 => k_is)
    (case y9 => k_is)
    (case z9 => k_is)
    (case y10 => k_is)
    (case z10 => k_is)
    (case y11 => k_is)
    (case z11 => k_is)
    (case y12 => k_is)
    (case z12 => k_is)
    (case y13 => k_is)
    (case z13 => k_is)
    (case y14 => k_is)
    (case z14 => k_is)
    (case y15 => k_is)
    (case z15 => k_is)
    (case y16 => k_is)
    (case z16 => k_is)
    (case y17 => k_is)
    (case z17 => k_is)
    (case y18 => k_is)
    (case z18 => k_is)
    (case b_abs => k_is)
    (case b_all => k_is)
    (case b_bool => k_is)
    (case b_int => k_is)
    (case b_isinstance => k_is)
    (case b_iter => k_is)
    (case b_len => k_is)
    (case b_list => k_is)
    (case b_max => k_is)
    (case b_min => k_is)
    (case b_range => k_is)
    (case b_str => k_is)
    (case b_tuple => k_is)
    (case x0a => k_is)
    (case x0q => k_exc)
    (case x0k => k_is)
    (case x0b => k_is)
    (case x0t => k_is)
    (case x0d => k_is)
    (case x1a => k_is)
    (case x1q => k_exc)
    (case x1k => k_is)
    (case x1b => k_is)
    (case x1t => k_is)
    (case x1d => k_is)
    (case x2a => k_is)
    (case x2q => k_exc)
    (case x2k => k_is)
    (case x2b => k_is)
    (case x2t => k_is)
    (case x2d => k_is)
    (case x3a => k_is)
    (case x3q => k_exc)
    (case x3k => k_is)
    (case x3b => k_is)
    (case x3t => k_is)
    (case x3d => k_is)
    (case s1_0 => k_is)
    (case s1_1 => k_is)
    (case s1_2 => k_is)
    (case s1_3 => k_is)
    (case s2_0 => k_is)
    (case s2_1 => k_is)
    (case s2_2 => k_is)
    (case s2_3 => k_is)
    (case e1g => k_is)
    (case e1k => k_is)
    (case e1a => k_is)
    (case e1m => k_is)
    (case e2g => k_is)
    (case e2k => k_is)
    (case e2a => k_is)
    (case e2m => k_is)
    (case ehn => k_is)
    (case eht => k_is)
    (case v4g => k_is)
    (case v4d => k_is)
    (case v4o => k_is)
    (case v4s => k_is)
    (case v4m => k_is)
    (case v4k => k_is)
    (case v4t => k_is)
    (case v4i => k_is)
    (case v4c => k_is)
    (case v4r => k_is)
    (case v4_4 => k_is)
    (case v4_int => k_is)
    (case v4_str => k_is)
    (case v4_bool => k_is)
    (case v4_list => k_is)
    (case v4_tuple => k_is)
    (case v4_dict => k_is)
    (case n4_kept_rows => k_is)
    (case n4_marks => k_is)
    (case n4_scope => k_is)
    (case v4n => k_is)
