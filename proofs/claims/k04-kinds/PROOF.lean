import PyProof.Rows.All
import Wide.All
import OpenK.AllK
import Wide.FinOn
import HandS.ForExc
import HandS.ForMost
import HandS.TupAny
import HandS.IsInst
import HandS.Wide
import HandS.Flow
import HandS.CallSlots
import HandS.TryMany
import HandS.Star
import HandS.ExcCtx
import HandS.Hot
import HandS.HotCalls
import HandS.ExcIs
import HandS.SuiteRaise
import HandS.SortKw
import HandS.Style
import KE.DataEq
import KE.DataCmp
import KE.DataAny
import KE.SortData
import HandS.EndBits
import PySem.Challenge.RW_tokenreads_k04_kinds
set_option Elab.async false
set_option linter.all false
set_option maxRecDepth 100000
set_option maxHeartbeats 4000000
/-! DL0: values as data trees, a store of mutable objects, and how they stand in HandS's abstract heap. -/
namespace DL
open PySem L2

inductive D where
  | non
  | bl (b : Bool)
  | int (i : Int)
  | str (s : Str)
  | tup (xs : List D)
  | lst (xs : List D)
  /-- a list that nobody changes (the script, a list of the module) -/
  | fz (xs : List D)
  | dct (kvs : List (D × D))
  | obj (i : Nat)
  /-- a built-in type, a class of the text, a def of the text -/
  | ty (n : String)
  | cls (c : Nat)
  | fn (f : Nat)

/-- a mutable object of the store -/
inductive Ob where
  | lst (xs : List D)
  | ins (c : Nat) (fs : List (Str × D))
abbrev Sto := List Ob
/-- an exception: its class's number, its fields -/
structure Ex where
  c : Nat
  fs : List (Str × D)
inductive Out (α : Type) where
  | ok (a : α) (S : Sto)
  | exc (e : Ex) (S : Sto)
  | stuck
def Out.bind {α β : Type} (o : Out α) (f : α → Sto → Out β) : Out β := match o with
  | .ok a S => f a S
  | .exc e S => .exc e S
  | .stuck => .stuck
abbrev Env := List (Option D)
abbrev ME := Env → Sto → Out D
abbrev MA := Env → Sto → Out (List D)
abbrev MT := Env → Sto → Out Bool

/-- where the store's objects stand -/
structure Mp where
  at_ : Nat → Addr
  n : Nat
  /-- tracked objects that no value leads to (a comprehension's list while it is made) -/
  pr : List Addr
def Mp.ob (M : Mp) (a : Addr) : Prop := ∃ i, i < M.n ∧ M.at_ i = a
def Mp.has (M : Mp) (a : Addr) : Prop := M.ob a ∨ a ∈ M.pr
/-- what the text gives: its written part, where its classes stand -/
structure Uv where
  K : PySem.W.Frag
  cl : Nat → Addr
  fn : Nat → Addr
  /-- slots that hold these objects (an except suite's error) -/
  f : List (Nat × Addr)

def KTup (K : PySem.W.Frag) (a : Addr) (xs : List V) : Prop :=
  ∃ (o : Obj) (its : Array Value) (n : Nat), K.lookup a = some o ∧ o.cls = .type "tuple" ∧ o.data = .seq its n ∧ its.size ≤ sizeLine ∧ Vals xs its.toList
def KLst (K : PySem.W.Frag) (a : Addr) (xs : List V) : Prop :=
  ∃ (o : Obj) (its : Array Value) (n : Nat), K.lookup a = some o ∧ o.cls = .type "list" ∧ o.dict = none ∧ o.data = .seq its n ∧ its.size ≤ sizeLine ∧ Vals xs its.toList
def TupAt (K : PySem.W.Frag) (M : Mp) (H : Hp) (a : Addr) (xs : List V) : Prop := (H a = some (.tup xs) ∧ ¬ M.has a) ∨ KTup K a xs
def LstAt (M : Mp) (H : Hp) (a : Addr) (xs : List V) : Prop := H a = some (.lst xs) ∧ ¬ M.has a
def FzAt (K : PySem.W.Frag) (M : Mp) (H : Hp) (a : Addr) (xs : List V) : Prop := (∃ u, H a = some u ∧ (u = .lst xs ∨ ∃ o, u = .frz o (.lst xs)) ∧ ¬ M.has a) ∨ KLst K a xs
theorem TupAt.sq {K : PySem.W.Frag} {M : Mp} {H : Hp} {a : Addr} {xs : List V} (h : TupAt K M H a xs) : SqT K H a xs := h.elim (fun z => .inl (.inl z.1)) .inr
theorem LstAt.sq {K : PySem.W.Frag} {M : Mp} {H : Hp} {a : Addr} {xs : List V} (h : LstAt M H a xs) : SqL K H a xs := .inl (.inl h.1)
theorem FzAt.sq {K : PySem.W.Frag} {M : Mp} {H : Hp} {a : Addr} {xs : List V} (h : FzAt K M H a xs) : SqL K H a xs := h.elim (fun ⟨u, z, q, _⟩ => .inl (q.elim (fun e => .inl (by rw [z, e])) fun ⟨o, e⟩ => .inr ⟨o, by rw [z, e]⟩)) .inr

mutual
inductive Rep (U : Uv) (M : Mp) (H : Hp) : V → D → Prop
  | non : Rep U M H .non .non
  | bl (b : Bool) : Rep U M H (.bl b) (.bl b)
  | int (i : Int) : Rep U M H (.int i) (.int i)
  | str (x : Str) : Rep U M H (.str x) (.str x)
  | tup {a : Addr} {xs : List V} {ds : List D} : TupAt U.K M H a xs → RepAll U M H xs ds → Rep U M H (.ref a) (.tup ds)
  | lst {a : Addr} {xs : List V} {ds : List D} : LstAt M H a xs → RepAll U M H xs ds → Rep U M H (.ref a) (.lst ds)
  | fz {a : Addr} {xs : List V} {ds : List D} : FzAt U.K M H a xs → RepAll U M H xs ds → Rep U M H (.ref a) (.fz ds)
  | dct0 {a : Addr} : H a = some (.dK []) → ¬ M.has a → Rep U M H (.ref a) (.dct [])
  | obj {i : Nat} : i < M.n → Rep U M H (.ref (M.at_ i)) (.obj i)
  | ty (n : String) : Rep U M H (.ty n) (.ty n)
  | cls (c : Nat) : Rep U M H (.ref (U.cl c)) (.cls c)
  | fn (f : Nat) : Rep U M H (.ref (U.fn f)) (.fn f)
inductive RepAll (U : Uv) (M : Mp) (H : Hp) : List V → List D → Prop
  | nil : RepAll U M H [] []
  | cons {v : V} {vs : List V} {d : D} {ds : List D} : Rep U M H v d → RepAll U M H vs ds → RepAll U M H (v :: vs) (d :: ds)
end
def FsRep (U : Uv) (M : Mp) (H : Hp) : List (Str × V) → List (Str × D) → Prop := Paired fun p q => p.1 = q.1 ∧ Rep U M H p.2 q.2

/-- the heap has grown, the store's objects may have changed -/
structure Ext (M : Mp) (H : Hp) (M' : Mp) (H' : Hp) : Prop where
  le : M.n ≤ M'.n
  same : ∀ i, i < M.n → M'.at_ i = M.at_ i
  fresh : ∀ i, M.n ≤ i → i < M'.n → H (M'.at_ i) = none
  keep : ∀ a o, H a = some o → ¬ M.ob a → H' a = some o
  live : ∀ i, i < M'.n → ∃ o, H' (M'.at_ i) = some o
  pr : M'.pr = M.pr

section
variable {K : PySem.W.Frag} {U : Uv} {M M' M1 M2 : Mp} {H H' H1 H2 : Hp} {a : Addr} {xs : List V} {v : V} {d : D}
theorem Ext.ob (e : Ext M H M' H') (h : M.ob a) : M'.ob a := by
  obtain ⟨i, hi, rfl⟩ := h
  exact ⟨i, Nat.lt_of_lt_of_le hi e.le, e.same i hi⟩
theorem Ext.nob {o : HO} (e : Ext M H M' H') (h : H a = some o) (n : ¬ M.ob a) : ¬ M'.ob a := by
  rintro ⟨i, hi, rfl⟩
  by_cases hj : i < M.n
  · exact n ⟨i, hj, (e.same i hj).symm⟩
  · have := e.fresh i (Nat.le_of_not_lt hj) hi
    rw [this] at h; cases h
theorem Mp.nob (n : ¬ M.has a) : ¬ M.ob a := fun z => n (.inl z)
theorem Ext.nhas {o : HO} (e : Ext M H M' H') (h : H a = some o) (n : ¬ M.has a) : ¬ M'.has a := fun z => z.elim (e.nob h (Mp.nob n)) fun z => n (.inr (by rw [← e.pr]; exact z))
theorem Ext.refl (live : ∀ i, i < M.n → ∃ o, H (M.at_ i) = some o) : Ext M H M H :=
  ⟨Nat.le_refl _, fun _ _ => rfl, fun i h1 h2 => absurd h2 (Nat.not_lt.mpr h1), fun _ _ h _ => h, live, rfl⟩
theorem Ext.trans (e : Ext M H M1 H1) (f : Ext M1 H1 M2 H2) : Ext M H M2 H2 where
  le := Nat.le_trans e.le f.le
  same := fun i hi => (f.same i (Nat.lt_of_lt_of_le hi e.le)).trans (e.same i hi)
  fresh := fun i h1 h2 => by
    by_cases hi : i < M1.n
    · rw [f.same i hi]; exact e.fresh i h1 hi
    · have hn := f.fresh i (Nat.le_of_not_lt hi) h2
      cases q : H (M2.at_ i) with
      | none => rfl
      | some o =>
        by_cases hm : M.ob (M2.at_ i)
        · obtain ⟨j, hj, ej⟩ := hm
          have hj1 : j < M1.n := Nat.lt_of_lt_of_le hj e.le
          obtain ⟨o', ho'⟩ := e.live j hj1
          rw [e.same j hj, ej, hn] at ho'; cases ho'
        · have := e.keep _ _ q hm
          rw [hn] at this; cases this
  keep := fun a o h n => f.keep a o (e.keep a o h n) (e.nob h n)
  live := f.live
  pr := f.pr.trans e.pr
/-- what a value's data lean on: the store's places, and the tracked objects that are none of them -/
structure Mv (M : Mp) (H : Hp) (M' : Mp) (H' : Hp) : Prop where
  le : M.n ≤ M'.n
  same : ∀ i, i < M.n → M'.at_ i = M.at_ i
  keep : ∀ a o, H a = some o → ¬ M.has a → H' a = some o ∧ ¬ M'.has a
theorem Mv.refl : Mv M H M H := ⟨Nat.le_refl _, fun _ _ => rfl, fun _ _ h n => ⟨h, n⟩⟩
theorem Mv.trans (e : Mv M H M1 H1) (f : Mv M1 H1 M2 H2) : Mv M H M2 H2 := ⟨Nat.le_trans e.le f.le, fun i hi => (f.same i (Nat.lt_of_lt_of_le hi e.le)).trans (e.same i hi), fun a o h n => let z := e.keep a o h n; f.keep a o z.1 z.2⟩
theorem Ext.mv (e : Ext M H M' H') : Mv M H M' H' := ⟨e.le, e.same, fun a o h n => ⟨e.keep a o h (Mp.nob n), e.nhas h n⟩⟩
theorem TupAt.mv (e : Mv M H M' H') (h : TupAt K M H a xs) : TupAt K M' H' a xs := h.elim (fun z => .inl (e.keep _ _ z.1 z.2)) .inr
theorem LstAt.mv (e : Mv M H M' H') (h : LstAt M H a xs) : LstAt M' H' a xs := e.keep _ _ h.1 h.2
theorem FzAt.mv (e : Mv M H M' H') (h : FzAt K M H a xs) : FzAt K M' H' a xs := h.elim (fun ⟨u, z, q, n⟩ => .inl ⟨u, (e.keep _ _ z n).1, q, (e.keep _ _ z n).2⟩) .inr
mutual
theorem Rep.mv (e : Mv M H M' H') : ∀ {v : V} {d : D}, Rep U M H v d → Rep U M' H' v d
  | _, _, .non => .non
  | _, _, .bl b => .bl b
  | _, _, .int i => .int i
  | _, _, .str x => .str x
  | _, _, .tup h r => .tup (h.mv e) (RepAll.mv e r)
  | _, _, .lst h r => .lst (h.mv e) (RepAll.mv e r)
  | _, _, .fz h r => .fz (h.mv e) (RepAll.mv e r)
  | _, _, .dct0 h n => .dct0 (e.keep _ _ h n).1 (e.keep _ _ h n).2
  | _, _, .obj h => by
    rw [← e.same _ h]
    exact .obj (Nat.lt_of_lt_of_le h e.le)
  | _, _, .ty n => .ty n
  | _, _, .cls c => .cls c
  | _, _, .fn f => .fn f
theorem RepAll.mv (e : Mv M H M' H') : ∀ {vs : List V} {ds : List D}, RepAll U M H vs ds → RepAll U M' H' vs ds
  | _, _, .nil => .nil
  | _, _, .cons h r => .cons (Rep.mv e h) (RepAll.mv e r)
end
theorem Rep.ext (e : Ext M H M' H') {v : V} {d : D} (h : Rep U M H v d) : Rep U M' H' v d := h.mv e.mv
theorem RepAll.ext (e : Ext M H M' H') {vs : List V} {ds : List D} (h : RepAll U M H vs ds) : RepAll U M' H' vs ds := h.mv e.mv
theorem FsRep.mv (e : Mv M H M' H') : ∀ {fv : List (Str × V)} {fs : List (Str × D)}, FsRep U M H fv fs → FsRep U M' H' fv fs
  | _, _, .nil => .nil
  | _, _, .cons h r => .cons ⟨h.1, h.2.mv e⟩ (FsRep.mv e r)
theorem FsRep.ext (e : Ext M H M' H') {fv : List (Str × V)} {fs : List (Str × D)} (h : FsRep U M H fv fs) : FsRep U M' H' fv fs := h.mv e.mv
end

def ObAt (U : Uv) (M : Mp) (H : Hp) (a : Addr) : Ob → Prop
  | .lst ds => ∃ vs, H a = some (.lst vs) ∧ RepAll U M H vs ds
  | .ins c fs => ∃ dx fv, H a = some (.ins (U.cl c) dx fv) ∧ FsRep U M H fv fs
theorem ObAt.there {U : Uv} {M : Mp} {H : Hp} {a : Addr} : ∀ {o : Ob}, ObAt U M H a o → ∃ u, H a = some u
  | .lst _, ⟨_, h, _⟩ => ⟨_, h⟩
  | .ins _ _, ⟨_, _, h, _⟩ => ⟨_, h⟩
structure R (U : Uv) (M : Mp) (S : Sto) (H : Hp) : Prop where
  n : M.n = S.length
  inj : ∀ i j, i < M.n → j < M.n → M.at_ i = M.at_ j → i = j
  at_ : ∀ i o, S[i]? = some o → ObAt U M H (M.at_ i) o
  prl : ∀ a ∈ M.pr, ∃ o, H a = some o
  prn : ∀ a ∈ M.pr, ¬ M.ob a
section
variable {U : Uv} {M M' M1 : Mp} {S S' S1 : Sto} {H H' H1 : Hp} {a p : Addr}
theorem R.live (r : R U M S H) : ∀ i, i < M.n → ∃ o, H (M.at_ i) = some o := fun i hi => by
  rw [r.n] at hi
  exact ObAt.there (r.at_ i _ (List.getElem?_eq_getElem hi))
theorem R.refl (r : R U M S H) : Ext M H M H := Ext.refl r.live
theorem R.nhas (r : R U M S H) (hp : H p = none) : ¬ M.has p := by
  rintro (⟨i, hi, rfl⟩ | hq)
  · obtain ⟨o, ho⟩ := r.live i hi
    rw [hp] at ho; cases ho
  · obtain ⟨o, ho⟩ := r.prl p hq
    rw [hp] at ho; cases ho
/-- a new object that the store does not hold -/
theorem R.extNew {o : HO} (r : R U M S H) (hp : H p = none) : Ext M H M (upd H p o) :=
  ⟨Nat.le_refl _, fun _ _ => rfl, fun i h1 h2 => absurd h2 (Nat.not_lt.mpr h1), fun a u h _ => by rw [upd_ne (ne_of_none h hp)]; exact h, fun i hi => by
    obtain ⟨o', ho'⟩ := r.live i hi
    exact ⟨o', by rw [upd_ne (ne_of_none ho' hp)]; exact ho'⟩, rfl⟩
theorem ObAt.ext (e : Ext M H M' H') (k : ∀ u, H a = some u → H' a = some u) : ∀ {o : Ob}, ObAt U M H a o → ObAt U M' H' a o
  | .lst _, ⟨vs, h, r⟩ => ⟨vs, k _ h, r.ext e⟩
  | .ins _ _, ⟨dx, fv, h, r⟩ => ⟨dx, fv, k _ h, r.ext e⟩
theorem R.new {o : HO} (r : R U M S H) (hp : H p = none) : R U M S (upd H p o) :=
  ⟨r.n, r.inj, fun i ob h => ObAt.ext (r.extNew hp) (fun u hu => by rw [upd_ne (ne_of_none hu hp)]; exact hu) (r.at_ i ob h), fun a ha => by
    obtain ⟨u, hu⟩ := r.prl a ha
    exact ⟨u, by rw [upd_ne (ne_of_none hu hp)]; exact hu⟩, r.prn⟩
/-- a new object of the store -/
def Mp.push (M : Mp) (p : Addr) : Mp := ⟨fun i => if i = M.n then p else M.at_ i, M.n + 1, M.pr⟩
theorem R.extPush {H' : Hp} {u : HO} (r : R U M S H) (hp : H p = none) (hk : ∀ a o, H a = some o → H' a = some o) (h' : H' p = some u) : Ext M H (M.push p) H' where
  le := Nat.le_succ _
  same := fun i hi => if_neg (Nat.ne_of_lt hi)
  fresh := fun i h1 h2 => by
    have : i = M.n := Nat.le_antisymm (Nat.le_of_lt_succ h2) h1
    show H (if i = M.n then p else M.at_ i) = none
    rw [if_pos this]; exact hp
  keep := fun a o h _ => hk a o h
  live := fun i hi => by
    show ∃ o, H' (if i = M.n then p else M.at_ i) = some o
    by_cases e : i = M.n
    · rw [if_pos e]; exact ⟨_, h'⟩
    · rw [if_neg e]
      obtain ⟨o, ho⟩ := r.live i (Nat.lt_of_le_of_ne (Nat.le_of_lt_succ hi) e)
      exact ⟨o, hk _ _ ho⟩
  pr := rfl
theorem R.push {H' : Hp} {ob : Ob} (r : R U M S H) (hp : H p = none) (hk : ∀ a o, H a = some o → H' a = some o) (h' : ObAt U (M.push p) H' p ob) : R U (M.push p) (S ++ [ob]) H' := by
  obtain ⟨u, hu⟩ := ObAt.there h'
  have e := r.extPush hp hk hu
  refine ⟨by show M.n + 1 = _; rw [List.length_append, r.n]; rfl, fun i j hi hj he => ?_, fun i o ho => ?_, fun a ha => let ⟨u, hu⟩ := r.prl a ha; ⟨u, hk _ _ hu⟩, fun a ha => ?_⟩
  rotate_left 2
  · rintro ⟨i, hi, ei⟩
    have ei' : (if i = M.n then p else M.at_ i) = a := ei
    by_cases e1 : i = M.n
    · rw [if_pos e1] at ei'
      obtain ⟨u, hu⟩ := r.prl a ha
      rw [← ei', hp] at hu; cases hu
    · rw [if_neg e1] at ei'
      exact r.prn a ha ⟨i, Nat.lt_of_le_of_ne (Nat.le_of_lt_succ hi) e1, ei'⟩
  · have old : ∀ k, k < M.n → M.at_ k ≠ p := fun k hk' z => by
      obtain ⟨o, ho⟩ := r.live k hk'
      rw [z, hp] at ho; cases ho
    have he' : (if i = M.n then p else M.at_ i) = (if j = M.n then p else M.at_ j) := he
    by_cases ei : i = M.n <;> by_cases ej : j = M.n
    · rw [ei, ej]
    · rw [if_pos ei, if_neg ej] at he'
      exact absurd he'.symm (old j (Nat.lt_of_le_of_ne (Nat.le_of_lt_succ hj) ej))
    · rw [if_neg ei, if_pos ej] at he'
      exact absurd he' (old i (Nat.lt_of_le_of_ne (Nat.le_of_lt_succ hi) ei))
    · rw [if_neg ei, if_neg ej] at he'
      exact r.inj i j (Nat.lt_of_le_of_ne (Nat.le_of_lt_succ hi) ei) (Nat.lt_of_le_of_ne (Nat.le_of_lt_succ hj) ej) he'
  · by_cases hi : i < S.length
    · rw [List.getElem?_append_left hi] at ho
      have : (M.push p).at_ i = M.at_ i := if_neg (Nat.ne_of_lt (by rw [r.n]; exact hi))
      rw [this]
      exact ObAt.ext e (fun u hu => hk _ _ hu) (r.at_ i o ho)
    · have hi' : S.length ≤ i := Nat.le_of_not_lt hi
      rw [List.getElem?_append_right hi'] at ho
      have e0 : i - S.length = 0 := by
        cases q : i - S.length with
        | zero => rfl
        | succ k => rw [q] at ho; simp at ho
      rw [e0] at ho
      have eo : ob = o := Option.some.inj ho
      subst eo
      have ei : i = M.n := by rw [r.n]; omega
      have : (M.push p).at_ i = p := if_pos ei
      rw [this]; exact h'
/-- an object of the store is written -/
theorem R.extSet {i : Nat} {o : HO} (r : R U M S H) (hi : i < M.n) : Ext M H M (upd H (M.at_ i) o) :=
  ⟨Nat.le_refl _, fun _ _ => rfl, fun i h1 h2 => absurd h2 (Nat.not_lt.mpr h1), fun a u h n => by rw [upd_ne fun z => n ⟨i, hi, z.symm⟩]; exact h, fun j hj => by
    by_cases e : M.at_ j = M.at_ i
    · exact ⟨o, by rw [e, upd_same]⟩
    · obtain ⟨o', ho'⟩ := r.live j hj
      exact ⟨o', by rw [upd_ne e]; exact ho'⟩, rfl⟩
theorem R.set {i : Nat} {o : HO} {ob : Ob} (r : R U M S H) (hi : i < M.n) (h' : ObAt U M (upd H (M.at_ i) o) (M.at_ i) ob) : R U M (S.set i ob) (upd H (M.at_ i) o) := by
  refine ⟨by rw [List.length_set]; exact r.n, r.inj, fun j oj hj => ?_, fun a ha => ?_, r.prn⟩
  rotate_left
  · obtain ⟨u, hu⟩ := r.prl a ha
    exact ⟨u, by rw [upd_ne fun z => r.prn a ha ⟨i, hi, z.symm⟩]; exact hu⟩
  by_cases e : i = j
  · subst e
    rw [List.getElem?_set_self (by rw [← r.n]; exact hi)] at hj
    cases hj; exact h'
  · rw [List.getElem?_set_ne e] at hj
    have hjl : j < M.n := by
      rw [r.n]; exact (List.getElem?_eq_some_iff.mp hj).1
    have ne : M.at_ j ≠ M.at_ i := fun z => e (r.inj _ _ hi hjl z.symm)
    exact ObAt.ext (r.extSet hi) (fun u hu => by rw [upd_ne ne]; exact hu) (r.at_ j oj hj)
end

section
variable {U : Uv} {M M' : Mp} {S : Sto} {H H' : Hp} {a p : Addr}
theorem ObAt.mv (e : Mv M H M' H') (k : ∀ u, H a = some u → H' a = some u) : ∀ {o : Ob}, ObAt U M H a o → ObAt U M' H' a o
  | .lst _, ⟨vs, h, r⟩ => ⟨vs, k _ h, r.mv e⟩
  | .ins _ _, ⟨dx, fv, h, r⟩ => ⟨dx, fv, k _ h, r.mv e⟩
/-- a private object: made, written, no longer private -/
def Mp.priv (M : Mp) (p : Addr) : Mp := ⟨M.at_, M.n, p :: M.pr⟩
theorem priv_ob : (M.priv p).ob a ↔ M.ob a := Iff.rfl
theorem priv_has : (M.priv p).has a ↔ M.ob a ∨ a = p ∨ a ∈ M.pr := by
  show M.ob a ∨ a ∈ p :: M.pr ↔ _
  rw [List.mem_cons]
theorem Mv.priv {o : HO} (hp : H p = none) : Mv M H (M.priv p) (upd H p o) := ⟨Nat.le_refl _, fun _ _ => rfl, fun a u h n => by
  have ne := ne_of_none h hp
  refine ⟨by rw [upd_ne ne]; exact h, fun z => ?_⟩
  rcases priv_has.mp z with z | z | z
  · exact n (.inl z)
  · exact ne z
  · exact n (.inr z)⟩
theorem R.priv {o : HO} (r : R U M S H) (hp : H p = none) : R U (M.priv p) S (upd H p o) :=
  ⟨r.n, r.inj, fun i ob h => ObAt.mv (Mv.priv hp) (fun u hu => by rw [upd_ne (ne_of_none hu hp)]; exact hu) (r.at_ i ob h), fun a ha => by
    rcases List.mem_cons.mp ha with rfl | ha
    · exact ⟨_, upd_same⟩
    · obtain ⟨u, hu⟩ := r.prl a ha
      exact ⟨u, by rw [upd_ne (ne_of_none hu hp)]; exact hu⟩, fun a ha z => by
    rcases List.mem_cons.mp ha with rfl | ha
    · exact r.nhas hp (.inl z)
    · exact r.prn a ha z⟩
theorem Mv.write {o : HO} (hp : p ∈ M.pr) : Mv M H M (upd H p o) := ⟨Nat.le_refl _, fun _ _ => rfl, fun a u h n => by
  have ne : a ≠ p := fun z => n (.inr (by rw [z]; exact hp))
  exact ⟨by rw [upd_ne ne]; exact h, n⟩⟩
theorem R.write {o : HO} (r : R U M S H) (hp : p ∈ M.pr) : R U M S (upd H p o) :=
  ⟨r.n, r.inj, fun i ob h => by
    have hi : i < M.n := by rw [r.n]; exact (List.getElem?_eq_some_iff.mp h).1
    exact ObAt.mv (Mv.write hp) (fun u hu => by rw [upd_ne fun z => r.prn p hp ⟨i, hi, z⟩]; exact hu) (r.at_ i ob h), fun a ha => by
    by_cases e : a = p
    · exact ⟨o, by rw [e, upd_same]⟩
    · obtain ⟨u, hu⟩ := r.prl a ha
      exact ⟨u, by rw [upd_ne e]; exact hu⟩, r.prn⟩
theorem Mv.unpriv : Mv (M.priv p) H M H := ⟨Nat.le_refl _, fun _ _ => rfl, fun a u h n => ⟨h, fun z => n (priv_has.mpr (z.elim .inl fun z => .inr (.inr z)))⟩⟩
theorem R.unpriv (r : R U (M.priv p) S H) : R U M S H :=
  ⟨r.n, r.inj, fun i ob h => ObAt.mv Mv.unpriv (fun u hu => hu) (r.at_ i ob h), fun a ha => r.prl a (List.mem_cons_of_mem _ ha), fun a ha => r.prn a (List.mem_cons_of_mem _ ha)⟩
end

/-- an exception as it stands -/
def ExAt (U : Uv) (M : Mp) (H : Hp) (e : Ex) (cv : Value) (dd : Option Addr) : Prop :=
  cv = .ref (U.cl e.c) ∧ ((e.fs = [] ∧ dd = none) ∨ ∃ d fv, e.fs ≠ [] ∧ dd = some d ∧ H d = some (.xd fv) ∧ FsRep U M H fv e.fs)

def SlotRep (U : Uv) (M : Mp) (H : Hp) (σ : St) (ρ : Env) : Prop := ∀ (i : Nat) d, ρ[i]? = some (some d) → ∃ v, σ[i]? = some (some v) ∧ Rep U M H v d
structure At (U : Uv) (M : Mp) (S : Sto) (ρ : Env) (σ : St) (H : Hp) : Prop where
  r : R U M S H
  sl : SlotRep U M H σ ρ
  len : ρ.length = σ.length
  fx : ∀ p ∈ U.f, σ[p.1]? = some (some (.ref p.2))
abbrev Nf (U : Uv) (i : Nat) : Prop := ∀ p ∈ U.f, p.1 ≠ i
section
variable {U : Uv} {M M' M1 : Mp} {S S' S1 : Sto} {H H' H1 : Hp} {ρ : Env} {σ : St}
theorem SlotRep.ext (e : Ext M H M' H') (s : SlotRep U M H σ ρ) : SlotRep U M' H' σ ρ := fun i d h => let ⟨v, h1, h2⟩ := s i d h; ⟨v, h1, h2.ext e⟩
theorem At.ext (a : At U M S ρ σ H) (e : Ext M H M' H') (r : R U M' S' H') : At U M' S' ρ σ H' := ⟨r, a.sl.ext e, a.len, a.fx⟩
theorem At.refl (a : At U M S ρ σ H) : Ext M H M H := a.r.refl
theorem At.set {i : Nat} {v : V} {d : D} (a : At U M S ρ σ H) (h : Rep U M H v d) (hf : Nf U i) : At U M S (ρ.set i (some d)) (σ.set i (some v)) H := by
  refine ⟨a.r, fun j dj hj => ?_, by rw [List.length_set, List.length_set]; exact a.len, fun p hp => by rw [List.getElem?_set_ne (hf p hp).symm]; exact a.fx p hp⟩
  by_cases e : i = j
  · subst e
    have hi : i < ρ.length := by
      have := (List.getElem?_eq_some_iff.mp hj).1
      rwa [List.length_set] at this
    rw [List.getElem?_set_self hi] at hj
    cases hj
    exact ⟨v, List.getElem?_set_self (by rw [← a.len]; exact hi), h⟩
  · rw [List.getElem?_set_ne e] at hj
    obtain ⟨w, h1, h2⟩ := a.sl j dj hj
    exact ⟨w, by rw [List.getElem?_set_ne e]; exact h1, h2⟩
theorem SlotRep.unset {i : Nat} {o : Option V} (a : SlotRep U M H σ ρ) : SlotRep U M H (σ.set i o) (ρ.set i none) := by
  intro j dj hj
  by_cases e : i = j
  · subst e
    have hi : i < ρ.length := by
      have := (List.getElem?_eq_some_iff.mp hj).1
      rwa [List.length_set] at this
    rw [List.getElem?_set_self hi] at hj
    cases hj
  · rw [List.getElem?_set_ne e] at hj
    obtain ⟨w, h1, h2⟩ := a j dj hj
    exact ⟨w, by rw [List.getElem?_set_ne e]; exact h1, h2⟩
theorem At.unset {i : Nat} {o : Option V} (a : At U M S ρ σ H) (hf : Nf U i) : At U M S (ρ.set i none) (σ.set i o) H :=
  ⟨a.r, a.sl.unset, by rw [List.length_set, List.length_set]; exact a.len, fun p hp => by rw [List.getElem?_set_ne (hf p hp).symm]; exact a.fx p hp⟩
end
/-! ### the same with other slots fixed -/
abbrev Uv.fix (U : Uv) (l : List (Nat × Addr)) : Uv := { U with f := l }
section
variable {U : Uv} {l : List (Nat × Addr)} {M : Mp} {S : Sto} {H : Hp} {ρ : Env} {σ : St}
mutual
theorem Rep.fix : ∀ {v : V} {d : D}, Rep U M H v d → Rep (U.fix l) M H v d
  | _, _, .non => .non
  | _, _, .bl b => .bl b
  | _, _, .int i => .int i
  | _, _, .str x => .str x
  | _, _, .tup h r => .tup h (RepAll.fix r)
  | _, _, .lst h r => .lst h (RepAll.fix r)
  | _, _, .fz h r => .fz h (RepAll.fix r)
  | _, _, .dct0 h n => .dct0 h n
  | _, _, .obj h => .obj h
  | _, _, .ty n => .ty n
  | _, _, .cls c => .cls (U := U.fix l) c
  | _, _, .fn f => .fn (U := U.fix l) f
theorem RepAll.fix : ∀ {vs : List V} {ds : List D}, RepAll U M H vs ds → RepAll (U.fix l) M H vs ds
  | _, _, .nil => .nil
  | _, _, .cons h r => .cons (Rep.fix h) (RepAll.fix r)
end
theorem FsRep.fix : ∀ {fv : List (Str × V)} {fs : List (Str × D)}, FsRep U M H fv fs → FsRep (U.fix l) M H fv fs
  | _, _, .nil => .nil
  | _, _, .cons h r => .cons ⟨h.1, h.2.fix⟩ (FsRep.fix r)
theorem ObAt.fix {a : Addr} : ∀ {o : Ob}, ObAt U M H a o → ObAt (U.fix l) M H a o
  | .lst _, ⟨vs, h, r⟩ => ⟨vs, h, r.fix⟩
  | .ins _ _, ⟨dx, fv, h, r⟩ => ⟨dx, fv, h, r.fix⟩
theorem R.fix (r : R U M S H) : R (U.fix l) M S H := ⟨r.n, r.inj, fun i o h => ObAt.fix (r.at_ i o h), r.prl, r.prn⟩
theorem SlotRep.fix (s : SlotRep U M H σ ρ) : SlotRep (U.fix l) M H σ ρ := fun i d h => let ⟨v, h1, h2⟩ := s i d h; ⟨v, h1, h2.fix⟩
theorem ExAt.fix {e : Ex} {cv : Value} {dd : Option Addr} (x : ExAt U M H e cv dd) : ExAt (U.fix l) M H e cv dd := ⟨x.1, x.2.elim .inl fun ⟨d, fv, h0, h1, h2, h3⟩ => .inr ⟨d, fv, h0, h1, h2, h3.fix⟩⟩
end

/-! ### what is wanted behind a mirror's outcome -/
def PostX {α β : Type} (U : Uv) (rel : Mp → Hp → β → α → Prop) (M : Mp) (H : Hp) (σ : St) (W : WX) (o : Out α) (Q : β → Hp → Prop) : Prop := match o with
  | .ok a S => ∀ M' H' b, Ext M H M' H' → R U M' S H' → rel M' H' b a → Q b H'
  | .exc e S => ∀ M' H' cv dd, Ext M H M' H' → R U M' S H' → ExAt U M' H' e cv dd → W cv dd σ H'
  | .stuck => False
def tX {α β : Type} (U : Uv) (rel : Mp → Hp → β → α → Prop) (W : WX) (m : Env → Sto → Out α) : St → Hp → (β → Hp → Prop) → Prop := fun σ H Q => ∃ M S ρ, At U M S ρ σ H ∧ PostX U rel M H σ W (m ρ S) Q
abbrev relB : Mp → Hp → Bool → Bool → Prop := fun _ _ b a => b = a
abbrev tE (U : Uv) (W : WX) (m : ME) : TE := tX U (Rep U) W m
abbrev tA (U : Uv) (W : WX) (m : MA) : TA := tX U (RepAll U) W m
abbrev tT (U : Uv) (W : WX) (m : MT) : TT := tX U relB W m
section
variable {α β α' β' : Type} {U : Uv} {rel : Mp → Hp → β → α → Prop} {rel' : Mp → Hp → β' → α' → Prop} {M M1 : Mp} {S S1 : Sto} {H H1 : Hp} {σ : St} {W : WX} {ρ : Env}
theorem PostX.ext {o : Out α} {Q : β → Hp → Prop} (e : Ext M H M1 H1) (p : PostX U rel M H σ W o Q) : PostX U rel M1 H1 σ W o Q := by
  cases o with
  | ok a S => exact fun M' H' b f r q => p M' H' b (e.trans f) r q
  | exc x S => exact fun M' H' cv dd f r q => p M' H' cv dd (e.trans f) r q
  | stuck => exact p
theorem PostX.bind {o : Out α} {f : α → Sto → Out α'} {Q : β' → Hp → Prop} {Q1 : β → Hp → Prop} (p : PostX U rel' M H σ W (o.bind f) Q)
    (h : ∀ a S1 M1 H1 b, Ext M H M1 H1 → R U M1 S1 H1 → rel M1 H1 b a → PostX U rel' M1 H1 σ W (f a S1) Q → Q1 b H1) : PostX U rel M H σ W o Q1 := by
  cases o with
  | ok a S => exact fun M' H' b e r q => h a S M' H' b e r q (PostX.ext e p)
  | exc x S => exact p
  | stuck => exact p
theorem PostX.ok {a : α} {b : β} {Q : β → Hp → Prop} (p : PostX U rel M H σ W (.ok a S) Q) (M' : Mp) (H' : Hp) (e : Ext M H M' H') (r : R U M' S H') (q : rel M' H' b a) : Q b H' := p M' H' b e r q
/-- the one rule: a part's reading, then the rest -/
theorem tX.bind {m : Env → Sto → Out α} {f : α → Sto → Out α'} {Q : β' → Hp → Prop} {Q1 : β → Hp → Prop} (a : At U M S ρ σ H) (p : PostX U rel' M H σ W ((m ρ S).bind f) Q)
    (h : ∀ x S1 M1 H1 b, Ext M H M1 H1 → At U M1 S1 ρ σ H1 → rel M1 H1 b x → PostX U rel' M1 H1 σ W (f x S1) Q → Q1 b H1) : tX U rel W m σ H Q1 :=
  ⟨M, S, ρ, a, p.bind fun x S1 M1 H1 b e r q p1 => h x S1 M1 H1 b e (a.ext e r) q p1⟩
end
section
variable {X : Cx} {e : Expr} {t t' : TE}
theorem pe_imp (h : PE X e t) (hi : ∀ σ H Q, t' σ H Q → t σ H Q) : PE X e t' := ⟨fun pins s σ H Q I q => h.run pins s σ H Q I (hi _ _ _ q)⟩
theorem pt_imp {t t' : TT} (h : PT X e t) (hi : ∀ σ H Q, t' σ H Q → t σ H Q) : PT X e t' := ⟨fun pins s σ H Q I q => h.run pins s σ H Q I (hi _ _ _ q)⟩
theorem pw_imp {t t' : TT} (h : PW X e t) (hi : ∀ σ H Q, t' σ H Q → t σ H Q) : PW X e t' := ⟨fun wh pins s σ H Q I q => h.run wh pins s σ H Q I (hi _ _ _ q)⟩
theorem pa_imp {es : List Expr} {t t' : TA} (h : PA X es t) (hi : ∀ σ H Q, t' σ H Q → t σ H Q) : PA X es t' := ⟨fun p pins s σ H Q I q => h.run p pins s σ H Q I (hi _ _ _ q)⟩
theorem ps_imp {st : Stmt} {t t' : TS} (h : PS X st t) (hi : ∀ D σ H, t' D σ H → t D σ H) : PS X st t' := ⟨fun pins s σ H D I q => h.run pins s σ H D I (hi _ _ _ q)⟩
theorem pss_imp {st : List Stmt} {t t' : TS} (h : PSs X st t) (hi : ∀ D σ H, t' D σ H → t D σ H) : PSs X st t' := ⟨fun pins s σ H D I q => h.run pins s σ H D I (hi _ _ _ q)⟩
end
end DL
/-! DL1: expressions. -/
namespace DL
open PySem L2

def lim : Nat := 1000000
theorem lim_line {n : Nat} (h : n ≤ lim) : n ≤ sizeLine := Nat.le_trans h (by rw [sizeLine_eq]; exact (by decide : lim ≤ 16777216))
def ofO {α : Type} (o : Option α) (S : Sto) : Out α := match o with
  | some d => .ok d S
  | none => .stuck
def mVar (i : Nat) : ME := fun ρ S => match ρ[i]? with
  | some (some d) => .ok d S
  | _ => .stuck
def mC (d : D) : ME := fun _ S => .ok d S
def m1 (g : Sto → D → Option D) (ma : ME) : ME := fun ρ S => (ma ρ S).bind fun x S1 => ofO (g S1 x) S1
def m2 (g : Sto → D → D → Option D) (ma mb : ME) : ME := fun ρ S => (ma ρ S).bind fun x S1 => (mb ρ S1).bind fun y S2 => ofO (g S2 x y) S2
def mN (g : Sto → List D → Option D) (ma : MA) : ME := fun ρ S => (ma ρ S).bind fun xs S1 => ofO (g S1 xs) S1
def mTst (m : ME) : MT := fun ρ S => (m ρ S).bind fun x S1 => match x with
  | .bl b => .ok b S1
  | _ => .stuck
def aNil : MA := fun _ S => .ok [] S
def aCons (m : ME) (ms : MA) : MA := fun ρ S => (m ρ S).bind fun x S1 => (ms ρ S1).bind fun xs S2 => .ok (x :: xs) S2
/-- the items of a list or a tuple -/
def seqD (S : Sto) : D → Option (List D)
  | .tup xs => some xs
  | .lst xs => some xs
  | .fz xs => some xs
  | .obj i => match S[i]? with
    | some (.lst xs) => some xs
    | _ => none
  | _ => none
def aStar (m : ME) (ms : MA) : MA := fun ρ S => (m ρ S).bind fun x S1 => match seqD S1 x with
  | some ys => (ms ρ S1).bind fun xs S2 => .ok (ys ++ xs) S2
  | none => .stuck
def mTup (ms : MA) : ME := fun ρ S => (ms ρ S).bind fun xs S1 => if xs.length ≤ lim then .ok (.tup xs) S1 else .stuck
def mLst (ms : MA) : ME := fun ρ S => (ms ρ S).bind fun xs S1 => if xs.length ≤ lim then .ok (.lst xs) S1 else .stuck

section
variable {U : Uv} {M M1 : Mp} {S : Sto} {H H1 : Hp} {σ : St} {W : WX}
theorem Rep.seq {S : Sto} {v : V} {d : D} {ds : List D} (r : R U M S H) (h : Rep U M H v d) (e : seqD S d = some ds) : ∃ a xs, v = .ref a ∧ (SqT U.K H a xs ∨ SqL U.K H a xs) ∧ RepAll U M H xs ds := by
  cases h with
  | tup h q => cases e; exact ⟨_, _, rfl, .inl h.sq, q⟩
  | lst h q => cases e; exact ⟨_, _, rfl, .inr h.sq, q⟩
  | fz h q => cases e; exact ⟨_, _, rfl, .inr h.sq, q⟩
  | obj hi =>
    rename_i i
    cases q : S[i]? with
    | none => simp only [seqD, q] at e; cases e
    | some o =>
      simp only [seqD, q] at e
      cases o with
      | lst xs =>
        cases e
        obtain ⟨vs, h1, h2⟩ := r.at_ _ _ q
        exact ⟨_, vs, rfl, .inr (.inl (.inl h1)), h2⟩
      | ins c fs => cases e
  | _ => cases e
theorem RepAll.length : ∀ {xs : List V} {ds : List D}, RepAll U M H xs ds → xs.length = ds.length
  | _, _, .nil => rfl
  | _, _, .cons _ r => by rw [List.length_cons, List.length_cons, r.length]
theorem RepAll.append : ∀ {xs ys : List V} {ds es : List D}, RepAll U M H xs ds → RepAll U M H ys es → RepAll U M H (xs ++ ys) (ds ++ es)
  | _, _, _, _, .nil, s => s
  | _, _, _, _, .cons h r, s => .cons h (r.append s)
theorem RepAll.get : ∀ {xs : List V} {ds : List D} {i : Nat} {d : D}, RepAll U M H xs ds → ds[i]? = some d → ∃ v, xs[i]? = some v ∧ Rep U M H v d
  | _, _, _, _, .nil, e => by simp at e
  | _, _, 0, _, .cons h _, e => by simp at e; subst e; exact ⟨_, rfl, h⟩
  | _, _, i + 1, _, .cons _ r, e => by
    obtain ⟨v, h1, h2⟩ := r.get (i := i) (by simpa using e)
    exact ⟨v, by simpa using h1, h2⟩
theorem RepAll.getV : ∀ {xs : List V} {ds : List D} {i : Nat} {v : V}, RepAll U M H xs ds → xs[i]? = some v → ∃ d, ds[i]? = some d ∧ Rep U M H v d
  | _, _, _, _, .nil, e => by simp at e
  | _, _, 0, _, .cons h _, e => by simp at e; subst e; exact ⟨_, rfl, h⟩
  | _, _, i + 1, _, .cons _ r, e => by
    obtain ⟨v, h1, h2⟩ := r.getV (i := i) (by simpa using e)
    exact ⟨v, by simpa using h1, h2⟩
theorem RepAll.set {v : V} {d : D} (h : Rep U M H v d) : ∀ {xs : List V} {ds : List D} (i : Nat), RepAll U M H xs ds → RepAll U M H (xs.set i v) (ds.set i d)
  | _, _, _, .nil => .nil
  | _, _, 0, .cons _ r => .cons h r
  | _, _, i + 1, .cons q r => .cons q (RepAll.set h i r)
theorem RepAll.drop : ∀ {xs : List V} {ds : List D} (n : Nat), RepAll U M H xs ds → RepAll U M H (xs.drop n) (ds.drop n)
  | _, _, 0, r => r
  | _, _, _ + 1, .nil => .nil
  | _, _, n + 1, .cons _ r => RepAll.drop n r
theorem RepAll.take : ∀ {xs : List V} {ds : List D} (n : Nat), RepAll U M H xs ds → RepAll U M H (xs.take n) (ds.take n)
  | _, _, 0, _ => .nil
  | _, _, _ + 1, .nil => .nil
  | _, _, n + 1, .cons h r => .cons h (RepAll.take n r)
theorem cut_len (xs : List V) (ds : List D) (h : xs.length = ds.length) (lo hi : Option Int) : ∃ i j, cutV xs lo hi = (xs.drop i).take j ∧ (ds.drop (HT.sIx ds.length 0 lo)).take (HT.sIx ds.length ds.length hi - HT.sIx ds.length 0 lo) = (ds.drop i).take j := ⟨_, _, rfl, by rw [h]⟩
/-- a new tuple, a new list that the store does not hold -/
theorem Rep.newTup {xs : List V} {ds : List D} {p : Addr} (r : R U M S H) (hp : H p = none) (h : RepAll U M H xs ds) : Rep U M (upd H p (.tup xs)) (.ref p) (.tup ds) :=
  .tup (.inl ⟨upd_same, r.nhas hp⟩) (h.ext (r.extNew hp))
theorem Rep.newLst {xs : List V} {ds : List D} {p : Addr} (r : R U M S H) (hp : H p = none) (h : RepAll U M H xs ds) : Rep U M (upd H p (.lst xs)) (.ref p) (.lst ds) :=
  .lst ⟨upd_same, r.nhas hp⟩ (h.ext (r.extNew hp))
end

/-! ### two-place operations, one-place ones, calls of built-ins, by data -/
/-- what comes is data d -/
abbrev Gives (U : Uv) (M : Mp) (S : Sto) (H : Hp) (d : D) (Q : VK) : Prop := ∀ M' H' v, Ext M H M' H' → R U M' S H' → Rep U M' H' v d → Q v H'
theorem Gives.here {U : Uv} {M : Mp} {S : Sto} {H : Hp} {d : D} {Q : VK} {v : V} (g : Gives U M S H d Q) (r : R U M S H) (h : Rep U M H v d) : Q v H := g M H v r.refl r h
theorem Gives.tup {U : Uv} {M : Mp} {S : Sto} {H : Hp} {ds : List D} {Q : VK} {vs : List V} {p : Addr} (g : Gives U M S H (.tup ds) Q) (r : R U M S H) (h : RepAll U M H vs ds) (hp : H p = none) : Q (.ref p) (upd H p (.tup vs)) :=
  g M _ _ (r.extNew hp) (r.new hp) (Rep.newTup r hp h)
theorem Gives.lst {U : Uv} {M : Mp} {S : Sto} {H : Hp} {ds : List D} {Q : VK} {vs : List V} {p : Addr} (g : Gives U M S H (.lst ds) Q) (r : R U M S H) (h : RepAll U M H vs ds) (hp : H p = none) : Q (.ref p) (upd H p (.lst vs)) :=
  g M _ _ (r.extNew hp) (r.new hp) (Rep.newLst r hp h)
structure OpD (U : Uv) (X : Cx) (f : Value → Value → Sem Value) (g : Sto → D → D → Option D) : Prop where
  ex : ∃ r, OpR X f r ∧ ∀ M S H x y dx dy d Q, R U M S H → Rep U M H x dx → Rep U M H y dy → g S dx dy = some d → Gives U M S H d Q → r x y H Q
structure UnD (U : Uv) (X : Cx) (f : Value → Sem Value) (g : Sto → D → Option D) : Prop where
  ex : ∃ r, UnR X f r ∧ ∀ M S H x dx d Q, R U M S H → Rep U M H x dx → g S dx = some d → Gives U M S H d Q → r x H Q
structure CallD (U : Uv) (X : Cx) (f : Value) (g : Sto → List D → Option D) : Prop where
  ex : ∃ r, CallR X f r ∧ ∀ M S H xs ds d Q, R U M S H → RepAll U M H xs ds → g S ds = some d → Gives U M S H d Q → r xs H Q
structure IxD (U : Uv) (X : Cx) (g : Sto → D → D → Option D) : Prop where
  ex : ∃ r, IxR X r ∧ ∀ M S H x y dx dy d Q, R U M S H → Rep U M H x dx → Rep U M H y dy → g S dx dy = some d → Gives U M S H d Q → r x y H Q

section
variable {X : Cx} {U : Uv} {W : WX}
theorem ofO_post {α β : Type} {rel : Mp → Hp → β → α → Prop} {M : Mp} {H : Hp} {σ : St} {o : Option α} {S : Sto} {Q : β → Hp → Prop} (p : PostX U rel M H σ W (ofO o S) Q) : ∃ d, o = some d ∧ ∀ M' H' b, Ext M H M' H' → R U M' S H' → rel M' H' b d → Q b H' := by
  cases o with
  | none => exact p.elim
  | some d => exact ⟨d, rfl, p⟩
theorem e_var (i : Nat) {x : Str} {pos : Pos} (hN : X.N[i]? = some x := by rfl) (hv : Vis X.env.scope x := by first | exact Or.inl rfl | exact Or.inr (Or.inl rfl) | exact Or.inr (Or.inr rfl)) (hd : (x == ("__debug__" : Str)) = false := by decide)
    (hcd : (x == ("__classdict__" : Str)) = false := by decide) : PE X (.Name x pos) (tE U W (mVar i)) := pe_imp (pv i hN hv hd hcd) fun σ H Q ⟨M, S, ρ, a, p⟩ => by
  unfold mVar at p
  cases e : ρ[i]? with
  | none => rw [e] at p; exact p.elim
  | some o =>
    cases o with
    | none => rw [e] at p; exact p.elim
    | some d =>
      rw [e] at p
      obtain ⟨v, h1, h2⟩ := a.sl i d e
      exact ⟨v, h1, p M H v a.refl a.r h2⟩
theorem e_c {e : Expr} {v : V} {d : D} (h : PE X e (tC v)) (hr : ∀ M H, Rep U M H v d) : PE X e (tE U W (mC d)) := pe_imp h fun σ H Q ⟨M, S, ρ, a, p⟩ => p M H v a.refl a.r (hr M H)
theorem e_int {i : Int} {j : Nat} {pos : Pos} : PE X (.Constant (.int i) j pos) (tE U W (mC (.int i))) := e_c pe_int fun _ _ => .int i
theorem e_bl {b : Bool} {j : Nat} {pos : Pos} : PE X (.Constant (.bool b) j pos) (tE U W (mC (.bl b))) := e_c pe_bl fun _ _ => .bl b
theorem e_non {j : Nat} {pos : Pos} : PE X (.Constant .none j pos) (tE U W (mC .non)) := e_c pe_non fun _ _ => .non
theorem e_str {x : Str} {j : Nat} {pos : Pos} : PE X (.Constant (.str x) j pos) (tE U W (mC (.str x))) := e_c pe_str fun _ _ => .str x
/-- a module's constant -/
theorem e_glob {x : Str} {v : V} {u : Value} {d : D} {pos : Pos} (hm : X.mg x = some u) (r : RelV v u) (hr : ∀ M H, Rep U M H v d) (hg : Gl X x := by rfl) (hd : (x == ("__debug__" : Str)) = false := by decide) : PE X (.Name x pos) (tE U W (mC d)) := e_c (pe_glob hg hm r hd) hr
/-- a built-in's name as a value -/
theorem e_bltn {x : Str} {n : String} {pos : Pos} (hm : X.mg x = none) (hv : bootBuiltins x = some (.type n)) (hg : Gl X x := by rfl) (hn : x ≠ "__name__" := by decide) (hd : (x == ("__debug__" : Str)) = false := by decide) : PE X (.Name x pos) (tE U W (mC (.ty n))) :=
  e_c (pe_bltn hg hm hv (v := .ty n) rfl hn hd) fun _ _ => .ty n

variable {a b c : Expr} {ma mb mc : ME} {ta tb tc : MT} {pos : Pos}
theorem op_post {f : Value → Value → Sem Value} {g : Sto → D → D → Option D} {r : R2} (hr : ∀ M S H x y dx dy d Q, R U M S H → Rep U M H x dx → Rep U M H y dy → g S dx dy = some d → Gives U M S H d Q → r x y H Q)
    {σ : St} {H : Hp} {Q : VK} (h : tE U W (m2 g ma mb) σ H Q) : tOp r (tE U W ma) (tE U W mb) σ H Q := by
  obtain ⟨M, S, ρ, A, p⟩ := h
  refine tX.bind A p fun x S1 M1 H1 v e1 A1 r1 p1 => tX.bind A1 p1 fun y S2 M2 H2 w e2 A2 r2 p2 => ?_
  obtain ⟨d, ed, q⟩ := ofO_post p2
  exact hr M2 S2 H2 v w x y d Q A2.r (r1.ext e2) r2 ed q
theorem e_op {op : Operator} {g : Sto → D → D → Option D} (ho : OpD U X (binaryOp op) g) (ha : PE X a (tE U W ma)) (hb : PE X b (tE U W mb)) : PE X (.BinOp a op b pos) (tE U W (m2 g ma mb)) := by
  obtain ⟨r, h1, h2⟩ := ho.ex
  exact pe_imp (pe_op h1 ha hb) fun σ H Q h => op_post (f := binaryOp op) h2 h
theorem e_cmp {op : CmpOp} {g : Sto → D → D → Option D} (ho : OpD U X (compareOp op) g) (ha : PE X a (tE U W ma)) (hb : PE X b (tE U W mb)) (hm : behindInMarks op b = false := by first | exact nomark _ | rfl | with_unfolding_all rfl) : PE X (.Compare a [op] [b] pos) (tE U W (m2 g ma mb)) := by
  obtain ⟨r, h1, h2⟩ := ho.ex
  exact pe_imp (pe_cmpR h1 ha hb hm) fun σ H Q h => op_post (f := compareOp op) h2 h
theorem tst_post {m : ME} {t : TE} (ht : ∀ σ H Q, tE U W m σ H Q → t σ H Q) {σ : St} {H : Hp} {Q : Bool → Hp → Prop} (h : tT U W (mTst m) σ H Q) : tTest t σ H Q := by
  obtain ⟨M, S, ρ, A, p⟩ := h
  refine ht σ H _ (tX.bind A p fun x S1 M1 H1 v e1 A1 r1 p1 => ?_)
  cases r1 with
  | bl k => exact ⟨k, rfl, p1 M1 H1 k A1.refl A1.r rfl⟩
  | _ => exact p1.elim
theorem t_cmp {op : CmpOp} {g : Sto → D → D → Option D} (ho : OpD U X (compareOp op) g) (ha : PE X a (tE U W ma)) (hb : PE X b (tE U W mb)) (hm : behindInMarks op b = false := by first | exact nomark _ | rfl | with_unfolding_all rfl) : PT X (.Compare a [op] [b] pos) (tT U W (mTst (m2 g ma mb))) := by
  obtain ⟨r, h1, h2⟩ := ho.ex
  exact pt_imp (pt_cmpR h1 ha hb hm) fun σ H Q h => tst_post (fun σ H Q h => op_post (f := compareOp op) h2 h) h
/-- a op b op' c -/
def mChain (g g' : Sto → D → D → Option D) (ma mb mc : ME) : ME := fun ρ S => (ma ρ S).bind fun x S1 => (mb ρ S1).bind fun y S2 => match g S2 x y with
  | some (.bl true) => (mc ρ S2).bind fun z S3 => ofO (g' S3 y z) S3
  | some (.bl false) => .ok (.bl false) S2
  | _ => .stuck
theorem chain_post {g g' : Sto → D → D → Option D} {r r' : R2} (hr : ∀ M S H x y dx dy d Q, R U M S H → Rep U M H x dx → Rep U M H y dy → g S dx dy = some d → Gives U M S H d Q → r x y H Q)
    (hr' : ∀ M S H x y dx dy d Q, R U M S H → Rep U M H x dx → Rep U M H y dy → g' S dx dy = some d → Gives U M S H d Q → r' x y H Q)
    {σ : St} {H : Hp} {Q : VK} (h : tE U W (mChain g g' ma mb mc) σ H Q) : tChain r r' (tE U W ma) (tE U W mb) (tE U W mc) σ H Q := by
  obtain ⟨M, S, ρ, A, p⟩ := h
  refine tX.bind A p fun x S1 M1 H1 v e1 A1 r1 p1 => tX.bind A1 p1 fun y S2 M2 H2 w e2 A2 r2 p2 => ?_
  cases q : g S2 x y with
  | none => rw [q] at p2; exact p2.elim
  | some d =>
    rw [q] at p2
    refine hr M2 S2 H2 v w x y d _ A2.r (r1.ext e2) r2 q fun M3 H3 z e3 R3 r3 => ?_
    cases r3 with
    | bl k =>
      refine ⟨k, rfl, ?_⟩
      cases k with
      | false => rw [if_neg (by decide)]; exact p2 M3 H3 _ e3 R3 (.bl false)
      | true =>
        rw [if_pos rfl]
        refine tX.bind (A2.ext e3 R3) (PostX.ext e3 p2) fun z S4 M4 H4 w4 e4 A4 r4 p4 => ?_
        obtain ⟨d, ed, q⟩ := ofO_post p4
        exact hr' M4 S4 H4 w w4 y z d Q A4.r ((r2.ext e3).ext e4) r4 ed q
    | _ => exact p2.elim
theorem e_chain {op op' : CmpOp} {g g' : Sto → D → D → Option D} (ho : OpD U X (compareOp op) g) (ho' : OpD U X (compareOp op') g') (ha : PE X a (tE U W ma)) (hb : PE X b (tE U W mb)) (hc : PE X c (tE U W mc))
    (hm : lastMarks [op, op'] [b, c] = false := by with_unfolding_all rfl) : PE X (.Compare a [op, op'] [b, c] pos) (tE U W (mChain g g' ma mb mc)) := by
  obtain ⟨r, h1, h2⟩ := ho.ex
  obtain ⟨r', h1', h2'⟩ := ho'.ex
  exact pe_imp (pe_chain h1 h1' ha hb hc hm) fun σ H Q h => chain_post h2 h2' h
theorem t_chain {op op' : CmpOp} {g g' : Sto → D → D → Option D} (ho : OpD U X (compareOp op) g) (ho' : OpD U X (compareOp op') g') (ha : PE X a (tE U W ma)) (hb : PE X b (tE U W mb)) (hc : PE X c (tE U W mc))
    (hm : lastMarks [op, op'] [b, c] = false := by with_unfolding_all rfl) : PT X (.Compare a [op, op'] [b, c] pos) (tT U W (mTst (mChain g g' ma mb mc))) := by
  obtain ⟨r, h1, h2⟩ := ho.ex
  obtain ⟨r', h1', h2'⟩ := ho'.ex
  exact pt_imp (pt_chain h1 h1' ha hb hc hm) fun σ H Q h => tst_post (fun σ H Q h => chain_post h2 h2' h) h

/-! ### truth -/
def truD (S : Sto) : D → Option Bool
  | .non => some false
  | .bl b => some b
  | .int i => some (i != 0)
  | .str s => if s.length ≤ lim then some ((s.length : Int) != 0) else none
  | .dct [] => some false
  | d => (seqD S d).map fun xs => !xs.isEmpty
theorem isE_of {U : Uv} {M : Mp} {H : Hp} {xs : List V} {ds : List D} (r : RepAll U M H xs ds) : (!xs.isEmpty) = !ds.isEmpty := by
  cases r <;> rfl
theorem Rep.tru {M : Mp} {S : Sto} {H : Hp} {v : V} {d : D} {k : Bool} (r : R U M S H) (h : Rep U M H v d) (e : truD S d = some k) : TruV U.K v H k := by
  have sq : ∀ ds, seqD S d = some ds → (!ds.isEmpty) = k → TruV U.K v H k := fun ds e1 e2 => by
    obtain ⟨a, xs, rfl, q, ra⟩ := h.seq r e1
    rw [← e2, ← isE_of ra]
    rcases q with q | q
    · exact .inr (.inl ⟨xs, q, rfl⟩)
    · exact .inl ⟨xs, q, rfl⟩
  cases h with
  | non => cases e; rfl
  | bl b => cases e; rfl
  | int i => cases e; rfl
  | str x =>
    simp only [truD] at e
    by_cases hl : x.length ≤ lim
    · rw [if_pos hl] at e
      cases e
      exact ⟨lim_line hl, rfl⟩
    · rw [if_neg hl] at e; cases e
  | tup h q => cases e; exact sq _ rfl rfl
  | lst h q => cases e; exact sq _ rfl rfl
  | fz h q => cases e; exact sq _ rfl rfl
  | dct0 h n => cases e; exact .inr (.inr ⟨[], h, rfl⟩)
  | obj hi =>
    rename_i i
    change (seqD S (.obj i)).map _ = _ at e
    cases q : seqD S (.obj i) with
    | none => rw [q] at e; cases e
    | some xs => rw [q] at e; exact sq xs q (Option.some.inj e)
  | _ => cases e
def mTru (m : ME) : MT := fun ρ S => (m ρ S).bind fun x S1 => ofO (truD S1 x) S1
theorem t_tru (ha : PE X a (tE U W ma)) (hK : X.K = U.K := by rfl) (he : ∀ whole, isTrue a X.env whole = (do let v ← whole; standAt a.pos; holding [v] (truthy v)) := by intro _; rfl) : PT X a (tT U W (mTru ma)) :=
  pt_imp (pt_truth ha he) fun σ H Q ⟨M, S, ρ, A, p⟩ => tX.bind A p fun x S1 M1 H1 v e1 A1 r1 p1 => by
    obtain ⟨k, ek, q⟩ := ofO_post p1
    rw [hK]
    exact ⟨k, r1.tru A1.r ek, q M1 H1 k A1.refl A1.r rfl⟩
/-! ### and, or, not -/
def tAnd' (t u : MT) : MT := fun ρ S => (t ρ S).bind fun b S1 => if b = true then u ρ S1 else .ok false S1
def tOr' (t u : MT) : MT := fun ρ S => (t ρ S).bind fun b S1 => if b = true then .ok true S1 else u ρ S1
def tNot' (t : MT) : MT := fun ρ S => (t ρ S).bind fun b S1 => .ok (!b) S1
theorem and_post {σ : St} {H : Hp} {Q : Bool → Hp → Prop} (h : tT U W (tAnd' ta tb) σ H Q) : tAnd (tT U W ta) (tT U W tb) σ H Q := by
  obtain ⟨M, S, ρ, A, p⟩ := h
  refine tX.bind A p fun x S1 M1 H1 k e1 A1 r1 p1 => ?_
  subst r1
  cases k with
  | true => exact ⟨M1, S1, ρ, A1, p1⟩
  | false => exact p1 M1 H1 _ A1.refl A1.r rfl
theorem or_post {σ : St} {H : Hp} {Q : Bool → Hp → Prop} (h : tT U W (tOr' ta tb) σ H Q) : tOr (tT U W ta) (tT U W tb) σ H Q := by
  obtain ⟨M, S, ρ, A, p⟩ := h
  refine tX.bind A p fun x S1 M1 H1 k e1 A1 r1 p1 => ?_
  subst r1
  cases k with
  | false => exact ⟨M1, S1, ρ, A1, p1⟩
  | true => exact p1 M1 H1 _ A1.refl A1.r rfl
theorem w_and1 (h : PT X a (tT U W ta)) : PW X (.BoolOp .And [a] pos) (tT U W ta) := pw_and1 h
theorem w_or1 (h : PT X a (tT U W ta)) : PW X (.BoolOp .Or [a] pos) (tT U W ta) := pw_or1 h
theorem w_and {rest : List Expr} (ha : PT X a (tT U W ta)) (hb : PW X (.BoolOp .And (b :: rest) pos) (tT U W tb)) : PW X (.BoolOp .And (a :: b :: rest) pos) (tT U W (tAnd' ta tb)) := pw_imp (pw_and ha hb) fun _ _ _ => and_post
theorem w_or {rest : List Expr} (ha : PT X a (tT U W ta)) (hb : PW X (.BoolOp .Or (b :: rest) pos) (tT U W tb)) : PW X (.BoolOp .Or (a :: b :: rest) pos) (tT U W (tOr' ta tb)) := pw_imp (pw_or ha hb) fun _ _ _ => or_post
theorem t_not (ha : PT X a (tT U W ta)) : PT X (.UnaryOp .Not a pos) (tT U W (tNot' ta)) := pt_imp (pt_not ha) fun σ H Q ⟨M, S, ρ, A, p⟩ => tX.bind A p fun x S1 M1 H1 k e1 A1 r1 p1 => by
  subst r1
  exact p1 M1 H1 _ A1.refl A1.r rfl
/-- .. as values -/
def mAnd (ma mb : ME) : ME := fun ρ S => (ma ρ S).bind fun x S1 => match truD S1 x with
  | some true => mb ρ S1
  | some false => .ok x S1
  | none => .stuck
def mOr (ma mb : ME) : ME := fun ρ S => (ma ρ S).bind fun x S1 => match truD S1 x with
  | some true => .ok x S1
  | some false => mb ρ S1
  | none => .stuck
def mNot (ma : ME) : ME := fun ρ S => (ma ρ S).bind fun x S1 => match truD S1 x with
  | some b => .ok (.bl (!b)) S1
  | none => .stuck
theorem e_one {op : BoolOp} (h : PE X a (tE U W ma)) : PE X (.BoolOp op [a] pos) (tE U W ma) := pe_one h
theorem e_and {rest : List Expr} (ha : PE X a (tE U W ma)) (hb : PE X (.BoolOp .And (b :: rest) pos) (tE U W mb)) (hK : X.K = U.K := by rfl) : PE X (.BoolOp .And (a :: b :: rest) pos) (tE U W (mAnd ma mb)) :=
  pe_imp (pe_andT ha hb) fun σ H Q ⟨M, S, ρ, A, p⟩ => tX.bind A p fun x S1 M1 H1 v e1 A1 r1 p1 => by
    rw [hK]
    cases q : truD S1 x with
    | none => rw [q] at p1; exact p1.elim
    | some k =>
      rw [q] at p1
      refine ⟨k, r1.tru A1.r q, ?_⟩
      cases k with
      | true => exact ⟨M1, S1, ρ, A1, p1⟩
      | false => exact p1 M1 H1 _ A1.refl A1.r r1
theorem e_or {rest : List Expr} (ha : PE X a (tE U W ma)) (hb : PE X (.BoolOp .Or (b :: rest) pos) (tE U W mb)) (hK : X.K = U.K := by rfl) : PE X (.BoolOp .Or (a :: b :: rest) pos) (tE U W (mOr ma mb)) :=
  pe_imp (pe_orT ha hb) fun σ H Q ⟨M, S, ρ, A, p⟩ => tX.bind A p fun x S1 M1 H1 v e1 A1 r1 p1 => by
    rw [hK]
    cases q : truD S1 x with
    | none => rw [q] at p1; exact p1.elim
    | some k =>
      rw [q] at p1
      refine ⟨k, r1.tru A1.r q, ?_⟩
      cases k with
      | false => exact ⟨M1, S1, ρ, A1, p1⟩
      | true => exact p1 M1 H1 _ A1.refl A1.r r1
theorem e_not (ha : PE X a (tE U W ma)) (hK : X.K = U.K := by rfl) : PE X (.UnaryOp .Not a pos) (tE U W (mNot ma)) :=
  pe_imp (pe_notT ha) fun σ H Q ⟨M, S, ρ, A, p⟩ => tX.bind A p fun x S1 M1 H1 v e1 A1 r1 p1 => by
    rw [hK]
    cases q : truD S1 x with
    | none => rw [q] at p1; exact p1.elim
    | some k =>
      rw [q] at p1
      exact ⟨k, r1.tru A1.r q, p1 M1 H1 _ A1.refl A1.r (.bl _)⟩
def mIf (t : MT) (ma mb : ME) : ME := fun ρ S => (t ρ S).bind fun k S1 => if k = true then ma ρ S1 else mb ρ S1
theorem e_if (hc : PT X c (tT U W tc)) (ha : PE X a (tE U W ma)) (hb : PE X b (tE U W mb)) : PE X (.IfExp c a b pos) (tE U W (mIf tc ma mb)) :=
  pe_imp (pe_ifExp hc ha hb) fun σ H Q ⟨M, S, ρ, A, p⟩ => tX.bind A p fun x S1 M1 H1 k e1 A1 r1 p1 => by
    subst r1
    cases k with
    | true => exact ⟨M1, S1, ρ, A1, p1⟩
    | false => exact ⟨M1, S1, ρ, A1, p1⟩
theorem e_un {op : UnaryOp} {g : Sto → D → Option D} (ho : UnD U X (unaryOp op) g) (ha : PE X a (tE U W ma)) : PE X (.UnaryOp op a pos) (tE U W (m1 g ma)) := by
  obtain ⟨r, h1, h2⟩ := ho.ex
  exact pe_imp (pe_un h1 ha) fun σ H Q ⟨M, S, ρ, A, p⟩ => tX.bind A p fun x S1 M1 H1 v e1 A1 r1 p1 => by
    obtain ⟨d, ed, q⟩ := ofO_post p1
    exact h2 M1 S1 H1 v x d Q A1.r r1 ed q
/-! ### argument lists, displays -/
variable {e : Expr} {es : List Expr} {m : ME} {ms : MA}
theorem a_nil : PA X [] (tA U W aNil) := pa_imp pa_nil fun σ H Q ⟨M, S, ρ, A, p⟩ => p M H [] A.refl A.r .nil
theorem a_cons (h : PE X e (tE U W m)) (hr : PA X es (tA U W ms)) (hs : starEach (e :: es) X.env = (false, eval e X.env) :: starEach es X.env := by rfl) : PA X (e :: es) (tA U W (aCons m ms)) :=
  pa_imp (pa_cons h hr hs) fun σ H Q ⟨M, S, ρ, A, p⟩ => tX.bind A p fun x S1 M1 H1 v e1 A1 r1 p1 => tX.bind A1 p1 fun xs S2 M2 H2 vs e2 A2 r2 p2 => p2 M2 H2 _ A2.refl A2.r (.cons (r1.ext e2) r2)
theorem a_star {q : Pos} (h : PE X e (tE U W m)) (hr : PA X es (tA U W ms)) (hK : X.K = U.K := by rfl) (hs : starEach (.Starred e q :: es) X.env = (true, eval e X.env) :: starEach es X.env := by rfl) : PA X (.Starred e q :: es) (tA U W (aStar m ms)) :=
  pa_imp (StX.pa_star h hr hs) fun σ H Q ⟨M, S, ρ, A, p⟩ => tX.bind A p fun x S1 M1 H1 v e1 A1 r1 p1 => by
    cases q : seqD S1 x with
    | none => rw [q] at p1; exact p1.elim
    | some ys =>
      rw [q] at p1
      obtain ⟨a, xs, rfl, hq, ra⟩ := r1.seq A1.r q
      rw [hK]
      exact ⟨a, xs, rfl, hq, tX.bind A1 p1 fun zs S2 M2 H2 vs e2 A2 r2 p2 => p2 M2 H2 _ A2.refl A2.r ((ra.ext e2).append r2)⟩
theorem e_tup {k : Nat} (h : PA X es (tA U W ms)) : PE X (.Tuple es k pos) (tE U W (mTup ms)) :=
  pe_imp (pe_tup h) fun σ H Q ⟨M, S, ρ, A, p⟩ => tX.bind A p fun xs S1 M1 H1 vs e1 A1 r1 p1 => by
    by_cases hl : xs.length ≤ lim
    · rw [if_pos hl] at p1
      exact ⟨lim_line (by rw [r1.length]; exact hl), fun q hq => Gives.tup p1 A1.r r1 hq⟩
    · rw [if_neg hl] at p1; exact p1.elim
theorem e_lst (h : PA X es (tA U W ms)) : PE X (.List es pos) (tE U W (mLst ms)) :=
  pe_imp (pe_lst h) fun σ H Q ⟨M, S, ρ, A, p⟩ => tX.bind A p fun xs S1 M1 H1 vs e1 A1 r1 p1 => by
    by_cases hl : xs.length ≤ lim
    · rw [if_pos hl] at p1
      exact ⟨lim_line (by rw [r1.length]; exact hl), fun q hq => Gives.lst p1 A1.r r1 hq⟩
    · rw [if_neg hl] at p1; exact p1.elim
/-- .. a new list of the store -/
def mLstO (ms : MA) : ME := fun ρ S => (ms ρ S).bind fun xs S1 => if xs.length ≤ lim then .ok (.obj S1.length) (S1 ++ [.lst xs]) else .stuck
theorem Gives.pushL {M : Mp} {S : Sto} {H : Hp} {σ : St} {ds : List D} {Q : VK} {vs : List V} {p : Addr} (g : PostX U (Rep U) M H σ W (.ok (.obj S.length) (S ++ [.lst ds])) Q) (r : R U M S H) (h : RepAll U M H vs ds) (hp : H p = none) : Q (.ref p) (upd H p (.lst vs)) := by
  have hk : ∀ a o, H a = some o → upd H p (.lst vs) a = some o := fun a o z => by rw [upd_ne (ne_of_none z hp)]; exact z
  have e := r.extPush (u := .lst vs) hp hk upd_same
  have e1 : (M.push p).at_ S.length = p := by show (if _ then _ else _) = _; rw [if_pos r.n.symm]
  refine g (M.push p) _ _ e (r.push hp hk ⟨vs, upd_same, h.ext e⟩) ?_
  have z : Rep U (M.push p) (upd H p (.lst vs)) (.ref ((M.push p).at_ S.length)) (.obj S.length) := .obj (by show _ < M.n + 1; rw [r.n]; exact Nat.lt_succ_self _)
  rw [e1] at z; exact z
theorem e_lstO (h : PA X es (tA U W ms)) : PE X (.List es pos) (tE U W (mLstO ms)) :=
  pe_imp (pe_lst h) fun σ H Q ⟨M, S, ρ, A, p⟩ => tX.bind A p fun xs S1 M1 H1 vs e1 A1 r1 p1 => by
    by_cases hl : xs.length ≤ lim
    · rw [if_pos hl] at p1
      exact ⟨lim_line (by rw [r1.length]; exact hl), fun q hq => Gives.pushL p1 A1.r r1 hq⟩
    · rw [if_neg hl] at p1; exact p1.elim
/-! ### calls of built-ins -/
variable {x : Str} {q pos' : Pos} {id T : String} {g : Sto → List D → Option D}
theorem call_post {r : List V → Hp → VK → Prop} (hr : ∀ M S H xs ds d Q, R U M S H → RepAll U M H xs ds → g S ds = some d → Gives U M S H d Q → r xs H Q) {σ : St} {H : Hp} {Q : VK} (h : tE U W (mN g ms) σ H Q) : tCB r (tA U W ms) σ H Q := by
  obtain ⟨M, S, ρ, A, p⟩ := h
  refine tX.bind A p fun xs S1 M1 H1 vs e1 A1 r1 p1 => ?_
  obtain ⟨d, ed, q⟩ := ofO_post p1
  exact hr M1 S1 H1 vs xs d Q A1.r r1 ed q
theorem e_callB (hc : CallD U X (.builtin id) g) (hm : X.mg x = none) (hv : bootBuiltins x = some (.builtin id)) (ha : PA X (e :: es) (tA U W ms)) (hg : Gl X x := by rfl) (hn : x ≠ "__name__" := by decide) (hdb : (x == ("__debug__" : Str)) = false := by decide)
    (he : starEach (e :: es) X.env = (false, eval e X.env) :: starEach es X.env := by rfl) (hpl : (backTo pos (starEach es X.env)).any (·.1) = false := by rfl) : PE X (.Call (.Name x q) (e :: es) [] pos) (tE U W (mN g ms)) := by
  obtain ⟨r, h1, h2⟩ := hc.ex
  exact pe_imp (pe_callB h1 hg hm hv ha hn hdb he hpl) fun σ H Q h => call_post h2 h
theorem e_callT (hc : CallD U X (.type T) g) (hm : X.mg x = none) (hv : bootBuiltins x = some (.type T)) (ha : PA X (e :: es) (tA U W ms)) (hg : Gl X x := by rfl) (hn : x ≠ "__name__" := by decide) (hdb : (x == ("__debug__" : Str)) = false := by decide)
    (he : starEach (e :: es) X.env = (false, eval e X.env) :: starEach es X.env := by rfl) (hpl : (backTo pos (starEach es X.env)).any (·.1) = false := by rfl) : PE X (.Call (.Name x q) (e :: es) [] pos) (tE U W (mN g ms)) := by
  obtain ⟨r, h1, h2⟩ := hc.ex
  exact pe_imp (pe_callTy h1 hg hm hv ha hn hdb he hpl) fun σ H Q h => call_post h2 h
/-! ### subscripts, slices -/
theorem e_ix {g : Sto → D → D → Option D} (ho : IxD U X g) (ha : PE X a (tE U W ma)) (hb : PE X b (tE U W mb)) (hs : PlainIx b := by exact fun _ _ => rfl) : PE X (.Subscript a b pos) (tE U W (m2 g ma mb)) := by
  obtain ⟨r, h1, h2⟩ := ho.ex
  exact pe_imp (pe_ix h1 ha hb hs) fun σ H Q h => op_post (f := fun v u => getItem v u) h2 h
abbrev MO := Env → Sto → Out (Option Int)
abbrev relO : Mp → Hp → Option Int → Option Int → Prop := fun _ _ b a => b = a
abbrev tO (U : Uv) (W : WX) (m : MO) : TO := tX U relO W m
def oNone : MO := fun _ S => .ok none S
def oSome (m : ME) : MO := fun ρ S => (m ρ S).bind fun x S1 => match x with
  | .int i => .ok (some i) S1
  | _ => .stuck
theorem po_imp {o : Option Expr} {t t' : TO} (h : PO X o t) (hi : ∀ σ H Q, t' σ H Q → t σ H Q) : PO X o t' := ⟨fun pins s σ H Q I q => h.run pins s σ H Q I (hi _ _ _ q)⟩
theorem o_none : PO X none (tO U W oNone) := po_imp po_none fun σ H Q ⟨M, S, ρ, A, p⟩ => p M H none A.refl A.r rfl
theorem o_some (h : PE X e (tE U W m)) : PO X (some e) (tO U W (oSome m)) := po_imp (po_some h) fun σ H Q ⟨M, S, ρ, A, p⟩ => tX.bind A p fun x S1 M1 H1 v e1 A1 r1 p1 => by
  cases r1 with
  | int i => exact ⟨i, rfl, p1 M1 H1 _ A1.refl A1.r rfl⟩
  | _ => exact p1.elim
def cutD (ds : List D) (lo hi : Option Int) : List D := (ds.drop (HT.sIx ds.length 0 lo)).take (HT.sIx ds.length ds.length hi - HT.sIx ds.length 0 lo)
theorem RepAll.cut {M : Mp} {H : Hp} {xs : List V} {ds : List D} (r : RepAll U M H xs ds) (lo hi : Option Int) : RepAll U M H (cutV xs lo hi) (cutD ds lo hi) := by
  unfold cutV cutD
  rw [r.length]
  exact (r.drop _).take _
def slD (S : Sto) (d : D) (lo hi : Option Int) : Option D := match d with
  | .tup xs => some (.tup (cutD xs lo hi))
  | .str z => if z.length ≤ lim then some (.str (cutS z lo hi)) else none
  | d => (seqD S d).map fun xs => .lst (cutD xs lo hi)
def mSl (m : ME) (lo hi : MO) : ME := fun ρ S => (m ρ S).bind fun x S1 => (lo ρ S1).bind fun l S2 => (hi ρ S2).bind fun u S3 => ofO (slD S3 x l u) S3
end
end DL
/-! DL2: operators and built-ins by data. -/
namespace DL
open PySem L2

/-! ### data as the library's data -/
mutual
def toPy : D → PyData
  | .non => .none
  | .bl b => .bool b
  | .int i => .int i
  | .str s => .str s
  | .tup xs => .tuple (toPyAll xs)
  | .lst xs => .list (toPyAll xs)
  | .fz xs => .list (toPyAll xs)
  | .dct _ => .dict []
  | .obj _ => .dict []
  | .ty _ => .dict []
  | .cls _ => .dict []
  | .fn _ => .dict []
def toPyAll : List D → List PyData
  | [] => []
  | x :: xs => toPy x :: toPyAll xs
end
/-- an object of the store that is a list: as one -/
def resD (S : Sto) : D → D
  | .obj i => match S[i]? with
    | some (.lst xs) => .lst xs
    | _ => .obj i
  | d => d
def pl (d : D) : Bool := (toPy d).plain
def deq (a b : D) : Bool := PyData.eqv (toPy a) (toPy b)
def dep (d : D) : Nat := (toPy d).depth
def okEq (a b : D) : Bool := pl a && pl b && decide (min (dep a) (dep b) ≤ 60)
def eqO (S : Sto) (x y : D) : Option D := if okEq (resD S x) (resD S y) then some (.bl (deq (resD S x) (resD S y))) else none
def neO (S : Sto) (x y : D) : Option D := if okEq (resD S x) (resD S y) then some (.bl (!deq (resD S x) (resD S y))) else none

section
variable {U : Uv} {M : Mp} {H : Hp} {S : Sto}
mutual
theorem Rep.dp : ∀ {d : D} {v : V}, Rep U M H v d → pl d = true → Dp U.K H v (toPy d)
  | _, _, .non, _ => .non
  | _, _, .bl b, _ => .bl b
  | _, _, .int i, _ => .int i
  | _, _, .str x, _ => .str x
  | _, _, .tup h r, p => .tup h.sq (RepAll.dp r p)
  | _, _, .lst h r, p => .lst h.sq (RepAll.dp r p)
  | _, _, .fz h r, p => .lst h.sq (RepAll.dp r p)
  | _, _, .dct0 _ _, p => nomatch p
  | _, _, .obj _, p => nomatch p
  | _, _, .ty _, p => nomatch p
  | _, _, .cls _, p => nomatch p
  | _, _, .fn _, p => nomatch p
theorem RepAll.dp : ∀ {ds : List D} {vs : List V}, RepAll U M H vs ds → PyData.plainAll (toPyAll ds) = true → DpAll U.K H vs (toPyAll ds)
  | _, _, .nil, _ => .nil
  | d :: ds, _, .cons h r, p => by
    have p' : (toPy d).plain = true ∧ PyData.plainAll (toPyAll ds) = true := by simpa [toPyAll, PyData.plainAll] using p
    exact .cons (Rep.dp h p'.1) (RepAll.dp r p'.2)
end
theorem Rep.res {v : V} {d : D} (r : R U M S H) (h : Rep U M H v d) (p : pl (resD S d) = true) : Dp U.K H v (toPy (resD S d)) := by
  cases h with
  | obj hi =>
    rename_i i
    cases q : S[i]? with
    | none => simp only [resD, q] at p; cases p
    | some o =>
      cases o with
      | lst xs =>
        simp only [resD, q] at p ⊢
        obtain ⟨vs, h1, h2⟩ := r.at_ _ _ q
        exact .lst (.inl (.inl h1)) (RepAll.dp h2 p)
      | ins c fs => simp only [resD, q] at p; cases p
  | non => exact Rep.dp (M := M) .non p
  | bl b => exact Rep.dp (M := M) (.bl b) p
  | int i => exact Rep.dp (M := M) (.int i) p
  | str x => exact Rep.dp (M := M) (.str x) p
  | tup h q => exact Rep.dp (.tup h q) p
  | lst h q => exact Rep.dp (.lst h q) p
  | fz h q => exact Rep.dp (.fz h q) p
  | dct0 h q => exact Rep.dp (.dct0 h q) p
  | ty n => exact Rep.dp (M := M) (.ty n) p
  | cls n => exact Rep.dp (M := M) (.cls n) p
  | fn n => exact Rep.dp (M := M) (.fn n) p
end
section
variable {X : Cx} {U : Uv} {k : Nat}
theorem okEq_room {A : Around} {a b : D} (hr : Room k A) (h : okEq a b = true) : (toPy a).plain = true ∧ (toPy b).plain = true ∧ A.units + min (toPy a).depth (toPy b).depth < cLine := by
  unfold okEq pl at h
  simp only [Bool.and_eq_true, decide_eq_true_eq] at h
  refine ⟨h.1.1, h.1.2, ?_⟩
  have := hr.un
  have h2 : min (toPy a).depth (toPy b).depth ≤ 60 := h.2
  omega
theorem o_eq (hr : Room k X.A) (hK : X.K = U.K := by rfl) : OpD U X (compareOp .Eq) eqO := ⟨fun x y H Q => ∃ d e, Dp X.K H x d ∧ Dp X.K H y e ∧ d.plain = true ∧ e.plain = true ∧ X.A.units + min d.depth e.depth < cLine ∧ Q (.bl (PyData.eqv d e)) H,
  fun pins s σ H x y v u Q I rx ry ⟨d, e, hd, he, pd, pe, hu, q⟩ => by
    obtain ⟨as, r1⟩ := Dp.reads I d x v hd rx
    obtain ⟨bs, r2⟩ := Dp.reads I e y u he ry
    exact PySem.SeqAt.eq_plain r1 r2 pd pe hu ⟨.bl _, H, I, rfl, q⟩,
  fun M S H x y dx dy d Q r hx hy e g => by
    unfold eqO at e
    by_cases hk : okEq (resD S dx) (resD S dy) = true
    · rw [if_pos hk] at e
      cases e
      obtain ⟨p1, p2, hu⟩ := okEq_room hr hk
      rw [hK]
      exact ⟨_, _, hx.res r p1, hy.res r p2, p1, p2, hu, g.here r (.bl _)⟩
    · rw [if_neg hk] at e; cases e⟩
theorem o_ne (hr : Room k X.A) (hK : X.K = U.K := by rfl) : OpD U X (compareOp .NotEq) neO := ⟨fun x y H Q => ∃ d e, Dp X.K H x d ∧ Dp X.K H y e ∧ d.plain = true ∧ e.plain = true ∧ X.A.units + min d.depth e.depth < cLine ∧ Q (.bl (!PyData.eqv d e)) H,
  fun pins s σ H x y v u Q I rx ry ⟨d, e, hd, he, pd, pe, hu, q⟩ => by
    obtain ⟨as, r1⟩ := Dp.reads I d x v hd rx
    obtain ⟨bs, r2⟩ := Dp.reads I e y u he ry
    exact PySem.SeqAt.ne_plain r1 r2 pd pe hu ⟨.bl _, H, I, rfl, q⟩,
  fun M S H x y dx dy d Q r hx hy e g => by
    unfold neO at e
    by_cases hk : okEq (resD S dx) (resD S dy) = true
    · rw [if_pos hk] at e
      cases e
      obtain ⟨p1, p2, hu⟩ := okEq_room hr hk
      rw [hK]
      exact ⟨_, _, hx.res r p1, hy.res r p2, p1, p2, hu, g.here r (.bl _)⟩
    · rw [if_neg hk] at e; cases e⟩
end
end DL
/-! DL2b: operators and built-ins by data, further. -/
namespace DL
open PySem L2

/-! ### ints, texts, lists, tuples: + - * // % ** -/
def catS (x y : Str) : Option D := if x.length + y.length ≤ lim then some (.str (x ++ y)) else none
def addO (S : Sto) (x y : D) : Option D := match x, y with
  | .int i, .int j => some (.int (i + j))
  | .str a, .str b => catS a b
  | .tup xs, .tup ys => if xs.length + ys.length ≤ lim then some (.tup (xs ++ ys)) else none
  | .lst xs, .lst ys => if xs.length + ys.length ≤ lim then some (.lst (xs ++ ys)) else none
  | .obj i, .lst ys => match S[i]? with
    | some (.lst xs) => if xs.length + ys.length ≤ lim then some (.lst (xs ++ ys)) else none
    | _ => none
  | .lst xs, .obj j => match S[j]? with
    | some (.lst ys) => if xs.length + ys.length ≤ lim then some (.lst (xs ++ ys)) else none
    | _ => none
  | .obj i, .obj j => match S[i]?, S[j]? with
    | some (.lst xs), some (.lst ys) => if xs.length + ys.length ≤ lim then some (.lst (xs ++ ys)) else none
    | _, _ => none
  | _, _ => none
def subO (_ : Sto) (x y : D) : Option D := match x, y with
  | .int i, .int j => some (.int (i - j))
  | _, _ => none
def mulO (S : Sto) (x y : D) : Option D := match x, y with
  | .int i, .int j => if i.natAbs.log2 + j.natAbs.log2 < 1000000 then some (.int (i * j)) else none
  | .lst xs, .int k => if -(2 ^ 63) ≤ k ∧ k < 2 ^ 63 ∧ xs.length * k.toNat ≤ lim then some (.lst (List.replicate k.toNat xs).flatten) else none
  | _, _ => none
def fdivO (_ : Sto) (x y : D) : Option D := match x, y with
  | .int i, .int j => if 0 < j ∧ j.natAbs.log2 < 9000 then some (.int (i / j)) else none
  | _, _ => none
def modO (_ : Sto) (x y : D) : Option D := match x, y with
  | .int i, .int j => if 0 < j then some (.int (i % j)) else none
  | _, _ => none
def powO (_ : Sto) (x y : D) : Option D := match x, y with
  | .int i, .int j => if 0 ≤ j ∧ (Builtin.Int.intBits i : Int) * j ≤ 2 ^ 27 then some (.int (i ^ j.toNat)) else none
  | _, _ => none
def negO (_ : Sto) (x : D) : Option D := match x with
  | .int i => some (.int (-i))
  | _ => none

section
variable {U : Uv} {M : Mp} {H : Hp} {S : Sto}
theorem Rep.intV {v : V} {i : Int} (h : Rep U M H v (.int i)) : v = .int i := by cases h; rfl
theorem Rep.strV {v : V} {x : Str} (h : Rep U M H v (.str x)) : v = .str x := by cases h; rfl
theorem Rep.blV {v : V} {b : Bool} (h : Rep U M H v (.bl b)) : v = .bl b := by cases h; rfl
theorem Rep.nonV {v : V} (h : Rep U M H v .non) : v = .non := by cases h; rfl
theorem Rep.tyV {v : V} {n : String} (h : Rep U M H v (.ty n)) : v = .ty n := by cases h; rfl
theorem Rep.tupV {v : V} {ds : List D} (h : Rep U M H v (.tup ds)) : ∃ a xs, v = .ref a ∧ TupAt U.K M H a xs ∧ RepAll U M H xs ds := by cases h with | tup h r => exact ⟨_, _, rfl, h, r⟩
theorem Rep.lstV {v : V} {ds : List D} (h : Rep U M H v (.lst ds)) : ∃ a xs, v = .ref a ∧ H a = some (.lst xs) ∧ RepAll U M H xs ds := by cases h with | lst h r => exact ⟨_, _, rfl, h.1, r⟩
theorem Rep.objL {v : V} {i : Nat} {ds : List D} (r : R U M S H) (h : Rep U M H v (.obj i)) (e : S[i]? = some (.lst ds)) : ∃ a xs, v = .ref a ∧ H a = some (.lst xs) ∧ RepAll U M H xs ds ∧ a = M.at_ i ∧ i < M.n := by
  cases h with
  | obj hi =>
    obtain ⟨vs, h1, h2⟩ := r.at_ _ _ e
    exact ⟨_, vs, rfl, h1, h2, rfl, hi⟩
theorem Rep.toTup {a : Addr} {xs : List V} {ds : List D} (h : TupAt U.K M H a xs) (r : RepAll U M H xs ds) : Rep U M H (.ref a) (.tup ds) := .tup h r
end

section
variable {X : Cx} {U : Uv}
theorem ofR {f : Value → Value → Sem Value} {g : Sto → D → D → Option D} (r : R2) (h : OpR X f r) (k : ∀ M S H x y dx dy d Q, R U M S H → Rep U M H x dx → Rep U M H y dy → g S dx dy = some d → Gives U M S H d Q → r x y H Q) : OpD U X f g := ⟨r, h, k⟩
theorem nil_iff {U : Uv} {M : Mp} {H : Hp} {xs : List V} {ds : List D} (r : RepAll U M H xs ds) : xs = [] ↔ ds = [] := by cases r <;> simp
theorem o_add (hK : X.K = U.K := by rfl) : OpD U X (binaryOp .Add) addO := by
  refine ofR _ (op_add.or (op_add_str.or (op_catA.or op_cat))) fun M S H x y dx dy d Q r hx hy e g => ?_
  have lists : ∀ (a b : Addr) (xs ys : List V) (ds es : List D), x = .ref a → y = .ref b → H a = some (.lst xs) → H b = some (.lst ys) → RepAll U M H xs ds → RepAll U M H ys es →
      (if ds.length + es.length ≤ lim then some (D.lst (ds ++ es)) else none) = some d → rCat x y H Q := fun a b xs ys ds es ex ey ha hb ra rb he => by
    by_cases hl : ds.length + es.length ≤ lim
    · rw [if_pos hl] at he
      cases he
      exact ⟨a, b, xs, ys, ex, ey, ha, hb, lim_line (by rw [ra.length, rb.length]; exact hl), fun p hp => g.lst r (ra.append rb) hp⟩
    · rw [if_neg hl] at he; cases he
  unfold addO at e
  split at e
  · cases e
    exact .inl ⟨_, _, hx.intV, hy.intV, g.here r (.int _)⟩
  · rename_i a b
    unfold catS at e
    by_cases hl : a.length + b.length ≤ lim
    · rw [if_pos hl] at e
      cases e
      exact .inr (.inl ⟨_, _, hx.strV, hy.strV, lim_line hl, g.here r (.str _)⟩)
    · rw [if_neg hl] at e; cases e
  · rename_i ds es
    by_cases hl : ds.length + es.length ≤ lim
    · rw [if_pos hl] at e
      cases e
      obtain ⟨a, xs, rfl, ha, ra⟩ := hx.tupV
      obtain ⟨b, ys, rfl, hb, rb⟩ := hy.tupV
      refine .inr (.inr (.inl ⟨a, b, xs, ys, rfl, rfl, by rw [hK]; exact ha.sq, by rw [hK]; exact hb.sq, lim_line (by rw [ra.length, rb.length]; exact hl), fun en => ?_, fun en em => ?_, fun _ _ p hp => g.tup r (ra.append rb) hp⟩))
      · have : ds = [] := (nil_iff ra).mp en
        subst this
        exact g.here r (.tup hb rb)
      · have : es = [] := (nil_iff rb).mp em
        subst this
        rw [List.append_nil] at g
        exact g.here r (.tup ha ra)
    · rw [if_neg hl] at e; cases e
  · obtain ⟨a, xs, rfl, ha, ra⟩ := hx.lstV
    obtain ⟨b, ys, rfl, hb, rb⟩ := hy.lstV
    exact .inr (.inr (.inr (lists a b xs ys _ _ rfl rfl ha hb ra rb e)))
  · split at e
    · rename_i q
      obtain ⟨a, xs, rfl, ha, ra, _⟩ := hx.objL r q
      obtain ⟨b, ys, rfl, hb, rb⟩ := hy.lstV
      exact .inr (.inr (.inr (lists a b xs ys _ _ rfl rfl ha hb ra rb e)))
    · cases e
  · split at e
    · rename_i q
      obtain ⟨a, xs, rfl, ha, ra⟩ := hx.lstV
      obtain ⟨b, ys, rfl, hb, rb, _⟩ := hy.objL r q
      exact .inr (.inr (.inr (lists a b xs ys _ _ rfl rfl ha hb ra rb e)))
    · cases e
  · split at e
    · rename_i q1 q2
      obtain ⟨a, xs, rfl, ha, ra, _⟩ := hx.objL r q1
      obtain ⟨b, ys, rfl, hb, rb, _⟩ := hy.objL r q2
      exact .inr (.inr (.inr (lists a b xs ys _ _ rfl rfl ha hb ra rb e)))
    · cases e
  · cases e
theorem o_sub : OpD U X (binaryOp .Sub) subO := ofR _ op_sub fun M S H x y dx dy d Q r hx hy e g => by
  unfold subO at e
  split at e
  · cases e; exact ⟨_, _, hx.intV, hy.intV, g.here r (.int _)⟩
  · cases e
theorem RepAll.rep {M : Mp} {H : Hp} {xs : List V} {ds : List D} (h : RepAll U M H xs ds) : ∀ k : Nat, RepAll U M H (List.replicate k xs).flatten (List.replicate k ds).flatten
  | 0 => .nil
  | k + 1 => by
    rw [List.replicate_succ, List.replicate_succ, List.flatten_cons, List.flatten_cons]
    exact h.append (RepAll.rep h k)
theorem o_mul : OpD U X (binaryOp .Mult) mulO := ofR _ (op_mulW.or op_rep) fun M S H x y dx dy d Q r hx hy e g => by
  unfold mulO at e
  split at e
  · split at e
    · rename_i hc
      cases e; exact .inl ⟨_, _, hx.intV, hy.intV, hc, g.here r (.int _)⟩
    · cases e
  · split at e
    · rename_i hc
      cases e
      obtain ⟨a, xs, rfl, ha, ra⟩ := hx.lstV
      exact .inr ⟨a, _, xs, rfl, hy.intV, ha, hc.1, hc.2.1, lim_line (by rw [ra.length]; exact hc.2.2), fun p hp => g.lst r (ra.rep _) hp⟩
    · cases e
  · cases e
theorem o_fdiv : OpD U X (binaryOp .FloorDiv) fdivO := ofR _ op_fdivW fun M S H x y dx dy d Q r hx hy e g => by
  unfold fdivO at e
  split at e
  · split at e
    · rename_i hc
      cases e; exact ⟨_, _, hx.intV, hy.intV, hc, g.here r (.int _)⟩
    · cases e
  · cases e
theorem o_mod : OpD U X (binaryOp .Mod) modO := ofR _ op_mod fun M S H x y dx dy d Q r hx hy e g => by
  unfold modO at e
  split at e
  · split at e
    · rename_i hc
      cases e; exact ⟨_, _, hx.intV, hy.intV, hc, g.here r (.int _)⟩
    · cases e
  · cases e
def CPowW (i j : Int) : Prop := 0 ≤ j ∧ (Builtin.Int.intBits i : Int) * j ≤ 2 ^ 27
theorem op_powW : OpR X (binaryOp .Pow) (rI CPowW fun i j => .int (i ^ j.toNat)) := opI fun i j t u s Q E h q => PyProof.Rows.pow_int h.1 h.2 q
theorem o_pow : OpD U X (binaryOp .Pow) powO := ofR _ op_powW fun M S H x y dx dy d Q r hx hy e g => by
  unfold powO at e
  split at e
  · split at e
    · rename_i hc
      cases e; exact ⟨_, _, hx.intV, hy.intV, hc, g.here r (.int _)⟩
    · cases e
  · cases e
theorem u_neg : UnD U X (unaryOp .USub) negO := ⟨_, un_neg, fun M S H x dx d Q r hx e g => by
  unfold negO at e
  split at e
  · cases e; exact ⟨_, hx.intV, g.here r (.int _)⟩
  · cases e⟩

/-! ### is None; order -/
def isNon : D → Bool
  | .non => true
  | _ => false
def isNO (_ : Sto) (x y : D) : Option D := match y with
  | .non => some (.bl (isNon x))
  | _ => none
def notNO (_ : Sto) (x y : D) : Option D := match y with
  | .non => some (.bl (!isNon x))
  | _ => none
theorem Rep.isN {M : Mp} {H : Hp} {v : V} {d : D} (h : Rep U M H v d) : decide (v = .non) = isNon d := by cases h <;> simp [isNon]
theorem o_is : OpD U X (compareOp .Is) isNO := ofR _ op_isN fun M S H x y dx dy d Q r hx hy e g => by
  unfold isNO at e
  split at e
  · cases e
    exact ⟨hy.nonV, by rw [hx.isN]; exact g.here r (.bl _)⟩
  · cases e
theorem o_isnot : OpD U X (compareOp .IsNot) notNO := ofR _ op_notN fun M S H x y dx dy d Q r hx hy e g => by
  unfold notNO at e
  split at e
  · cases e
    refine ⟨hy.nonV, ?_⟩
    rw [hx.isN]
    exact g.here r (.bl _)
  · cases e
/-- two data that < takes -/
def okLt (x y : D) : Bool := PySem.W.alike (toPy x) (toPy y) && (match x with | .non => false | _ => true) && decide (min (dep x) (dep y) ≤ 60) && pl x && pl y
def dlt (x y : D) : Bool := PySem.W.dataLt (toPy x) (toPy y)
def ltO (S : Sto) (x y : D) : Option D := if okLt (resD S x) (resD S y) then some (.bl (dlt (resD S x) (resD S y))) else none
def gtO (S : Sto) (x y : D) : Option D := if okLt (resD S x) (resD S y) then some (.bl (dlt (resD S y) (resD S x))) else none
def leO (S : Sto) (x y : D) : Option D := if okLt (resD S x) (resD S y) then some (.bl (!dlt (resD S y) (resD S x))) else none
def geO (S : Sto) (x y : D) : Option D := if okLt (resD S x) (resD S y) then some (.bl (!dlt (resD S x) (resD S y))) else none
def rLtD (K : PySem.W.Frag) (A : Around) (f : PyData → PyData → Bool) : R2 := fun x y H Q => ∃ d e, Dp K H x d ∧ Dp K H y e ∧ PySem.W.alike d e = true ∧ d ≠ .none ∧ A.units + min d.depth e.depth < cLine ∧ Q (.bl (f d e)) H
theorem okLt_of {k : Nat} {A : Around} {a b : D} (hr : Room k A) (h : okLt a b = true) : PySem.W.alike (toPy a) (toPy b) = true ∧ toPy a ≠ .none ∧ A.units + min (toPy a).depth (toPy b).depth < cLine ∧ pl a = true ∧ pl b = true := by
  unfold okLt at h
  simp only [Bool.and_eq_true, decide_eq_true_eq] at h
  obtain ⟨⟨⟨⟨h1, h2⟩, h3⟩, h4⟩, h5⟩ := h
  refine ⟨h1, ?_, ?_, h4, h5⟩
  · intro e
    cases a <;> simp [toPy] at e h2
  · have := hr.un
    have h2 : min (toPy a).depth (toPy b).depth ≤ 60 := h3
    omega
theorem o_ltD {k : Nat} {op : CmpOp} {f : PyData → PyData → Bool} {g : Sto → D → D → Option D} (hr : Room k X.A)
    (rule : ∀ {A : Around} {E : Value → Shared → Prop} {s : Shared} {a b : Value} {da db : PyData} {as bs : List Addr} {Q : Value → Shared → Prop}, Reads s.heap a da as → Reads s.heap b db bs → PySem.W.alike da db = true → da ≠ .none → A.units + min da.depth db.depth < cLine → Q (.bool (f da db)) s → wpAny (model X.prog X.w) A (compareOp op a b) Q E s)
    (hg : ∀ S x y, g S x y = if okLt (resD S x) (resD S y) then some (.bl (f (toPy (resD S x)) (toPy (resD S y)))) else none) (hK : X.K = U.K) : OpD U X (compareOp op) g :=
  ofR (rLtD X.K X.A f) (fun pins s σ H x y v u Q I rx ry ⟨d, e, hd, he, hal, hn, hu, q⟩ => by
    obtain ⟨as, r1⟩ := Dp.reads I d x v hd rx
    obtain ⟨bs, r2⟩ := Dp.reads I e y u he ry
    exact rule r1 r2 hal hn hu ⟨.bl _, H, I, rfl, q⟩) fun M S H x y dx dy d Q r hx hy e g => by
    rw [hg] at e
    by_cases hk : okLt (resD S dx) (resD S dy) = true
    · rw [if_pos hk] at e
      cases e
      obtain ⟨h1, h2, h3, h4, h5⟩ := okLt_of hr hk
      rw [hK]
      exact ⟨_, _, hx.res r h4, hy.res r h5, h1, h2, h3, g.here r (.bl _)⟩
    · rw [if_neg hk] at e; cases e
theorem o_lt {k : Nat} (hr : Room k X.A) (hK : X.K = U.K := by rfl) : OpD U X (compareOp .Lt) ltO := o_ltD (f := fun a b => PySem.W.dataLt a b) hr (fun a b c d e f => PySem.W.lt_data a b c d e f) (fun _ _ _ => rfl) hK
theorem o_gt {k : Nat} (hr : Room k X.A) (hK : X.K = U.K := by rfl) : OpD U X (compareOp .Gt) gtO := o_ltD (f := fun a b => PySem.W.dataLt b a) hr (fun a b c d e f => PySem.W.gt_data a b c d e f) (fun _ _ _ => rfl) hK
theorem o_le {k : Nat} (hr : Room k X.A) (hK : X.K = U.K := by rfl) : OpD U X (compareOp .LtE) leO := o_ltD (f := fun a b => !PySem.W.dataLt b a) hr (fun a b c d e f => PySem.W.le_data a b c d e f) (fun _ _ _ => rfl) hK
theorem o_ge {k : Nat} (hr : Room k X.A) (hK : X.K = U.K := by rfl) : OpD U X (compareOp .GtE) geO := o_ltD (f := fun a b => !PySem.W.dataLt a b) hr (fun a b c d e f => PySem.W.ge_data a b c d e f) (fun _ _ _ => rfl) hK
end
end DL
/-! DL2c: in, built-ins, subscripts, slices, isinstance by data. -/
namespace PySem.SeqAt
open AutoSeq1 (wpAny_loadPart')
open MeetsSeq
theorem dl_tuple_declines_dict (l b : Addr) (items : Array Value) (n : Nat) (dd dd2 : Option Addr) (sl sl2 : Array (Option Value)) (es : Array DictEntry) (ep : Nat) :
    Meets (Builtin.«tuple.__eq__» ⟨[.ref l, .ref b], []⟩) (fun _ R s => s.heap.get? l = some { cls := .type "tuple", dict := dd, data := .seq items n, slots := sl } ∧ s.heap.get? b = some { cls := .type "dict", dict := dd2, data := .dict es ep, slots := sl2 } ∧ R (.ok (.ret .notImplemented)) s) :=
  .of_wp fun prog w A R s h => by obtain ⟨hp, g, d, tk, os⟩ := s; obtain ⟨hl, hb, h⟩ := h; have f1 := F.sub_dict_tuple; wp_walk using wpAny_loadPart' hl, wpAny_loadPart' hb; exact ⟨_, rfl, h⟩
theorem dl_dict_declines_tuple (l b : Addr) (items : Array Value) (n : Nat) (dd dd2 : Option Addr) (sl sl2 : Array (Option Value)) (es : Array DictEntry) (ep : Nat) :
    Meets (Builtin.«dict.__eq__» ⟨[.ref b, .ref l], []⟩) (fun _ R s => s.heap.get? l = some { cls := .type "tuple", dict := dd, data := .seq items n, slots := sl } ∧ s.heap.get? b = some { cls := .type "dict", dict := dd2, data := .dict es ep, slots := sl2 } ∧ R (.ok (.ret .notImplemented)) s) :=
  .of_wp fun prog w A R s h => by obtain ⟨hp, g, d, tk, os⟩ := s; obtain ⟨hl, hb, h⟩ := h; have f1 := F.sub_tuple_dict; wp_walk using wpAny_loadPart' hl, wpAny_loadPart' hb; exact ⟨_, rfl, h⟩
section
variable {A : Around} {s : Shared}
theorem dl_RcAt_tuple_dict {l b : Addr} {items : Array Value} {dd2 : Option Addr} {sl2 : Array (Option Value)} {es : Array DictEntry} {ep : Nat} (hl : s.heap.IsTuple l items) (ho2 : s.heap.get? b = some { cls := .type "dict", dict := dd2, data := .dict es ep, slots := sl2 }) (hu : A.units < cLine) : RcAt A s (.ref l) (.ref b) false := fun prog w E Q h => by
  obtain ⟨⟨cls, dd, data, sl⟩, ho, hc, n, hd⟩ := id hl
  simp only at hc hd
  subst hc hd
  have hne : l ≠ b := fun e => by
    subst e
    rw [ho] at ho2
    have := congrArg Obj.cls (Option.some.inj ho2)
    simp at this
  exact (rc_eq_decline_or (k := false) ⟨_, ho, rfl⟩ ⟨_, ho2, rfl⟩ (by decide) F.sub_dict_tuple F.slot_tuple_eq F.slot_dict_eq_refl
    (fun _ hq => call_meets F.slot_tuple_eq ⟨_, ho, rfl⟩ F.entry_tuple_eq (F.args_tuple_eq_2 _ _) (dl_tuple_declines_dict l b items n dd dd2 sl sl2 es ep) ⟨ho, ho2, hq⟩)
    (fun _ hq => call_meets F.slot_dict_eq_refl ⟨_, ho2, rfl⟩ F.entry_dict_eq (F.args_dict_eq_2 _ _) (dl_dict_declines_tuple l b items n dd dd2 sl sl2 es ep) ⟨ho, ho2, hq⟩)
    (fun _ hq => wpAny_isSame_ref_other' hne ho ho2 (by simp) hq) (.inr hu) h)
theorem dl_EqAt_tuple_dict {l b : Addr} {items : Array Value} {dd2 : Option Addr} {sl2 : Array (Option Value)} {es : Array DictEntry} {ep : Nat} (hl : s.heap.IsTuple l items) (ho2 : s.heap.get? b = some { cls := .type "dict", dict := dd2, data := .dict es ep, slots := sl2 }) (hu : A.units < cLine) : EqAt A s (.ref l) (.ref b) false :=
  .of_refs (fun e => by
    obtain ⟨o, ho, hc, n, hd⟩ := id hl
    subst e
    rw [ho] at ho2
    have e2 := Option.some.inj ho2
    rw [e2] at hc
    simp at hc) (dl_RcAt_tuple_dict hl ho2 hu)
end
end PySem.SeqAt
namespace DL
open PySem L2

def isTup : D → Bool
  | .tup _ => true
  | _ => false
def isDct0 : D → Bool
  | .dct [] => true
  | _ => false
/-- x in c: the items of a list or a tuple; one sign of a text, or a text in a text -/
def inS (x z : Str) : Bool := !(Builtin.Str.occurrences z x 0 z.length 1).isEmpty
def okIn (ys : List D) (x : D) : Bool := (PyData.plainAll (toPyAll ys) && pl x && decide (min (PyData.depthAll (toPyAll ys)) (dep x) ≤ 60)) || (isDct0 x && ys.all isTup)
def inO (S : Sto) (x c : D) : Option Bool := match c with
  | .str z => match x with
    | .str y => some (inS y z)
    | _ => none
  | c => match seqD S c with
    | some ys => if okIn ys x then some (ys.any fun y => deq y x) else none
    | none => none
def inD (S : Sto) (x c : D) : Option D := (inO S x c).map .bl
def ninD (S : Sto) (x c : D) : Option D := (inO S x c).map fun b => .bl (!b)
def rIn1 (K : PySem.W.Frag) (A : Around) (neg : Bool) : R2 := fun x c H Q => ∃ d xs, Dp K H x d ∧ (Dp K H c (.list xs) ∨ Dp K H c (.tuple xs)) ∧ d.plain = true ∧ PyData.plainAll xs = true ∧ A.units + 1 + min (PyData.depthAll xs) d.depth < cLine ∧ Q (.bl (if neg = true then !(xs.any fun y => PyData.eqv y d) else xs.any fun y => PyData.eqv y d)) H
def rIn2 (K : PySem.W.Frag) (A : Around) (neg : Bool) : R2 := fun x c H Q => ∃ a l xs, x = .ref a ∧ c = .ref l ∧ H a = some (.dK []) ∧ (SqT K H l xs ∨ SqL K H l xs) ∧ (∀ v ∈ xs, ∃ b ys, v = .ref b ∧ SqT K H b ys) ∧ A.units + 1 < cLine ∧ Q (.bl neg) H
section
variable {X : Cx} {U : Uv} {k : Nat}
theorem toPyAll_any (f : PyData → Bool) : ∀ ys : List D, (toPyAll ys).any f = ys.any fun y => f (toPy y)
  | [] => rfl
  | y :: ys => by
    show (f (toPy y) || (toPyAll ys).any f) = (f (toPy y) || ys.any fun y => f (toPy y))
    rw [toPyAll_any f ys]
theorem op_in1 (neg : Bool) : OpR X (compareOp (if neg = true then .NotIn else .In)) (rIn1 X.K X.A neg) := fun pins s σ H x y v u Q I rx ry ⟨d, xs, hd, hc, pd, pxs, hu, q⟩ => by
  obtain ⟨bs, r2⟩ := Dp.reads I d x v hd rx
  rcases hc with hc | hc
  · obtain ⟨as, r1⟩ := Dp.reads I _ y u hc ry
    cases neg with
    | false => exact SeqAt.in_list_data r1 r2 pxs pd hu ⟨.bl _, H, I, rfl, q⟩
    | true => exact SeqAt.notIn_list_data r1 r2 pxs pd hu ⟨.bl _, H, I, rfl, q⟩
  · obtain ⟨as, r1⟩ := Dp.reads I _ y u hc ry
    cases neg with
    | false => exact SeqAt.in_tuple_data r1 r2 pxs pd hu ⟨.bl _, H, I, rfl, q⟩
    | true => exact SeqAt.notIn_tuple_data r1 r2 pxs pd hu ⟨.bl _, H, I, rfl, q⟩
theorem anyF {us : Array Value} : us.any (fun _ => false) = false := by
  rw [← Array.any_toList]; simp
theorem vals_mem : ∀ {xs : List V} {us : List Value} {u : Value}, Vals xs us → u ∈ us → ∃ v, v ∈ xs ∧ RelV v u
  | _, _, _, .nil, h => nomatch h
  | x :: xs, _, u, .cons r t, h => by
    rcases List.mem_cons.mp h with rfl | h
    · exact ⟨x, List.mem_cons_self, r⟩
    · obtain ⟨v, hv, rv⟩ := vals_mem t h
      exact ⟨v, List.mem_cons_of_mem _ hv, rv⟩
theorem op_in2 (neg : Bool) : OpR X (compareOp (if neg = true then .NotIn else .In)) (rIn2 X.K X.A neg) := fun pins s σ H x y v u Q I rx ry ⟨a, l, xs, ex, ey, ha, hs, hi, hu, q⟩ => by
  subst ex ey
  obtain rfl : v = Value.ref a := rx
  obtain rfl : u = Value.ref l := ry
  obtain ⟨_, _, vs, _, o, es, ep, ho, ext, hdat, _⟩ := I.hok _ _ ha
  obtain ⟨e1, e2, e3⟩ := ext
  obtain ⟨cls, dd, data, sl⟩ := o
  simp only at e1 e2 e3 hdat
  subst e1 e2 e3 hdat
  have eqs : ∀ {its : List Value}, Vals xs its → ∀ y, y ∈ its.toArray → SeqAt.EqAt X.A.in1 s y (.ref a) ((fun _ => false : Value → Bool) y) := fun {its} r y hy => by
    obtain ⟨w, hw, rw'⟩ := vals_mem r (by simpa using hy)
    obtain ⟨b, ys, rfl, hb⟩ := hi w hw
    obtain rfl : y = Value.ref b := rw'
    obtain ⟨its', _, tp, _⟩ := I.tuple hb
    exact SeqAt.dl_EqAt_tuple_dict tp ho hu
  rcases hs with hs | hs
  · obtain ⟨its, r, tp, _⟩ := I.tuple hs
    cases neg with
    | false => exact SeqAt.in_tupleAt _ tp (eqs r) (by rw [anyF]; exact ⟨.bl _, H, I, rfl, q⟩)
    | true => exact SeqAt.notIn_tupleAt _ tp (eqs r) (by rw [anyF]; exact ⟨.bl _, H, I, rfl, q⟩)
  · obtain ⟨its, r, tp, _⟩ := I.list hs
    cases neg with
    | false => exact SeqAt.in_listAt _ (PlainL.isList tp) (eqs r) (by rw [anyF]; exact ⟨.bl _, H, I, rfl, q⟩)
    | true => exact SeqAt.notIn_listAt _ (PlainL.isList tp) (eqs r) (by rw [anyF]; exact ⟨.bl _, H, I, rfl, q⟩)
theorem op_in3 (neg : Bool) : OpR X (compareOp (if neg = true then .NotIn else .In)) (fun x y H Q => ∃ i j, x = .str i ∧ y = .str j ∧ Q (.bl (if neg = true then !(inS i j) else inS i j)) H) := by
  cases neg with
  | false => exact fun pins s σ H x y v u Q I rx ry ⟨i, j, h1, h2, q⟩ => op_in_str pins s σ H x y v u Q I rx ry ⟨i, j, h1, h2, q⟩
  | true => exact fun pins s σ H x y v u Q I rx ry ⟨i, j, h1, h2, q⟩ => L2.op_notIn_str pins s σ H x y v u Q I rx ry ⟨i, j, h1, h2, q⟩
theorem in_read {M : Mp} {S : Sto} {H : Hp} {x y : V} {dx dy : D} {b : Bool} {Q : VK} (hr : Room k X.A) (hK : X.K = U.K) (neg : Bool) (r : R U M S H) (hx : Rep U M H x dx) (hy : Rep U M H y dy) (e : inO S dx dy = some b) (q : Q (.bl (if neg = true then !b else b)) H) :
    rIn1 X.K X.A neg x y H Q ∨ rIn2 X.K X.A neg x y H Q ∨ ∃ i j, x = .str i ∧ y = .str j ∧ Q (.bl (if neg = true then !(inS i j) else inS i j)) H := by
  have seq : ∀ ys, seqD S dy = some ys → (if okIn ys dx = true then some (ys.any fun y => deq y dx) else none) = some b → rIn1 X.K X.A neg x y H Q ∨ rIn2 X.K X.A neg x y H Q := fun ys es e => by
    by_cases hk : okIn ys dx = true
    · rw [if_pos hk] at e
      cases e
      have hun := hr.un
      unfold okIn at hk
      rw [Bool.or_eq_true] at hk
      rcases hk with hk | hk
      · simp only [Bool.and_eq_true, decide_eq_true_eq] at hk
        refine .inl ⟨toPy dx, toPyAll ys, by rw [hK]; exact hx.dp hk.1.2, ?_, hk.1.2, hk.1.1, ?_, ?_⟩
        · obtain ⟨a, xs, rfl, hs, ra⟩ := hy.seq r es
          rw [hK]
          rcases hs with hs | hs
          · exact .inr (.tup hs (RepAll.dp ra hk.1.1))
          · exact .inl (.lst hs (RepAll.dp ra hk.1.1))
        · have : min (PyData.depthAll (toPyAll ys)) (toPy dx).depth ≤ 60 := hk.2
          omega
        · rw [toPyAll_any]; exact q
      · rw [Bool.and_eq_true] at hk
        obtain ⟨h1, h2⟩ := hk
        cases hx with
        | dct0 hd nd =>
          obtain ⟨l, xs, rfl, hs, ra⟩ := hy.seq r es
          have hany : (ys.any fun y => deq y (.dct [])) = false := by
            rw [List.any_eq_false]
            intro z hz
            have := List.all_eq_true.mp h2 z hz
            cases z <;> simp [isTup] at this
            simp [deq, toPy, PyData.eqv]
          rw [hany] at q
          refine .inr ⟨_, l, xs, rfl, rfl, hd, by rw [hK]; exact hs, fun v hv => ?_, by omega, by cases neg <;> exact q⟩
          obtain ⟨i, hi⟩ := List.getElem?_of_mem hv
          obtain ⟨d, hd', rd⟩ := ra.getV hi
          have := List.all_eq_true.mp h2 d (List.mem_of_getElem? hd')
          cases rd with
          | tup ht _ => exact ⟨_, _, rfl, by rw [hK]; exact ht.sq⟩
          | _ => cases this
        | _ => cases h1
    · rw [if_neg hk] at e; cases e
  have seq' : (match seqD S dy with
    | some ys => if okIn ys dx then some (ys.any fun y => deq y dx) else none
    | none => none) = some b → rIn1 X.K X.A neg x y H Q ∨ rIn2 X.K X.A neg x y H Q := fun e => by
    cases es : seqD S dy with
    | none => rw [es] at e; cases e
    | some ys => rw [es] at e; exact seq ys es e
  cases dy with
  | str z =>
    simp only [inO] at e
    cases dx with
    | str w => cases e; exact .inr (.inr ⟨w, z, hx.strV, hy.strV, q⟩)
    | _ => cases e
  | _ => exact (seq' e).elim .inl fun z => .inr (.inl z)
theorem o_in (hr : Room k X.A) (hK : X.K = U.K := by rfl) : OpD U X (compareOp .In) inD := ofR _ ((op_in1 false).or ((op_in2 false).or (op_in3 false))) fun M S H x y dx dy d Q r hx hy e g => by
  unfold inD at e
  cases h : inO S dx dy with
  | none => rw [h] at e; cases e
  | some b =>
    rw [h] at e
    cases e
    exact in_read hr hK false r hx hy h (g.here r (.bl _))
theorem o_nin (hr : Room k X.A) (hK : X.K = U.K := by rfl) : OpD U X (compareOp .NotIn) ninD := ofR _ ((op_in1 true).or ((op_in2 true).or (op_in3 true))) fun M S H x y dx dy d Q r hx hy e g => by
  unfold ninD at e
  cases h : inO S dx dy with
  | none => rw [h] at e; cases e
  | some b =>
    rw [h] at e
    cases e
    exact in_read hr hK true r hx hy h (g.here r (.bl _))
end
end DL
/-! DL2d: built-ins, subscripts, slices, isinstance by data. -/
namespace DL
open PySem L2

def lenG (S : Sto) (ds : List D) : Option D := match ds with
  | [.str z] => if z.length ≤ lim then some (.int z.length) else none
  | [d] => (seqD S d).map fun xs => .int xs.length
  | _ => none
def absG (_ : Sto) (ds : List D) : Option D := match ds with
  | [.int i] => some (.int (if i < 0 then -i else i))
  | _ => none
def maxG (_ : Sto) (ds : List D) : Option D := match ds with
  | [.int i, .int j] => some (.int (if j > i then j else i))
  | _ => none
def minG (_ : Sto) (ds : List D) : Option D := match ds with
  | [.int i, .int j] => some (.int (if j < i then j else i))
  | _ => none
def intG (_ : Sto) (ds : List D) : Option D := match ds with
  | [.int i] => some (.int i)
  | [.bl b] => some (.int (if b then 1 else 0))
  | _ => none
def blsD : List D → Option (List Bool)
  | [] => some []
  | .bl b :: r => (blsD r).map (b :: ·)
  | _ => none
def allG (S : Sto) (ds : List D) : Option D := match ds with
  | [.lst xs] => (blsD xs).map fun bs => .bl (bs.all id)
  | _ => none
def anyG (S : Sto) (ds : List D) : Option D := match ds with
  | [.lst xs] => (blsD xs).map fun bs => .bl (bs.any id)
  | _ => none
def listG (S : Sto) (ds : List D) : Option D := match ds with
  | [d] => (seqD S d).map .lst
  | _ => none
def tupleG (S : Sto) (ds : List D) : Option D := match ds with
  | [d] => (seqD S d).map .tup
  | _ => none
def strG (_ : Sto) (ds : List D) : Option D := match ds with
  | [.int i] => if i.natAbs.log2 < 1920 then some (.str (toString i)) else none
  | [.str x] => some (.str x)
  | _ => none

section
variable {U : Uv} {M : Mp} {H : Hp} {S : Sto}
theorem RepAll.one {vs : List V} {d : D} (h : RepAll U M H vs [d]) : ∃ v, vs = [v] ∧ Rep U M H v d := by
  cases h with | cons h r => cases r; exact ⟨_, rfl, h⟩
theorem RepAll.two {vs : List V} {d e : D} (h : RepAll U M H vs [d, e]) : ∃ v w, vs = [v, w] ∧ Rep U M H v d ∧ Rep U M H w e := by
  cases h with | cons h r => cases r with | cons h2 r => cases r; exact ⟨_, _, rfl, h, h2⟩
theorem RepAll.bls : ∀ {vs : List V} {ds : List D} {bs : List Bool}, RepAll U M H vs ds → blsD ds = some bs → vs = bs.map V.bl
  | _, _, _, .nil, e => by cases e; rfl
  | _, d :: ds, bs, .cons h r, e => by
    cases h with
    | bl b =>
      simp only [blsD] at e
      cases q : blsD ds with
      | none => rw [q] at e; cases e
      | some cs =>
        rw [q] at e
        cases e
        rw [RepAll.bls r q]
        rfl
    | _ => simp [blsD] at e
end
section
variable {X : Cx} {U : Uv} {k : Nat}
theorem ofC {f : Value} {g : Sto → List D → Option D} (r : List V → Hp → VK → Prop) (h : CallR X f r) (k : ∀ M S H xs ds d Q, R U M S H → RepAll U M H xs ds → g S ds = some d → Gives U M S H d Q → r xs H Q) : CallD U X f g := ⟨r, h, k⟩
theorem c_len (hK : X.K = U.K := by rfl) : CallD U X (.builtin "len") lenG := ofC _ call_len fun M S H xs ds d Q r hx e g => by
  have sq : ∀ d0 z, ds = [d0] → seqD S d0 = some z → d = .int z.length → ∃ x n, xs = [x] ∧ LenV X.K x H n ∧ Q (.int n) H := fun d0 z e1 e2 e3 => by
    subst e1 e3
    obtain ⟨v, rfl, hv⟩ := hx.one
    obtain ⟨a, us, rfl, hs, ra⟩ := hv.seq r e2
    rw [hK]
    refine ⟨_, z.length, rfl, ?_, g.here r (.int _)⟩
    rcases hs with hs | hs
    · exact .inr ⟨us, hs, ra.length.symm⟩
    · exact .inl ⟨us, hs, ra.length.symm⟩
  unfold lenG at e
  split at e
  · rename_i z
    by_cases hl : z.length ≤ lim
    · rw [if_pos hl] at e
      cases e
      obtain ⟨v, rfl, hv⟩ := hx.one
      cases hv
      exact ⟨_, z.length, rfl, ⟨lim_line hl, rfl⟩, g.here r (.int _)⟩
    · rw [if_neg hl] at e; cases e
  · rename_i d0 _
    cases q : seqD S d0 with
    | none => rw [q] at e; cases e
    | some z => rw [q] at e; exact sq d0 z rfl q (Option.some.inj e).symm
  · cases e
theorem c_abs : CallD U X (.builtin "abs") absG := ofC _ call_abs fun M S H xs ds d Q r hx e g => by
  unfold absG at e
  split at e
  · cases e
    obtain ⟨v, rfl, hv⟩ := hx.one
    cases hv
    exact ⟨_, rfl, g.here r (.int _)⟩
  · cases e
theorem c_max (hc : X.calm = true := by rfl) : CallD U X (.builtin "max") maxG := ofC _ (call_max2 hc) fun M S H xs ds d Q r hx e g => by
  unfold maxG at e
  split at e
  · cases e
    obtain ⟨v, w, rfl, hv, hw⟩ := hx.two
    cases hv; cases hw
    exact ⟨_, _, rfl, g.here r (.int _)⟩
  · cases e
theorem c_min (hc : X.calm = true := by rfl) : CallD U X (.builtin "min") minG := ofC _ (call_min2 hc) fun M S H xs ds d Q r hx e g => by
  unfold minG at e
  split at e
  · cases e
    obtain ⟨v, w, rfl, hv, hw⟩ := hx.two
    cases hv; cases hw
    exact ⟨_, _, rfl, g.here r (.int _)⟩
  · cases e
theorem c_int : CallD U X (.type "int") intG := ofC _ call_int1 fun M S H xs ds d Q r hx e g => by
  unfold intG at e
  split at e
  · cases e
    obtain ⟨v, rfl, hv⟩ := hx.one
    cases hv
    exact .inl ⟨_, rfl, g.here r (.int _)⟩
  · cases e
    obtain ⟨v, rfl, hv⟩ := hx.one
    cases hv
    exact .inr ⟨_, rfl, g.here r (.int _)⟩
  · cases e
theorem c_all (hc : X.calm = true := by rfl) (hK : X.K = U.K := by rfl) : CallD U X (.builtin "all") allG := ofC _ (cr_all hc) fun M S H xs ds d Q r hx e g => by
  unfold allG at e
  split at e
  · rename_i ys
    cases q : blsD ys with
    | none => rw [q] at e; cases e
    | some bs =>
      rw [q] at e
      cases e
      obtain ⟨v, rfl, hv⟩ := hx.one
      cases hv with
      | lst h ra =>
        rw [hK]
        refine ⟨_, bs, rfl, ?_, g.here r (.bl _)⟩
        rw [← ra.bls q]; exact h.sq
  · cases e
theorem c_any (hc : X.calm = true := by rfl) (hK : X.K = U.K := by rfl) : CallD U X (.builtin "any") anyG := ofC _ (cr_any hc) fun M S H xs ds d Q r hx e g => by
  unfold anyG at e
  split at e
  · rename_i ys
    cases q : blsD ys with
    | none => rw [q] at e; cases e
    | some bs =>
      rw [q] at e
      cases e
      obtain ⟨v, rfl, hv⟩ := hx.one
      cases hv with
      | lst h ra =>
        rw [hK]
        refine ⟨_, bs, rfl, ?_, g.here r (.bl _)⟩
        rw [← ra.bls q]; exact h.sq
  · cases e
theorem c_list (hK : X.K = U.K := by rfl) : CallD U X (.type "list") listG := ofC _ call_list_of fun M S H xs ds d Q r hx e g => by
  unfold listG at e
  split at e
  · rename_i d0
    cases q : seqD S d0 with
    | none => rw [q] at e; cases e
    | some z =>
      rw [q] at e
      cases e
      obtain ⟨v, rfl, hv⟩ := hx.one
      obtain ⟨a, us, rfl, hs, ra⟩ := hv.seq r q
      rw [hK]
      exact ⟨a, us, rfl, hs.symm, fun l hl => g.lst r ra hl⟩
  · cases e
theorem c_tuple (hK : X.K = U.K := by rfl) : CallD U X (.type "tuple") tupleG := ofC _ call_tuple_of fun M S H xs ds d Q r hx e g => by
  unfold tupleG at e
  split at e
  · rename_i d0
    cases q : seqD S d0 with
    | none => rw [q] at e; cases e
    | some z =>
      rw [q] at e
      cases e
      obtain ⟨v, rfl, hv⟩ := hx.one
      rw [hK]
      cases hv with
      | tup h ra => cases q; exact ⟨_, _, rfl, .inr ⟨h.sq, g.here r (.tup h ra)⟩⟩
      | lst h ra => cases q; exact ⟨_, _, rfl, .inl ⟨h.sq, fun l hl => g.tup r ra hl⟩⟩
      | fz h ra => cases q; exact ⟨_, _, rfl, .inl ⟨h.sq, fun l hl => g.tup r ra hl⟩⟩
      | obj hi =>
        rename_i i
        cases qs : S[i]? with
        | none => simp only [seqD, qs] at q; cases q
        | some o =>
          simp only [seqD, qs] at q
          cases o with
          | lst zs =>
            cases q
            obtain ⟨vs, h1, h2⟩ := r.at_ _ _ qs
            exact ⟨_, vs, rfl, .inl ⟨.inl (.inl h1), fun l hl => g.tup r h2 hl⟩⟩
          | ins c fs => cases q
      | _ => cases q
  · cases e
theorem call_str1 : CallR X (.type "str") (fun xs H Q => ∃ i, xs = [.int i] ∧ i.natAbs.log2 < 1920 ∧ Q (.str (toString i)) H) := call_str_int
/-! ### subscripts -/
def ixO (S : Sto) (x y : D) : Option D := match y with
  | .int i => match x with
    | .str z => if z.length ≤ lim then (atI z.cps.toList i).map fun c => .str ⟨#[c]⟩ else none
    | d => (seqD S d).bind fun xs => atI xs i
  | _ => none
theorem RepAll.atI {M : Mp} {H : Hp} {xs : List V} {ds : List D} {i : Int} {d : D} (h : RepAll U M H xs ds) (e : L2.atI ds i = some d) : ∃ v, L2.atI xs i = some v ∧ Rep U M H v d := by
  unfold L2.atI at e ⊢
  rw [h.length]
  cases q : ixN ds.length i with
  | none => rw [q] at e; cases e
  | some j => rw [q] at e; exact h.get e
theorem i_ix (hK : X.K = U.K := by rfl) : IxD U X ixO := ⟨rIx X.K, ix_seq, fun M S H x y dx dy d Q r hx hy e g => by
  unfold ixO at e
  split at e
  · rename_i i
    obtain rfl := hy.intV
    have sq : (seqD S dx).bind (fun xs => L2.atI xs i) = some d → rIx X.K x (.int i) H Q := fun e => by
      cases q : seqD S dx with
      | none => rw [q] at e; cases e
      | some zs =>
        rw [q] at e
        obtain ⟨a, us, rfl, hs, ra⟩ := hx.seq r q
        obtain ⟨v, hv, rv⟩ := RepAll.atI ra e
        rw [hK]
        rcases hs with hs | hs
        · exact .inr (.inl ⟨a, us, i, v, rfl, rfl, hs, hv, g.here r rv⟩)
        · exact .inl ⟨a, us, i, v, rfl, rfl, hs, hv, g.here r rv⟩
    cases dx with
    | str z =>
      by_cases hl : z.length ≤ lim
      · simp only [if_pos hl] at e
        cases q : L2.atI z.cps.toList i with
        | none => rw [q] at e; cases e
        | some c =>
          rw [q] at e
          cases e
          exact .inr (.inr ⟨z, i, c, hx.strV, rfl, lim_line hl, q, g.here r (.str _)⟩)
      · simp only [if_neg hl] at e; cases e
    | _ => exact sq e
  · cases e⟩
/-! ### slices -/
variable {W : WX} {e : Expr} {m : ME} {lo hi : Option Expr} {ml mh : MO} {pos p2 : Pos}
theorem e_slice (h : PE X e (tE U W m)) (hl : PO X lo (tO U W ml)) (hh : PO X hi (tO U W mh)) (hK : X.K = U.K := by rfl) : PE X (.Subscript e (.Slice lo hi none p2) pos) (tE U W (mSl m ml mh)) :=
  pe_imp (pe_slice (sl_list.or (sl_tupA.or sl_str)) h hl hh) fun σ H Q ⟨M, S, ρ, A, p⟩ =>
    tX.bind A p fun x S1 M1 H1 v e1 A1 r1 p1 => tX.bind A1 p1 fun l S2 M2 H2 lv e2 A2 r2 p2 => tX.bind A2 p2 fun u S3 M3 H3 uv e3 A3 r3 p3 => by
      subst r2 r3
      obtain ⟨d, ed, g⟩ := ofO_post p3
      have hv := (r1.ext e2).ext e3
      have lists : ∀ a us zs, v = .ref a → SqL U.K H3 a us → RepAll U M3 H3 us zs → d = .lst (cutD zs lv uv) → rSlL X.K v lv uv H3 Q := fun a us zs ev hs ra ed => by
        subst ed
        rw [hK]
        exact ⟨a, us, ev, hs, fun q hq => Gives.lst g A3.r (ra.cut _ _) hq⟩
      cases hv with
      | tup ht ra =>
        cases ed
        rename_i a0 xs0 ds0
        refine .inr (.inl ⟨_, _, rfl, by rw [hK]; exact ht.sq, fun hw => ?_, fun _ q hq => Gives.tup g A3.r (ra.cut _ _) hq⟩)
        have hd : cutD ds0 lv uv = ds0 := by
          unfold cutD
          rw [← ra.length, hw.1, hw.2]
          rw [List.drop_zero, Nat.sub_zero, ra.length, List.take_length]
        rw [hd] at g
        exact Gives.here g A3.r (.tup ht ra)
      | str z =>
        simp only [slD] at ed
        by_cases hl : z.length ≤ lim
        · rw [if_pos hl] at ed
          cases ed
          exact .inr (.inr ⟨z, rfl, lim_line hl, Gives.here g A3.r (.str _)⟩)
        · rw [if_neg hl] at ed; cases ed
      | lst ht ra => cases ed; exact .inl (lists _ _ _ rfl ht.sq ra rfl)
      | fz ht ra => cases ed; exact .inl (lists _ _ _ rfl ht.sq ra rfl)
      | obj hi =>
        rename_i i
        change (seqD S3 (.obj i)).map _ = _ at ed
        cases qs : S3[i]? with
        | none => simp only [seqD, qs] at ed; cases ed
        | some o =>
          simp only [seqD, qs] at ed
          cases o with
          | lst zs =>
            cases ed
            obtain ⟨vs, h1, h2⟩ := A3.r.at_ _ _ qs
            exact .inl (lists _ vs zs rfl (.inl (.inl h1)) h2 rfl)
          | ins c fs => cases ed
      | _ => cases ed
end
/-! ### isinstance of data -/
inductive Tc where
  | non | bl | int | str | tup | lst | dct
def Tc.nm : Tc → String
  | .non => "NoneType" | .bl => "bool" | .int => "int" | .str => "str" | .tup => "tuple" | .lst => "list" | .dct => "dict"
def tcOf (n : String) : Option Tc := if n = "bool" then some .bl else if n = "int" then some .int else if n = "str" then some .str else if n = "tuple" then some .tup else if n = "list" then some .lst else if n = "dict" then some .dct else none
def Tc.sub : Tc → Tc → Bool
  | .bl, .bl => true | .bl, .int => true | .int, .int => true | .str, .str => true | .tup, .tup => true | .lst, .lst => true | .dct, .dct => true | .non, .non => true
  | _, _ => false
theorem tc_ok (a b : Tc) (h : b.nm ≠ "NoneType") : kitB a.nm b.nm = some (a.sub b) := by
  cases b with
  | non => exact absurd rfl h
  | _ => cases a <;> decide +kernel
theorem tcOf_ok {n : String} {c : Tc} (h : tcOf n = some c) : c.nm = n ∧ c.nm ≠ "NoneType" := by
  unfold tcOf at h
  repeat' split at h
  all_goals first | (cases h; subst_vars; exact ⟨rfl, by decide⟩) | cases h
def tcD (S : Sto) : D → Option Tc
  | .non => some .non
  | .bl _ => some .bl
  | .int _ => some .int
  | .str _ => some .str
  | .tup _ => some .tup
  | .lst _ => some .lst
  | .fz _ => some .lst
  | .dct [] => some .dct
  | .obj i => match S[i]? with
    | some (.lst _) => some .lst
    | _ => none
  | _ => none
def isiAny (S : Sto) (t : Tc) : List D → Option Bool
  | [] => some false
  | .ty n :: r => match tcOf n with
    | some c => (isiAny S t r).map fun b => t.sub c || b
    | none => none
  | _ => none
def isiG (S : Sto) (ds : List D) : Option D := match ds with
  | [x, .ty n] => (tcD S x).bind fun t => (tcOf n).map fun c => .bl (t.sub c)
  | [x, .tup cs] => (tcD S x).bind fun t => (isiAny S t cs).map .bl
  | _ => none
section
variable {X : Cx} {U : Uv} {k : Nat} {M : Mp} {S : Sto} {H : Hp}
theorem Rep.tyx {v : V} {d : D} {t : Tc} (r : R U M S H) (h : Rep U M H v d) (e : tcD S d = some t) : TyX U.K H v (.type t.nm) := by
  cases h with
  | non => cases e; exact .base .non
  | bl b => cases e; exact .base (.bl b)
  | int i => cases e; exact .base (.int i)
  | str x => cases e; exact .base (.str x)
  | tup h ra =>
    cases e
    rcases h with h | ⟨o, its, n, hl, hc, hd, _⟩
    · exact .base (.tup h.1)
    · exact .kTuple hl hc
  | lst h ra => cases e; exact .base (.lst h.1)
  | fz h ra =>
    cases e
    rcases h with ⟨u, h, rfl | ⟨o, rfl⟩, _⟩ | ⟨o, its, n, hl, hc, hd, _⟩
    · exact .base (.lst h)
    · exact .base (.frz h)
    · exact .kList hl hc
  | dct0 h n => cases e; exact .base (.dK h)
  | obj hi =>
    rename_i i
    cases qs : S[i]? with
    | none => simp only [tcD, qs] at e; cases e
    | some o =>
      simp only [tcD, qs] at e
      cases o with
      | lst zs =>
        cases e
        obtain ⟨vs, h1, h2⟩ := r.at_ _ _ qs
        exact .base (.lst h1)
      | ins c fs => cases e
  | _ => cases e
theorem isiAny_ok {K : PySem.W.Frag} {t : Tc} : ∀ {cs : List D} {vs : List V} {b : Bool}, RepAll U M H vs cs → isiAny S t cs = some b → ∃ us, Paired ClsV vs us ∧ PySem.W.kitAny K (.type t.nm) us = some b
  | _, _, _, .nil, e => by cases e; exact ⟨[], .nil, kitAny_nil⟩
  | c :: cs, _, b, .cons (v := v) (vs := vs) h r, e => by
    cases h with
    | ty n =>
      simp only [isiAny] at e
      cases q : tcOf n with
      | none => rw [q] at e; cases e
      | some cc =>
        rw [q] at e
        obtain ⟨e1, e2⟩ := tcOf_ok q
        have h1 : PySem.W.kitOne K (.type t.nm) (.type n) = some (t.sub cc) := by rw [← e1]; exact kit_ty (tc_ok t cc e2)
        simp only at e
        cases q2 : isiAny S t cs with
        | none => rw [q2] at e; cases e
        | some b2 =>
          rw [q2] at e
          cases e
          obtain ⟨us, p, ha⟩ := isiAny_ok r q2
          refine ⟨.type n :: us, .cons (.ty n) p, kitAny_cons h1 (fun z => ?_) (fun z => by rw [z]; rfl)⟩
          rw [z]; exact ha
    | _ => simp [isiAny] at e
theorem c_isi (hK : X.K = U.K := by rfl) : CallD U X (.builtin "isinstance") isiG := ofC _ (call_isi.or (call_isiT.or call_isiK)) fun M S H xs ds d Q r hx e g => by
  unfold isiG at e
  split at e
  · rename_i x n
    cases q1 : tcD S x with
    | none => rw [q1] at e; cases e
    | some t =>
      rw [q1] at e
      cases q2 : tcOf n with
      | none => rw [q2] at e; cases e
      | some c =>
        rw [q2] at e
        cases e
        obtain ⟨e1, e2⟩ := tcOf_ok q2
        obtain ⟨v, w, rfl, hv, hw⟩ := hx.two
        cases hw
        rw [hK]
        exact .inl ⟨v, _, _, _, _, rfl, .ty n, hv.tyx r q1, by rw [← e1]; exact kit_ty (tc_ok t c e2), g.here r (.bl _)⟩
  · rename_i x cs
    cases q1 : tcD S x with
    | none => rw [q1] at e; cases e
    | some t =>
      rw [q1] at e
      cases q2 : isiAny S t cs with
      | none =>
        have e' : (isiAny S t cs).map D.bl = some d := e
        rw [q2] at e'; cases e'
      | some b =>
        have e' : (isiAny S t cs).map D.bl = some d := e
        rw [q2] at e'
        cases e'
        obtain ⟨v, w, rfl, hv, hw⟩ := hx.two
        rw [hK]
        cases hw with
        | tup ht ra =>
          obtain ⟨us, p, ha⟩ := isiAny_ok (K := U.K) ra q2
          rcases ht with ht | ⟨o, its, n, hl, hc, hd, _, hv2⟩
          · exact .inr (.inl ⟨v, _, _, _, us, b, rfl, ht.1, p, hv.tyx r q1, ha, g.here r (.bl _)⟩)
          · have eu : its.toList = us := ClsV.all p hv2
            obtain ⟨cls, dd, data, sl⟩ := o
            simp only at hc hd
            subst hc hd
            have ei : its = us.toArray := by rw [← eu]
            subst ei
            exact .inr (.inr ⟨v, _, _, us, n, sl, _, b, rfl, hl, hv.tyx r q1, ha, g.here r (.bl _)⟩)
  · cases e
end
end DL
/-! DL3: statements, what is walked, loops, comprehensions. -/
namespace DL
open PySem L2

/-- a statement's outcome -/
inductive OS where
  | nx (ρ : Env) (S : Sto)
  | rt (d : D) (S : Sto)
  | bk (ρ : Env) (S : Sto)
  | ct (ρ : Env) (S : Sto)
  | exc (e : Ex) (ρ : Env) (S : Sto)
  | stuck
abbrev MS := Env → Sto → OS
def OS.of {α : Type} (o : Out α) (ρ : Env) (k : α → Sto → OS) : OS := match o with
  | .ok a S => k a S
  | .exc e S => .exc e ρ S
  | .stuck => .stuck
def OS.seq (o : OS) (k : MS) : OS := match o with
  | .nx ρ S => k ρ S
  | o => o
def PostS (U : Uv) (M : Mp) (H : Hp) (W : WX) (o : OS) (Dn : Ends) : Prop := match o with
  | .nx ρ S => ∀ M' H' σ', Ext M H M' H' → At U M' S ρ σ' H' → Dn.nx σ' H'
  | .rt d S => ∀ M' H' v, Ext M H M' H' → R U M' S H' → Rep U M' H' v d → Dn.rt v H'
  | .bk ρ S => ∀ M' H' σ', Ext M H M' H' → At U M' S ρ σ' H' → Dn.bk σ' H'
  | .ct ρ S => ∀ M' H' σ', Ext M H M' H' → At U M' S ρ σ' H' → Dn.ct σ' H'
  | .exc e ρ S => ∀ M' H' σ' cv dd, Ext M H M' H' → At U M' S ρ σ' H' → ExAt U M' H' e cv dd → W cv dd σ' H'
  | .stuck => False
def tS (U : Uv) (W : WX) (m : MS) : TS := fun Dn σ H => ∃ M S ρ, At U M S ρ σ H ∧ PostS U M H W (m ρ S) Dn
section
variable {U : Uv} {M M1 : Mp} {S S1 : Sto} {H H1 : Hp} {σ : L2.St} {W : WX} {ρ : Env} {Dn : Ends}
theorem PostS.ext {o : OS} (e : Ext M H M1 H1) (p : PostS U M H W o Dn) : PostS U M1 H1 W o Dn := by
  cases o with
  | nx ρ S => exact fun M' H' σ' f a => p M' H' σ' (e.trans f) a
  | rt d S => exact fun M' H' v f r q => p M' H' v (e.trans f) r q
  | bk ρ S => exact fun M' H' σ' f a => p M' H' σ' (e.trans f) a
  | ct ρ S => exact fun M' H' σ' f a => p M' H' σ' (e.trans f) a
  | exc x ρ S => exact fun M' H' σ' cv dd f a q => p M' H' σ' cv dd (e.trans f) a q
  | stuck => exact p
/-- an expression's reading within a statement -/
theorem tX.ofS {α β : Type} {rel : Mp → Hp → β → α → Prop} {m : Env → Sto → Out α} {k : α → Sto → OS} {Q1 : β → Hp → Prop} (a : At U M S ρ σ H) (p : PostS U M H W (OS.of (m ρ S) ρ k) Dn)
    (h : ∀ x S1 M1 H1 b, Ext M H M1 H1 → At U M1 S1 ρ σ H1 → rel M1 H1 b x → PostS U M1 H1 W (k x S1) Dn → Q1 b H1) : tX U rel W m σ H Q1 := by
  refine ⟨M, S, ρ, a, ?_⟩
  cases q : m ρ S with
  | ok x S1 =>
    rw [q] at p
    exact fun M1 H1 b e r z => h x S1 M1 H1 b e (a.ext e r) z (PostS.ext e p)
  | exc x S1 =>
    rw [q] at p
    exact fun M1 H1 cv dd e r z => p M1 H1 σ cv dd e (a.ext e r) z
  | stuck => rw [q] at p; exact p
/-- a statement, then the rest -/
theorem PostS.seq {o : OS} {k : MS} (p : PostS U M H W (o.seq k) Dn) : PostS U M H W o { Dn with nx := tS U W k Dn } := by
  cases o with
  | nx ρ S => exact fun M' H' σ' f a => ⟨M', S, ρ, a, PostS.ext f p⟩
  | rt d S => exact p
  | bk ρ S => exact p
  | ct ρ S => exact p
  | exc x ρ S => exact p
  | stuck => exact p
end
/-! ### statements -/
section
variable {X : Cx} {U : Uv} {W : WX} {st : Stmt} {rest : List Stmt} {e : Expr} {m : ME} {t : MT} {ms mu : MS} {pos : Pos}
def sNil : MS := fun ρ S => .nx ρ S
def sSeq (a b : MS) : MS := fun ρ S => (a ρ S).seq b
theorem ss_nil : PSs X [] (tS U W sNil) := pss_imp pss_nil fun Dn σ H ⟨M, S, ρ, A, p⟩ => p M H σ A.refl A
theorem ss_cons (h1 : PS X st (tS U W ms)) (h2 : PSs X rest (tS U W mu)) : PSs X (st :: rest) (tS U W (sSeq ms mu)) := pss_imp (pss_cons h1 h2) fun Dn σ H ⟨M, S, ρ, A, p⟩ => ⟨M, S, ρ, A, PostS.seq p⟩
theorem ss_one (h1 : PS X st (tS U W ms)) : PSs X [st] (tS U W ms) := pss_one h1
theorem s_pass : PS X (.Pass pos) (tS U W sNil) := ps_imp ps_pass fun Dn σ H ⟨M, S, ρ, A, p⟩ => p M H σ A.refl A
def sBreak : MS := fun ρ S => .bk ρ S
def sCont : MS := fun ρ S => .ct ρ S
theorem s_break : PS X (.Break pos) (tS U W sBreak) := ps_imp ps_break fun Dn σ H ⟨M, S, ρ, A, p⟩ => p M H σ A.refl A
theorem s_cont : PS X (.Continue pos) (tS U W sCont) := ps_imp ps_continue fun Dn σ H ⟨M, S, ρ, A, p⟩ => p M H σ A.refl A
def sDrop (m : ME) : MS := fun ρ S => .of (m ρ S) ρ fun _ S1 => .nx ρ S1
theorem s_expr (he : PE X e (tE U W m)) (hs : swapsWith e none pos.line X.env = pure false := by rfl) : PS X (.Expr e pos) (tS U W (sDrop m)) :=
  ps_imp (ps_expr he hs) fun Dn σ H ⟨M, S, ρ, A, p⟩ => tX.ofS A p fun x S1 M1 H1 v e1 A1 r1 p1 => p1 M1 H1 σ A1.refl A1
def sRet (m : ME) : MS := fun ρ S => .of (m ρ S) ρ fun d S1 => .rt d S1
theorem s_ret (he : PE X e (tE U W m)) : PS X (.Return (some e) pos) (tS U W (sRet m)) :=
  ps_imp (ps_ret he) fun Dn σ H ⟨M, S, ρ, A, p⟩ => tX.ofS A p fun x S1 M1 H1 v e1 A1 r1 p1 => p1 M1 H1 v A1.refl A1.r r1
def sRetN : MS := fun _ S => .rt .non S
theorem s_retN : PS X (.Return none pos) (tS U W sRetN) := ps_imp ps_retN fun Dn σ H ⟨M, S, ρ, A, p⟩ => p M H .non A.refl A.r .non
def sIf (t : MT) (a b : MS) : MS := fun ρ S => .of (t ρ S) ρ fun k S1 => if k = true then a ρ S1 else b ρ S1
theorem s_if {c : Expr} {a b : List Stmt} (hc : PT X c (tT U W t)) (ha : PSs X a (tS U W ms)) (hb : PSs X b (tS U W mu)) : PS X (.If c a b pos) (tS U W (sIf t ms mu)) :=
  ps_imp (ps_if hc ha hb) fun Dn σ H ⟨M, S, ρ, A, p⟩ => tX.ofS A p fun x S1 M1 H1 k e1 A1 r1 p1 => by
    subst r1
    cases k with
    | true => exact ⟨M1, S1, ρ, A1, p1⟩
    | false => exact ⟨M1, S1, ρ, A1, p1⟩
/-! ### targets -/
abbrev Bd := D → Env → Option Env
/-- but for these slots the same -/
def But (l : List Nat) (σ σ' : L2.St) : Prop := σ'.length = σ.length ∧ ∀ i, i ∉ l → σ'[i]? = σ[i]?
theorem But.refl {l : List Nat} {σ : L2.St} : But l σ σ := ⟨rfl, fun _ _ => rfl⟩
theorem But.trans {l l' : List Nat} {σ σ1 σ2 : L2.St} (a : But l σ σ1) (b : But l' σ1 σ2) : But (l ++ l') σ σ2 := ⟨b.1.trans a.1, fun i hi => (b.2 i fun z => hi (List.mem_append_right _ z)).trans (a.2 i fun z => hi (List.mem_append_left _ z))⟩
theorem But.set {i : Nat} {σ : L2.St} {o : Option V} : But [i] σ (σ.set i o) := ⟨List.length_set, fun j hj => List.getElem?_set_ne fun z => hj (by rw [← z]; exact List.mem_singleton.mpr rfl)⟩
def tG (U : Uv) (l : List Nat) (b : Bd) : TG := fun v σ H Q => ∃ M S ρ d ρ', At U M S ρ σ H ∧ Rep U M H v d ∧ b d ρ = some ρ' ∧ ∀ σ', At U M S ρ' σ' H → But l σ σ' → Q σ' H
theorem pg_imp {tg : Expr} {g g' : TG} (h : PG X tg g) (hi : ∀ v σ H Q, g' v σ H Q → g v σ H Q) : PG X tg g' := ⟨fun pins s σ H v u Q I r q => h.run pins s σ H v u Q I r (hi _ _ _ _ q)⟩
def bName (i : Nat) : Bd := fun d ρ => some (ρ.set i (some d))
theorem g_name (i : Nat) {x : Str} (hN : X.N.Nodup) (hi : X.N[i]? = some x := by rfl) (hx : Loc X.env.scope x := by first | exact Or.inl rfl | exact Or.inr rfl) (hf : X.fn x = true ∨ X.env.scope.names.lookup x = some .local := by first | exact .inl rfl | exact .inr rfl | assumption) (hn : Nf U i := by exact fun _ h => absurd h List.not_mem_nil) : PG X (.Name x pos) (tG U [i] (bName i)) :=
  pg_imp (pg_name hN hi hx hf) fun v σ H Q ⟨M, S, ρ, d, ρ', A, r, e, q⟩ => by
    cases e
    exact q _ (A.set r hn) But.set
abbrev Bds := List D → Env → Option Env
def tGs (U : Uv) (l : List Nat) (b : Bds) : TGs := fun vs σ H Q => ∃ M S ρ ds ρ', At U M S ρ σ H ∧ RepAll U M H vs ds ∧ b ds ρ = some ρ' ∧ ∀ σ', At U M S ρ' σ' H → But l σ σ' → Q σ' H
def bNil : Bds := fun ds ρ => match ds with
  | [] => some ρ
  | _ => none
def bCons (b : Bd) (bs : Bds) : Bds := fun ds ρ => match ds with
  | d :: r => (b d ρ).bind fun ρ' => bs r ρ'
  | [] => none
def bTup (n : Nat) (bs : Bds) : Bd := fun d ρ => match d with
  | .tup ds => if ds.length = n then bs ds ρ else none
  | _ => none
theorem pgs_imp {ts : List Expr} {g g' : TGs} (h : PGs X ts g) (hi : ∀ v σ H Q, g' v σ H Q → g v σ H Q) : PGs X ts g' := ⟨fun pins s σ H v u Q I r q => h.run pins s σ H v u Q I r (hi _ _ _ _ q)⟩
theorem gs_nil : PGs X [] (tGs U [] bNil) := pgs_imp pgs_nil fun vs σ H Q ⟨M, S, ρ, ds, ρ', A, r, e, q⟩ => by
  cases r with
  | nil => cases e; exact ⟨rfl, q _ A But.refl⟩
  | cons _ _ => cases e
theorem gs_cons {tg : Expr} {es : List Expr} {b : Bd} {bs : Bds} {l l' : List Nat} (h1 : PG X tg (tG U l b)) (h2 : PGs X es (tGs U l' bs)) (hs : (assignEach (tg :: es) X.env).map (·.2) = assign tg X.env :: (assignEach es X.env).map (·.2) := by rfl) : PGs X (tg :: es) (tGs U (l ++ l') (bCons b bs)) :=
  pgs_imp (pgs_cons h1 h2 hs) fun vs σ H Q ⟨M, S, ρ, ds, ρ', A, r, e, q⟩ => by
    cases r with
    | nil => cases e
    | @cons v vs d ds h r =>
      change (b d ρ).bind _ = _ at e
      cases q1 : b d ρ with
      | none => rw [q1] at e; cases e
      | some ρ1 =>
        rw [q1] at e
        exact ⟨v, vs, rfl, M, S, ρ, d, ρ1, A, h, q1, fun σ' A' b1 => ⟨M, S, ρ1, ds, ρ', A', r, e, fun σ2 A2 b2 => q σ2 A2 (b1.trans b2)⟩⟩
theorem g_tup {es : List Expr} {k n : Nat} {bs : Bds} {l : List Nat} (h : PGs X es (tGs U l bs)) (hc : X.calm = true := by rfl) (hn : (assignEach es X.env).length = n := by rfl) (hst : (assignEach es X.env).findIdx? (·.1) = none := by rfl) (hK : X.K = U.K := by rfl) : PG X (.Tuple es k pos) (tG U l (bTup n bs)) :=
  pg_imp (pg_tup hc h hn hst) fun v σ H Q ⟨M, S, ρ, d, ρ', A, r, e, q⟩ => by
    cases r with
    | @tup a xs ds ht ra =>
      change (if ds.length = n then bs ds ρ else none) = _ at e
      by_cases hl : ds.length = n
      · rw [if_pos hl] at e
        rw [hK]
        exact ⟨a, xs, rfl, ht.sq, by rw [ra.length]; exact hl, M, S, ρ, ds, ρ', A, ra, e, q⟩
      · rw [if_neg hl] at e; cases e
    | _ => cases e
def sAsg (m : ME) (b : Bd) : MS := fun ρ S => .of (m ρ S) ρ fun d S1 => match b d ρ with
  | some ρ' => .nx ρ' S1
  | none => .stuck
theorem s_asg {tg : Expr} {b : Bd} {l : List Nat} (he : PE X e (tE U W m)) (hg : PG X tg (tG U l b)) (hs : swapsWithSole [tg] e pos.line X.env = pure false := by rfl) (hw : swappedStores [tg] e X.env = pure none := by rfl) (h1 : (assignEach [tg] X.env).map (·.2) = [assign tg X.env] := by rfl) :
    PS X (.Assign [tg] e pos) (tS U W (sAsg m b)) :=
  ps_imp (ps_asg he hg hs hw h1) fun Dn σ H ⟨M, S, ρ, A, p⟩ => tX.ofS A p fun x S1 M1 H1 v e1 A1 r1 p1 => by
    cases q : b x ρ with
    | none => rw [q] at p1; exact p1.elim
    | some ρ' =>
      rw [q] at p1
      exact ⟨M1, S1, ρ, x, ρ', A1, r1, q, fun σ' A' _ => p1 M1 H1 σ' A1.refl A'⟩
def sSet (i : Nat) (m : ME) : MS := fun ρ S => .of (m ρ S) ρ fun d S1 => .nx (ρ.set i (some d)) S1
theorem s_set (i : Nat) {x : Str} {pos' : Pos} (hN : X.N.Nodup) (he : PE X e (tE U W m)) (hi : X.N[i]? = some x := by rfl) (hx : Loc X.env.scope x := by first | exact Or.inl rfl | exact Or.inr rfl) (hs : swapsWith e (some (.Name x pos')) pos.line X.env = pure false := by rfl)
    (hf : X.fn x = true ∨ X.env.scope.names.lookup x = some .local := by first | exact .inl rfl | exact .inr rfl | assumption) (hn : Nf U i := by exact fun _ h => absurd h List.not_mem_nil) : PS X (.Assign [.Name x pos'] e pos) (tS U W (sSet i m)) :=
  ps_imp (ps_set hN hi hx he hs hf) fun Dn σ H ⟨M, S, ρ, A, p⟩ => tX.ofS A p fun x S1 M1 H1 v e1 A1 r1 p1 => p1 M1 H1 _ A1.refl (A1.set r1 hn)
/-- a, b = e1, e2 -/
def sPar (i j : Nat) (ms : MA) : MS := fun ρ S => .of (ms ρ S) ρ fun ds S1 => match ds with
  | [d, e] => .nx ((ρ.set i (some d)).set j (some e)) S1
  | _ => .stuck
theorem s_par (i j : Nat) {x y : Str} {a b : Expr} {ma : MA} {px py pt : Pos} {kt k2 : Nat} {pt2 : Pos} (hN : X.N.Nodup) (ha : PA X [a, b] (tA U W ma)) (hc : X.calm = true := by rfl) (hi : X.N[i]? = some x := by rfl) (hj : X.N[j]? = some y := by rfl) (hij : i ≠ j := by decide)
    (hx : X.env.scope.names.lookup x = some .local := by rfl) (hy : X.env.scope.names.lookup y = some .local := by rfl)
    (hw : swappedStores [.Tuple [.Name x px, .Name y py] kt pt] (.Tuple [a, b] k2 pt2) X.env = pure (some [x, y]) := by rfl)
    (hs : swapsWithSole [.Tuple [.Name x px, .Name y py] kt pt] (.Tuple [a, b] k2 pt2) pos.line X.env = pure false := by rfl) (hn : Nf U i := by exact fun _ h => absurd h List.not_mem_nil) (hn2 : Nf U j := by exact fun _ h => absurd h List.not_mem_nil) :
    PS X (.Assign [.Tuple [.Name x px, .Name y py] kt pt] (.Tuple [a, b] k2 pt2) pos) (tS U W (sPar i j ma)) :=
  ps_imp (ps_par hc hN hi hj hij hx hy ha hw hs) fun Dn σ H ⟨M, S, ρ, A, p⟩ => tX.ofS A p fun ds S1 M1 H1 vs e1 A1 r1 p1 => by
    cases r1 with
    | nil => exact p1.elim
    | cons h1 r1 => cases r1 with
      | nil => exact p1.elim
      | cons h2 r1 => cases r1 with
        | cons _ _ => exact p1.elim
        | nil => exact ⟨_, _, rfl, p1 M1 H1 _ A1.refl ((A1.set h1 hn).set h2 hn2)⟩
/-- o[i] = e, a list of the store -/
def sSub (m mo mi : ME) : MS := fun ρ S => .of (m ρ S) ρ fun d S1 => .of (mo ρ S1) ρ fun o S2 => .of (mi ρ S2) ρ fun i S3 => match o, i with
  | .obj n, .int k => match S3[n]? with
    | some (.lst xs) => match ixN xs.length k with
      | some j => .nx ρ (S3.set n (.lst (xs.set j d)))
      | none => .stuck
    | _ => .stuck
  | _, _ => .stuck
theorem s_sub {o i : Expr} {mo mi : ME} {pos' : Pos} (he : PE X e (tE U W m)) (ho : PE X o (tE U W mo)) (hi : PE X i (tE U W mi))
    (ha : ∀ v, assign (.Subscript o i pos') X.env v = (do
      let ov ← holding [v] (eval o X.env)
      let iv ← holding [v, ov] (eval i X.env)
      standAt pos'
      holding [v, ov, iv] (setItem ov iv v)
      release [v, ov, iv] []) := by intro _; rfl)
    (hs : swapsWithSole [.Subscript o i pos'] e pos.line X.env = pure false := by rfl) (hw : swappedStores [.Subscript o i pos'] e X.env = pure none := by rfl) (h1 : (assignEach [.Subscript o i pos'] X.env).map (·.2) = [assign (.Subscript o i pos') X.env] := by rfl) :
    PS X (.Assign [.Subscript o i pos'] e pos) (tS U W (sSub m mo mi)) :=
  ps_imp (ps_asg he (pg_sub ho hi set_list ha) hs hw h1) fun Dn σ H ⟨M, S, ρ, A, p⟩ => tX.ofS A p fun d S1 M1 H1 v e1 A1 r1 p1 => tX.ofS A1 p1 fun dO S2 M2 H2 ov e2 A2 r2 p2 => tX.ofS A2 p2 fun dI S3 M3 H3 iv e3 A3 r3 p3 => by
    have r2' := r2.ext e3
    have r1' := (r1.ext e2).ext e3
    cases dO with
    | obj n =>
      cases dI with
      | int k =>
        simp only at p3
        cases q : S3[n]? with
        | none => rw [q] at p3; exact p3.elim
        | some ob =>
          rw [q] at p3
          cases ob with
          | ins c fs => exact p3.elim
          | lst xs =>
            simp only at p3
            obtain ⟨a, vs, rfl, hH, ra, ea, hn⟩ := r2'.objL A3.r q
            cases q2 : ixN xs.length k with
            | none => rw [q2] at p3; exact p3.elim
            | some j =>
              rw [q2] at p3
              refine ⟨a, vs, k, j, rfl, r3.intV, hH, by rw [ra.length]; exact q2, ?_⟩
              subst ea
              have ex := A3.r.extSet (o := .lst (vs.set j v)) hn
              have R3 := A3.r.set (o := .lst (vs.set j v)) (ob := .lst (xs.set j d)) hn ⟨_, upd_same, (ra.set r1' j).ext ex⟩
              exact p3 M3 _ _ ex (A3.ext ex R3)
      | _ => exact p3.elim
    | _ => exact p3.elim
/-- xs.append(e), a list of the store -/
def sApp (mo m : ME) : MS := fun ρ S => .of (mo ρ S) ρ fun o S1 => match o with
  | .obj n => match S1[n]? with
    | some (.lst _) => .of (m ρ S1) ρ fun d S2 => match S2[n]? with
      | some (.lst xs) => if xs.length < lim then .nx ρ (S2.set n (.lst (xs ++ [d]))) else .stuck
      | _ => .stuck
    | _ => .stuck
  | _ => .stuck
theorem s_app {o : Expr} {mo : ME} {apos cpos : Pos} (ho : PE X o (tE U W mo)) (he : PE X e (tE U W m)) (hK : X.K = U.K := by rfl)
    (hbase : attributeBase o "append" X.env (eval o X.env) = eval o X.env := by rfl) (hfew : ((backTo cpos (starEach [e] X.env)).all (fun x => !x.1) && (backToKw cpos (keywordEach [] X.env)).all (fun x => x.1.isSome)
      && decide ([e].length + ([] : List Keyword).length + (if ([] : List Keyword).isEmpty then 0 else 1) < 30)) = true := by rfl)
    (hline : (apos.endLine == cpos.line) = true := by rfl) (hst : starEach [e] X.env = (false, eval e X.env) :: starEach [] X.env := by rfl) (hpl : (backTo cpos (starEach [] X.env)).any (·.1) = false := by rfl)
    (hs : swapsWith (.Call (.Attribute o "append" apos) [e] [] cpos) none pos.line X.env = pure false := by rfl) : PS X (.Expr (.Call (.Attribute o "append" apos) [e] [] cpos) pos) (tS U W (sApp mo m)) :=
  ps_imp (ps_expr (pe_bm PySem.F.plainAttrs_list PySem.F.slot_list_append PySem.F.type_list_append mt_append ho (pa_cons he pa_nil hst) hbase hfew hline hst hpl) hs) fun Dn σ H ⟨M, S, ρ, A, p⟩ => tX.ofS A p fun dO S1 M1 H1 ov e1 A1 r1 p1 => by
    cases r1 with
    | @obj n hn1 =>
      simp only at p1
      cases q1 : S1[n]? with
      | none => rw [q1] at p1; exact p1.elim
      | some ob1 =>
        rw [q1] at p1
        cases ob1 with
        | ins c fs => exact p1.elim
        | lst xs1 =>
          obtain ⟨vs1, hH1, _⟩ := A1.r.at_ _ _ q1
          refine ⟨.inl ⟨rfl, vs1, .inl (.inl hH1)⟩, ?_⟩
          refine tX.ofS A1 p1 fun d S2 M2 H2 v e2 A2 r2 p2 => ?_
          cases q : S2[n]? with
          | none => rw [q] at p2; exact p2.elim
          | some ob =>
            rw [q] at p2
            cases ob with
            | ins c fs => exact p2.elim
            | lst xs =>
              simp only at p2
              have hn2 : n < M2.n := Nat.lt_of_lt_of_le hn1 e2.le
              obtain ⟨vs, hH, ra⟩ := A2.r.at_ _ _ q
              by_cases hl : xs.length < lim
              · rw [if_pos hl] at p2
                rw [← e2.same n hn1]
                have hl2 : vs.length < sizeLine := by
                  rw [ra.length]
                  exact Nat.lt_of_lt_of_le hl (lim_line (Nat.le_refl _))
                refine ⟨_, vs, v, rfl, rfl, hH, hl2, ?_⟩
                have ex := A2.r.extSet (o := .lst (vs ++ [v])) hn2
                have R3 := A2.r.set (o := .lst (vs ++ [v])) (ob := .lst (xs ++ [d])) hn2 ⟨_, upd_same, (ra.append (.cons r2 .nil)).ext ex⟩
                exact p2 M2 _ _ ex (A2.ext ex R3)
              · rw [if_neg hl] at p2; exact p2.elim
    | _ => exact p1.elim
end
end DL
/-! DL4: what is walked, for loops, list comprehensions. -/
namespace DL
open PySem L2

/-- a walk that gives these items -/
structure Yields (U : Uv) (M : Mp) (H : Hp) (J : It) (ds : List D) : Prop where
  go : ∀ M' S' H' k, Mv M H M' H' → R U M' S' H' → k < ds.length → J.go k H'
  yld : ∀ M' S' H' k x H'', Mv M H M' H' → R U M' S' H' → k < ds.length → J.yld k H' x H'' → ∃ d, ds[k]? = some d ∧ Ext M' H' M' H'' ∧ R U M' S' H'' ∧ Rep U M' H'' x d
  stop : ∀ M' S' H', Mv M H M' H' → R U M' S' H' → J.stop ds.length H'
abbrev MI := Env → Sto → Out (List D)
abbrev tI (U : Uv) (W : WX) (m : MI) : TI := tX U (Yields U) W m
section
variable {U : Uv} {M M1 : Mp} {S S1 : Sto} {H H1 : Hp}
theorem Yields.ext {J : It} {ds : List D} (e : Ext M H M1 H1) (y : Yields U M H J ds) : Yields U M1 H1 J ds :=
  ⟨fun M' S' H' k f => y.go M' S' H' k (e.mv.trans f), fun M' S' H' k x H'' f => y.yld M' S' H' k x H'' (e.mv.trans f), fun M' S' H' f => y.stop M' S' H' (e.mv.trans f)⟩
theorem yields_list {a : Addr} {xs : List V} {ds : List D} (h : ∀ M' H', Mv M H M' H' → SqL U.K H' a xs) (ra : RepAll U M H xs ds) : Yields U M H (Itl U.K a) ds where
  go := fun M' S' H' k f r hk => by
    have hk' : k < xs.length := by rw [ra.length]; exact hk
    exact ⟨xs, _, h M' H' f, List.getElem?_eq_getElem hk'⟩
  yld := fun M' S' H' k x H'' f r hk hy => by
    obtain ⟨rfl, hy⟩ := hy
    obtain ⟨d, h1, h2⟩ := (ra.mv f).getV (hy xs (h M' _ f))
    exact ⟨d, h1, r.refl, r, h2⟩
  stop := fun M' S' H' f r => ⟨xs, h M' H' f, by rw [ra.length]; exact Nat.le_refl _⟩
theorem yields_tup {a : Addr} {xs : List V} {ds : List D} (h : TupAt U.K M H a xs) (ra : RepAll U M H xs ds) : Yields U M H (Itt U.K a) ds where
  go := fun M' S' H' k f r hk => by
    have hk' : k < xs.length := by rw [ra.length]; exact hk
    exact ⟨xs, _, (h.mv f).sq, List.getElem?_eq_getElem hk'⟩
  yld := fun M' S' H' k x H'' f r hk hy => by
    obtain ⟨rfl, hy⟩ := hy
    obtain ⟨d, h1, h2⟩ := (ra.mv f).getV (hy xs (h.mv f).sq)
    exact ⟨d, h1, r.refl, r, h2⟩
  stop := fun M' S' H' f r => ⟨xs, (h.mv f).sq, by rw [ra.length]; exact Nat.le_refl _⟩
def rangeD (lo : Int) (n : Nat) : List D := (List.range n).map fun i => .int (lo + (i : Nat))
theorem rangeD_length (lo : Int) (n : Nat) : (rangeD lo n).length = n := by unfold rangeD; rw [List.length_map, List.length_range]
theorem yields_range (lo : Int) (n : Nat) : Yields U M H (Itr lo n) (rangeD lo n) where
  go := fun M' S' H' k f r hk => by rw [rangeD_length] at hk; exact hk
  yld := fun M' S' H' k x H'' f r hk hy => by
    rw [rangeD_length] at hk
    obtain ⟨rfl, rfl⟩ := hy
    refine ⟨.int (lo + (k : Nat)), ?_, r.refl, r, .int _⟩
    unfold rangeD
    rw [List.getElem?_map, List.getElem?_range hk]
    rfl
  stop := fun M' S' H' f r => by rw [rangeD_length]; exact Nat.le_refl _
def signsD (x : Str) : List D := x.cps.toList.map fun c => .str ⟨#[c]⟩
theorem yields_str (x : Str) : Yields U M H (Its x) (signsD x) where
  go := fun M' S' H' k f r hk => by unfold signsD at hk; rw [List.length_map] at hk; show k < x.cps.size; simpa using hk
  yld := fun M' S' H' k y H'' f r hk hy => by
    obtain ⟨rfl, c, hc, rfl⟩ := hy
    refine ⟨.str ⟨#[c]⟩, ?_, r.refl, r, .str _⟩
    unfold signsD
    have : x.cps.toList[k]? = some c := by simpa using hc
    rw [List.getElem?_map, this]
    rfl
  stop := fun M' S' H' f r => by unfold signsD; rw [List.length_map]; show x.cps.size ≤ x.cps.toList.length; simp
end
theorem pi_imp {X : Cx} {tg e : Expr} {w w' : TI} (h : PI X tg e w) (hi : ∀ σ H R, w' σ H R → w σ H R) : PI X tg e w' := ⟨fun pins s σ H R I q => h.run pins s σ H R I (hi _ _ _ q)⟩
theorem pi_or {X : Cx} {tg e : Expr} {w w' : TI} (h : PI X tg e w) (h' : PI X tg e w') : PI X tg e (fun σ H R => w σ H R ∨ w' σ H R) := ⟨fun pins s σ H R I q => q.elim (h.run pins s σ H R I) (h'.run pins s σ H R I)⟩
/-- a list or a tuple (not one of the store's), a text -/
def seqI : D → Option (List D)
  | .tup xs => some xs
  | .lst xs => some xs
  | .fz xs => some xs
  | .str x => some (signsD x)
  | _ => none
def iSeq (m : ME) : MI := fun ρ S => (m ρ S).bind fun x S1 => ofO (seqI x) S1
def iRange1 (m : ME) : MI := fun ρ S => (m ρ S).bind fun x S1 => match x with
  | .int j => if -(2 ^ 62) ≤ j ∧ j < 2 ^ 62 then .ok (rangeD 0 j.toNat) S1 else .stuck
  | _ => .stuck
def iRange2 (ma mb : ME) : MI := fun ρ S => (ma ρ S).bind fun x S1 => (mb ρ S1).bind fun y S2 => match x, y with
  | .int i, .int j => if -(2 ^ 62) ≤ i ∧ i < 2 ^ 62 ∧ -(2 ^ 62) ≤ j ∧ j < 2 ^ 62 then .ok (rangeD i (j - i).toNat) S2 else .stuck
  | _, _ => .stuck
section
variable {X : Cx} {U : Uv} {W : WX} {tg e a b : Expr} {m ma mb : ME} {q pos : Pos}
theorem i_seq (he : PE X e (tE U W m)) (hK : X.K = U.K := by rfl) : PI X tg e (tI U W (iSeq m)) := by
  refine ⟨fun pins s σ H R I h => ?_⟩
  obtain ⟨M, S, ρ, A, p⟩ := h
  -- by what the mirror says it is
  have key : ∀ w : TI, PI X tg e w → w σ H R → wpAny (model X.prog X.w) X.A (eval e X.env) (fun v s1 => wpAny (model X.prog X.w) X.A (pyIter v) (PIE X pins σ tg R) X.xe s1) X.xe s := fun w hw hr => hw.run pins s σ H R I hr
  cases q : m ρ S with
  | stuck =>
    unfold iSeq at p; rw [q] at p; exact p.elim
  | exc x S1 =>
    refine key _ (pi_list he) ⟨M, S, ρ, A, ?_⟩
    unfold iSeq at p
    rw [q] at p ⊢
    exact p
  | ok d S1 =>
    unfold iSeq at p
    rw [q] at p
    have p' : PostX U (Yields U) M H σ W (ofO (seqI d) S1) R := p
    obtain ⟨ds, ed, g⟩ := ofO_post p'
    cases d with
    | tup xs =>
      cases ed
      refine key _ (pi_tup he) ⟨M, S, ρ, A, ?_⟩
      rw [q]
      intro M' H' v ee rr h
      cases h with
      | tup ht ra =>
        rw [hK]
        exact ⟨_, rfl, ⟨_, ht.sq⟩, g M' H' _ ee rr (yields_tup ht ra)⟩
    | lst xs =>
      cases ed
      refine key _ (pi_list he) ⟨M, S, ρ, A, ?_⟩
      rw [q]
      intro M' H' v ee rr h
      cases h with
      | lst ht ra =>
        rw [hK]
        refine ⟨_, rfl, ⟨_, ht.sq⟩, g M' H' _ ee rr ?_⟩
        exact yields_list (fun M2 H2 f => (ht.mv f).sq) ra
    | fz xs =>
      cases ed
      refine key _ (pi_list he) ⟨M, S, ρ, A, ?_⟩
      rw [q]
      intro M' H' v ee rr h
      cases h with
      | fz ht ra =>
        rw [hK]
        refine ⟨_, rfl, ⟨_, ht.sq⟩, g M' H' _ ee rr ?_⟩
        exact yields_list (fun M2 H2 f => (ht.mv f).sq) ra
    | str x =>
      cases ed
      refine key _ (pi_str he) ⟨M, S, ρ, A, ?_⟩
      rw [q]
      intro M' H' v ee rr h
      cases h
      exact ⟨x, rfl, g M' H' _ ee rr (yields_str x)⟩
    | _ => cases ed
theorem i_range1 (hm : X.mg "range" = none) (ha : PE X a (tE U W ma)) (hg : Gl X "range" := by rfl) (hs : starEach [a] X.env = [(false, eval a X.env)] := by rfl) (hs1 : starEach [a] X.env = (false, eval a X.env) :: starEach [] X.env := by rfl) : PI X tg (.Call (.Name "range" q) [a] [] pos) (tI U W (iRange1 ma)) :=
  pi_imp (pi_range1 hg hm (pa_cons ha pa_nil hs1) hs) fun σ H R' ⟨M, S, ρ, A, p⟩ => tX.bind A p fun x S1 M1 H1 v e1 A1 r1 p1 => by
    cases r1 with
    | int j =>
      by_cases hb : -(2 ^ 62) ≤ j ∧ j < 2 ^ 62
      · simp only [if_pos hb] at p1
        exact ⟨j, rfl, hb.1, hb.2, p1 M1 H1 _ A1.refl A1.r (yields_range 0 _)⟩
      · simp only [if_neg hb] at p1; exact p1.elim
    | _ => exact p1.elim
theorem i_range2 (hm : X.mg "range" = none) (ha : PE X a (tE U W ma)) (hb' : PE X b (tE U W mb)) (hg : Gl X "range" := by rfl) (hs : starEach [a, b] X.env = [(false, eval a X.env), (false, eval b X.env)] := by rfl) (hs2 : starEach [b] X.env = [(false, eval b X.env)] := by rfl)
    (h1 : starEach [a, b] X.env = (false, eval a X.env) :: starEach [b] X.env := by rfl) (h2 : starEach [b] X.env = (false, eval b X.env) :: starEach [] X.env := by rfl) : PI X tg (.Call (.Name "range" q) [a, b] [] pos) (tI U W (iRange2 ma mb)) :=
  pi_imp (pi_range2 hg hm (pa_cons ha (pa_cons hb' pa_nil h2) h1) hs hs2) fun σ H R' ⟨M, S, ρ, A, p⟩ => tX.bind A p fun x S1 M1 H1 v e1 A1 r1 p1 => tX.bind A1 p1 fun y S2 M2 H2 w e2 A2 r2 p2 => by
    cases r1 with
    | int i =>
      cases r2 with
      | int j =>
        by_cases hb : -(2 ^ 62) ≤ i ∧ i < 2 ^ 62 ∧ -(2 ^ 62) ≤ j ∧ j < 2 ^ 62
        · simp only [if_pos hb] at p2
          exact ⟨i, j, rfl, hb, p2 M2 H2 _ A2.refl A2.r (yields_range i _)⟩
        · simp only [if_neg hb] at p2; exact p2.elim
      | _ => exact p2.elim
    | _ => cases r2 <;> exact p2.elim
/-! ### for -/
def forL (b : Bd) (body : MS) : List D → MS
  | [], ρ, S => .nx ρ S
  | d :: ds, ρ, S => match b d ρ with
    | none => .stuck
    | some ρ1 => match body ρ1 S with
      | .nx ρ2 S2 => forL b body ds ρ2 S2
      | .ct ρ2 S2 => forL b body ds ρ2 S2
      | .bk ρ2 S2 => .nx ρ2 S2
      | .rt d S2 => .rt d S2
      | .exc e ρ2 S2 => .exc e ρ2 S2
      | .stuck => .stuck
def sFor (src : MI) (b : Bd) (body : MS) : MS := fun ρ S => .of (src ρ S) ρ fun ds S1 => forL b body ds ρ S1
variable {body : List Stmt} {src : MI} {bd : Bd} {mb' : MS} {l : List Nat}
theorem s_for {iter : Expr} (hi : PI X tg iter (tI U W src)) (hg : PG X tg (tG U l bd)) (hb : PSs X body (tS U W mb')) (hp : PassesOwn (model X.prog X.w) X.A X.env X.xe) (hc : X.calm = true := by rfl) (hs : ∀ x, foldedSetIterable iter X.env x = pure x := by intro _; rfl) :
    PS X (.For tg iter body [] pos) (tS U W (sFor src bd mb')) :=
  ps_imp (ps_for hp hc hi hg hb hs) fun Dn σ H ⟨M, S, ρ, A, p⟩ => tX.ofS A p fun ds S1 M1 H1 J e1 A1 y p1 => by
    refine ⟨fun k m σ H => m = ds.length - k ∧ k ≤ ds.length ∧ ∃ M' S' ρ', Ext M1 H1 M' H ∧ At U M' S' ρ' σ H ∧ PostS U M' H W (forL bd mb' (ds.drop k) ρ' S') Dn,
      ⟨_, rfl, Nat.zero_le _, M1, S1, ρ, A1.refl, A1, p1⟩, fun k m σ' H' ⟨em, hk, M', S', ρ', f, A', p'⟩ => ?_⟩
    by_cases hl : k < ds.length
    · have hd : ds.drop k = ds[k] :: ds.drop (k + 1) := List.drop_eq_getElem_cons hl
      rw [hd] at p'
      refine .inr ⟨y.go M' S' H' k f.mv A'.r hl, fun σ2 H2 => ds.length - (k + 1) < m ∧ k + 1 ≤ ds.length ∧ ∃ M2 S2 ρ2, Ext M1 H1 M2 H2 ∧ At U M2 S2 ρ2 σ2 H2 ∧ PostS U M2 H2 W (forL bd mb' (ds.drop (k + 1)) ρ2 S2) Dn,
        fun σ2 H2 ⟨h1, h2, h3⟩ => ⟨_, h1, rfl, h2, h3⟩, fun x H2 hy => ?_⟩
      have hm : ds.length - (k + 1) < m := by omega
      obtain ⟨d, hd2, g, R2, rd⟩ := y.yld M' S' H' k x H2 f.mv A'.r hl hy
      have ed : ds[k] = d := by
        rw [List.getElem?_eq_getElem hl] at hd2
        exact Option.some.inj hd2
      rw [ed] at p'
      have A2 := A'.ext g R2
      have p2 := PostS.ext g p'
      cases q : bd d ρ' with
      | none =>
        simp only [forL, q] at p2
        exact p2.elim
      | some ρ1 =>
        simp only [forL, q] at p2
        refine ⟨M', S', ρ', d, ρ1, A2, rd, q, fun σ3 A3 _ => ⟨M', S', ρ1, A3, ?_⟩⟩
        cases q2 : mb' ρ1 S' with
        | nx ρ2 S2 =>
          rw [q2] at p2
          exact fun M4 H4 σ4 f4 A4 => ⟨hm, hl, M4, S2, ρ2, (f.trans g).trans f4, A4, PostS.ext f4 p2⟩
        | ct ρ2 S2 =>
          rw [q2] at p2
          exact fun M4 H4 σ4 f4 A4 => ⟨hm, hl, M4, S2, ρ2, (f.trans g).trans f4, A4, PostS.ext f4 p2⟩
        | bk ρ2 S2 => rw [q2] at p2; exact p2
        | rt d2 S2 => rw [q2] at p2; exact p2
        | exc e2 ρ2 S2 => rw [q2] at p2; exact p2
        | stuck => rw [q2] at p2; exact p2
    · have ek : k = ds.length := Nat.le_antisymm hk (Nat.le_of_not_lt hl)
      subst ek
      rw [List.drop_length] at p'
      exact .inl ⟨y.stop M' S' H' f.mv A'.r, p' M' H' σ' A'.refl A'⟩
end
/-! ### list comprehensions -/
def Out.bindN {α β : Type} (o : Out α) (f : α → Sto → Out β) : Out β := match o with
  | .ok a S => f a S
  | _ => .stuck
def wipeE (ρ : Env) : List Nat → Env
  | [] => ρ
  | v :: vs => (wipeE ρ vs).set v none
def lcL (b : Bd) (t : MT) (m : ME) (ρ : Env) : List D → List D → Sto → Out (List D)
  | [], acc, S => .ok acc S
  | d :: ds, acc, S => match b d ρ with
    | none => .stuck
    | some ρ1 => (t ρ1 S).bindN fun k S1 => if k = true then (m ρ1 S1).bindN fun x S2 => if acc.length < lim then lcL b t m ρ ds (acc ++ [x]) S2 else .stuck else lcL b t m ρ ds acc S1
def mLcL (src : MI) (b : Bd) (t : MT) (m : ME) (vs : List Nat) : Env → Sto → Out (List D) := fun ρ S => (src ρ S).bind fun ds S1 => lcL b t m (wipeE ρ vs) ds [] S1
def mLc (src : MI) (b : Bd) (t : MT) (m : ME) (vs : List Nat) : ME := fun ρ S => (mLcL src b t m vs ρ S).bind fun xs S1 => .ok (.lst xs) S1
def mYes : MT := fun _ S => .ok true S
abbrev W0 : WX := fun _ _ _ _ => False
section
variable {U : Uv} {M M1 Mq : Mp} {S : Sto} {H H1 H2 : Hp} {σ : L2.St} {ρ : Env} {p : Addr} {vs : List Nat}
theorem At.wipe (a : At U M S ρ σ H) : ∀ vs : List Nat, (∀ i ∈ vs, Nf U i) → At U M S (wipeE ρ vs) (wipe σ vs) H
  | [], _ => a
  | v :: vs, h => (At.wipe a vs fun i hi => h i (List.mem_cons_of_mem _ hi)).unset (h v List.mem_cons_self)
theorem wipe_in {i : Nat} : ∀ {vs : List Nat}, i ∈ vs → (wipe σ vs)[i]? = if i < σ.length then some none else none
  | v :: vs, h => by
    unfold wipe
    by_cases e : v = i
    · subst e
      by_cases hl : v < σ.length
      · rw [if_pos hl, List.getElem?_set_self (by rw [wipe_length]; exact hl)]
      · rw [if_neg hl, List.getElem?_eq_none (by rw [List.length_set, wipe_length]; exact Nat.le_of_not_lt hl)]
    · rw [List.getElem?_set_ne e]
      exact wipe_in ((List.mem_cons.mp h).resolve_left fun z => e z.symm)
theorem wipe_but {σ' : L2.St} {l : List Nat} (b : But l (wipe σ vs) σ') (h : ∀ i ∈ l, i ∈ vs) : wipe σ' vs = wipe σ vs := by
  apply List.ext_getElem?
  intro i
  by_cases hi : i ∈ vs
  · rw [wipe_in hi, wipe_in hi, b.1, wipe_length]
  · rw [wipe_out hi, b.2 i fun z => hi (h i z)]
theorem mvPriv (e : Ext M1 H1 Mq H) (hp : H1 p = none) : Mv M1 H1 (Mq.priv p) H := ⟨e.le, e.same, fun a o h n => ⟨e.keep a o h (Mp.nob n), fun z => by
  rcases priv_has.mp z with z | z | z
  · exact e.nob h (Mp.nob n) z
  · exact ne_of_none h hp z
  · exact n (.inr (by rw [← e.pr]; exact z))⟩⟩
theorem extWrite {o : HO} (e : Ext M1 H1 Mq H) (hp : H1 p = none) (hn : ¬ Mq.ob p) : Ext M1 H1 Mq (upd H p o) := ⟨e.le, e.same, e.fresh, fun a u h n => by rw [upd_ne (ne_of_none h hp)]; exact e.keep a u h n, fun i hi => by
  obtain ⟨u, hu⟩ := e.live i hi
  exact ⟨u, by rw [upd_ne fun z => hn ⟨i, hi, z⟩]; exact hu⟩, e.pr⟩
theorem Ext.unpriv {M' : Mp} {H' : Hp} (e : Ext (M.priv p) H M' H') : ∃ M2, M' = Mp.priv M2 p ∧ Ext M H M2 H' := by
  obtain ⟨at', n', pr'⟩ := M'
  have epr : pr' = p :: M.pr := e.pr
  subst epr
  exact ⟨⟨at', n', M.pr⟩, rfl, ⟨e.le, e.same, e.fresh, e.keep, e.live, rfl⟩⟩
end
section
variable {X : Cx} {U : Uv} {W : WX} {src : MI} {bd : Bd} {mt : MT} {me : ME} {vs l : List Nat}
theorem lc_post (hl : ∀ i ∈ l, i ∈ vs) (hn : ∀ i ∈ vs, Nf U i) {σ : L2.St} {H : Hp} {Q : VK} (h : tE U W (mLc src bd mt me vs) σ H Q) : tLc (tI U W src) (tG U l bd) (tT U W0 mt) (tE U W0 me) vs σ H Q := by
  obtain ⟨M, S, ρ, A, p⟩ := h
  have p' : PostX U (Rep U) M H σ W ((src ρ S).bind fun ds S1 => (lcL bd mt me (wipeE ρ vs) ds [] S1).bind fun xs S2 => .ok (.lst xs) S2) Q := by
    unfold mLc mLcL at p
    cases q : src ρ S with
    | ok a S1 => rw [q] at p; exact p
    | exc x S1 => rw [q] at p; exact p
    | stuck => rw [q] at p; exact p
  refine tX.bind A p' fun ds S1 M1 H1 J e1 A1 y p1 => fun D hD => ?_
  refine ⟨fun k m H => m = ds.length - k ∧ k ≤ ds.length ∧ ∃ Mq S' acc accD, Ext M1 H1 Mq H ∧ R U (Mq.priv D) S' H ∧ H D = some (.lst acc) ∧ RepAll U (Mq.priv D) H acc accD ∧ SlotRep U (Mq.priv D) H (wipe σ vs) (wipeE ρ vs) ∧
      PostX U (Rep U) M1 H1 σ W ((lcL bd mt me (wipeE ρ vs) (ds.drop k) accD S').bind fun xs S2 => .ok (.lst xs) S2) Q,
    ⟨_, rfl, Nat.zero_le _, M1, S1, [], [], A1.r.extNew hD, A1.r.priv hD, upd_same, .nil, fun i d h => ?_, p1⟩, fun k m H3 ⟨em, hk, Mq, S', acc, accD, f, R3, hHD, ra, sl, p3⟩ => ?_⟩
  · obtain ⟨v, h1, h2⟩ := (A1.wipe vs hn).sl i d h
    exact ⟨v, h1, h2.mv (Mv.priv hD)⟩
  have hnob : ∀ {M' : Mp} {S' : Sto} {H' : Hp}, R U (M'.priv D) S' H' → ¬ M'.ob D := fun r => r.prn D List.mem_cons_self
  by_cases hlt : k < ds.length
  · have hd : ds.drop k = ds[k] :: ds.drop (k + 1) := List.drop_eq_getElem_cons hlt
    rw [hd] at p3
    have mv3 : Mv M1 H1 (Mq.priv D) H3 := mvPriv f hD
    refine .inr ⟨y.go _ S' H3 k mv3 R3 hlt, fun H4 => ds.length - (k + 1) < m ∧ k + 1 ≤ ds.length ∧ ∃ Mq S' acc accD, Ext M1 H1 Mq H4 ∧ R U (Mq.priv D) S' H4 ∧ H4 D = some (.lst acc) ∧ RepAll U (Mq.priv D) H4 acc accD ∧ SlotRep U (Mq.priv D) H4 (wipe σ vs) (wipeE ρ vs) ∧
      PostX U (Rep U) M1 H1 σ W ((lcL bd mt me (wipeE ρ vs) (ds.drop (k + 1)) accD S').bind fun xs S2 => .ok (.lst xs) S2) Q,
      fun H4 ⟨h1, h2, h3⟩ => ⟨_, h1, rfl, h2, h3⟩, fun x H4 hy => ?_⟩
    have hm : ds.length - (k + 1) < m := by omega
    obtain ⟨d, hd2, g, R4, rd⟩ := y.yld _ S' H3 k x H4 mv3 R3 hlt hy
    have ed : ds[k] = d := by
      rw [List.getElem?_eq_getElem hlt] at hd2
      exact Option.some.inj hd2
    rw [ed] at p3
    obtain ⟨Mx, ex, g'⟩ := g.unpriv
    have eMx : Mx = Mq := by
      obtain ⟨a1, n1, q1⟩ := Mx
      obtain ⟨a2, n2, q2⟩ := Mq
      unfold Mp.priv at ex
      injection ex with e1 e2 e3
      injection e3 with _ e3
      subst e1 e2 e3; rfl
    subst eMx
    have A4 : At U (Mx.priv D) S' (wipeE ρ vs) (wipe σ vs) H4 := ⟨R4, sl.ext g, (A1.wipe vs hn).len, (A1.wipe vs hn).fx⟩
    cases q : bd d (wipeE ρ vs) with
    | none =>
      simp only [lcL, q] at p3
      exact p3.elim
    | some ρ1 =>
      simp only [lcL, q] at p3
      refine ⟨Mx.priv D, S', wipeE ρ vs, d, ρ1, A4, rd, q, fun σ5 A5 b5 => ⟨wipe_but b5 hl, ?_⟩⟩
      refine ⟨Mx.priv D, S', ρ1, A5, ?_⟩
      cases q2 : mt ρ1 S' with
      | exc e S6 => rw [q2] at p3; exact p3.elim
      | stuck => rw [q2] at p3; exact p3.elim
      | ok kk S6 =>
        rw [q2] at p3
        intro M6 H6 b e6 R6 eb
        have eb' : b = kk := eb
        subst eb'
        obtain ⟨Mq6, em6, f6⟩ := e6.unpriv
        subst em6
        have f16 := (f.trans g').trans f6
        have e36 := g.trans e6
        have hD6 : H6 D = some (.lst acc) := e36.keep _ _ hHD (R3.prn D List.mem_cons_self)
        have p6 := p3
        cases b with
        | false =>
          rw [if_neg (by decide)]
          exact ⟨hm, hlt, Mq6, S6, acc, accD, f16, R6, hD6, ra.ext e36, sl.ext e36, p6⟩
        | true =>
          rw [if_pos rfl]
          refine ⟨Mq6.priv D, S6, ρ1, A5.ext e6 R6, ?_⟩
          change PostX U (Rep U) M1 H1 σ W (((me ρ1 S6).bindN fun x S2 => if accD.length < lim then lcL bd mt me (wipeE ρ vs) (ds.drop (k + 1)) (accD ++ [x]) S2 else .stuck).bind fun xs S2 => .ok (.lst xs) S2) Q at p6
          cases q7 : me ρ1 S6 with
          | exc e S7 => rw [q7] at p6; exact p6.elim
          | stuck => rw [q7] at p6; exact p6.elim
          | ok z S7 =>
            rw [q7] at p6
            intro M7 H7 v7 e7 R7 r7
            obtain ⟨Mq7, em7, f7⟩ := e7.unpriv
            subst em7
            have hD7 : H7 D = some (.lst acc) := e7.keep _ _ hD6 (R6.prn D List.mem_cons_self)
            have e37 := e36.trans e7
            by_cases hlim : accD.length < lim
            · have p7 : PostX U (Rep U) M1 H1 σ W ((lcL bd mt me (wipeE ρ vs) (ds.drop (k + 1)) (accD ++ [z]) S7).bind fun xs S2 => .ok (.lst xs) S2) Q := by
                change PostX U (Rep U) M1 H1 σ W ((if accD.length < lim then lcL bd mt me (wipeE ρ vs) (ds.drop (k + 1)) (accD ++ [z]) S7 else .stuck).bind _) Q at p6
                rw [if_pos hlim] at p6; exact p6
              have hpr : D ∈ (Mq7.priv D).pr := List.mem_cons_self
              have f17 := f16.trans f7
              refine ⟨acc, hD7, ?_, hm, hlt, Mq7, S7, acc ++ [v7], accD ++ [z], extWrite f17 hD (hnob R7), R7.write hpr, upd_same, ((ra.ext e37).append (.cons r7 .nil)).mv (Mv.write hpr), fun i d h => ?_, p7⟩
              · rw [(ra.ext e37).length]
                exact Nat.lt_of_lt_of_le hlim (lim_line (Nat.le_refl _))
              · obtain ⟨v, h1, h2⟩ := sl i d h
                exact ⟨v, h1, (h2.ext e37).mv (Mv.write hpr)⟩
            · change PostX U (Rep U) M1 H1 σ W ((if accD.length < lim then lcL bd mt me (wipeE ρ vs) (ds.drop (k + 1)) (accD ++ [z]) S7 else .stuck).bind _) Q at p6
              rw [if_neg hlim] at p6; exact p6.elim
  · have ek : k = ds.length := Nat.le_antisymm hk (Nat.le_of_not_lt hlt)
    subst ek
    rw [List.drop_length] at p3
    refine .inl ⟨y.stop _ S' H3 (mvPriv f hD) R3, ?_⟩
    have hnh : ¬ Mq.has D := fun z => z.elim (hnob R3) fun z => by
      rw [f.pr] at z
      obtain ⟨u, hu⟩ := A1.r.prl D z
      rw [hD] at hu; cases hu
    exact p3 Mq H3 _ f R3.unpriv (.lst ⟨hHD, hnh⟩ (ra.mv Mv.unpriv))
end
end DL
/-! DL5: comprehensions, calls of defs, the rule for a def. -/
namespace DL
open PySem L2
section
variable {X : Cx} {U : Uv} {W : WX} {src : MI} {bd : Bd} {mt : MT} {me : ME} {l : List Nat}
/-- [elt for tg in iter if ..] -/
theorem e_lc {elt tg iter : Expr} {ifs : List Expr} {scope : Scope} (own : List (Str × Nat)) {pos : Pos} (hN : X.N.Nodup) (hi : PI X tg iter (tI U W src)) (ok : BlkOk X.N X.env.scope scope own)
    (hg : ∀ (s : Shared) (H : Hp) (C : Addr) (cl : List (Str × Addr)) (fp : List Addr), PG (X.blk s H scope (compEnvC scope cl C X.env) fp) tg (tG U l bd)) (ht : ∀ (s : Shared) (H : Hp) (C : Addr) (cl : List (Str × Addr)) (fp : List Addr), PTs (X.blk s H scope (compEnvC scope cl C X.env) fp) ifs (tT U W0 mt))
    (he : ∀ (s : Shared) (H : Hp) (C : Addr) (cl : List (Str × Addr)) (fp : List Addr), PE (X.blk s H scope (compEnvC scope cl C X.env) fp) elt (tE U W0 me)) (hc : X.calm = true := by rfl) (hl : ∀ i ∈ l, i ∈ own.map (·.2) := by decide) (hn : ∀ i ∈ own.map (·.2), Nf U i := by exact fun _ _ _ h => absurd h List.not_mem_nil)
    (hs : ∀ x, foldedSetIterable iter X.env x = pure x := by intro _; rfl) : PE X (.ListComp elt [⟨tg, iter, ifs, 0⟩] scope pos) (tE U W (mLc src bd mt me (own.map (·.2)))) :=
  pe_imp (pe_lc hc hN hi ok hg ht he hs) fun σ H Q h => lc_post hl hn h
theorem ts_nil : PTs X [] (tT U W mYes) := ⟨fun pins s σ H Q I h => by
  obtain ⟨M, S, ρ, A, p⟩ := h
  exact pts_nil.run pins s σ H Q I (p M H true A.refl A.r rfl)⟩
theorem ts_one {c : Expr} (h : PT X c (tT U W mt)) : PTs X [c] (tT U W mt) := pts_one h
/-- y = [..], on one line -/
theorem s_setLc (i : Nat) {y : Str} {py : Pos} {elt tg iter : Expr} {ifs : List Expr} {scope : Scope} (own : List (Str × Nat)) {pos spos : Pos} (hN : X.N.Nodup) (hi : PI X tg iter (tI U W src)) (ok : BlkOk X.N X.env.scope scope own)
    (hg : ∀ (s : Shared) (H : Hp) (C : Addr) (cl : List (Str × Addr)) (fp : List Addr), PG (X.blk s H scope (compEnvC scope cl C X.env) fp) tg (tG U l bd)) (ht : ∀ (s : Shared) (H : Hp) (C : Addr) (cl : List (Str × Addr)) (fp : List Addr), PTs (X.blk s H scope (compEnvC scope cl C X.env) fp) ifs (tT U W0 mt))
    (he : ∀ (s : Shared) (H : Hp) (C : Addr) (cl : List (Str × Addr)) (fp : List Addr), PE (X.blk s H scope (compEnvC scope cl C X.env) fp) elt (tE U W0 me)) (hc : X.calm = true := by rfl) (hy : X.N[i]? = some y := by rfl) (hyl : X.env.scope.names.lookup y = some .local := by rfl)
    (hk : X.env.scope.kind = .function := by rfl) (hln : (py.line == pos.line) = true := by rfl) (ha : (scope.names.any fun (n, k) => n == y && (k == .local || k == .cell)) = false := by rfl)
    (hl : ∀ i ∈ l, i ∈ own.map (·.2) := by decide) (hn : ∀ i ∈ own.map (·.2), Nf U i := by exact fun _ _ _ h => absurd h List.not_mem_nil) (hn2 : Nf U i := by exact fun _ h => absurd h List.not_mem_nil)
    (hs : ∀ x, foldedSetIterable iter X.env x = pure x := by intro _; rfl) : PS X (.Assign [.Name y py] (.ListComp elt [⟨tg, iter, ifs, 0⟩] scope pos) spos) (tS U W (sSet i (mLc src bd mt me (own.map (·.2))))) :=
  ps_imp (ps_setLc hc hN hy hyl (sw_true hk hyl hln ha) hi ok hg ht he hs) fun Dn σ H ⟨M, S, ρ, A, p⟩ => by
    refine lc_post (U := U) (W := W) hl hn (tX.ofS A p fun x S1 M1 H1 v e1 A1 r1 p1 => ?_)
    exact p1 M1 H1 _ A1.refl (A1.set r1 hn2)
end
/-! ### what a def does: its mirror -/
abbrev Mi := List D → Sto → Out D
def spF (U : Uv) (np : Nat) (F : Mi) : Sp := fun vs H Q E => ∃ M S ds, R U M S H ∧ RepAll U M H vs ds ∧ ds.length = np ∧ PostX U (Rep U) M H [] (fun cv dd _ H' => E cv dd H') (F ds S) Q
def mCall (F : Mi) (ms : MA) : ME := fun ρ S => (ms ρ S).bind F
section
variable {U : Uv} {W : WX} {M : Mp} {S : Sto} {H : Hp} {σ : L2.St} {ds : List D} {vs : List V} {Q : VK} {np : Nat} {F : Mi}
theorem sp_in (r : R U M S H) (ra : RepAll U M H vs ds) (hl : ds.length = np) (p : PostX U (Rep U) M H σ W (F ds S) Q) : spF U np F vs H Q (fun cv dd H' => W cv dd σ H') := by
  refine ⟨M, S, ds, r, ra, hl, ?_⟩
  revert p
  cases F ds S <;> exact fun p => p
end
/-- a def that does what F does -/
structure Does (P : Program) (w : World) (K : PySem.W.Frag) (mg : Str → Option Value) (base : Heap) (U : Uv) (k : Nat) (x : Str) (f : Addr) (fd : FuncData) (ps : List Str) (F : Mi) : Prop where
  fn : FnOk P w K mg base (L2N.CX P w) k f fd ps (spF U ps.length F)
  mg_ : mg x = some (.ref f)
  kp : PySem.W.keepIn K (.ref f) = true
  b : Binds K fd ps []
/-- these, in another order -/
def pick {α : Type} : List Nat → List α → Option (List α)
  | [], _ => some []
  | i :: is, l => match l[i]?, pick is l with
    | some x, some r => some (x :: r)
    | _, _ => none
theorem vals_getD {vs : List V} {us : List Value} (r : Vals vs us) : ∀ {i : Nat} {x : V}, vs[i]? = some x → ∃ u, us[i]? = some u ∧ RelV x u := by
  induction r with
  | nil => intro i x q; simp at q
  | cons h1 h2 ih =>
    intro i x q
    cases i with
    | zero => simp at q; subst q; exact ⟨_, rfl, h1⟩
    | succ i => simp at q; exact ih q
theorem pick_rel {vs : List V} {us : List Value} (r : Vals vs us) : ∀ {is : List Nat} {ws : List V}, pick is vs = some ws → ∃ zs, pick is us = some zs ∧ Vals ws zs
  | [], _, h => by cases h; exact ⟨[], rfl, .nil⟩
  | i :: is, ws, h => by
    unfold pick at h
    cases q : vs[i]? with
    | none => rw [q] at h; cases h
    | some x =>
      cases q2 : pick is vs with
      | none => rw [q, q2] at h; cases h
      | some rr =>
        rw [q, q2] at h
        cases h
        obtain ⟨u, h1, h2⟩ : ∃ u, us[i]? = some u ∧ RelV x u := by
          clear q2
          exact vals_getD r q
        obtain ⟨zs, h3, h4⟩ := pick_rel r q2
        exact ⟨u :: zs, by unfold pick; rw [h1, h3], .cons h2 h4⟩
theorem pick_repA {U : Uv} {M : Mp} {H : Hp} {vs : List V} {ds : List D} (r : RepAll U M H vs ds) : ∀ {is : List Nat} {es : List D}, pick is ds = some es → ∃ ws, pick is vs = some ws ∧ RepAll U M H ws es
  | [], _, h => by cases h; exact ⟨[], rfl, .nil⟩
  | i :: is, es, h => by
    unfold pick at h
    cases q : ds[i]? with
    | none => rw [q] at h; cases h
    | some x =>
      cases q2 : pick is ds with
      | none => rw [q, q2] at h; cases h
      | some rr =>
        rw [q, q2] at h
        cases h
        obtain ⟨u, h1, h2⟩ := r.get q
        obtain ⟨zs, h3, h4⟩ := pick_repA r q2
        exact ⟨u :: zs, by unfold pick; rw [h1, h3], .cons h2 h4⟩
/-- how a call with n positional values and keywords named ks binds -/
def KwB (K : PySem.W.Frag) (fd : FuncData) (ps ks : List Str) (n : Nat) (is : List Nat) : Prop :=
  ∀ (s : Shared) (us ws zs : List Value), K.In s.heap → us.length = n → ws.length = ks.length → pick is (us ++ ws) = some zs → BindsTo s fd ⟨us, ks.zip ws⟩ (ps.zip zs)
section
variable {X : Cx} {U : Uv} {W : WX} {k j np : Nat} {F : Mi} {x : Str} {e : Expr} {es : List Expr} {ms : MA} {p pos : Pos} {f : Addr} {fd : FuncData} {ps ks : List Str}
/-- x(e, ..), as many arguments as parameters -/
theorem e_call (G : Does X.prog X.w X.K X.mg X.base U k x f fd ps F) (tk : L2N.Takes X W) (hr : Room j X.A) (ha : PA X (e :: es) (tA U W ms)) (hn : ∀ ρ S ds S1, ms ρ S = .ok ds S1 → ds.length = ps.length) (hk : k ≤ j := by decide) (hg : Gl X x := by rfl) (hdb : (x == ("__debug__" : Str)) = false := by decide)
    (he : starEach (e :: es) X.env = (false, eval e X.env) :: starEach es X.env := by rfl) (hpl : (backTo pos (starEach es X.env)).any (·.1) = false := by rfl) : PE X (.Call (.Name x p) (e :: es) [] pos) (tE U W (mCall F ms)) := by
  refine pe_imp (pe_callS G.fn (hr.mono hk) hg G.mg_ G.kp G.b (fun σ => L2N.passAt tk σ) ha hdb he hpl) fun σ H Q ⟨M, S, ρ, A, q⟩ => ⟨M, S, ρ, A, ?_⟩
  show PostX U (RepAll U) M H σ W (ms ρ S) _
  have q : PostX U (Rep U) M H σ W ((ms ρ S).bind F) Q := q
  cases e1 : ms ρ S with
  | ok ds S1 =>
    rw [e1] at q
    exact fun M' H' vs ex r ra => sp_in r ra (hn _ _ _ _ e1) (PostX.ext ex q)
  | exc x S1 => rw [e1] at q; exact q
  | stuck => rw [e1] at q; exact q
theorem len_nil : ∀ (ρ : Env) (S : Sto) (ds : List D) (S1 : Sto), aNil ρ S = .ok ds S1 → ds.length = 0 := fun _ _ _ _ h => by cases h; rfl
theorem len_cons {m : ME} {ms : MA} {n : Nat} (hr : ∀ ρ S ds S1, ms ρ S = .ok ds S1 → ds.length = n) : ∀ ρ S ds S1, aCons m ms ρ S = .ok ds S1 → ds.length = n + 1 := fun ρ S ds S1 h => by
  unfold aCons at h
  cases e1 : m ρ S with
  | ok d S2 =>
    rw [e1] at h
    change (ms ρ S2).bind _ = _ at h
    cases e2 : ms ρ S2 with
    | ok es S3 =>
      rw [e2] at h
      cases h
      rw [List.length_cons, hr _ _ _ _ e2]
    | _ => rw [e2] at h; cases h
  | _ => rw [e1] at h; cases h
/-- x() -/
theorem e_call0 (G : Does X.prog X.w X.K X.mg X.base U k x f fd [] F) (tk : L2N.Takes X W) (hr : Room j X.A) (hk : k ≤ j := by decide) (hg : Gl X x := by rfl) (hdb : (x == ("__debug__" : Str)) = false := by decide) : PE X (.Call (.Name x p) [] [] pos) (tE U W (mCall F aNil)) := by
  refine ⟨fun pins s σ H Q I h => ?_⟩
  obtain ⟨M, S, ρ, A, q⟩ := h
  refine wpAny_Call_Name_kw (ld_glob I hg G.mg_ ?_ hdb)
  exact PySem.W.callWith_K0 I.kIn G.kp (run_fnS (E := WE W) (us := []) G.fn (hr.mono hk) G.b (L2N.passAt tk σ) I .nil (sp_in A.r .nil rfl q))
/-- x(.., k = e, ..): the values of both, then picked -/
def mCallK (F : Mi) (is : List Nat) (ms mk : MA) : ME := fun ρ S => (ms ρ S).bind fun ds S1 => (mk ρ S1).bind fun es S2 => match pick is (ds ++ es) with
  | some zs => F zs S2
  | none => .stuck
theorem pk_imp {kws : List Keyword} {t t' : TA} (h : PK X kws t) (hi : ∀ σ H Q, t' σ H Q → t σ H Q) : PK X kws t' := ⟨fun p pins s σ H Q I q => h.run p pins s σ H Q I (hi _ _ _ q)⟩
theorem k_nil : PK X [] (tA U W aNil) := pk_imp pk_nil fun σ H Q ⟨M, S, ρ, A, p⟩ => p M H [] A.refl A.r .nil
theorem k_cons {nm : Option Str} {kpos : Pos} {kws : List Keyword} {m : ME} (h : PE X e (tE U W m)) (hr : PK X kws (tA U W ms)) : PK X (⟨nm, e, kpos⟩ :: kws) (tA U W (aCons m ms)) :=
  pk_imp (pk_cons h hr) fun σ H Q ⟨M, S, ρ, A, p⟩ => tX.bind A p fun x S1 M1 H1 v e1 A1 r1 p1 => tX.bind A1 p1 fun xs S2 M2 H2 vs e2 A2 r2 p2 => p2 M2 H2 _ A2.refl A2.r (.cons (r1.ext e2) r2)
theorem run_fnKS {pins : List (Addr × Obj)} {σ : L2.St} {H : Hp} {s : Shared} {Q : VK} {us ws : List Value} {vs zs es : List V} {n : Nat} {is : List Nat} {sp : Sp} {E : L2.St → XK} (G : FnOk X.prog X.w X.K X.mg X.base (L2N.CX X.prog X.w) k f fd ps sp) (hr : Room k X.A) (hb : KwB X.K fd ps ks n is) (hx : PassesAt (L2N.CX X.prog X.w) X σ (E σ))
    (I : Inv X pins σ H s) (r : Vals vs us) (rz : Vals zs ws) (l1 : us.length = n) (l2 : ws.length = ks.length) (hp : pick is (vs ++ zs) = some es) (h : sp es H Q (E σ)) : wpAny (model X.prog X.w) X.A (call (.ref f) us (ks.zip ws)) (EP X pins σ Q) X.xe s := by
  obtain ⟨ys, h1, h2⟩ := pick_rel (r.append rz) hp
  refine wpAny_call (codeAny_mono (G.run X.A X.stack s H ⟨us, ks.zip ws⟩ ys es Q (E σ) hr I.env0 (hb s us ws ys I.kIn l1 l2 h1) h2 h) fun r s' hq => ?_)
  cases r with
  | error e => exact hx pins H s e s' I hq
  | ok fl =>
    cases fl with
    | ret u => exact I.after hq
    | next => exact False.elim hq
    | brk => exact False.elim hq
    | cont => exact False.elim hq
theorem pick_len {α : Type} : ∀ {is : List Nat} {l zs : List α}, pick is l = some zs → zs.length = is.length
  | [], _, _, h => by cases h; rfl
  | i :: is, l, zs, h => by
    unfold pick at h
    cases q : l[i]? with
    | none => rw [q] at h; cases h
    | some x =>
      cases q2 : pick is l with
      | none => rw [q, q2] at h; cases h
      | some rr =>
        rw [q, q2] at h
        cases h
        rw [List.length_cons, List.length_cons, pick_len q2]
theorem callK_post {n : Nat} {is : List Nat} {mk : MA} {M : Mp} {S : Sto} {H : Hp} {σ : L2.St} {ρ : Env} {Q : VK} {R' : List V → List V → Hp → Prop} (A : At U M S ρ σ H) (q : PostX U (Rep U) M H σ W (mCallK F is ms mk ρ S) Q) (hn : ∀ ρ S ds S1, ms ρ S = .ok ds S1 → ds.length = n) (hm : ∀ ρ S ds S1, mk ρ S = .ok ds S1 → ds.length = ks.length) (hi : is.length = ps.length)
    (hR : ∀ vs zs es H1, vs.length = n → zs.length = ks.length → pick is (vs ++ zs) = some es → spF U ps.length F es H1 Q (WE W σ) → R' vs zs H1) : tA U W ms σ H fun vs H1 => tA U W mk σ H1 fun zs H2 => R' vs zs H2 := by
  refine ⟨M, S, ρ, A, ?_⟩
  show PostX U (RepAll U) M H σ W (ms ρ S) _
  unfold mCallK at q
  cases e1 : ms ρ S with
  | exc x S1 => rw [e1] at q; exact q
  | stuck => rw [e1] at q; exact q
  | ok ds S1 =>
    rw [e1] at q
    intro M1 H1 vs x1 r1 ra
    refine ⟨M1, S1, ρ, A.ext x1 r1, ?_⟩
    show PostX U (RepAll U) M1 H1 σ W (mk ρ S1) _
    change PostX U (Rep U) M H σ W ((mk ρ S1).bind _) Q at q
    cases e2 : mk ρ S1 with
    | exc x S2 => rw [e2] at q; exact PostX.ext x1 q
    | stuck => rw [e2] at q; exact q
    | ok es S2 =>
      rw [e2] at q
      change PostX U (Rep U) M H σ W (match pick is (ds ++ es) with | some zs => F zs S2 | none => .stuck) Q at q
      intro M2 H2 zs x2 r2 rz
      cases e3 : pick is (ds ++ es) with
      | none => rw [e3] at q; exact q.elim
      | some qs =>
        rw [e3] at q
        obtain ⟨ws, h1, h2⟩ := pick_repA ((ra.ext x2).append rz) e3
        exact hR vs zs ws H2 (by rw [ra.length]; exact hn _ _ _ _ e1) (by rw [rz.length]; exact hm _ _ _ _ e2) h1 (sp_in r2 h2 (by rw [pick_len e3]; exact hi) (PostX.ext (x1.trans x2) q))
/-- x(k = e, ..) -/
theorem e_callK0 {kws : List Keyword} {mk : MA} (is : List Nat) (G : Does X.prog X.w X.K X.mg X.base U k x f fd ps F) (hb : KwB X.K fd ps ks 0 is) (tk : L2N.Takes X W) (hr : Room j X.A) (hkw : PK X kws (tA U W mk)) (hm : ∀ ρ S ds S1, mk ρ S = .ok ds S1 → ds.length = ks.length)
    (hk : k ≤ j := by decide) (hi : is.length = ps.length := by rfl) (hg : Gl X x := by rfl) (hall : (backToKw pos (keywordEach kws X.env)).all (·.1.isSome) = true := by rfl) (hks : (backToKw pos (keywordEach kws X.env)).filterMap (·.1) = ks := by rfl) (hdb : (x == ("__debug__" : Str)) = false := by decide)
    (hpl : ((backTo pos (starEach [] X.env)).any (·.1) || (backToKw pos (keywordEach kws X.env)).any (·.1.isNone)) = false := by rfl) : PE X (.Call (.Name x p) [] kws pos) (tE U W (mCallK F is aNil mk)) := by
  refine ⟨fun pins s σ H Q I h => ?_⟩
  obtain ⟨M, S, ρ, A, q⟩ := h
  refine wpAny_Call_Name_kw (ld_glob I hg G.mg_ ?_ hdb)
  refine PySem.W.callWith_KW0 (h₀ := X.base) I.ok.mod.kin G.kp hall ?_ hpl
  have z := callK_post (ks := ks) (ps := ps) (n := 0) (R' := fun vs zs H2 => vs = [] ∧ zs.length = ks.length ∧ ∃ es, pick is ([] ++ zs) = some es ∧ spF U ps.length F es H2 Q (WE W σ)) A q len_nil hm hi fun vs zs es H1 h1 h2 h3 h4 => by
    cases vs with
    | cons _ _ => cases h1
    | nil => exact ⟨rfl, h2, es, h3, h4⟩
  obtain ⟨M0, S0, ρ0, A0, z0⟩ := z
  have z1 := z0 M0 H [] A0.refl A0.r .nil
  refine thn (hkw.run pos pins s σ H _ I z1) fun ws s2 ⟨zs, H2, I2, rz, _, l2, es, h3, h4⟩ => ⟨I2.kIn, ?_⟩
  rw [hks]
  exact run_fnKS (E := WE W) (us := []) (vs := []) G.fn (hr.mono hk) hb (L2N.passAt tk σ) I2 .nil rz rfl (rz.length.symm.trans l2) h3 h4
/-- x(e, .., k = e, ..) -/
theorem e_callK {kws : List Keyword} {mk : MA} {n : Nat} (is : List Nat) (G : Does X.prog X.w X.K X.mg X.base U k x f fd ps F) (hb : KwB X.K fd ps ks n is) (tk : L2N.Takes X W) (hr : Room j X.A) (ha : PA X (e :: es) (tA U W ms)) (hkw : PK X kws (tA U W mk)) (hn : ∀ ρ S ds S1, ms ρ S = .ok ds S1 → ds.length = n) (hm : ∀ ρ S ds S1, mk ρ S = .ok ds S1 → ds.length = ks.length)
    (hk : k ≤ j := by decide) (hi : is.length = ps.length := by rfl) (hg : Gl X x := by rfl) (hall : (backToKw pos (keywordEach kws X.env)).all (·.1.isSome) = true := by rfl) (hks : (backToKw pos (keywordEach kws X.env)).filterMap (·.1) = ks := by rfl) (hdb : (x == ("__debug__" : Str)) = false := by decide)
    (he : starEach (e :: es) X.env = (false, eval e X.env) :: starEach es X.env := by rfl) (hpl : ((backTo pos (starEach (e :: es) X.env)).any (·.1) || (backToKw pos (keywordEach kws X.env)).any (·.1.isNone)) = false := by rfl) : PE X (.Call (.Name x p) (e :: es) kws pos) (tE U W (mCallK F is ms mk)) := by
  refine ⟨fun pins s σ H Q I h => ?_⟩
  obtain ⟨M, S, ρ, A, q⟩ := h
  refine wpAny_Call_Name_kw (ld_glob I hg G.mg_ ?_ hdb)
  have z := callK_post (ks := ks) (ps := ps) (n := n) (R' := fun vs zs H2 => vs.length = n ∧ zs.length = ks.length ∧ ∃ es, pick is (vs ++ zs) = some es ∧ spF U ps.length F es H2 Q (WE W σ)) A q hn hm hi fun vs zs es H1 h1 h2 h3 h4 => ⟨h1, h2, es, h3, h4⟩
  refine PySem.W.callWith_KW (h₀ := X.base) I.ok.mod.kin G.kp hall (thn (ha.run pos pins s σ H _ I z) fun us s1 ⟨vs, H1, I1, r, q1⟩ => ?_) hpl he
  refine thn (hkw.run pos pins s1 σ H1 _ I1 q1) fun ws s2 ⟨zs, H2, I2, rz, l1, l2, es, h3, h4⟩ => ⟨I2.kIn, ?_⟩
  rw [hks]
  exact run_fnKS (E := WE W) (us := us) (vs := vs) G.fn (hr.mono hk) hb (L2N.passAt tk σ) I2 r rz (r.length.symm.trans l1) (rz.length.symm.trans l2) h3 h4
end
/-! ### the rule for a def -/
def runD (n : Nat) (ms : MS) : Mi := fun ds S => match ms (ds.map some ++ List.replicate (n - ds.length) none) S with
  | .nx _ S' => .ok .non S'
  | .rt d S' => .ok d S'
  | .exc e _ S' => .exc e S'
  | _ => .stuck
theorem start_rep {U : Uv} {M : Mp} {H : Hp} (n : Nat) : ∀ {vs : List V} {ds : List D}, RepAll U M H vs ds → SlotRep U M H (vs.map some ++ List.replicate n none) (ds.map some ++ List.replicate n none)
  | _, _, .nil => by
    intro i d h
    have h' : (List.replicate n (none : Option D))[i]? = some (some d) := h
    rw [List.getElem?_replicate] at h'
    by_cases c : i < n
    · rw [if_pos c] at h'; cases h'
    · rw [if_neg c] at h'; cases h'
  | _, _, @RepAll.cons _ _ _ v vs d ds h r => by
    intro i e he
    cases i with
    | zero =>
      have he' : some (some d) = some (some e) := he
      cases he'
      exact ⟨v, rfl, h⟩
    | succ i => exact start_rep n r i e he
section
variable {P : Program} {w : World} {K : PySem.W.Frag} {mg : Str → Option Value} {base : Heap} {U : Uv}
theorem fn_def {x qual : Str} {st : Stmt} {f : Addr} {fd : FuncData} {N ps : List Str} {k : Nat} {ms : MS} (F : L2.Fun K x qual st f fd) (S : FnScope N ps (defScope st)) (hf : U.f = [])
    (body : ∀ (cdv : Value) (A : Around) (outer : List PySem.Env) (s : Shared) (H : Hp) (E : XK), Room k (A.deeper (PyProof.Rows.envOfC qual (defScope st) s.heap.objs.size f cdv)) →
      PSs (cxOf (L2N.CX P w) P w K mg base N qual (defScope st) f cdv A outer s H E) (defBody st) (tS U (fun cls d _ H => E cls d H) ms)) : FnOk P w K mg base (L2N.CX P w) (k + 1) f fd ps (spF U ps.length (runD N.length ms)) := by
  obtain ⟨oc, od, kV, doc, pm, an, cdv, ct, osl, rfl, lk, hcd⟩ := F.ex
  refine fn_of lk hcd S (fun vs H Q E ⟨M, S', ds, r, ra, hl, p⟩ => by rw [ra.length]; exact hl) fun A outer s H vs Q E hr ⟨M, S', ds, r, ra, hl, p⟩ => ⟨_, body cdv A outer s H E hr, M, S', ds.map some ++ List.replicate (N.length - ds.length) none, ⟨r, ?_, ?_, fun p hp => ?_⟩, ?_⟩
  · unfold L2.start
    rw [ra.length]
    exact start_rep _ ra
  · unfold L2.start
    simp only [List.length_append, List.length_map, List.length_replicate, ra.length]
  · rw [hf] at hp; cases hp
  · unfold runD at p
    generalize ms (ds.map some ++ List.replicate (N.length - ds.length) none) S' = o at p
    cases o with
    | nx ρ S1 => exact fun M' H' σ' ex A' => p M' H' .non ex A'.r .non
    | rt d S1 => exact p
    | bk ρ S1 => exact p.elim
    | ct ρ S1 => exact p.elim
    | exc e ρ S1 => exact fun M' H' σ' cv dd ex A' xa => p M' H' cv dd ex A'.r xa
    | stuck => exact p.elim
theorem ok_def {x : Str} {st : Stmt} {f : Addr} {fd : FuncData} {N ps : List Str} {k : Nat} {ms : MS} (F : L2.Fun K x x st f fd) (hm : mg x = some (.ref f)) (hb : Binds K fd ps []) (S : FnScope N ps (defScope st)) (hf : U.f = [])
    (body : ∀ (cdv : Value) (A : Around) (outer : List PySem.Env) (s : Shared) (H : Hp) (E : XK), Room k (A.deeper (PyProof.Rows.envOfC x (defScope st) s.heap.objs.size f cdv)) →
      PSs (cxOf (L2N.CX P w) P w K mg base N x (defScope st) f cdv A outer s H E) (defBody st) (tS U (fun cls d _ H => E cls d H) ms)) : Does P w K mg base U (k + 1) x f fd ps (runD N.length ms) :=
  ⟨fn_def F S hf body, hm, F.kp, hb⟩
theorem Does.mono {j k : Nat} {x : Str} {f : Addr} {fd : FuncData} {ps : List Str} {F : Mi} (G : Does P w K mg base U j x f fd ps F) (h : j ≤ k) : Does P w K mg base U k x f fd ps F := ⟨G.fn.mono h, G.mg_, G.kp, G.b⟩
end
/-! ### raise -/
/-- an own exception class without own __init__ -/
structure ExCls (K : PySem.W.Frag) (mg : Str → Option Value) (C : Addr) (x : Str) : Prop where
  q : PySem.W.excIn K C [.type "ValueError", .type "Exception", .type "BaseException", .type "object"] "ValueError.__new__" = true
  g : mg x = some (.ref C)
  k : PySem.W.keepIn K (.ref C) = true
  b : PySem.W.subIn K (.ref C) (.type "BaseException") = some true
  t : PySem.W.typeIn K (.ref C) = some (.type "type")
def sRaise (c : Nat) : MS := fun ρ S => .exc ⟨c, []⟩ ρ S
section
variable {X : Cx} {U : Uv} {W : WX}
theorem s_raise (c : Nat) {x m : Str} {j : Nat} {p p2 pos pos' : Pos} (C : ExCls X.K X.mg (U.cl c) x) (tk : L2N.Takes X W) (hc : X.calm = true := by rfl) (hg : Gl X x := by rfl) (hdb : (x == ("__debug__" : Str)) = false := by decide) :
    PS X (.Raise (some (.Call (.Name x p) [.Constant (.str m) j p2] [] pos)) none pos') (tS U W (sRaise c)) :=
  ps_imp (L2N.ps_raise hc tk (L2N.pmk_own PySem.F.excBase_ValueError C.q C.g C.k (raises_own C.b C.t) hg hdb)) fun Dn σ H ⟨M, S, ρ, A, p⟩ => p M H σ _ _ A.refl A ⟨rfl, .inl ⟨rfl, rfl⟩⟩
end
end DL
/-! DL6: try / except with several clauses, with and without a name; what an except suite may do. -/
/-! ### a pair taken apart while an exception is handled -/
namespace DL
open PySem PySem.Spec PyProof.Rows HotX
section
variable {P : Program} {w : World} {A : Around} {Ex : Value → Shared → Prop} {s : Shared} {it tp x1 : Addr}
/-- a new StopIteration is raised and caught again: what stood stands -/
theorem stop_hot {α : Type} {Q : α → Shared → Prop} {E : Value → Shared → Prop} (hot : HotAt A x1 s.heap)
    (h : ∀ (e : Addr) h', (∀ b o, s.heap.get? b = some o → h'.get? b = some o) → (∃ oe, h'.get? e = some oe ∧ oe.cls = .type "StopIteration") → E (.ref e) { s with heap := h' }) :
    wpAny (model P w) A (do let x ← newExc (.type "StopIteration") []; raiseNew x) Q E s := by
  obtain ⟨hh, o1, vs1, g1, d1, c1⟩ := hot
  simp only [newExc, newTuple]
  refine wpAny_bind (wpAny_bind (wpAny_newObj_type (wpAny_bind (m := firstArgMember _ _) (wpAny_of_eq (a := Value.none) (by first | rfl | (simp only [firstArgMember]; rfl)) (wpAny_newObj_type ?_ (by size_fits)))) (by size_fits)))
  have g2 : ∀ (b : Addr) o, s.heap.get? b = some o → ((s.heap.push { cls := .type "tuple", data := .seq #[] }).get? b) = some o := fun b o e => Heap.get?_push_of_some _ e
  refine raiseNew_hot ⟨hh, o1, vs1, Heap.get?_push_of_some _ (g2 _ _ g1), d1, c1⟩ (Nat.ne_of_lt (Heap.lt_size (g2 _ _ g1))) (Heap.get?_push_size _ rfl) rfl (by simp; omega) (h _ _ (fun b o e => ?_) ⟨_, Heap.get?_update_self _ (Heap.get?_push_size _ rfl) rfl, rfl⟩)
  exact (Heap.get?_update_other _ _ (Nat.ne_of_gt (Heap.lt_size (g2 b o e)))).trans (Heap.get?_push_of_some _ (g2 b o e))
theorem tup_end_hot {i : Nat} {its : Array Value} {Q : Option Value → Shared → Prop} (hot : HotAt A x1 s.heap) (ne : x1 ≠ it) (I : IsTupIter s.heap it tp i) (T : IsTup s.heap tp its) (over : its[i]? = none)
    (q : ∀ h', Heap.ExtBut it s.heap h' → Q none { s with heap := h' }) : wpAny (model P w) A (pyNext (.ref it)) Q Ex s := by
  obtain ⟨oi, gi, ci, di⟩ := id I
  obtain ⟨ot, gt, _, n, dt⟩ := id T
  obtain ⟨hh, o1, vs1, g1, d1, c1⟩ := id hot
  unfold pyNext
  refine wpAny_bind (wpAny_attempt (wpAny_callSpecial?_slot (name := Str.ofString "__next__") I.typeIs slot_tupleiter_next (wpAny_call_entry slot_tupleiter_next I.typeIs entry_tupleiter_next (wpAny_bind (m := field (.ref it) 0) (wpAny_field gi di (x := .ref tp) rfl ?_)) (args_tupleiter_next _))))
  rw [if_neg (by simp)]
  refine wpAny_bind (m := field (.ref it) 1) (wpAny_field gi di (x := .int i 0) rfl (wpAny_bind (m := seqItems? (.ref tp)) (wpAny_seqItems gt dt ?_)))
  simp only [Int.toNat_natCast, over]
  have same := Heap.SameBut.update s.heap it (Obj.mapFields (·.setIfInBounds 0 Value.none))
  refine wpAny_bind (wpAny_rule (wpAny_bind (wpAny_setField gi di (by simp) ?_)))
  refine stop_hot (s := { s with heap := s.heap.update it (Obj.mapFields (·.setIfInBounds 0 Value.none)) }) ⟨hh, o1, vs1, (same.2 x1 ne).trans g1, d1, c1⟩ fun e h' keep there => ?_
  exact wpAny_bind (wpAny_isInstance (T := "StopIteration") (b := true) there isSubtype_stop (wpAny_pure (q h' fun b o hb g => keep b o ((same.2 b hb).trans g))))
theorem unpack_hot {its : Array Value} {Q : List Value → Shared → Prop} (hot : HotAt A x1 s.heap) (T : IsTup s.heap tp its) (q : ∀ h', Heap.ExtBut s.heap.objs.size s.heap h' → Q its.toList { s with heap := h' }) :
    wpAny (model P w) A (unpackItems (.ref tp) its.size none) Q Ex s := by
  obtain ⟨hh, o1, vs1, g1, d1, c1⟩ := id hot
  obtain ⟨ot, gt, _⟩ := id T
  have nt : tp ≠ s.heap.objs.size := Nat.ne_of_lt (Heap.lt_size gt)
  have n1 : x1 ≠ s.heap.objs.size := Nat.ne_of_lt (Heap.lt_size g1)
  unfold unpackItems notIterableAtAll
  refine wpAny_bind (wpAny_bind (wpAny_specialOf T.typeIs slot_tuple_iter.lookup (wpAny_pure ?_)))
  rw [if_neg (by simp)]
  refine wpAny_bind (wpAny_holding (iter_tuple T (wpAny_bind (wpAny_holding (draw_tuple nt its.size 0 _ _ ⟨_, Heap.get?_push_size _ rfl, rfl, rfl⟩ (T.push _) (by omega) fun h2 I2 sb => ?_)))))
  have all : (its.toList.drop 0).take its.size = its.toList := by rw [List.drop_zero, List.take_of_length_le (by simp)]
  rw [all, if_neg (by simp)]
  have up : ∀ b o, b ≠ s.heap.objs.size → s.heap.get? b = some o → h2.get? b = some o := fun b o hb g => sb.extBut b o hb (Heap.get?_push_of_some _ g)
  refine wpAny_bind (wpAny_holding (tup_end_hot (x1 := x1) ⟨hh, o1, vs1, up x1 o1 n1 g1, d1, c1⟩ n1 I2 ((T.push _).extBut sb.extBut nt) (by simp) fun h3 ext => ?_))
  simp only [Option.isSome_none, Bool.false_eq_true, if_false]
  exact wpAny_pure (q h3 fun b o hb g => ext b o hb (up b o hb g))
end
end DL
namespace DL
open PySem PySem.Spec PyProof.Rows HotX L2
/-- a, b = x, y where an exception is handled -/
theorem ps_parHot {X : Cx} {i j : Nat} {x y : Str} {a b : Expr} {ta : TA} {px py pt p2 : Pos} {k1 k2 : Nat} (hot : L2H.HotC X) (nd : X.N.Nodup) (hi : X.N[i]? = some x) (hj : X.N[j]? = some y) (ne : i ≠ j) (lx : X.env.scope.names.lookup x = some .local) (ly : X.env.scope.names.lookup y = some .local) (args : PA X [a, b] ta)
    (sw : swappedStores [.Tuple [.Name x px, .Name y py] k1 pt] (.Tuple [a, b] k2 p2) X.env = pure (some [x, y])) (so : swapsWithSole [.Tuple [.Name x px, .Name y py] k1 pt] (.Tuple [a, b] k2 p2) pos.line X.env = pure false) :
    PS X (.Assign [.Tuple [.Name x px, .Name y py] k1 pt] (.Tuple [a, b] k2 p2) pos) (tPar i j ta) := ⟨fun pins s σ H D I h => by
  rw [exec_Assign_arm]
  refine wpAny_bind (wpAny_standAt ?_)
  rw [so]
  refine wpAny_bind (wpAny_pure ?_)
  rw [if_neg Bool.false_ne_true]
  refine wpAny_bind (Tuple_ (thn (args.run p2 pins s σ H _ I h) fun us s1 ⟨_, H1, I1, vals, v, w, ev, done⟩ => ?_))
  subst ev
  obtain ⟨u1, u2, rfl, r1, r2⟩ := vals2 vals
  refine wpAny_newObj_type ?_ (by show 2 ≤ sizeLine; decide)
  rw [sw]
  refine wpAny_bind (wpAny_pure ?_)
  have J : Inv X pins σ H1 { s1 with heap := s1.heap.push { cls := .type "tuple", data := .seq [u1, u2].toArray } } := I1.kept (t' := s1.toks) fun _ _ g => Heap.get?_push_of_some _ g
  obtain ⟨x1, at1⟩ := hot.at J
  refine wpAny_bind (m := rule "assign.swapped-stores") (wpAny_rule (wpAny_bind (m := unpackItems (.ref s1.heap.objs.size) 2 none) (unpack_hot (its := #[u1, u2]) at1 (IsTup.new s1.heap _) fun h2 ext => ?_)))
  have J2 := J.kept (h' := h2) (t' := s1.toks) fun b o g => ext b o (Nat.ne_of_lt (Heap.lt_size g)) g
  refine wpAny_bind (m := assignInOrder [fun v => bindName X.env y v, fun v => bindName X.env x v] [u2, u1]) (assignInOrder_cons (wpAny_bindName (store_ok J2 nd hj (.inl ly) r2 (fun s3 J3 => assignInOrder_cons (wpAny_bindName (store_ok J3 nd hi (.inl lx) r1 (fun s4 J4 => assignInOrder_nil (wpAny_pure ⟨_, H1, ?_, done⟩)) (.inr lx)))) (.inr ly))))
  rw [List.set_comm _ _ ne]
  exact J4⟩
end DL
namespace DL
open PySem L2
theorem takes0N {X : Cx} : L2N.Takes X W0 := fun _ _ ⟨_, _, _, _, _, _, _, _, _, _, _, _, _, _, _, _, w⟩ => w.elim
theorem hot_suite {X : Cx} {a : Addr} {oe : Obj} {cls : Value} {d : Option Addr} {pn : List (Addr × Obj)} (hz : L2N.Zn cls d oe) (hv : ∃ vs, oe.data = .fields vs) : L2H.HotC (X.suite a ((a, oe) :: pn)) :=
  let ⟨vs, e⟩ := hv
  ⟨(a, oe), ⟨rfl, vs, e, hz.2.2 vs e⟩, List.mem_cons_self⟩
/-! ### try, by mirrors -/
structure Hd where
  catch_ : Nat → Option Bool
  slot : Option Nat
  su : Ex → MS
def noX (o : OS) : OS := match o with
  | .exc _ _ _ => .stuck
  | o => o
def unO (i : Nat) (o : OS) : OS := match o with
  | .nx ρ S => .nx (ρ.set i none) S
  | .bk ρ S => .bk (ρ.set i none) S
  | .ct ρ S => .ct (ρ.set i none) S
  | .rt d S => .rt d S
  | _ => .stuck
def tryH : List Hd → Ex → Env → Sto → OS
  | [], e, ρ, S => .exc e ρ S
  | h :: r, e, ρ, S => match h.catch_ e.c with
    | none => .stuck
    | some false => tryH r e ρ S
    | some true => match h.slot with
      | none => noX (h.su e ρ S)
      | some i => if i < ρ.length then unO i (h.su e (ρ.set i none) S) else .stuck
def sTry (mb : MS) (hs : List Hd) : MS := fun ρ S => match mb ρ S with
  | .exc e ρ' S' => tryH hs e ρ' S'
  | o => o
abbrev tsD (U U' : Addr → Uv) (su : Ex → MS) : Addr → Value → Option Addr → TS := fun a cls d Dn σ H => ∃ e : Ex, cls = .ref ((U a).cl e.c) ∧ (e.fs = [] → d = none) ∧ tS (U' a) W0 (su e) Dn σ H
section
variable {U : Uv} {M : Mp} {S : Sto} {ρ : Env} {σ : L2.St} {H : Hp} {i : Nat} {a : Addr}
theorem At.fixed (hf : U.f = []) (A : At U M S ρ σ H) (hi : i < ρ.length) : At (U.fix [(i, a)]) M S (ρ.set i none) (σ.set i (some (.ref a))) H :=
  ⟨A.r.fix, SlotRep.fix (SlotRep.unset A.sl), by rw [List.length_set, List.length_set]; exact A.len, fun p hp => by
    rcases List.mem_singleton.mp hp with rfl
    exact List.getElem?_set_self (by rw [← A.len]; exact hi)⟩
theorem At.unfixed (hf : U.f = []) (A : At (U.fix [(i, a)]) M S ρ σ H) : At U M S (ρ.set i none) (σ.set i none) H :=
  ⟨R.fix (U := U.fix [(i, a)]) (l := U.f) A.r, SlotRep.fix (U := U.fix [(i, a)]) (l := U.f) (SlotRep.unset A.sl), by rw [List.length_set, List.length_set]; exact A.len, fun p hp => by rw [hf] at hp; cases hp⟩
end
/-- one clause with a name: what it wishes of the body's exceptions -/
theorem try1_post {U : Uv} {K : PySem.W.Frag} {c : Value} {i : Nat} {ca : Nat → Option Bool} {su : Ex → MS} (hf : U.f = []) (hm : ∀ k b, ca k = some b → PySem.W.exmOne K (.ref (U.cl k)) c = some b) {M : Mp} {S : Sto} {ρ : Env} {σ : L2.St} {H : Hp} {W : WX} {Dn : Ends} {e : Ex} {cv : Value} {dd : Option Addr}
    (A : At U M S ρ σ H) (xa : ExAt U M H e cv dd) (p : PostS U M H W (tryH [⟨ca, some i, su⟩] e ρ S) Dn) : wAs K c i (tsD (fun _ => U) (fun a => U.fix [(i, a)]) su) W Dn cv dd σ H := by
  have hd0 : e.fs = [] → dd = none := fun z => xa.2.elim (fun q => q.2) fun ⟨_, _, n, _⟩ => absurd z n
  have ecv := xa.1
  unfold tryH at p
  cases q : ca e.c with
  | none => simp only [q] at p; exact p.elim
  | some b =>
    refine ⟨b, by rw [ecv]; exact hm _ _ q, fun eb a ha => ?_, fun eb => ?_⟩
    · subst eb
      simp only [q] at p
      by_cases hl : i < ρ.length
      · rw [if_pos hl] at p
        refine ⟨e, ecv, hd0, M, S, ρ.set i none, A.fixed hf hl, ?_⟩
        revert p
        cases su e (ρ.set i none) S with
        | nx ρ2 S2 => exact fun p M' H' σ' ex A' => p M' H' _ ex (A'.unfixed hf)
        | bk ρ2 S2 => exact fun p M' H' σ' ex A' => p M' H' _ ex (A'.unfixed hf)
        | ct ρ2 S2 => exact fun p M' H' σ' ex A' => p M' H' _ ex (A'.unfixed hf)
        | rt d S2 => exact fun p M' H' v ex r rd => p M' H' v ex (R.fix (U := U.fix [(i, a)]) (l := U.f) r) (Rep.fix (U := U.fix [(i, a)]) (l := U.f) rd)
        | exc e2 ρ2 S2 => exact fun p => p.elim
        | stuck => exact fun p => p.elim
      · rw [if_neg hl] at p; exact p.elim
    · subst eb
      simp only [q] at p
      exact p M H σ cv dd A.refl A xa
section
variable {X : Cx} {U : Uv} {W : WX} {body suite : List Stmt} {b₀ : Stmt} {pos pos' np : Pos} {mb : MS} {x n : Str} {c : Value} {ca : Nat → Option Bool} {su : Ex → MS}
theorem s_try (i : Nat) (nd : X.N.Nodup) (tk : L2N.Takes X W) (hb : ∀ (W : WX) (pn : List (Addr × Obj)) (xe : Value → Shared → Prop), L2N.Takes (X.tr pn xe) W → PassesOwn (model X.prog X.w) X.A X.env xe → PSs (X.tr pn xe) body (tS U W mb)) (hc : Names X x c) (hm : ∀ k b, ca k = some b → PySem.W.exmOne X.K (.ref (U.cl k)) c = some b)
    (hsu : ∀ (a : Addr) (oe : Obj) (e : Ex) (d : Option Addr) (pn : List (Addr × Obj)), L2N.Zn (.ref (U.cl e.c)) d oe → (∃ vs, oe.data = .fields vs) → (e.fs = [] → d = none) → PSs (X.suite a ((a, oe) :: pn)) (b₀ :: suite) (tS (U.fix [(i, a)]) W0 (su e))) (hf : U.f = [])
    (hi : X.N[i]? = some n := by rfl) (hln : X.env.kindOf n = some .local := by rfl) (hst : X.stack = X.env :: X.outer := by rfl) (hfr : X.env.frame = some X.env.locals := by rfl) : PS X (.Try body [.ExceptHandler (some (.Name x np)) (some n) (b₀ :: suite) pos'] [] [] pos) (tS U W (sTry mb [⟨ca, some i, su⟩])) :=
  ps_imp (L2N.ps_try_as (tb := fun W => tS U W mb) (ts := tsD (fun _ => U) (fun a => U.fix [(i, a)]) su) hst hfr nd hi hln hc tk hb fun a oe cls d pn hz hv => ⟨fun pins s σ H Dn I ⟨e, e1, e2, t⟩ => by subst e1; exact (hsu a oe e d pn hz hv e2).run pins s σ H Dn I t⟩) fun Dn σ H ⟨M, S, ρ, A, p⟩ => by
    refine ⟨M, S, ρ, A, ?_⟩
    unfold sTry at p
    cases q : mb ρ S with
    | exc e ρ2 S2 =>
      rw [q] at p
      exact fun M' H' σ' cv dd ex A' xa => try1_post hf hm A' xa (PostS.ext ex p)
    | nx ρ2 S2 => rw [q] at p; exact p
    | bk ρ2 S2 => rw [q] at p; exact p
    | ct ρ2 S2 => rw [q] at p; exact p
    | rt d S2 => rw [q] at p; exact p
    | stuck => rw [q] at p; exact p
/-- a, b = e1, e2 within an except suite -/
theorem s_parH (i j : Nat) {x y : Str} {a b : Expr} {ma : MA} {px py pt : Pos} {kt k2 : Nat} {pt2 : Pos} (hc : L2H.HotC X) (hN : X.N.Nodup) (ha : PA X [a, b] (tA U W ma)) (hn : Nf U i) (hn2 : Nf U j) (hi : X.N[i]? = some x := by rfl) (hj : X.N[j]? = some y := by rfl) (hij : i ≠ j := by decide)
    (hx : X.env.scope.names.lookup x = some .local := by rfl) (hy : X.env.scope.names.lookup y = some .local := by rfl)
    (hw : swappedStores [.Tuple [.Name x px, .Name y py] kt pt] (.Tuple [a, b] k2 pt2) X.env = pure (some [x, y]) := by rfl)
    (hs : swapsWithSole [.Tuple [.Name x px, .Name y py] kt pt] (.Tuple [a, b] k2 pt2) pos.line X.env = pure false := by rfl) :
    PS X (.Assign [.Tuple [.Name x px, .Name y py] kt pt] (.Tuple [a, b] k2 pt2) pos) (tS U W (sPar i j ma)) :=
  ps_imp (ps_parHot hc hN hi hj hij hx hy ha hw hs) fun Dn σ H ⟨M, S, ρ, A, p⟩ => tX.ofS A p fun ds S1 M1 H1 vs e1 A1 r1 p1 => by
    cases r1 with
    | nil => exact p1.elim
    | cons h1 r1 => cases r1 with
      | nil => exact p1.elim
      | cons h2 r1 => cases r1 with
        | cons _ _ => exact p1.elim
        | nil => exact ⟨_, _, rfl, p1 M1 H1 _ A1.refl ((A1.set h1 hn).set h2 hn2)⟩
end
end DL
/-! DL7: sorted, of data, with and without a def as its key. -/
namespace DL
open PySem PySem.Spec PySem.Calls PyProof.Rows PySem.W PySem.SeqAt
/-- u reads as d -/
abbrev Rds (h : Heap) (u : Value) (d : PyData) : Prop := ∃ as, Reads h u d as
section
variable {P : Program} {w : World} {A : Around} {s : Shared}
/-- tuple.__lt__ of two tuples, by what their items say -/
theorem tupLt_call {E Q : Value → Shared → Prop} {p q : Addr} {us ws : Array Value} {eq lt : Nat → Bool} (hp : s.heap.IsTuple p us) (hq : s.heap.IsTuple q ws) (ie : ∀ n (x : n < us.size) (y : n < ws.size), EqAt A.in1 s us[n] ws[n] (eq n))
    (il : ∀ n (x : n < us.size) (y : n < ws.size), eq n = false → RcLt A.in1 s us[n] ws[n] (lt n)) (z : Q (.bool (firstLt eq lt (decide (us.size < ws.size)) (List.range (min us.size ws.size)))) s) : wpAny (model P w) A (call (.builtin "tuple.__lt__") [.ref p, .ref q]) Q E s := by
  obtain ⟨⟨op, _, vp, _⟩, gp, cp, np, dp⟩ := hp
  obtain ⟨⟨oq, _, vq, _⟩, gq, cq, nq, dq⟩ := hq
  have cp' : op = _ := cp
  have cq' : oq = _ := cq
  have dp' : vp = _ := dp
  have dq' : vq = _ := dq
  subst cp' cq' dp' dq'
  exact call_meets F.slot_tuple_lt ⟨_, gp, rfl⟩ F.entry_tuple_lt (F.args_tuple_lt_2 _ _) (tuple_ltAt p q us ws np nq _ _ _ _ eq lt) ⟨gp, gq, ie, il, z⟩
/-- two tuples as keys of one type -/
theorem tupLt_key {E : Value → Shared → Prop} {xs ys : List PyData} {u v : Value} {Q : Bool → Shared → Prop} (ru : Rds s.heap u (.tuple xs)) (rv : Rds s.heap v (.tuple ys)) (al : alike (.tuple xs) (.tuple ys) = true) (room : A.units + min (PyData.tuple xs).depth (PyData.tuple ys).depth < cLine)
    (q : Q (dataLt (.tuple xs) (.tuple ys)) s) : wpAny (model P w) A (oneLt' true u v) Q E s := by
  obtain ⟨au, ru⟩ := ru
  obtain ⟨av, rv⟩ := rv
  have al' : alikeAll xs ys = true := by simpa only [alike] using al
  cases ru with
  | @tuple p op us np _ bu gp cp dp ip =>
    cases rv with
    | @tuple p' oq ws nq _ bv gq cq dq iq =>
      have lu : us.size = xs.length := (Array.length_toList (xs := us)).symm.trans (ReadsAll.length _ _ _ ip)
      have lw : ws.size = ys.length := (Array.length_toList (xs := ws)).symm.trans (ReadsAll.length _ _ _ iq)
      have q' : Q (firstLt (pairEq xs ys) (fun n => dataLt (xs.getD n .none) (ys.getD n .none)) (decide (us.size < ws.size)) (List.range (min us.size ws.size))) s := by
        rw [lu, lw, firstLt_toks xs ys al', ← dataLt_tuple]; exact q
      rw [oneLt'_eq, if_pos rfl]
      refine wpAny_bind (wpAny_cRoomFor (room_here room) (wpAny_bind (wpAny_callSpecialIfBound?_slot (T := "tuple") ⟨_, gp, cp⟩ F.slot_tuple_lt (tupLt_call ⟨_, gp, cp, _, dp⟩ ⟨_, gq, cq, _, dq⟩ (fun n x y => ?_) (fun n x y ne => ?_) (wpAny_truthy_bool q')))))
      · exact eqAt_alikeAll xs ys A.in1 s us.toList ws.toList _ _ ip iq al' (room_in room) n x y
      · exact rcLt_alikeAll xs ys A.in1 s us.toList ws.toList _ _ ip iq al' (room_in room) n x y ne
/-- the first items of keys that are tuples: none of an empty one -/
theorem tup_firsts : ∀ {us : List Value} {ds : List PyData}, EachIs (Rds s.heap) us ds → (∀ d ∈ ds, ∃ xs, d = .tuple xs) →
    ∃ fs : List (Option Value), (ds.head? = some (.tuple []) → fs.head? = some none) ∧ ∀ (M : Model) (E : Value → Shared → Prop) (Q : List (Option Value) → Shared → Prop), Q fs s → wpAny M A (us.mapM firstOfTuple') Q E s
  | _, _, .nil, _ => ⟨[], fun z => (by cases z), fun M E Q q => by rw [List.mapM_nil]; exact wpAny_pure q⟩
  | _, _, .cons (b := d) ⟨_, r⟩ more, tu => by
    obtain ⟨fs, _, run⟩ := tup_firsts more fun x m => tu x (List.mem_cons_of_mem _ m)
    obtain ⟨xs, rfl⟩ := tu d List.mem_cons_self
    cases r with
    | @tuple p o its n _ _ g cl dt ri =>
      refine ⟨its[0]? :: fs, fun z => ?_, fun M E Q q => ?_⟩
      · have nil : xs = [] := by simpa using z
        subst nil
        have none_ : its[0]? = none := Array.getElem?_eq_none (Nat.le_of_eq ((Array.length_toList (xs := its)).symm.trans (ReadsAll.length _ _ _ ri)))
        rw [none_]; rfl
      · have ty : Looks M s.heap (typeOf (.ref p)) (.type "tuple") := cl ▸ (Looks.ld g).andThen .now
        rw [List.mapM_cons, kas_first_eq]
        refine wpAny_bind (wpAny_bind (ty.here ?_))
        rw [if_neg (by decide)]
        exact wpAny_bind (listItems_at g dt (wpAny_pure (wpAny_bind (run M E _ (wpAny_pure q)))))
/-- tuples can be sorted, too, where the first of them is empty -/
theorem sorts_tups {us : List Value} {ds : List PyData} (rd : EachIs (Rds s.heap) us ds) (al : AllAlike ds) (tu : ∀ d ∈ ds, ∃ xs, d = .tuple xs) (first : ds.head? = some (.tuple [])) (deep : ∀ d ∈ ds, A.units + d.depth < cLine) : SortsAt P w A s (dataKind s.heap ds) us where
  keys := fun v m => let ⟨_, md, _, r⟩ := rd.left v m; ⟨_, dataKind_some al md r⟩
  kind := by
    refine ⟨oneType', fun E x y kx ky Q hx hy q => ?_, fun two E Q q => ?_⟩
    · obtain ⟨dx, ax, mx, rx, ex⟩ := dataKind_inv hx
      obtain ⟨dy, ay, my, ry, ey⟩ := dataKind_inv hy
      subst ex ey
      have a := al dx mx dy my
      have dp := deep dx mx
      obtain ⟨xs, rfl⟩ := tu dx mx
      obtain ⟨ys, rfl⟩ := tu dy my
      exact tupLt_key ⟨_, rx⟩ ⟨_, ry⟩ a (by omega) q
    · obtain ⟨fs, hd, run⟩ := tup_firsts (A := A) rd tu
      have fst := hd first
      match fs, fst with
      | none :: more, _ =>
        have allT : ∀ v ∈ us, Looks (model P w) s.heap (typeOf v) (.type "tuple") := fun v m => by
          obtain ⟨d, md, _, r⟩ := rd.left v m
          obtain ⟨xs, rfl⟩ := tu d md
          exact looks_reads r
        have one : ∀ (vs : List Value), 2 ≤ vs.length → ((vs.map fun _ => Value.type "tuple").toArray[0]? = some (.type "tuple")) ∧ ((vs.map fun _ => Value.type "tuple").toArray.all (· == Value.type "tuple")) = true := fun vs l => by
          cases vs with
          | nil => simp at l
          | cons v r => exact ⟨rfl, by simp⟩
        obtain ⟨o1, o2⟩ := one us two
        rw [keyKind'_eq, List.mapM_toArray, map_eq_pure_bind]
        refine wpAny_bind (wpAny_bind (run _ _ _ (wpAny_pure ?_)))
        simp only [List.all_toArray, List.all_cons, Option.isSome_none, Bool.false_and, Bool.false_eq_true, if_false]
        rw [if_neg (by simp), oneTypeOnly'_eq, List.mapM_toArray, map_eq_pure_bind]
        refine wpAny_bind (wpAny_bind (wpAny_bind (kas_mapM (r := Value.type "tuple") us (fun v m Q' q' => (allT v m).here q') (wpAny_pure ?_))))
        rw [o1]
        simp only [o2, if_true]
        exact wpAny_pure (wpAny_pure q)
end
end DL
namespace PySem.W
open PySem PySem.SeqAt PyProof.Rows
/-- data that sort takes -/
def SortOk (ds : List PyData) : Prop := Sortable ds ∨ ((∀ d, d ∈ ds → ∃ xs, d = .tuple xs) ∧ ds.head? = some (.tuple []))
theorem dl_sortsAt {P : Program} {w : World} {A : Around} {s : Shared} {us : List Value} {ds : List PyData} (rd : EachIs (DL.Rds s.heap) us ds) (al : AllAlike ds) (ok : SortOk ds) (deep : ∀ d ∈ ds, A.units + d.depth < cLine) : SortsAt P w A s (dataKind s.heap ds) us :=
  ok.elim (fun z => SortsAt.data rd al z deep) fun z => DL.sorts_tups rd al z.1 z.2 deep
end PySem.W
namespace L2
open PySem PySem.Spec PyProof.Rows PySem.W
/-- values and their data -/
def rSortD (K : PySem.W.Frag) (A : Around) : List V → Hp → VK → Prop := fun vs H Q => ∃ (β : Type) (a : Addr) (bs : List β) (f : β → V) (enc : β → PyData), vs = [V.ref a] ∧ SqL K H a (bs.map f) ∧ (∀ b ∈ bs, Dp K H (f b) (enc b)) ∧ AllAlike (bs.map enc) ∧ SortOk (bs.map enc) ∧ bs.length ≤ sizeLine ∧
  (∀ b ∈ bs, A.units + 2 + (enc b).depth < cLine) ∧ ∀ p, H p = none → Q (.ref p) (upd H p (.lst ((bs.mergeSort (dataLe false enc)).map f)))
theorem each_vals {β : Type} {f : β → V} : ∀ {bs : List β} {us : List Value}, Vals (bs.map f) us → EachIs (fun u b => RelV (f b) u) us bs
  | [], _, r => by cases r; exact .nil
  | b :: bs, _, r => by
    cases r with
    | cons h t => exact .cons h (each_vals t)
theorem vals_each {β : Type} {f : β → V} : ∀ {bs : List β} {us : List Value}, EachIs (fun u b => RelV (f b) u) us bs → Vals (bs.map f) us
  | _, _, .nil => .nil
  | _, _, .cons h t => .cons h (vals_each t)
theorem each_reads {X : Cx} {pins : List (Addr × Obj)} {σ : St} {H : Hp} {s : Shared} {β : Type} {f : β → V} {enc : β → PyData} (I : Inv X pins σ H s) : ∀ {bs : List β} {us : List Value}, Vals (bs.map f) us → (∀ b ∈ bs, Dp X.K H (f b) (enc b)) → EachIs (fun u b => ∃ as, Reads s.heap u (enc b) as) us bs
  | [], _, r, _ => by cases r; exact .nil
  | b :: bs, _, r, h => by
    cases r with
    | cons h1 t => exact .cons (Dp.reads I _ _ _ (h b List.mem_cons_self) h1) (each_reads I t fun b hb => h b (List.mem_cons_of_mem _ hb))
theorem cr_sortD {X : Cx} : CallR X (.builtin "sorted") (rSortD X.K X.A) := by
  intro pins s σ H vs us Q I r h
  obtain ⟨β, a, bs, f, enc, rfl, hs, hd, hal, hk, hL, hu, q⟩ := h
  obtain ⟨its, rv, hl, hz⟩ := I.list hs
  rw [Vals.ref1 r]
  have rd2 : EachIs (fun u b => DL.Rds (sortingHeap (copyHeap s.heap its) (s.heap.objs.size + 1) its) u (enc b)) its bs := (each_reads I rv hd).mono fun _ _ ⟨as, r⟩ => ⟨as, PyProof.Rows.Reads.keeps (fun _ _ => sorting_copy_old) r⟩
  have lb : its.length = bs.length := rv.length.symm.trans (List.length_map ..)
  have h2 := sortVals_data false (each_vals rv) rd2 hal
  refine sorted_vals hl.isList (dl_sortsAt (s := { s with heap := sortingHeap (copyHeap s.heap its) (s.heap.objs.size + 1) its }) (each_map (R := DL.Rds (sortingHeap (copyHeap s.heap its) (s.heap.objs.size + 1) its)) enc rd2) hal hk fun d m => ?_) (by rw [lb]; exact hL) ?_
  · obtain ⟨b, mb, rfl⟩ := List.mem_map.mp m
    exact hu b mb
  generalize sortVals (dataKind (sortingHeap (copyHeap s.heap its) (s.heap.objs.size + 1) its) (bs.map enc)) false its its = out at h2 ⊢
  obtain ⟨ep, he'⟩ := PyProof.Rows.sortedAll_at s.heap its out.toArray
  have hlen : ((bs.mergeSort (dataLe false enc)).map f).length ≤ sizeLine := by
    rw [List.length_map, List.length_mergeSort]; exact hL
  exact ⟨.ref _, upd H (s.heap.objs.size + 1) (.lst ((bs.mergeSort (dataLe false enc)).map f)), I.laid (t' := s.toks) (fun _ _ => PyProof.Rows.sortedAll_old) (Nat.le_succ _) ⟨hlen, out, ep, vals_each h2, he'⟩, rfl, q _ (I.hok.fresh (Nat.le_succ _))⟩
end L2
namespace DL
open PySem L2
/-- a list's items -/
def seqL (S : Sto) : D → Option (List D)
  | .tup _ => none
  | d => seqD S d
def tupB : PyData → Bool
  | .tuple _ => true
  | _ => false
def tupNE : PyData → Bool
  | .tuple (_ :: _) => true
  | _ => false
def okSort (ps : List PyData) : Bool := ps.all (fun a => a.plain && decide (a.depth ≤ 60) && ps.all fun b => PySem.W.alike a b) && decide (ps.length ≤ lim) &&
  (ps.all tupNE || ps.all (fun a => !tupB a && !(match a with | .none => true | _ => false)) || (ps.all tupB && (match ps with | .tuple [] :: _ => true | _ => false)))
/-- sorting that the kernel can do -/
def ins {α : Type} (le : α → α → Bool) (a : α) : List α → List α
  | [] => [a]
  | b :: r => if le a b then a :: b :: r else b :: ins le a r
def isort {α : Type} (le : α → α → Bool) : List α → List α
  | [] => []
  | a :: l => ins le a (isort le l)
theorem ins_app {α : Type} {le : α → α → Bool} {a : α} : ∀ {l1 l2 : List α}, (∀ b ∈ l1, le a b = false) → (∀ b ∈ l2, le a b = true) → ins le a (l1 ++ l2) = l1 ++ a :: l2
  | [], [], _, _ => rfl
  | [], b :: r, _, h => by
    show (if le a b then a :: b :: r else b :: ins le a r) = _
    rw [if_pos (h b List.mem_cons_self)]; rfl
  | b :: l1, l2, h1, h2 => by
    show (if le a b then a :: b :: (l1 ++ l2) else b :: ins le a (l1 ++ l2)) = _
    rw [if_neg (by rw [h1 b List.mem_cons_self]; decide), ins_app (fun c hc => h1 c (List.mem_cons_of_mem _ hc)) h2]; rfl
theorem isort_eq {α : Type} {le : α → α → Bool} (T : PySem.W.TotalLe le) : ∀ l : List α, isort le l = l.mergeSort le
  | [] => by simp [isort]
  | a :: l => by
    have tot : ∀ a b, (le a b || le b a) = true := fun a b => by rw [Bool.or_eq_true]; exact T.total a b
    obtain ⟨l1, l2, h1, h2, h3⟩ := List.mergeSort_cons T.trans tot a l
    have pw := List.pairwise_mergeSort T.trans tot (a :: l)
    rw [h1] at pw
    have h4 : ∀ b ∈ l2, le a b = true := fun b hb => List.rel_of_pairwise_cons (List.pairwise_append.mp pw).2.1 hb
    show ins le a (isort le l) = _
    rw [isort_eq T l, h2, h1]
    exact ins_app (fun b hb => by simpa using h3 b hb) h4
def sortD (ds : List D) : List D := isort (PySem.W.dataLe false toPy) ds
def sortedG (S : Sto) (ds : List D) : Option D := match ds with
  | [d] => (seqL S d).bind fun xs => if okSort (xs.map toPy) then some (.lst (sortD xs)) else none
  | _ => none
theorem okSort_of {ps : List PyData} (h : okSort ps = true) : PySem.W.AllAlike ps ∧ PySem.W.SortOk ps ∧ ps.length ≤ lim ∧ ∀ d ∈ ps, d.plain = true ∧ d.depth ≤ 60 := by
  unfold okSort at h
  simp only [Bool.and_eq_true, List.all_eq_true, decide_eq_true_eq, Bool.or_eq_true] at h
  obtain ⟨⟨h1, h2⟩, h3⟩ := h
  refine ⟨fun d hd d' hd' => (h1 d hd).2 d' hd', ?_, h2, fun d hd => (h1 d hd).1⟩
  rcases h3 with (h3 | h3) | h3
  · refine .inl (.inl fun d hd => ?_)
    have := h3 d hd
    match d, this with
    | .tuple (x :: r), _ => exact ⟨x, r, rfl⟩
  · refine .inl (.inr fun d hd => ?_)
    have := h3 d hd
    refine ⟨fun e => ?_, fun xs e => ?_⟩
    · subst e; simp at this
    · subst e; simp [tupB] at this
  · refine .inr ⟨fun d hd => ?_, ?_⟩
    · have := h3.1 d hd
      match d, this with
      | .tuple xs, _ => exact ⟨xs, rfl⟩
    · have := h3.2
      match ps, this with
      | .tuple [] :: _, _ => rfl
section
variable {U : Uv} {M : Mp} {H : Hp} {S : Sto}
theorem Rep.seqL' {v : V} {d : D} {ds : List D} (r : R U M S H) (h : Rep U M H v d) (e : seqL S d = some ds) : ∃ a xs, v = .ref a ∧ SqL U.K H a xs ∧ RepAll U M H xs ds := by
  cases d with
  | tup xs => cases e
  | lst xs =>
    cases e
    obtain ⟨a, ys, h1, h2, h3⟩ := h.lstV
    exact ⟨a, ys, h1, .inl (.inl h2), h3⟩
  | fz xs =>
    cases e
    cases h with
    | fz hf ra => exact ⟨_, _, rfl, hf.sq, ra⟩
  | obj i =>
    have e' : (match S[i]? with | some (.lst xs) => some xs | _ => none) = some ds := e
    cases q : S[i]? with
    | none => rw [q] at e'; cases e'
    | some o =>
      rw [q] at e'
      cases o with
      | ins _ _ => cases e'
      | lst xs =>
        cases e'
        obtain ⟨a, ys, h1, h2, h3, _⟩ := h.objL r q
        exact ⟨a, ys, h1, .inl (.inl h2), h3⟩
  | _ => cases e
theorem RepAll.zipV : ∀ {vs : List V} {ds : List D}, RepAll U M H vs ds → ((vs.zip ds).map (·.1)) = vs ∧ ((vs.zip ds).map (·.2)) = ds ∧ ∀ b ∈ vs.zip ds, Rep U M H b.1 b.2
  | _, _, .nil => ⟨rfl, rfl, fun b hb => by cases hb⟩
  | v :: vs, d :: ds, .cons h r => by
    obtain ⟨h1, h2, h3⟩ := RepAll.zipV r
    refine ⟨by simp only [List.zip_cons_cons, List.map_cons, h1], by simp only [List.zip_cons_cons, List.map_cons, h2], fun b hb => ?_⟩
    rcases List.mem_cons.mp hb with rfl | hb
    · exact h
    · exact h3 b hb
theorem RepAll.ofZip : ∀ {bs : List (V × D)}, (∀ b ∈ bs, Rep U M H b.1 b.2) → RepAll U M H (bs.map (·.1)) (bs.map (·.2))
  | [], _ => .nil
  | b :: bs, h => .cons (h b List.mem_cons_self) (RepAll.ofZip fun b hb => h b (List.mem_cons_of_mem _ hb))
theorem sortD_zip {bs : List (V × D)} : (bs.mergeSort (PySem.W.dataLe false fun b => toPy b.2)).map (·.2) = sortD (bs.map (·.2)) := by
  unfold sortD
  rw [isort_eq (le := PySem.W.dataLe false toPy) (PySem.W.sortLe_total _ _ _)]
  exact List.map_mergeSort (fun _ _ _ _ => rfl)
end
section
variable {X : Cx} {U : Uv} {k : Nat}
theorem c_sorted (hr : Room k X.A) (hK : X.K = U.K := by rfl) : CallD U X (.builtin "sorted") sortedG :=
  ofC (rSortD X.K X.A) cr_sortD fun M S H xs ds d Q r ra e g => by
    match ds, ra, e with
    | [d0], ra, e =>
      obtain ⟨v, rfl, h⟩ := ra.one
      have e' : ((seqL S d0).bind fun xs => if okSort (xs.map toPy) then some (D.lst (sortD xs)) else none) = some d := e
      cases q : seqL S d0 with
      | none => rw [q] at e'; cases e'
      | some ys =>
        rw [q] at e'
        change (if okSort (ys.map toPy) then some (D.lst (sortD ys)) else none) = some d at e'
        by_cases hk : okSort (ys.map toPy) = true
        · rw [if_pos hk] at e'
          cases e'
          obtain ⟨k1, k2, k3, k4⟩ := okSort_of hk
          obtain ⟨a, vs, rfl, hs, rv⟩ := h.seqL' r q
          obtain ⟨z1, z2, z3⟩ := rv.zipV
          have zm : (vs.zip ys).map (fun b => toPy b.2) = ys.map toPy := by
            rw [show (vs.zip ys).map (fun b => toPy b.2) = ((vs.zip ys).map (·.2)).map toPy from by rw [List.map_map]; rfl, z2]
          refine ⟨V × D, a, vs.zip ys, (·.1), fun b => toPy b.2, rfl, by rw [z1, hK]; exact hs, fun b hb => ?_, by rw [zm]; exact k1, by rw [zm]; exact k2, ?_, fun b hb => ?_, fun p hp => ?_⟩
          · rw [hK]
            exact (z3 b hb).dp (k4 _ (by rw [← zm]; exact List.mem_map.mpr ⟨b, hb, rfl⟩)).1
          · have : (vs.zip ys).length = ys.length := by
              have z := congrArg List.length z2
              rwa [List.length_map] at z
            rw [this]
            rw [List.length_map] at k3
            exact lim_line k3
          · have hd := (k4 _ (by rw [← zm]; exact List.mem_map.mpr ⟨b, hb, rfl⟩)).2
            have h1 := hr.un
            have h2 : (toPy b.2).depth ≤ 60 := hd
            show X.A.units + 2 + (toPy b.2).depth < cLine
            omega
          · have rr : RepAll U M H (((vs.zip ys).mergeSort (PySem.W.dataLe false fun b => toPy b.2)).map (·.1)) (sortD ys) := by
              have := RepAll.ofZip (U := U) (M := M) (H := H) (bs := (vs.zip ys).mergeSort (PySem.W.dataLe false fun b => toPy b.2)) fun b hb => z3 b (List.mem_mergeSort.mp hb)
              rwa [sortD_zip, z2] at this
            exact g.lst r rr hp
        · rw [if_neg hk] at e'; cases e'
end
end DL
/-! ### sorted(xs, key=f), f a def -/
namespace L2
open PySem PySem.Spec PyProof.Rows PySem.W
/-- an object no longer tracked -/
def hide (H : Hp) (k : Addr) : Hp := fun b => if b = k then none else H b
/-- all objects of a heap but these and those of the base -/
def others (h base : Heap) (ex : List Addr) : List (Addr × Obj) := (List.range h.objs.size).filterMap fun b => if b ∈ ex then none else match base.get? b, h.get? b with
  | none, some o => some (b, o)
  | _, _ => none
theorem oth_mem {h base : Heap} {ex : List Addr} {p : Addr × Obj} (m : p ∈ others h base ex) : h.get? p.1 = some p.2 ∧ p.1 ∉ ex ∧ base.get? p.1 = none := by
  obtain ⟨b, _, e⟩ := List.mem_filterMap.mp m
  by_cases q : b ∈ ex
  · rw [if_pos q] at e; cases e
  · rw [if_neg q] at e
    cases q1 : base.get? b with
    | some _ => rw [q1] at e; cases e
    | none =>
      cases q2 : h.get? b with
      | none => rw [q1, q2] at e; cases e
      | some o =>
        rw [q1, q2] at e
        cases e
        exact ⟨q2, q, q1⟩
theorem oth_all {h base : Heap} {ex : List Addr} {b : Addr} {o : Obj} (e : h.get? b = some o) (n : b ∉ ex) (nb : base.get? b = none) : (b, o) ∈ others h base ex :=
  List.mem_filterMap.mpr ⟨b, List.mem_range.mpr (Heap.lt_size e), by rw [if_neg n, nb, e]⟩
theorem ns_one {h : Heap} {a : Addr} {m m' : Str → Option Value} (x : h.Ns a m) (y : h.Ns a m') : m = m' := by
  obtain ⟨o, es, ep, g1, d1, _, e1⟩ := x
  obtain ⟨o2, es2, ep2, g2, d2, _, e2⟩ := y
  rw [g1] at g2
  cases g2
  rw [d1] at d2
  cases d2
  funext x
  exact (e1 x).symm.trans (e2 x)
/-- the sort's end, seen from here: all that stood stands, the keys' list is gone, the list is tracked -/
theorem Inv.sorted {X : Cx} {pins : List (Addr × Obj)} {σ : St} {H : Hp} {s : Shared} {h' : Heap} {a kS : Addr} {o : HO} {m : Str → Option Value} {t' : Nat} (I : Inv X pins σ H s) (F : FpOk X pins H a) (FK : FpOk X pins (hide H kS) kS) (hns : s.heap.Ns X.env.locals m) (hns' : h'.Ns X.env.locals m)
    (ks : ∃ xs, H kS = some (.lst xs)) (keep : ∀ b u, b ≠ a → b ≠ kS → b ≠ X.env.locals → s.heap.get? b = some u → h'.get? b = some u) (new : ObjOk X.prog X.w (upd (hide H kS) a o) h' a o) : Inv X pins σ (upd (hide H kS) a o) { s with heap := h', toks := t' } := by
  obtain ⟨f0, f1, f2, f3, f4, f5⟩ := F
  obtain ⟨_, k1, k2, k3, k4, k5⟩ := FK
  obtain ⟨xs, hk⟩ := ks
  have tr : ∀ b u, H b = some u → b ≠ kS → upd (hide H kS) a o b = some u := fun b u e n => by
    rw [upd_ne fun z => by rw [z, f0] at e; cases e]
    show (if b = kS then none else H b) = _
    rw [if_neg n]; exact e
  have un : ∀ b, b ≠ a → H b = none → upd (hide H kS) a o b = none := fun b n e => by
    rw [upd_ne n]
    show (if b = kS then none else H b) = _
    by_cases q : b = kS
    · rw [if_pos q]
    · rw [if_neg q]; exact e
  have outA : ∀ b, b ∉ [a, kS] → b ≠ a ∧ b ≠ kS := fun b hb => ⟨fun z => hb (by simp [z]), fun z => hb (by simp [z])⟩
  refine I.step (g' := s.gens) (d' := s.drawn) (ch := [a, kS]) (fun b hb => ?_) (fun b u hL _ hc e _ => keep b u (outA b hc).1 (outA b hc).2 hL e) (fun b u hL _ hc e _ => ⟨u.slots, keep b u (outA b hc).1 (outA b hc).2 hL e⟩) (fun b _ hc _ n => un b (outA b hc).1 n)
    (fun b u hc e => ?_) (fun b xs e => tr b _ e fun z => by rw [z, hk] at e; cases e) (fun b u v e => tr b _ e fun z => by rw [z, hk] at e; cases e) (fun b ps e => ⟨#[], by rw [tr b _ e fun z => by rw [z, hk] at e; cases e]; simp⟩) (fun m2 hm => by rw [← ns_one hns hm]; exact hns') (fun b u e => ?_) I.bare
  · rcases List.mem_cons.mp hb with rfl | hb
    · exact ⟨f3, f1, f4, f5⟩
    · rw [List.mem_singleton.mp hb]; exact ⟨k3, k1, k4, k5⟩
  · by_cases hL : b = X.env.locals
    · obtain ⟨o', _, _, g, _⟩ := hns'
      exact ⟨o', by rw [hL]; exact g⟩
    · exact ⟨u, keep b u (outA b hc).1 (outA b hc).2 hL e⟩
  · by_cases hb : b = a
    · subst hb; rw [upd_same] at e; cases e; exact new
    · rw [upd_ne hb] at e
      have e1 : (if b = kS then none else H b) = some u := e
      by_cases q : b = kS
      · rw [if_pos q] at e1; cases e1
      · rw [if_neg q] at e1
        have nL : ∀ c v, H c = some v → c ≠ X.env.locals := fun c v z y => by rw [y, I.free] at z; cases z
        refine (I.hok b u e1).stay (fun c v hc g => ?_) (fun c g => tr c _ g fun z => by rw [z, hk] at g; cases g) fun c ys g => tr c _ g fun z => by rw [z, hk] at g; cases g
        rcases hc with z | z
        · rw [z] at g ⊢; exact keep b v hb q (nL b _ e1) g
        · exact keep c v (fun y => by rw [y, f0] at z; cases z) (fun y => by rw [y, hk] at z; cases z) (nL c _ z) g
/-- what a key def's calls want: Pv by the turn, the keys so far, the heap; the keys' list at kS -/
def rSortK (K : PySem.W.Frag) (A : Around) (sp : Sp) (E : XK) (x : V) (H : Hp) (Q : VK) : Prop := ∃ (l : Addr) (xs : List V), x = V.ref l ∧ SqL K H l xs ∧ ∀ kS, H kS = none → ∃ Pv : Nat → List V → Hp → Prop, Pv 0 [] (upd H kS (.lst [])) ∧ (∀ i ks H', Pv i ks H' → H' kS = some (.lst ks)) ∧
  (∀ i y ks H', xs[i]? = some y → Pv i ks H' → sp [y] H' (fun k H'' => H'' kS = some (.lst ks) ∧ Pv (i + 1) (ks ++ [k]) (upd H'' kS (.lst (ks ++ [k])))) E) ∧
  (∀ ks H', Pv xs.length ks H' → ∃ (β : Type) (bs : List β) (fk fv : β → V) (enc : β → PyData), ks = bs.map fk ∧ xs = bs.map fv ∧ (∀ b ∈ bs, Dp K H' (fk b) (enc b)) ∧ AllAlike (bs.map enc) ∧ SortOk (bs.map enc) ∧ (∀ b ∈ bs, A.units + 2 + (enc b).depth < cLine) ∧
    ∀ p, H' p = none → p ≠ kS → Q (.ref p) (upd (hide H' kS) p (.lst ((bs.mergeSort (dataLe false enc)).map fv))))
theorem Around.units_in2 {A : Around} : A.in1.in1.units ≤ A.units + 2 := by
  show A.units + 1 + 1 ≤ A.units + 2
  exact Nat.le_refl _
theorem run_sortK {X : Cx} {pins : List (Addr × Obj)} {σ : St} {H : Hp} {s : Shared} {CX : CXT} {k : Nat} {f : Addr} {fd : FuncData} {ps : List Str} {sp : Sp} {E : XK} {x : V} {u : Value} {Q : VK}
    (F : FnOk X.prog X.w X.K X.mg X.base CX k f fd ps sp) (hr : Room (k + 2) X.A) (hb : Binds X.K fd ps []) (hE : ∀ outer H s e s', ¬ CX outer H s E e s') (I : Inv X pins σ H s) (rx : RelV x u) (h : rSortK X.K X.A sp E x H Q) :
    wpAny (model X.prog X.w) X.A (call (.builtin "sorted") [u] [(Str.ofString "key", .ref f)]) (EP X pins σ Q) X.xe s := by
  obtain ⟨l, xs, rfl, hs, hk⟩ := h
  cases rx
  obtain ⟨its, rv, hl, hz⟩ := I.list hs
  have hzi : its.length ≤ sizeLine := by rw [← rv.length]; exact hz
  refine sorted_of_sort hl.isList hzi (ksk_s1 _ _) (fun _ => ksk_l1 _ _) fun E' => ?_
  rw [ksk_t1]
  generalize hh0 : copyHeap s.heap its = h0
  have old0 : ∀ b o, s.heap.get? b = some o → h0.get? b = some o := fun b o q => by rw [← hh0]; exact copyHeap_old q
  have a0 : h0.get? (s.heap.objs.size + 1) = some (seqObj "list" its.toArray 0) := by rw [← hh0]; exact copyHeap_at s.heap its
  generalize ha : s.heap.objs.size + 1 = a at a0 ⊢
  have hane : ∀ b o, s.heap.get? b = some o → b ≠ a := fun b o q z => by
    have h1 := Heap.lt_size q
    rw [z, ← ha] at h1
    exact absurd h1 (Nat.not_lt.mpr (Nat.le_succ _))
  obtain ⟨e1, ho1⟩ : ∃ e1, (h0.update a (Obj.mapSeq fun _ => (#[] : Array Value))).get? a = some (seqObj "list" #[] e1) := ⟨_, get?_update_seq a0 fun _ => #[]⟩
  have old1 : ∀ b o, s.heap.get? b = some o → (h0.update a (Obj.mapSeq fun _ => (#[] : Array Value))).get? b = some o := fun b o q => by
    rw [(Heap.SameBut.update h0 a _).2 b (hane b o q)]; exact old0 b o q
  unfold ksk_tree
  refine wpAny_bind (listItems_at a0 rfl ?_)
  refine wpAny_bind (listUpdate_at a0 rfl ?_ (by rw [List.size_toArray]; exact hzi) (Nat.zero_le _))
  refine wpAny_bind (seqEpoch_at ho1 rfl ?_)
  refine wpAny_bind (wpAny_newTuple ?_ (by show its.length ≤ _; exact hzi))
  refine wpAny_bind (wpAny_newList ?_ (Nat.zero_le _))
  refine wpAny_holding ?_
  generalize hh1 : h0.update a (Obj.mapSeq fun _ => (#[] : Array Value)) = h1 at ho1 old1 ⊢
  show wpAny _ _ (ksk_rest a (.ref f) false its.toArray e1 (.ref (h1.push (seqObj "tuple" its.toArray 0)).objs.size)) _ _ { s with heap := (h1.push (seqObj "tuple" its.toArray 0)).push (seqObj "list" #[] 0) }
  generalize hh2 : h1.push (seqObj "tuple" its.toArray 0) = h2
  have old2 : ∀ b o, s.heap.get? b = some o → h2.get? b = some o := fun b o q => by rw [← hh2]; exact Heap.get?_push_of_some _ (old1 b o q)
  have a2 : h2.get? a = some (seqObj "list" #[] e1) := by rw [← hh2]; exact Heap.get?_push_of_some _ ho1
  have I2 : Inv X pins σ H { s with heap := h2 } := I.kept (t' := s.toks) old2
  have nk : H h2.objs.size = none := I2.hok.fresh (Nat.le_refl _)
  have nka : h2.objs.size ≠ a := Nat.ne_of_gt (Heap.lt_size a2)
  have I3 : Inv X pins σ (upd H h2.objs.size (.lst [])) { s with heap := h2.push (seqObj "list" #[] 0) } := I2.laid (t' := s.toks) (fun b o q => Heap.get?_push_of_some _ q) (Nat.le_refl _) ⟨Nat.zero_le _, [], 0, .nil, Heap.get?_push_size _ rfl⟩
  have hna : H a = none := I.hok.fresh (by rw [← ha]; exact Nat.le_succ _)
  have fpa : FpOk X pins H a := I.fpOk (by rw [← ha]; exact Nat.le_succ _) hna
  have fk0 : FpOk X pins H h2.objs.size := I2.fpOk (Nat.le_refl _) nk
  have hbase : X.base.get? a = none := by
    cases q : X.base.get? a with
    | none => rfl
    | some o => exact absurd rfl (hane a o (I.bk a o q))
  obtain ⟨Pv, p0, pk, pstep, pdone⟩ := hk h2.objs.size nk
  generalize hkS : h2.objs.size = kS at nk nka I3 p0 pk pstep pdone fk0 ⊢
  have Ip : ∀ {H' : Hp} {s' : Shared}, Inv X pins σ H' s' → s'.heap.get? a = some (seqObj "list" #[] e1) → H' a = none → Inv X (pins ++ [(a, seqObj "list" #[] e1)]) σ H' s' := fun {H' s'} I' h1 h2 => I'.pins_of fun p hp => by
    rcases List.mem_append.mp hp with hp | hp
    · exact I'.pin p (List.mem_append_right _ hp)
    · rcases List.mem_singleton.mp hp with rfl
      exact ⟨h1, h2, fpa.2.1, fpa.2.2.1, fun v z => by cases z⟩
  have Iq : ∀ {H' : Hp} {s' : Shared}, Inv X (pins ++ [(a, seqObj "list" #[] e1)]) σ H' s' → s'.heap.get? a = some (seqObj "list" #[] e1) ∧ H' a = none := fun {H' s'} I' => by
    have z := I'.pin (a, seqObj "list" #[] e1) (List.mem_append_right _ (List.mem_append_right _ List.mem_cons_self))
    exact ⟨z.1, z.2.1⟩
  have I4 := Ip I3 (Heap.get?_push_of_some _ a2) (by rw [upd_ne (Ne.symm nka)]; exact hna)
  unfold ksk_rest
  refine wpAny_bind (wpAny_rule ?_)
  first
    | rw [List.forIn_toArray]
    | (rw [← Array.forIn_toList]; simp only [List.toList_toArray])
    | rw [← Array.forIn_toList]
  refine wpAny_bind (ksk_fold (fun i s' => ∃ H' ks, Inv X (pins ++ [(a, seqObj "list" #[] e1)]) σ H' s' ∧ Pv i ks H' ∧ ks.length = i) its 0 _ ⟨_, [], I4, p0, rfl⟩ ?step ?done)
  case step =>
    rintro j y s' hy ⟨H', ks, I', pv, hkl⟩
    simp only [Nat.zero_add] at pv hkl ⊢
    obtain ⟨yv, hyv, ryv⟩ : ∃ yv, xs[j]? = some yv ∧ RelV yv y := by
      have : ∀ {vs : List V} {us : List Value} {i : Nat} {u : Value}, Vals vs us → us[i]? = some u → ∃ v, vs[i]? = some v ∧ RelV v u := by
        intro vs us i u r
        induction r generalizing i with
        | nil => intro q; simp at q
        | cons h1 h2 ih =>
          intro q
          cases i with
          | zero => simp at q; subst q; exact ⟨_, rfl, h1⟩
          | succ i => simp at q; exact ih q
      exact this rv hy
    have hq := pstep j yv ks H' hyv pv
    have hl1 : ([yv] : List V).length = ps.length := F.len _ _ _ _ hq
    have bb := hb s' [y] I'.kIn (by rw [List.append_nil]; exact hl1)
    rw [List.append_nil] at bb
    refine wpAny_bind (wpAny_attempt (wpAny_mono (wpAny_call (E := fun _ _ => False) (Q := EP X (pins ++ [(a, seqObj "list" #[] e1)]) σ fun k H'' => H'' kS = some (.lst ks) ∧ Pv (j + 1) (ks ++ [k]) (upd H'' kS (.lst (ks ++ [k])))) (codeAny_mono (F.run X.A.in1.in1 X.stack s' H' ⟨[y], []⟩ [y] [yv] _ E hr.in1.in1 I'.env0.in1.in1 bb (.cons ryv .nil) hq) fun r s'' hr' => ?_)) (fun v s'' he => ?_) fun _ _ hF => hF.elim))
    · cases r with
      | error e => exact hE _ _ _ _ _ hr'
      | ok fl =>
        cases fl with
        | ret u => exact I'.after hr'
        | next => exact False.elim hr'
        | brk => exact False.elim hr'
        | cont => exact False.elim hr'
    · obtain ⟨kv, H2, J, rk, hks, pv2⟩ := he
      try dsimp only
      obtain ⟨kz, kits, kn, krv, kob⟩ := J.hok kS _ hks
      have kl : kits.length = j := by rw [← krv.length, hkl]
      have jlt : j < its.length := (List.getElem?_eq_some_iff.mp hy).1
      refine wpAny_bind (listUpdate_at kob rfl ?_ (by rw [List.size_toArray]; omega) (by rw [Array.size_push, List.size_toArray]; omega))
      obtain ⟨c2, hc2⟩ : ∃ c2, (s''.heap.update kS (Obj.mapSeq (·.push v))).get? kS = some (seqObj "list" (kits.toArray.push v) c2) := ⟨_, get?_update_seq kob (·.push v)⟩
      refine wpAny_pure ⟨rfl, upd H2 kS (.lst (ks ++ [kv])), ks ++ [kv], ?_, pv2, by rw [List.length_append, hkl]; rfl⟩
      refine J.write (e := kS) (t' := s''.toks) (by rw [hks]; trivial) (.inl rfl) (fun b u hb hu => by rw [(Heap.SameBut.update s''.heap kS _).2 b hb]; exact hu) ⟨_, hc2⟩ ⟨?_, kits ++ [v], c2, krv.append (.cons rk .nil), ?_⟩
      · rw [List.length_append, hkl]
        show j + 1 ≤ sizeLine
        omega
      · rw [hc2]
        simp
  case done =>
    rintro s' ⟨H', ks, I', pv, hkl⟩
    simp only [Nat.zero_add] at pv hkl
    obtain ⟨ga, na⟩ := Iq I'
    have J : Inv X pins σ H' s' := I'.unpinned
    have hks := pk _ _ _ pv
    obtain ⟨kz, kits, kn, krv, kob⟩ := J.hok kS _ hks
    rw [← rv.length] at pv hkl
    obtain ⟨β, bs, fk, fv, enc, ek, ex, hd, hal, hso, hu, q⟩ := pdone ks H' pv
    subst ek ex
    have kl : kits.length = its.length := by rw [← krv.length, hkl, rv.length]
    have hrd := each_reads J krv hd
    try dsimp only
    refine wpAny_bind (listItems_at kob rfl ?_)
    obtain ⟨m, fr⟩ := J.fr
    have nbase : ∀ b, (∃ u, H' b = some u) → X.base.get? b = none := fun b ⟨u, hu⟩ => by
      cases q : X.base.get? b with
      | none => rfl
      | some o => rw [(J.bs b o q).2] at hu; cases hu
    have kL : kS ≠ X.env.locals := fun z => by rw [z, J.free] at hks; cases hks
    have N : News X.base X.env.locals s'.heap (others s'.heap X.base [X.env.locals, kS, a] ++ [(kS, seqObj "list" kits.toArray kn), (a, seqObj "list" #[] e1)]) := fun p hp => by
      rcases List.mem_append.mp hp with hp | hp
      · obtain ⟨g, n, nb⟩ := oth_mem hp
        exact ⟨g, fun z => n (by simp [z]), nb⟩
      · rcases List.mem_cons.mp hp with rfl | hp
        · exact ⟨kob, kL, nbase kS ⟨_, hks⟩⟩
        · rw [List.mem_singleton.mp hp]; exact ⟨ga, fpa.2.1, hbase⟩
    refine key_end (vs := its) (e := kn) (e1 := e1) (κ := dataKind s'.heap (bs.map enc)) fr N nka (fun p hp z => (oth_mem hp).2.1 (by simp [z])) (fun p hp z => (oth_mem hp).2.1 (by simp [z])) ?_ (by rw [List.size_toArray]; exact kl) hzi fun h3 tk c3 fr3 N3 => ⟨rfl, ?_⟩
    · rw [List.toList_toArray]
      refine dl_sortsAt (each_map (R := fun v d => ∃ as, Reads s'.heap v d as) enc hrd) hal hso fun d hd => ?_
      obtain ⟨b, hb, rfl⟩ := List.mem_map.mp hd
      exact hu b hb
    · rw [List.toList_toArray] at N3
      have hout := keyedOut_each (rev := false) (R := fun u b => RelV (fv b) u) (bs := bs) enc ⟨s'.heap, kits, hal, rfl, each_map (R := fun v d => ∃ as, Reads s'.heap v d as) enc hrd⟩ (each_vals rv)
      generalize sortVals (dataKind s'.heap (bs.map enc)) false kits its = out at hout N3
      have ha3 := (N3 _ List.mem_cons_self).1
      have keep : ∀ b u, b ≠ a → b ≠ kS → b ≠ X.env.locals → s'.heap.get? b = some u → h3.get? b = some u := fun b u n1 n2 n3 g => by
        cases q : X.base.get? b with
        | none => exact (N3 (b, u) (List.mem_cons_of_mem _ (oth_all g (by simp [n1, n2, n3]) q))).1
        | some o =>
          have z := J.bk b o q
          rw [g] at z
          cases z
          exact fr3.keep b _ q
      have fk : FpOk X pins (hide H' kS) kS := ⟨if_pos rfl, kL, fun z => by
        have := J.stkFree
        cases q : X.base.get? kS with
        | some o => rw [nbase kS ⟨_, hks⟩] at q; cases q
        | none => exact fk0.2.2.1 z, fk0.2.2.2.1, fk0.2.2.2.2.1, fk0.2.2.2.2.2⟩
      have K2 := J.sorted (t' := tk) (o := .lst ((bs.mergeSort (dataLe false enc)).map fv)) ⟨na, fpa.2⟩ fk fr.ns fr3.ns ⟨_, hks⟩ keep ⟨by rw [List.length_map, List.length_mergeSort]; rw [List.length_map] at hz; exact hz, out, c3, vals_each hout, ha3⟩
      exact ⟨.ref a, _, K2, rfl, q a na nka.symm⟩
end L2
/-! DL8: sorted(xs, key=f), by mirrors; isinstance of an exception in its suite. -/
namespace DL
open PySem L2
def keysL (F : Mi) : List D → Sto → Option (List D × Sto)
  | [], S => some ([], S)
  | x :: xs, S => match F [x] S with
    | .ok k S1 => match keysL F xs S1 with
      | some (ks, S2) => some (k :: ks, S2)
      | none => none
    | _ => none
def sortK (ks xs : List D) : List D := (isort (PySem.W.dataLe false fun b => toPy b.1) (ks.zip xs)).map (·.2)
def mSortKW (fin : List D → Sto → Out D) (F : Mi) (m : ME) : ME := fun ρ S => (m ρ S).bind fun d S1 => match seqL S1 d with
  | some xs => match keysL F xs S1 with
    | some (ks, S2) => if okSort (ks.map toPy) then fin (sortK ks xs) S2 else .stuck
    | none => .stuck
  | none => .stuck
abbrev finL : List D → Sto → Out D := fun xs S => .ok (.lst xs) S
abbrev finO : List D → Sto → Out D := fun xs S => .ok (.obj S.length) (S ++ [.lst xs])
theorem keysL_cons {F : Mi} {x : D} {xs : List D} {S : Sto} {ks : List D} {S2 : Sto} (h : keysL F (x :: xs) S = some (ks, S2)) : ∃ k S1 r, F [x] S = .ok k S1 ∧ ks = k :: r ∧ keysL F xs S1 = some (r, S2) := by
  unfold keysL at h
  cases q : F [x] S with
  | ok k S1 =>
    rw [q] at h
    simp only at h
    cases q2 : keysL F xs S1 with
    | none => rw [q2] at h; cases h
    | some p =>
      obtain ⟨r, S3⟩ := p
      rw [q2] at h
      cases h
      exact ⟨k, S1, r, rfl, rfl, q2⟩
  | exc e S1 => rw [q] at h; cases h
  | stuck => rw [q] at h; cases h
theorem keysL_len {F : Mi} : ∀ {xs : List D} {S : Sto} {ks : List D} {S2 : Sto}, keysL F xs S = some (ks, S2) → ks.length = xs.length
  | [], _, _, _, h => by cases h; rfl
  | x :: xs, _, _, _, h => by
    obtain ⟨k, S1, r, _, rfl, h2⟩ := keysL_cons h
    rw [List.length_cons, List.length_cons, keysL_len h2]
section
variable {U : Uv} {M : Mp} {H : Hp}
theorem zip4 : ∀ {ks vs : List V} {kd xd : List D}, RepAll U M H ks kd → RepAll U M H vs xd → ks.length = vs.length →
    (((ks.zip kd).zip (vs.zip xd)).map fun b => b.1.1) = ks ∧ (((ks.zip kd).zip (vs.zip xd)).map fun b => b.2.1) = vs ∧ (((ks.zip kd).zip (vs.zip xd)).map fun b => (b.1.2, b.2.2)) = kd.zip xd ∧ (((ks.zip kd).zip (vs.zip xd)).map fun b => b.1.2) = kd ∧
      ∀ b ∈ (ks.zip kd).zip (vs.zip xd), Rep U M H b.1.1 b.1.2 ∧ Rep U M H b.2.1 b.2.2
  | _, _, _, _, .nil, .nil, _ => ⟨rfl, rfl, rfl, rfl, fun b hb => by cases hb⟩
  | _, _, _, _, .nil, .cons _ _, h => by cases h
  | _, _, _, _, .cons _ _, .nil, h => by cases h
  | _, _, _, _, .cons h1 r1, .cons h2 r2, h => by
    obtain ⟨a1, a2, a3, a4, a5⟩ := zip4 r1 r2 (by simpa using h)
    refine ⟨by simp only [List.zip_cons_cons, List.map_cons, a1], by simp only [List.zip_cons_cons, List.map_cons, a2], by simp only [List.zip_cons_cons, List.map_cons, a3], by simp only [List.zip_cons_cons, List.map_cons, a4], fun b hb => ?_⟩
    rcases List.mem_cons.mp hb with rfl | hb
    · exact ⟨h1, h2⟩
    · exact a5 b hb
theorem RepAll.ofMap {β : Type} {f : β → V} {g : β → D} : ∀ {bs : List β}, (∀ b ∈ bs, Rep U M H (f b) (g b)) → RepAll U M H (bs.map f) (bs.map g)
  | [], _ => .nil
  | b :: bs, h => .cons (h b List.mem_cons_self) (RepAll.ofMap fun b hb => h b (List.mem_cons_of_mem _ hb))
end
section
variable {X : Cx} {U : Uv} {W : WX} {k j : Nat} {F : Mi} {x : Str} {e : Expr} {m : ME} {p pos : Pos} {f : Addr} {fd : FuncData} {pn : Str}
theorem sortK_post {fin : List D → Sto → Out D} (hfin : ∀ {M : Mp} {S : Sto} {H : Hp} {σ : L2.St} {Q : VK} {vs : List V} {ds : List D} {p : Addr}, PostX U (Rep U) M H σ W (fin ds S) Q → R U M S H → RepAll U M H vs ds → H p = none → Q (.ref p) (upd H p (.lst vs)))
    (hr : Room j X.A) (hK : X.K = U.K) {σ : L2.St} {H : Hp} {Q : VK} (h : tE U W (mSortKW fin F m) σ H Q) : tE U W m σ H fun v H1 => rSortK X.K X.A (spF U 1 F) (fun _ _ _ => False) v H1 Q := by
  obtain ⟨M, S, ρ, A, p⟩ := h
  refine tX.bind A p fun d S1 M1 H1 v e1 A1 r1 p1 => ?_
  cases q : seqL S1 d with
  | none => simp only [q] at p1; exact p1.elim
  | some xs =>
    simp only [q] at p1
    cases q2 : keysL F xs S1 with
    | none => simp only [q2] at p1; exact p1.elim
    | some kk =>
      obtain ⟨kd, S2⟩ := kk
      simp only [q2] at p1
      by_cases hok : okSort (kd.map toPy) = true
      · rw [if_pos hok] at p1
        obtain ⟨k1, k2, k3, k4⟩ := okSort_of hok
        obtain ⟨a, vs, rfl, hs, rv⟩ := r1.seqL' A1.r q
        have hl : kd.length = xs.length := keysL_len q2
        refine ⟨a, vs, rfl, by rw [hK]; exact hs, fun kS hkS => ?_⟩
        have hnob : ∀ {M' : Mp} {S' : Sto} {H' : Hp}, R U (M'.priv kS) S' H' → ¬ M'.ob kS := fun r => r.prn kS List.mem_cons_self
        refine ⟨fun i ks H' => ∃ Mq S', Ext M1 H1 Mq H' ∧ R U (Mq.priv kS) S' H' ∧ H' kS = some (.lst ks) ∧ RepAll U (Mq.priv kS) H' ks (kd.take i) ∧ keysL F (xs.drop i) S' = some (kd.drop i, S2),
          ⟨M1, S1, A1.r.extNew hkS, A1.r.priv hkS, upd_same, .nil, q2⟩, fun i ks H' ⟨_, _, _, _, z, _⟩ => z, fun i y ks H' hy ⟨Mq, S', f0, R3, hHD, ra, hkl⟩ => ?_, fun ks H' ⟨Mq, S', f0, R3, hHD, ra, hkl⟩ => ?_⟩
        · obtain ⟨dy, hdy, rdy⟩ := rv.getV hy
          have hlt : i < xs.length := (List.getElem?_eq_some_iff.mp hdy).1
          have hd : xs.drop i = dy :: xs.drop (i + 1) := by
            rw [List.drop_eq_getElem_cons hlt]
            rw [List.getElem?_eq_getElem hlt] at hdy
            rw [Option.some.inj hdy]
          rw [hd] at hkl
          obtain ⟨kk, S1', rr, hF, ekk, hkl2⟩ := keysL_cons hkl
          have hlk : i < kd.length := by rw [hl]; exact hlt
          have hdk := List.drop_eq_getElem_cons hlk
          rw [hdk] at ekk
          obtain ⟨ek1, ek2⟩ := List.cons.inj ekk
          refine ⟨Mq.priv kS, S', [dy], R3, .cons (rdy.mv (mvPriv f0 hkS)) .nil, rfl, ?_⟩
          rw [hF]
          intro M4 H4 b e4 R4 rb
          obtain ⟨M5, em, f5⟩ := e4.unpriv
          subst em
          have hD4 : H4 kS = some (.lst ks) := e4.keep _ _ hHD (R3.prn kS List.mem_cons_self)
          have hpr : kS ∈ (M5.priv kS).pr := List.mem_cons_self
          have f15 := f0.trans f5
          refine ⟨hD4, M5, S1', extWrite f15 hkS (hnob R4), R4.write hpr, upd_same, ?_, ?_⟩
          · have et : kd.take (i + 1) = kd.take i ++ [kk] := by
              rw [List.take_add_one, List.getElem?_eq_getElem hlk, ek1]; rfl
            rw [et]
            exact ((ra.ext e4).append (.cons rb .nil)).mv (Mv.write hpr)
          · rw [hkl2, ek2]
        · have evl : vs.length = xs.length := rv.length
          rw [evl, ← hl] at ra
          rw [List.take_length] at ra
          rw [evl, List.drop_length] at hkl
          obtain ⟨_, eS⟩ := Prod.mk.inj (Option.some.inj hkl)
          subst eS
          have rv' := rv.mv (mvPriv f0 hkS)
          obtain ⟨z1, z2, z3, z4, z5⟩ := zip4 ra rv' (by rw [ra.length, evl, hl])
          have zm : ((ks.zip kd).zip (vs.zip xs)).map (fun b => toPy b.1.2) = kd.map toPy := by
            rw [show ((ks.zip kd).zip (vs.zip xs)).map (fun b => toPy b.1.2) = (((ks.zip kd).zip (vs.zip xs)).map fun b => b.1.2).map toPy from by rw [List.map_map]; rfl, z4]
          refine ⟨(V × D) × (V × D), (ks.zip kd).zip (vs.zip xs), fun b => b.1.1, fun b => b.2.1, fun b => toPy b.1.2, z1.symm, z2.symm, fun b hb => ?_, by rw [zm]; exact k1, by rw [zm]; exact k2, fun b hb => ?_, fun p hp npk => ?_⟩
          · rw [hK]
            exact (z5 b hb).1.dp (k4 _ (by rw [← zm]; exact List.mem_map.mpr ⟨b, hb, rfl⟩)).1
          · have hd := (k4 _ (by rw [← zm]; exact List.mem_map.mpr ⟨b, hb, rfl⟩)).2
            have h1 := hr.un
            have h2 : (toPy b.1.2).depth ≤ 60 := hd
            show X.A.units + 2 + (toPy b.1.2).depth < cLine
            omega
          · have mvh : Mv (Mq.priv kS) H' Mq (hide H' kS) := ⟨Nat.le_refl _, fun _ _ => rfl, fun b o g n => by
              have nk : b ≠ kS := fun z => n (priv_has.mpr (.inr (.inl z)))
              refine ⟨?_, fun z => n (priv_has.mpr (z.elim .inl fun z => .inr (.inr z)))⟩
              show (if b = kS then none else H' b) = _
              rw [if_neg nk]; exact g⟩
            have kp : ∀ b o, b ≠ kS → H' b = some o → hide H' kS b = some o := fun b o n g => by
              show (if b = kS then none else H' b) = _
              rw [if_neg n]; exact g
            have R5 : R U Mq S' (hide H' kS) := ⟨R3.n, R3.inj, fun i ob h => by
                have hi : i < Mq.n := Nat.lt_of_lt_of_eq (List.getElem?_eq_some_iff.mp h).1 R3.n.symm
                exact ObAt.mv mvh (fun u hu => kp _ _ (fun z => hnob R3 ⟨i, hi, z⟩) hu) (R3.at_ i ob h),
              fun b hb => by
                have nk : b ≠ kS := fun z => by
                  rw [f0.pr] at hb
                  obtain ⟨u, hu⟩ := A1.r.prl b hb
                  rw [z, hkS] at hu; cases hu
                obtain ⟨u, hu⟩ := R3.prl b (List.mem_cons_of_mem _ hb)
                exact ⟨u, kp b u nk hu⟩,
              fun b hb z => R3.prn b (List.mem_cons_of_mem _ hb) z⟩
            have ex : Ext M1 H1 Mq (hide H' kS) := ⟨f0.le, f0.same, f0.fresh, fun b o g n => kp b o (fun z => by rw [z, hkS] at g; cases g) (f0.keep b o g n), fun i hi => by
              obtain ⟨u, hu⟩ := f0.live i hi
              exact ⟨u, kp _ u (fun z => hnob R3 ⟨i, hi, z⟩) hu⟩, f0.pr⟩
            refine hfin (PostX.ext ex p1) R5 ?_ (by
              show (if p = kS then none else H' p) = none
              rw [if_neg npk]; exact hp)
            have rr : RepAll U (Mq.priv kS) H' ((((ks.zip kd).zip (vs.zip xs)).mergeSort (PySem.W.dataLe false fun b => toPy b.1.2)).map fun b => b.2.1) (sortK kd xs) := by
              have z := RepAll.ofMap (U := U) (M := Mq.priv kS) (H := H') (f := fun b : (V × D) × (V × D) => b.2.1) (g := fun b => b.2.2) (bs := ((ks.zip kd).zip (vs.zip xs)).mergeSort (PySem.W.dataLe false fun b => toPy b.1.2)) fun b hb => (z5 b (List.mem_mergeSort.mp hb)).2
              have es : (((ks.zip kd).zip (vs.zip xs)).mergeSort (PySem.W.dataLe false fun b => toPy b.1.2)).map (fun b => b.2.2) = sortK kd xs := by
                unfold sortK
                rw [isort_eq (le := PySem.W.dataLe false fun b : D × D => toPy b.1) (PySem.W.sortLe_total _ _ _)]
                have zs := List.map_mergeSort (l := (ks.zip kd).zip (vs.zip xs)) (f := fun b : (V × D) × (V × D) => (b.1.2, b.2.2)) (r := PySem.W.dataLe false fun b : (V × D) × (V × D) => toPy b.1.2) (s := PySem.W.dataLe false fun b : D × D => toPy b.1) (fun _ _ _ _ => rfl)
                rw [z3] at zs
                rw [← zs, List.map_map]
                rfl
              rw [es] at z
              exact z
            exact rr.mv mvh
      · rw [if_neg hok] at p1; exact p1.elim
theorem cr_sortKD {f : Addr} {fd : FuncData} {ps : List Str} {sp : Sp} (G : FnOk X.prog X.w X.K X.mg X.base (L2N.CX X.prog X.w) k f fd ps sp) (hb : Binds X.K fd ps []) (hr : Room (k + 2) X.A) :
    CallRK X (.builtin "sorted") [Str.ofString "key"] (fun xs zs H Q => ∃ v, xs = [v] ∧ zs = [.ref f] ∧ rSortK X.K X.A sp (fun _ _ _ => False) v H Q) := by
  intro pins s σ H xs zs us ws Q I r rz ⟨v, e1, e2, h⟩
  subst e1 e2
  obtain ⟨u, rfl, ru⟩ := vals1 r
  obtain ⟨u2, rfl, ru2⟩ := vals1 rz
  obtain rfl : u2 = Value.ref f := ru2
  exact run_sortK G hr hb (fun outer H s e s' ⟨_, _, _, _, _, _, _, _, _, _, _, _, z⟩ => z) I ru h
theorem finL_ok {M : Mp} {S : Sto} {H : Hp} {σ : L2.St} {Q : VK} {vs : List V} {ds : List D} {p : Addr} (g : PostX U (Rep U) M H σ W (finL ds S) Q) (r : R U M S H) (h : RepAll U M H vs ds) (hp : H p = none) : Q (.ref p) (upd H p (.lst vs)) :=
  g M _ _ (r.extNew hp) (r.new hp) (Rep.newLst r hp h)
theorem e_sortKW {fin : List D → Sto → Out D} (hfin : ∀ {M : Mp} {S : Sto} {H : Hp} {σ : L2.St} {Q : VK} {vs : List V} {ds : List D} {p : Addr}, PostX U (Rep U) M H σ W (fin ds S) Q → R U M S H → RepAll U M H vs ds → H p = none → Q (.ref p) (upd H p (.lst vs)))
    {q2 kpos : Pos} (G : Does X.prog X.w X.K X.mg X.base U k x f fd [pn] F) (he : PE X e (tE U W m)) (hm : X.mg "sorted" = none) (hr : Room j X.A) (hk : k + 2 ≤ j := by decide) (hK : X.K = U.K := by rfl) (hg : Gl X x := by rfl) (hg2 : Gl X "sorted" := by rfl) (hdb : (x == ("__debug__" : Str)) = false := by decide)
    (hst : starEach [e] X.env = (false, eval e X.env) :: starEach [] X.env := by rfl) (hst2 : backTo pos (starEach [e] X.env) = (false, eval e X.env) :: backTo pos (starEach [] X.env) := by rfl) (hpl : (backTo pos (starEach [e] X.env)).any (·.1) = false := by rfl)
    (hall : (backToKw pos (keywordEach [⟨some "key", .Name x q2, kpos⟩] X.env)).all (·.1.isSome) = true := by rfl) (hnone : (backToKw pos (keywordEach [⟨some "key", .Name x q2, kpos⟩] X.env)).any (·.1.isNone) = false := by rfl)
    (hks : (backToKw pos (keywordEach [⟨some "key", .Name x q2, kpos⟩] X.env)).filterMap (·.1) = [Str.ofString "key"] := by rfl) : PE X (.Call (.Name "sorted" p) [e] [⟨some "key", .Name x q2, kpos⟩] pos) (tE U W (mSortKW fin F m)) :=
  pe_imp (pe_callBK (cr_sortKD G.fn G.b (hr.mono hk)) hg2 hm PyProof.Rows.boot_sorted (pa_cons he pa_nil hst) (pk_cons (pe_glob (v := .ref f) hg G.mg_ rfl hdb) pk_nil) (by decide) (by decide) hst2 hpl hall hnone hks) fun σ H Q h => by
    obtain ⟨M, S, ρ, A, p⟩ := sortK_post hfin hr hK h
    exact ⟨M, S, ρ, A, (by
      revert p
      cases m ρ S with
      | ok d S1 => exact fun p M' H' b ex r rb => ⟨b, rfl, rfl, p M' H' b ex r rb⟩
      | exc x S1 => exact fun p => p
      | stuck => exact fun p => p)⟩
theorem e_sortK {q2 kpos : Pos} (G : Does X.prog X.w X.K X.mg X.base U k x f fd [pn] F) (he : PE X e (tE U W m)) (hm : X.mg "sorted" = none) (hr : Room j X.A) (hk : k + 2 ≤ j := by decide) (hK : X.K = U.K := by rfl) (hg : Gl X x := by rfl) (hg2 : Gl X "sorted" := by rfl) (hdb : (x == ("__debug__" : Str)) = false := by decide)
    (hst : starEach [e] X.env = (false, eval e X.env) :: starEach [] X.env := by rfl) (hst2 : backTo pos (starEach [e] X.env) = (false, eval e X.env) :: backTo pos (starEach [] X.env) := by rfl) (hpl : (backTo pos (starEach [e] X.env)).any (·.1) = false := by rfl)
    (hall : (backToKw pos (keywordEach [⟨some "key", .Name x q2, kpos⟩] X.env)).all (·.1.isSome) = true := by rfl) (hnone : (backToKw pos (keywordEach [⟨some "key", .Name x q2, kpos⟩] X.env)).any (·.1.isNone) = false := by rfl)
    (hks : (backToKw pos (keywordEach [⟨some "key", .Name x q2, kpos⟩] X.env)).filterMap (·.1) = [Str.ofString "key"] := by rfl) : PE X (.Call (.Name "sorted" p) [e] [⟨some "key", .Name x q2, kpos⟩] pos) (tE U W (mSortKW finL F m)) :=
  e_sortKW finL_ok G he hm hr hk hK hg hg2 hdb hst hst2 hpl hall hnone hks
/-- .. a new list of the store -/
theorem e_sortKO {q2 kpos : Pos} (G : Does X.prog X.w X.K X.mg X.base U k x f fd [pn] F) (he : PE X e (tE U W m)) (hm : X.mg "sorted" = none) (hr : Room j X.A) (hk : k + 2 ≤ j := by decide) (hK : X.K = U.K := by rfl) (hg : Gl X x := by rfl) (hg2 : Gl X "sorted" := by rfl) (hdb : (x == ("__debug__" : Str)) = false := by decide)
    (hst : starEach [e] X.env = (false, eval e X.env) :: starEach [] X.env := by rfl) (hst2 : backTo pos (starEach [e] X.env) = (false, eval e X.env) :: backTo pos (starEach [] X.env) := by rfl) (hpl : (backTo pos (starEach [e] X.env)).any (·.1) = false := by rfl)
    (hall : (backToKw pos (keywordEach [⟨some "key", .Name x q2, kpos⟩] X.env)).all (·.1.isSome) = true := by rfl) (hnone : (backToKw pos (keywordEach [⟨some "key", .Name x q2, kpos⟩] X.env)).any (·.1.isNone) = false := by rfl)
    (hks : (backToKw pos (keywordEach [⟨some "key", .Name x q2, kpos⟩] X.env)).filterMap (·.1) = [Str.ofString "key"] := by rfl) : PE X (.Call (.Name "sorted" p) [e] [⟨some "key", .Name x q2, kpos⟩] pos) (tE U W (mSortKW finO F m)) :=
  e_sortKW (fun g r h hp => Gives.pushL g r h hp) G he hm hr hk hK hg hg2 hdb hst hst2 hpl hall hnone hks
end
/-! ### isinstance of the exception that a suite holds -/
section
variable {X : Cx} {U : Uv} {W : WX}
theorem e_isE {a : Addr} {oe : Obj} {pn : List (Addr × Obj)} (i : Nat) {n cn : Str} {q p1 p2 pos : Pos} {C C' : Addr} {b : Bool} (ec : ExcC X.K C) (hz : Zc (.ref C) none oe) (hf : ∃ vs, oe.data = .fields vs) (hm : X.mg "isinstance" = none)
    (hmc : X.mg cn = some (.ref C')) (hb : PySem.W.kitOne X.K (.ref C) (.ref C') = some b) (hU : (i, a) ∈ U.f) (hN : X.N[i]? = some n := by rfl) (hv : Vis X.env.scope n := by first | exact Or.inl rfl | exact Or.inr (Or.inl rfl) | exact Or.inr (Or.inr rfl))
    (hg : Gl X "isinstance" := by rfl) (hgc : Gl X cn := by rfl) (hd : (n == ("__debug__" : Str)) = false := by decide) (hcd : (n == ("__classdict__" : Str)) = false := by decide) (hdc : (cn == ("__debug__" : Str)) = false := by decide)
    (he : starEach [Expr.Name n p1, Expr.Name cn p2] X.env = (false, eval (Expr.Name n p1) X.env) :: starEach [Expr.Name cn p2] X.env := by rfl) (he2 : starEach [Expr.Name cn p2] X.env = (false, eval (Expr.Name cn p2) X.env) :: starEach [] X.env := by rfl)
    (hpl : (backTo pos (starEach [Expr.Name cn p2] X.env)).any (·.1) = false := by rfl) : PE (X.suite a ((a, oe) :: pn)) (.Call (.Name "isinstance" q) [.Name n p1, .Name cn p2] [] pos) (tE U W (mC (.bl b))) :=
  pe_imp (pe_callB (call_isE ec hz hf) hg hm PyProof.Rows.boot_isinstance (pa_cons (pv i hN hv hd hcd) (pa_cons (pe_glob (v := .ref C') hgc hmc rfl hdc) pa_nil he2) he) (by decide) (by decide) he hpl) fun σ H Q ⟨M, S, ρ, A, p⟩ => by
    exact ⟨_, A.fx _ hU, .ref C', .ref C', b, rfl, fun _ h => h, hb, p M H _ A.refl A.r (.bl b)⟩
end
end DL
/-! DL9: what the generated texts use. -/
namespace DL
open PySem L2
/-- a module's constant -/
def GC (K : PySem.W.Frag) (mg : Str → Option Value) (U : Uv) (x : Str) (d : D) : Prop := ∃ u v, mg x = some u ∧ RelV v u ∧ ∀ M H, Rep U M H v d
theorem GC.fix {K : PySem.W.Frag} {mg : Str → Option Value} {U : Uv} {x : Str} {d : D} {l : List (Nat × Addr)} (h : GC K mg U x d) : GC K mg (U.fix l) x d := let ⟨u, v, h1, h2, h3⟩ := h; ⟨u, v, h1, h2, fun M H => (h3 M H).fix⟩
section
variable {X : Cx} {U : Uv} {W : WX}
theorem e_gc {x : Str} {d : D} {pos : Pos} (h : GC X.K X.mg U x d) (hg : Gl X x := by rfl) (hd : (x == ("__debug__" : Str)) = false := by decide) : PE X (.Name x pos) (tE U W (mC d)) := by
  obtain ⟨u, v, hm, r, hr⟩ := h
  exact e_glob hm r hr hg hd
def sStuck : MS := fun _ _ => .stuck
theorem ss_stuck {st : List Stmt} : PSs X st (tS U W sStuck) := ⟨fun pins s σ H D I ⟨_, _, _, _, p⟩ => p.elim⟩
/-- by the class of the exception that a suite holds -/
def selX (e : Ex) (c : Nat) (m1 m2 : MS) : MS := if e.c = c ∧ e.fs = [] then m1 else m2
theorem ss_sel {U0 : Uv} {e : Ex} {st : List Stmt} {m1 m2 : MS} {d : Option Addr} {oe : Obj} (c : Nat) (hz : L2N.Zn (.ref (U0.cl e.c)) d oe) (hd : e.fs = [] → d = none) (h : L2N.Zn (.ref (U0.cl c)) none oe → PSs X st (tS U W m1)) (h2 : PSs X st (tS U W m2)) : PSs X st (tS U W (selX e c m1 m2)) := by
  unfold selX
  by_cases q : e.c = c ∧ e.fs = []
  · rw [if_pos q]
    obtain ⟨rfl, q2⟩ := q
    have := hd q2
    subst this
    exact h hz
  · rw [if_neg q]; exact h2
/-- what never answers -/
theorem does_stuck {P : Program} {w : World} {K : PySem.W.Frag} {mg : Str → Option Value} {base : Heap} {k : Nat} {x : Str} {f : Addr} {fd : FuncData} {ps : List Str} (hm : mg x = some (.ref f)) (kp : PySem.W.keepIn K (.ref f) = true) (hb : Binds K fd ps []) : Does P w K mg base U k x f fd ps (fun _ _ => .stuck) :=
  ⟨⟨fun vs H Q E ⟨_, _, _, _, _, _, p⟩ => p.elim, fun A outer s H args us vs Q E _ _ _ _ ⟨_, _, _, _, _, _, p⟩ => p.elim⟩, hm, kp, hb⟩
/-- xs[::-1] of a list -/
def mRev (m : ME) : ME := fun ρ S => (m ρ S).bind fun d S1 => match seqL S1 d with
  | some xs => .ok (.lst xs.reverse) S1
  | none => .stuck
theorem RepAll.rev {M : Mp} {H : Hp} : ∀ {vs : List V} {ds : List D}, RepAll U M H vs ds → RepAll U M H vs.reverse ds.reverse
  | _, _, .nil => .nil
  | v :: vs, d :: ds, .cons h r => by
    rw [List.reverse_cons, List.reverse_cons]
    exact (RepAll.rev r).append (.cons h .nil)
theorem e_rev {e : Expr} {m : ME} {k : Nat} {p1 p2 p3 pos : Pos} (he : PE X e (tE U W m)) (hK : X.K = U.K := by rfl) : PE X (.Subscript e (.Slice none none (some (.UnaryOp .USub (.Constant (.int 1) k p1) p2)) p3) pos) (tE U W (mRev m)) :=
  pe_imp (pe_revL he) fun σ H Q ⟨M, S, ρ, A, p⟩ => tX.bind A p fun d S1 M1 H1 v e1 A1 r1 p1 => by
    cases q : seqL S1 d with
    | none => simp only [q] at p1; exact p1.elim
    | some xs =>
      simp only [q] at p1
      obtain ⟨a, vs, rfl, hs, rv⟩ := r1.seqL' A1.r q
      rw [hK]
      exact ⟨a, vs, rfl, hs, fun p hp => Gives.lst p1 A1.r rv.rev hp⟩
theorem e_dct0 {pos : Pos} : PE X (.Dict [] [] pos) (tE U W (mC (.dct []))) :=
  pe_imp pe_dnewK fun σ H Q ⟨M, S, ρ, A, p⟩ => fun d hd => p M _ _ (A.r.extNew hd) (A.r.new hd) (.dct0 upd_same (A.r.nhas hd))
end
end DL
/-! DL10: the law's own head. -/
namespace DL
open PySem L2
theorem kwb_of {K : PySem.W.Frag} {x qual : Str} {st : Stmt} {f : Addr} {fd : FuncData} {ps ks : List Str} {n : Nat} {is : List Nat} (F : L2.Fun K x qual st f fd)
    (h : ∀ (kV doc pm : Value) (an : Option Addr) (cdv ct : Value) (us ws zs : List Value), us.length = n → ws.length = ks.length → pick is (us ++ ws) = some zs → bindArgs (PySem.W.fnOf x qual (defArgs st) (defBody st) (defScope st) .none kV doc pm an cdv ct) ⟨us, ks.zip ws⟩ = pure (ps.zip zs)) : KwB K fd ps ks n is := by
  obtain ⟨oc, od, kV, doc, pm, an, cdv, ct, osl, rfl, lk, hcd⟩ := F.ex
  exact fun s us ws zs _ h1 h2 h3 => .of_eq (h kV doc pm an cdv ct us ws zs h1 h2 h3)
theorem kit_of {K : PySem.W.Frag} {C C' : Addr} {b : Bool} (h : PySem.W.subIn K (.ref C) (.ref C') = some b) (hs : PySem.W.subIn K (.ref C) (.ref C) = some true) (hd : PySem.W.hasDictIn K C' = true) (ht : PySem.W.typeIn K (.ref C') = some (.type "type")) : PySem.W.kitOne K (.ref C) (.ref C') = some b := by
  unfold PySem.W.kitOne
  by_cases e : ((Value.ref C) == (Value.ref C')) = true
  · rw [if_pos e]
    have e' : Value.ref C = Value.ref C' := beq_iff_eq.mp e
    rw [e'] at hs h
    rw [hs] at h
    exact h
  · rw [if_neg e]
    obtain ⟨cd, hc, _⟩ := PySem.W.any_some hd
    have e2 : ((PySem.W.clsIn K C').isSome && PySem.W.typeIn K (.ref C') == some (.type "type")) = true := by rw [hc, ht] <;> rfl
    show (if ((PySem.W.clsIn K C').isSome && PySem.W.typeIn K (.ref C') == some (.type "type")) = true then PySem.W.subIn K (.ref C) (.ref C') else none) = some b
    rw [if_pos e2]
    exact h
section
variable {K : PySem.W.Frag} {h : Heap} {mg : Str → Option Value} {U : Uv} {x : Str}
theorem gc_str {s : Str} {t : Tok} (X : K.In h) (G : h.Ns mainGlobals mg) (a : PySem.W.nsIn K mainGlobals x = some (some (.str s t))) : GC K mg U x (.str s) := ⟨_, .str s, PySem.W.mg_of X G a, ⟨t, rfl⟩, fun _ _ => .str s⟩
theorem gc_int {i : Int} {t : Tok} (X : K.In h) (G : h.Ns mainGlobals mg) (a : PySem.W.nsIn K mainGlobals x = some (some (.int i t))) : GC K mg U x (.int i) := ⟨_, .int i, PySem.W.mg_of X G a, ⟨t, rfl⟩, fun _ _ => .int i⟩
theorem gc_tup {a : Addr} {vs : List V} {ds : List D} {dd : Option Addr} {its : Array Value} {n : Nat} {sl : Array (Option Value)} (X : K.In h) (G : h.Ns mainGlobals mg) (hK : U.K = K) (e : PySem.W.nsIn K mainGlobals x = some (some (.ref a)))
    (l : K.lookup a = some ⟨.type "tuple", dd, .seq its n, sl⟩) (hv : Vals vs its.toList) (hz : vs.length ≤ lim) (hr : ∀ M H, RepAll U M H vs ds) : GC K mg U x (.tup ds) :=
  ⟨_, .ref a, PySem.W.mg_of X G e, rfl, fun M H => .tup (.inr ⟨_, its, n, by rw [hK]; exact l, rfl, rfl, by
    have z : vs.length = its.toList.length := hv.length
    rw [← Array.length_toList, ← z]
    exact lim_line hz, hv⟩) (hr M H)⟩
end
theorem vals_strs : ∀ {xs : List (Str × Tok)}, Vals (xs.map fun p => V.str p.1) (xs.map fun p => Value.str p.1 p.2)
  | [] => .nil
  | p :: r => .cons ⟨p.2, rfl⟩ vals_strs
theorem rep_strs {U : Uv} {M : Mp} {H : Hp} : ∀ {xs : List Str}, RepAll U M H (xs.map V.str) (xs.map D.str)
  | [] => .nil
  | x :: r => .cons (.str x) rep_strs
/-- the law's promise: of the written part alone -/
def spLaw (K : PySem.W.Frag) : Sp := fun vs H Q _ => ∃ (a : Addr) (ns : List Int), vs = [.ref a] ∧ SqL K H a (ns.map V.int) ∧ ns.length ≤ 63 ∧ (∀ z ∈ ns, Builtin.Int.intBits z ≤ 1048576) ∧ ∀ H', Q (.bl true) H'
abbrev scr (ns : List Int) : D := .fz (ns.map D.int)
theorem rep_ints {U : Uv} {M : Mp} {H : Hp} : ∀ {xs : List Int}, RepAll U M H (xs.map V.int) (xs.map D.int)
  | [] => .nil
  | x :: r => .cons (.int x) rep_ints
theorem law_imp {K : PySem.W.Frag} {U : Uv} {F : Mi} (hK : U.K = K) (law : ∀ ns : List Int, ns.length ≤ 63 → (∀ z ∈ ns, Builtin.Int.intBits z ≤ 1048576) → ∃ S, F [scr ns] [] = .ok (.bl true) S) : ∀ vs H Q E, spLaw K vs H Q E → spF U 1 F vs H Q E := by
  rintro vs H Q E ⟨a, ns, rfl, hs, hl, hb, q⟩
  obtain ⟨S, e⟩ := law ns hl hb
  refine ⟨⟨fun _ => 0, 0, []⟩, [], [scr ns], ⟨rfl, fun i j hi => absurd hi (Nat.not_lt_zero _), fun i o h => (by simp at h), fun a ha => (by cases ha), fun a ha => (by cases ha)⟩, .cons (.fz ?_ rep_ints) .nil, rfl, ?_⟩
  · have nh : ¬ (⟨fun _ => 0, 0, []⟩ : Mp).has a := fun z => z.elim (fun ⟨i, hi, _⟩ => absurd hi (Nat.not_lt_zero _)) fun z => (by cases z)
    rcases hs with (h | ⟨o, h⟩) | h
    · exact .inl ⟨_, h, .inl rfl, nh⟩
    · exact .inl ⟨_, h, .inr ⟨o, rfl⟩, nh⟩
    · rw [hK]; exact .inr h
  · rw [e]
    intro M' H' b ex r rb
    cases rb
    exact q H'
theorem walk {l : PySem.W.OpenLaw} {q : Program} {loose : List Str} {XP : (Str → Option Value) → Heap → Prop} {YP : World → Heap → Prop} {d : DefRec} {K : Params → PySem.W.Frag} (k : Nat) (hn : l.most = some 63) (hdf : d.params.defaults = []) (hr : Room k callerA)
    (hY : ∀ (w : World) (h : Heap), YP w h → (K w.params).In h)
    (F : ∀ (w : World) (mg : Str → Option Value) (fa : Addr) (h : Heap), (K w.params).In h → h.Ns mainGlobals mg → mg d.name = some (.ref fa) →
      ∃ fd : FuncData, (∀ (s : Shared) (u : Value), BindsTo s fd ⟨[u], []⟩ [("script", u)]) ∧ ∀ base : Heap, (K w.params).In base → base.Ns mainGlobals mg → FnOk l.prog w (K w.params) mg base (L2N.CX l.prog w) k fa fd ["script"] (spLaw (K w.params))) :
    PySem.W.WalkO q loose XP YP l.row.toRowW d [] (fun f vs => PySem.call f vs) :=
  L2.walk_ofB (n := 63) (k := k) (x := "script") (CX := fun w => L2N.CX l.prog w) (sp := fun w => spLaw (K w.params)) hn (by decide) hdf hr hY F (fun _ _ a ns hl hb _ hS => ⟨a, ns, rfl, hS, hl, hb, fun _ => rfl⟩) fun _ _ _ _ _ ⟨_, _, _, _, _, _, _, _, _, _, _, _, z⟩ => z
end DL
/-! DL11: plain tools over mirrors: equality of data, loops, the cask and its tap. -/
namespace DL
open PySem L2
mutual
def eqD : D → D → Bool
  | .non, .non => true
  | .bl a, .bl b => a == b
  | .int a, .int b => a == b
  | .str a, .str b => decide (a = b)
  | .tup a, .tup b => eqDs a b
  | .lst a, .lst b => eqDs a b
  | .fz a, .fz b => eqDs a b
  | .dct [], .dct [] => true
  | .obj a, .obj b => a == b
  | .ty a, .ty b => a == b
  | .cls a, .cls b => a == b
  | .fn a, .fn b => a == b
  | _, _ => false
def eqDs : List D → List D → Bool
  | [], [] => true
  | a :: r, b :: t => eqD a b && eqDs r t
  | _, _ => false
end
mutual
theorem eqD_ok : ∀ (a b : D), eqD a b = true → a = b
  | .non, b, h => by cases b <;> simp [eqD] at h; rfl
  | .bl a, b, h => by cases b <;> simp [eqD] at h; rw [h]
  | .int a, b, h => by cases b <;> simp [eqD] at h; rw [h]
  | .str a, b, h => by cases b <;> simp [eqD] at h; rw [h]
  | .tup a, b, h => by
    cases b <;> simp [eqD] at h
    rw [eqDs_ok a _ h]
  | .lst a, b, h => by
    cases b <;> simp [eqD] at h
    rw [eqDs_ok a _ h]
  | .fz a, b, h => by
    cases b <;> simp [eqD] at h
    rw [eqDs_ok a _ h]
  | .dct a, b, h => by
    cases b with
    | dct k =>
      cases a with
      | nil => cases k with
        | nil => rfl
        | cons _ _ => simp [eqD] at h
      | cons _ _ => simp [eqD] at h
    | _ => cases a <;> simp [eqD] at h
  | .obj a, b, h => by cases b <;> simp [eqD] at h; rw [h]
  | .ty a, b, h => by cases b <;> simp [eqD] at h; rw [h]
  | .cls a, b, h => by cases b <;> simp [eqD] at h; rw [h]
  | .fn a, b, h => by cases b <;> simp [eqD] at h; rw [h]
theorem eqDs_ok : ∀ (a b : List D), eqDs a b = true → a = b
  | [], [], _ => rfl
  | [], _ :: _, h => by simp [eqDs] at h
  | _ :: _, [], h => by simp [eqDs] at h
  | a :: r, b :: t, h => by
    simp only [eqDs, Bool.and_eq_true] at h
    rw [eqD_ok a b h.1, eqDs_ok r t h.2]
end
/-- a loop's invariant, no break, no return -/
theorem forL_inv {b : Bd} {body : MS} (I : Env → Sto → Prop) : ∀ (ds : List D), (∀ d ∈ ds, ∀ ρ S, I ρ S → ∃ ρ1, b d ρ = some ρ1 ∧ ∃ ρ2 S2, body ρ1 S = .nx ρ2 S2 ∧ I ρ2 S2) → ∀ ρ S, I ρ S → ∃ ρ' S', forL b body ds ρ S = .nx ρ' S' ∧ I ρ' S'
  | [], _, ρ, S, h => ⟨ρ, S, rfl, h⟩
  | d :: ds, hs, ρ, S, h => by
    obtain ⟨ρ1, e1, ρ2, S2, e2, h2⟩ := hs d List.mem_cons_self ρ S h
    obtain ⟨ρ3, S3, e3, h3⟩ := forL_inv I ds (fun d hd => hs d (List.mem_cons_of_mem _ hd)) ρ2 S2 h2
    exact ⟨ρ3, S3, by simp only [forL, e1, e2, e3], h3⟩
theorem seq_nx {a b : MS} {ρ ρ1 : Env} {S S1 : Sto} (h : a ρ S = .nx ρ1 S1) : sSeq a b ρ S = b ρ1 S1 := by
  show (a ρ S).seq b = _
  rw [h]; rfl
theorem seq_rt {a b : MS} {ρ : Env} {S S1 : Sto} {d : D} (h : a ρ S = .rt d S1) : sSeq a b ρ S = .rt d S1 := by
  show (a ρ S).seq b = _
  rw [h]; rfl
theorem seq_exc {a b : MS} {ρ ρ1 : Env} {S S1 : Sto} {e : Ex} (h : a ρ S = .exc e ρ1 S1) : sSeq a b ρ S = .exc e ρ1 S1 := by
  show (a ρ S).seq b = _
  rw [h]; rfl
theorem set_ok {i : Nat} {m : ME} {ρ : Env} {S S1 : Sto} {d : D} (h : m ρ S = .ok d S1) : sSet i m ρ S = .nx (ρ.set i (some d)) S1 := by
  show OS.of (m ρ S) ρ _ = _
  rw [h]; rfl
theorem ret_ok {m : ME} {ρ : Env} {S S1 : Sto} {d : D} (h : m ρ S = .ok d S1) : sRet m ρ S = .rt d S1 := by
  show OS.of (m ρ S) ρ _ = _
  rw [h]; rfl
theorem if_t {t : MT} {a b : MS} {ρ : Env} {S S1 : Sto} (h : t ρ S = .ok true S1) : sIf t a b ρ S = a ρ S1 := by
  show OS.of (t ρ S) ρ _ = _
  rw [h]; rfl
theorem if_f {t : MT} {a b : MS} {ρ : Env} {S S1 : Sto} (h : t ρ S = .ok false S1) : sIf t a b ρ S = b ρ S1 := by
  show OS.of (t ρ S) ρ _ = _
  rw [h]; rfl
theorem mem_rangeD {lo : Int} {n : Nat} {d : D} (h : d ∈ rangeD lo n) : ∃ i : Nat, i < n ∧ d = .int (lo + i) := by
  unfold rangeD at h
  obtain ⟨i, hi, rfl⟩ := List.mem_map.mp h
  exact ⟨i, List.mem_range.mp hi, rfl⟩
/-! ### the cask -/
/-- the cask's object at c -/
structure Cask (S : Sto) (c : Nat) (k : Int) : Prop where
  ex : ∃ a b : Int, S[c]? = some (.lst [.int a, .int b, .int k]) ∧ 0 ≤ a ∧ 0 ≤ b ∧ b < 10 ^ 60 ∧ 0 ≤ k
def tapM : MS := (sSeq (sIf (mTst (m2 gtO (m2 ixO (mVar 0) (mC (.int 0))) (mC (.int 0))))
  (sSeq (sSet 2 (m2 modO (mN intG (aCons (m2 ixO (mVar 0) (mC (.int 0))) aNil)) (mVar 1)))
  (sSeq (sSub (m2 fdivO (m2 ixO (mVar 0) (mC (.int 0))) (mVar 1)) (mVar 0) (mC (.int 0)))
  (sRet (mVar 2))))
  sNil)
  (sSeq (sSub (m2 addO (m2 ixO (mVar 0) (mC (.int 2))) (mC (.int 1))) (mVar 0) (mC (.int 2)))
  (sSeq (sSet 3 (m2 modO (m2 powO (mN intG (aCons (m2 addO (m2 ixO (mVar 0) (mC (.int 1))) (m2 mulO (mC (.int 30011)) (m2 ixO (mVar 0) (mC (.int 2))))) aNil)) (mC (.int 2))) (m2 addO (m2 powO (mC (.int 10)) (mC (.int 39))) (mC (.int 3)))))
  (sSeq (sSet 3 (m2 modO (m2 powO (mN intG (aCons (m2 addO (mVar 3) (m2 mulO (mC (.int 500009)) (m2 ixO (mVar 0) (mC (.int 2))))) aNil)) (mC (.int 3))) (m2 addO (m2 powO (mC (.int 10)) (mC (.int 40))) (mC (.int 121)))))
  (sRet (m2 modO (m2 fdivO (mVar 3) (mC (.int 131072))) (mVar 1)))))))
def tapF : Mi := runD 4 tapM
theorem log2_lt {n m : Nat} (hm : 0 < m) (h : n < 2 ^ m) : n.log2 < m := by
  by_cases z : n = 0
  · subst z; simpa using hm
  · exact (Nat.log2_lt z).mpr h
theorem intBits_lt {i : Int} {m : Nat} (h0 : 0 ≤ i) (h : i < 2 ^ m) : Builtin.Int.intBits i ≤ m := PyProof.Rows.intBits_le (by
  have : ((i.natAbs : Nat) : Int) < ((2 ^ m : Nat) : Int) := by
    rw [Int.natAbs_of_nonneg h0]; push_cast; exact h
  exact Int.ofNat_lt.mp this)
section
variable {S : Sto} {i j : Int}
theorem gtO_int : gtO S (.int i) (.int j) = some (.bl (decide (j < i))) := by
  show (if okLt (.int i) (.int j) then some (D.bl (dlt (.int j) (.int i))) else none) = _
  rw [if_pos (show okLt (.int i) (.int j) = true from rfl)]
  show some (D.bl (PySem.W.dataLt (.int j) (.int i))) = _
  rw [PySem.W.dataLt_int]
theorem ltO_int : ltO S (.int i) (.int j) = some (.bl (decide (i < j))) := by
  show (if okLt (.int i) (.int j) then some (D.bl (dlt (.int i) (.int j))) else none) = _
  rw [if_pos (show okLt (.int i) (.int j) = true from rfl)]
  show some (D.bl (PySem.W.dataLt (.int i) (.int j))) = _
  rw [PySem.W.dataLt_int]
theorem eqO_int : eqO S (.int i) (.int j) = some (.bl (i == j)) := by
  show (if okEq (.int i) (.int j) then some (D.bl (deq (.int i) (.int j))) else none) = _
  rw [if_pos (show okEq (.int i) (.int j) = true from rfl)]
  rfl
end
/-- the tap: a draw under span, the cask goes on -/
theorem tap_ok {S : Sto} {c : Nat} {k span : Int} (h : Cask S c k) (hk : k < 10 ^ 9) (h0 : 0 < span) (h1 : span < 10 ^ 9) : ∃ d : Int, ∃ S' : Sto, ∃ k' : Int, tapF [.obj c, .int span] S = .ok (.int d) S' ∧ 0 ≤ d ∧ d < span ∧ k' ≤ k + 1 ∧ Cask S' c k' ∧ ∃ o, S' = S.set c o := by
  obtain ⟨a, b, hS, ha, hb, hb2, hk0⟩ := h.ex
  have hc : c < S.length := (List.getElem?_eq_some_iff.mp hS).1
  have x0 : ixO S (.obj c) (.int 0) = some (.int a) := by
    show (seqD S (.obj c)).bind _ = _
    simp only [seqD, hS]; rfl
  have x1 : ∀ k, S[c]? = some (.lst [.int a, .int b, .int k]) → ixO S (.obj c) (.int 1) = some (.int b) := fun k h => by
    show (seqD S (.obj c)).bind _ = _
    simp only [seqD, h]; rfl
  have x2 : ixO S (.obj c) (.int 2) = some (.int k) := by
    show (seqD S (.obj c)).bind _ = _
    simp only [seqD, hS]; rfl
  have hsp : span.natAbs.log2 < 9000 := log2_lt (by decide) (by
    have : ((span.natAbs : Nat) : Int) < ((2 ^ 9000 : Nat) : Int) := by
      rw [Int.natAbs_of_nonneg (by omega)]
      exact Int.lt_trans h1 (by decide +kernel)
    exact Int.ofNat_lt.mp this)
  by_cases hp : 0 < a
  · refine ⟨a % span, S.set c (.lst [.int (a / span), .int b, .int k]), k, ?_, Int.emod_nonneg _ (by omega), Int.emod_lt_of_pos _ h0, by omega, ⟨a / span, b, List.getElem?_set_self hc, Int.ediv_nonneg ha (by omega), hb, hb2, hk0⟩, _, rfl⟩
    simp only [tapF, runD, tapM, List.map_cons, List.map_nil, List.length_cons, List.length_nil]
    show (match tapM [some (.obj c), some (.int span), none, none] S with | .nx _ S' => Out.ok D.non S' | .rt d S' => .ok d S' | .exc e _ S' => .exc e S' | _ => .stuck) = _
    have t1 : (mTst (m2 gtO (m2 ixO (mVar 0) (mC (.int 0))) (mC (.int 0)))) [some (.obj c), some (.int span), none, none] S = .ok true S := by
      simp only [mTst, m2, mVar, mC, Out.bind, ofO, List.getElem?_cons_zero, x0, gtO_int, decide_eq_true hp]
    have e : tapM [some (.obj c), some (.int span), none, none] S = .rt (.int (a % span)) (S.set c (.lst [.int (a / span), .int b, .int k])) := by
      unfold tapM
      apply seq_rt
      rw [if_t t1]
      rw [seq_nx (set_ok (i := 2) (d := .int (a % span)) (S1 := S) (by simp only [m2, mN, aCons, aNil, mVar, mC, Out.bind, ofO, List.getElem?_cons_zero, List.getElem?_cons_succ, x0, intG, modO, if_pos h0]))]
      simp only [List.set_cons_zero, List.set_cons_succ]
      rw [seq_nx (ρ1 := [some (.obj c), some (.int span), some (.int (a % span)), none]) (S1 := S.set c (.lst [.int (a / span), .int b, .int k]))]
      · rfl
      · simp only [sSub, OS.of, m2, mVar, mC, Out.bind, ofO, List.getElem?_cons_zero, List.getElem?_cons_succ, x0, fdivO, if_pos (And.intro h0 hsp), hS]
        rfl
    rw [e]
  · have ha0 : a = 0 := by omega
    subst ha0
    let S1 := S.set c (.lst [.int 0, .int b, .int (k + 1)])
    have hS1 : S1[c]? = some (.lst [.int 0, .int b, .int (k + 1)]) := List.getElem?_set_self hc
    have y1 : ixO S1 (.obj c) (.int 1) = some (.int b) := by
      show (seqD S1 (.obj c)).bind _ = _
      simp only [seqD, hS1]; rfl
    have y2 : ixO S1 (.obj c) (.int 2) = some (.int (k + 1)) := by
      show (seqD S1 (.obj c)).bind _ = _
      simp only [seqD, hS1]; rfl
    have l0 : ∀ {i : Int} {m : Nat}, 0 < m → 0 ≤ i → i < 2 ^ m → i.natAbs.log2 < m := fun {i m} hm h0 h => log2_lt hm (by
      have : ((i.natAbs : Nat) : Int) < ((2 ^ m : Nat) : Int) := by
        rw [Int.natAbs_of_nonneg h0]; push_cast; exact h
      exact Int.ofNat_lt.mp this)
    let u1 := (b + 30011 * (k + 1)) ^ 2 % (10 ^ 39 + 3)
    let u2 := (u1 + 500009 * (k + 1)) ^ 3 % (10 ^ 40 + 121)
    have hu1 : 0 ≤ u1 ∧ u1 < 10 ^ 39 + 3 := ⟨Int.emod_nonneg _ (by decide), Int.emod_lt_of_pos _ (by decide)⟩
    have hu2 : 0 ≤ u2 ∧ u2 < 10 ^ 40 + 121 := ⟨Int.emod_nonneg _ (by decide), Int.emod_lt_of_pos _ (by decide)⟩
    refine ⟨u2 / 131072 % span, S1, k + 1, ?_, Int.emod_nonneg _ (by omega), Int.emod_lt_of_pos _ h0, by omega, ⟨0, b, hS1, by omega, hb, hb2, by omega⟩, _, rfl⟩
    show (match tapM [some (.obj c), some (.int span), none, none] S with | .nx _ S' => Out.ok D.non S' | .rt d S' => .ok d S' | .exc e _ S' => .exc e S' | _ => .stuck) = _
    have t1 : (mTst (m2 gtO (m2 ixO (mVar 0) (mC (.int 0))) (mC (.int 0)))) [some (.obj c), some (.int span), none, none] S = .ok false S := by
      simp only [mTst, m2, mVar, mC, Out.bind, ofO, List.getElem?_cons_zero, x0, gtO_int, decide_eq_false hp]
    have m1' : ((30011 : Int)).natAbs.log2 + (k + 1).natAbs.log2 < 1000000 := by
      have h1 : ((30011 : Int)).natAbs.log2 < 100 := by decide +kernel
      have h2 : (k + 1).natAbs.log2 < 100 := l0 (by decide) (by omega) (by omega)
      omega
    have m2' : ((500009 : Int)).natAbs.log2 + (k + 1).natAbs.log2 < 1000000 := by
      have h1 : ((500009 : Int)).natAbs.log2 < 100 := by decide +kernel
      have h2 : (k + 1).natAbs.log2 < 100 := l0 (by decide) (by omega) (by omega)
      omega
    have p1 : (Builtin.Int.intBits (b + 30011 * (k + 1)) : Int) * 2 ≤ 2 ^ 27 := by
      have := intBits_lt (i := b + 30011 * (k + 1)) (m := 250) (by omega) (by omega)
      omega
    have p2 : (Builtin.Int.intBits (u1 + 500009 * (k + 1)) : Int) * 3 ≤ 2 ^ 27 := by
      have := intBits_lt (i := u1 + 500009 * (k + 1)) (m := 250) (by omega) (by omega)
      omega
    have q39 : powO S1 (.int 10) (.int 39) = some (.int (10 ^ 39)) := by rfl
    have q40 : powO S1 (.int 10) (.int 40) = some (.int (10 ^ 40)) := by rfl
    have e : tapM [some (.obj c), some (.int span), none, none] S = .rt (.int (u2 / 131072 % span)) S1 := by
      unfold tapM
      rw [seq_nx (ρ1 := [some (.obj c), some (.int span), none, none]) (S1 := S) (by rw [if_f t1]; rfl)]
      rw [seq_nx (ρ1 := [some (.obj c), some (.int span), none, none]) (S1 := S1) (by
        simp only [sSub, OS.of, m2, mVar, mC, Out.bind, ofO, List.getElem?_cons_zero, List.getElem?_cons_succ, x2, addO, hS]
        rfl)]
      rw [seq_nx (set_ok (i := 3) (d := .int u1) (S1 := S1) (by
        simp only [m2, mN, aCons, aNil, mVar, mC, Out.bind, ofO, List.getElem?_cons_zero, List.getElem?_cons_succ, y1, y2, intG, mulO, addO, if_pos m1']
        simp only [powO, if_pos (And.intro (by decide : (0 : Int) ≤ 2) p1)]
        rfl))]
      simp only [List.set_cons_zero, List.set_cons_succ]
      rw [seq_nx (set_ok (i := 3) (d := .int u2) (S1 := S1) (by
        simp only [m2, mN, aCons, aNil, mVar, mC, Out.bind, ofO, List.getElem?_cons_zero, List.getElem?_cons_succ, y1, y2, intG, mulO, addO, if_pos m2']
        simp only [powO, if_pos (And.intro (by decide : (0 : Int) ≤ 3) p2)]
        rfl))]
      simp only [List.set_cons_zero, List.set_cons_succ]
      apply ret_ok
      have d1 : (0 : Int) < 131072 ∧ (Int.natAbs 131072).log2 < 9000 := by decide +kernel
      simp only [m2, mVar, mC, Out.bind, ofO, List.getElem?_cons_zero, List.getElem?_cons_succ, fdivO, modO, if_pos d1, if_pos h0]
    rw [e]
end DL
namespace DL
open PySem L2
def caskM : MS := (sSeq (sSet 2 (mIf (mTst (m2 ltO (mVar 1) (mN lenG (aCons (mVar 0) aNil)))) (m2 ixO (mVar 0) (mVar 1)) (mC (.int 0))))
  (sRet (mLstO (aCons (mN maxG (aCons (mC (.int 0)) (aCons (m2 subO (mN absG (aCons (mVar 2) aNil)) (m2 powO (mC (.int 10)) (mC (.int 18)))) aNil))) (aCons (m2 addO (m2 addO (m2 mulO (m2 modO (mN intG (aCons (mVar 2) aNil)) (m2 addO (m2 powO (mC (.int 10)) (mC (.int 38))) (mC (.int 133)))) (mC (.int 59))) (m2 mulO (mC (.int 61)) (mVar 1))) (mC (.int 23))) (aCons (mC (.int 0)) aNil))))))
def caskF : Mi := runD 3 caskM
theorem cask_ok (ns : List Int) (at_ : Nat) (ha : at_ < 64) (S : Sto) : ∃ o, caskF [scr ns, .int at_] S = .ok (.obj S.length) (S ++ [o]) ∧ Cask (S ++ [o]) S.length 0 := by
  have key : ∀ cell : Int, (mIf (mTst (m2 ltO (mVar 1) (mN lenG (aCons (mVar 0) aNil)))) (m2 ixO (mVar 0) (mVar 1)) (mC (.int 0))) [some (scr ns), some (.int at_), none] S = .ok (.int cell) S →
      ∃ o, caskF [scr ns, .int at_] S = .ok (.obj S.length) (S ++ [o]) ∧ Cask (S ++ [o]) S.length 0 := fun cell hcell => by
    let a := if (if cell < 0 then -cell else cell) - 10 ^ 18 > 0 then (if cell < 0 then -cell else cell) - 10 ^ 18 else 0
    let b := cell % (10 ^ 38 + 133) * 59 + 61 * at_ + 23
    have hm : 0 ≤ cell % (10 ^ 38 + 133) ∧ cell % (10 ^ 38 + 133) < 10 ^ 38 + 133 := ⟨Int.emod_nonneg _ (by decide), Int.emod_lt_of_pos _ (by decide)⟩
    have l0 : ∀ {i : Int} {m : Nat}, 0 < m → 0 ≤ i → i < 2 ^ m → i.natAbs.log2 < m := fun {i m} hm h0 h => log2_lt hm (by
      have : ((i.natAbs : Nat) : Int) < ((2 ^ m : Nat) : Int) := by
        rw [Int.natAbs_of_nonneg h0]; push_cast; exact h
      exact Int.ofNat_lt.mp this)
    have m1' : (cell % (10 ^ 38 + 133)).natAbs.log2 + ((59 : Int)).natAbs.log2 < 1000000 := by
      have h1 : ((59 : Int)).natAbs.log2 < 100 := by decide +kernel
      have h2 : (cell % (10 ^ 38 + 133)).natAbs.log2 < 200 := l0 (by decide) hm.1 (by omega)
      omega
    have m2' : ((61 : Int)).natAbs.log2 + ((at_ : Int)).natAbs.log2 < 1000000 := by
      have h1 : ((61 : Int)).natAbs.log2 < 100 := by decide +kernel
      have h2 : ((at_ : Int)).natAbs.log2 < 100 := l0 (by decide) (by omega) (by omega)
      omega
    have q18 : powO S (.int 10) (.int 18) = some (.int (10 ^ 18)) := by rfl
    have q38 : powO S (.int 10) (.int 38) = some (.int (10 ^ 38)) := by rfl
    have d38 : (0 : Int) < 10 ^ 38 + 133 := by decide
    refine ⟨.lst [.int a, .int b, .int 0], ?_, ⟨a, b, by rw [List.getElem?_append_right (Nat.le_refl _), Nat.sub_self]; rfl, ?_, by omega, by omega, by omega⟩⟩
    · show (match caskM [some (scr ns), some (.int at_), none] S with | .nx _ S' => Out.ok D.non S' | .rt d S' => .ok d S' | .exc e _ S' => .exc e S' | _ => .stuck) = _
      have e : caskM [some (scr ns), some (.int at_), none] S = .rt (.obj S.length) (S ++ [.lst [.int a, .int b, .int 0]]) := by
        unfold caskM
        rw [seq_nx (set_ok hcell)]
        simp only [List.set_cons_zero, List.set_cons_succ]
        apply ret_ok
        simp only [mLstO, m2, mN, aCons, aNil, mVar, mC, Out.bind, ofO, List.getElem?_cons_zero, List.getElem?_cons_succ, absG, q18, q38, subO, maxG, intG, addO, modO, if_pos d38, mulO, if_pos m1', if_pos m2', List.length_cons, List.length_nil]
        rw [if_pos (by show 3 ≤ 1000000; decide)]
      rw [e]
    · show 0 ≤ (if (if cell < 0 then -cell else cell) - 10 ^ 18 > 0 then (if cell < 0 then -cell else cell) - 10 ^ 18 else 0)
      split <;> omega
  have hlen : lenG S [scr ns] = some (.int ns.length) := by
    have e : lenG S [scr ns] = some (D.int ((ns.map D.int).length : Nat)) := rfl
    rw [e, List.length_map]
  by_cases h : at_ < ns.length
  · refine key ns[at_] ?_
    have hi : ixO S (scr ns) (.int at_) = some (.int ns[at_]) := by
      have e : ixO S (scr ns) (.int at_) = L2.atI (ns.map D.int) at_ := rfl
      rw [e]
      exact L2.atI_nat (by rw [List.getElem?_map, List.getElem?_eq_getElem h]; rfl)
    simp only [mIf, mTst, m2, mN, aCons, aNil, mVar, mC, Out.bind, ofO, List.getElem?_cons_zero, List.getElem?_cons_succ, hlen, ltO_int, decide_eq_true (Int.ofNat_lt.mpr h), if_true, hi]
  · refine key 0 ?_
    simp only [mIf, mTst, m2, mN, aCons, aNil, mVar, mC, Out.bind, ofO, List.getElem?_cons_zero, List.getElem?_cons_succ, hlen, ltO_int, decide_eq_false (fun z => h (Int.ofNat_lt.mp z)), Bool.false_eq_true, if_false]
end DL
/-! ### small steps -/
namespace DL
open PySem L2
section
variable {F : Mi} {n : Nat} {m m1 m2 : ME} {t u : MT} {ms : MS} {ds : List D} {ρ ρ1 : Env} {S S1 S2 : Sto} {d x y : D} {b : Bool} {e : Ex}
theorem runD_rt (hρ : ds.map some ++ List.replicate (n - ds.length) none = ρ) (h : ms ρ S = .rt d S1) : runD n ms ds S = .ok d S1 := by
  unfold runD; rw [hρ, h]
theorem runD_nx (hρ : ds.map some ++ List.replicate (n - ds.length) none = ρ) (h : ms ρ S = .nx ρ1 S1) : runD n ms ds S = .ok .non S1 := by
  unfold runD; rw [hρ, h]
theorem runD_exc (hρ : ds.map some ++ List.replicate (n - ds.length) none = ρ) (h : ms ρ S = .exc e ρ1 S1) : runD n ms ds S = .exc e S1 := by
  unfold runD; rw [hρ, h]
theorem or_ff (h : t ρ S = .ok false S1) (h2 : u ρ S1 = .ok b S2) : tOr' t u ρ S = .ok b S2 := by
  unfold tOr'; rw [h]; exact h2
theorem or_tt (h : t ρ S = .ok true S1) : tOr' t u ρ S = .ok true S1 := by
  unfold tOr'; rw [h]; rfl
theorem and_tt (h : t ρ S = .ok true S1) (h2 : u ρ S1 = .ok b S2) : tAnd' t u ρ S = .ok b S2 := by
  unfold tAnd'; rw [h]; exact h2
theorem and_ff (h : t ρ S = .ok false S1) : tAnd' t u ρ S = .ok false S1 := by
  unfold tAnd'; rw [h]; rfl
theorem not_ok (h : t ρ S = .ok b S1) : tNot' t ρ S = .ok (!b) S1 := by
  unfold tNot'; rw [h]; rfl
theorem tru_bl (h : m ρ S = .ok (.bl b) S1) : mTru m ρ S = .ok b S1 := by
  unfold mTru; rw [h]; rfl
theorem tst_bl (h : m ρ S = .ok (.bl b) S1) : mTst m ρ S = .ok b S1 := by
  unfold mTst; rw [h]; rfl
theorem for_ok {src : MI} {bd : Bd} {body : MS} (h : src ρ S = .ok ds S1) : sFor src bd body ρ S = forL bd body ds ρ S1 := by
  unfold sFor; rw [h]; rfl
theorem call_0 : mCall F aNil ρ S = F [] S := rfl
theorem call_1 (h1 : m1 ρ S = .ok x S1) : mCall F (aCons m1 aNil) ρ S = F [x] S1 := by
  unfold mCall aCons; rw [h1]; rfl
theorem call_2 (h1 : m1 ρ S = .ok x S1) (h2 : m2 ρ S1 = .ok y S2) : mCall F (aCons m1 (aCons m2 aNil)) ρ S = F [x, y] S2 := by
  unfold mCall aCons
  rw [h1]
  simp only [Out.bind, h2]
  rfl
end
end DL
/-! the mirrors, printed by gen.py -/
namespace K04
open PySem L2 DL
def top (i : Nat) : Stmt := PySem.Challenge.pw_tokenreads_k04_kinds.main.body.getD i (.Pass ⟨0, 0, 0, 0⟩)
def d_LAG : D := (.str "lag")
def d_ROAM : D := (.str "roam")
def d_GHOSTS : D := (.str "ghosts")
def d_HANDS : D := (.str "hands")
def d_WORDS : D := (.tup [(.str "lag"), (.str "tails"), (.str "roam"), (.str "ghosts"), (.str "unsure"), (.str "hands")])
def d_WITH_LAG : D := (.tup [(.str "tails"), (.str "ghosts"), (.str "unsure")])
def d_WITH_ROAM : D := (.tup [(.str "ghosts"), (.str "hands")])
def ca1 : Nat → Option Bool := fun c => match c with | 1 => some true | _ => none
def m__law_kinds : MS := (sSeq (sSet 0 (mLst (aCons (mTup aNil) aNil)))
  (sSeq (sFor (iSeq (mTup (aCons (mC (.str "lag")) (aCons (mC (.str "tails")) (aCons (mC (.str "roam")) (aCons (mC (.str "ghosts")) (aCons (mC (.str "unsure")) (aCons (mC (.str "hands")) aNil)))))))) (bName 1)
  (sSet 0 (m2 addO (mVar 0) (mLc (iSeq (mVar 0)) (bName 3) mYes (m2 addO (mVar 3) (mTup (aCons (mVar 1) aNil))) [3]))))
  (sSeq (sSet 2 (mLstO aNil))
  (sSeq (sFor (iSeq (mVar 0)) (bName 3)
  (sSeq (sSet 4 (mLc (iSeq (mTup (aCons (mC (.str "tails")) (aCons (mC (.str "ghosts")) (aCons (mC (.str "unsure")) aNil))))) (bName 1) (mTst (m2 inD (mVar 1) (mVar 3))) (mVar 1) [1]))
  (sSeq (sSet 5 (mLc (iSeq (mTup (aCons (mC (.str "ghosts")) (aCons (mC (.str "hands")) aNil)))) (bName 1) (mTst (m2 inD (mVar 1) (mVar 3))) (mVar 1) [1]))
  (sSeq (sSet 6 (mAnd (mOr (m2 eqO (mVar 4) (mLst aNil)) (m2 inD (mC (.str "lag")) (mVar 3))) (mOr (m2 eqO (mVar 5) (mLst aNil)) (m2 inD (mC (.str "roam")) (mVar 3)))))
  (sIf (tAnd' (mTru (mVar 6)) (mTst (m2 ltO (mN lenG (aCons (mVar 5) aNil)) (mC (.int 2)))))
  (sApp (mVar 2) (mVar 3))
  sNil)))))
  (sSeq (sSet 7 (mLst aNil))
  (sSeq (sFor (iRange1 (mC (.int 7))) (bName 8)
  (sSet 7 (m2 addO (mVar 7) (mLc (iSeq (mN sortedG (aCons (mVar 2) aNil))) (bName 3) (mTst (m2 eqO (mN lenG (aCons (mVar 3) aNil)) (mVar 8))) (mVar 3) [3]))))
  (sRet (mVar 7))))))))
def F__law_kinds : Mi := runD 9 m__law_kinds
def m_kind_order : MS := (sRet (mTup (aCons (mN lenG (aCons (mVar 0) aNil)) (aCons (mVar 0) aNil))))
def F_kind_order : Mi := runD 1 m_kind_order
def m_has_what_it_needs : MS := (sSeq (sIf (tAnd' (mTst (m2 ninD (mC d_LAG) (mVar 0))) (mTru (mN anyG (aCons (mLc (iSeq (mC d_WITH_LAG)) (bName 1) mYes (m2 inD (mVar 1) (mVar 0)) [1]) aNil))))
  (sRet (mC (.bl false)))
  sNil)
  (sSeq (sIf (tAnd' (mTst (m2 ninD (mC d_ROAM) (mVar 0))) (mTru (mN anyG (aCons (mLc (iSeq (mC d_WITH_ROAM)) (bName 1) mYes (m2 inD (mVar 1) (mVar 0)) [1]) aNil))))
  (sRet (mC (.bl false)))
  sNil)
  (sRet (mOr (m2 ninD (mC d_GHOSTS) (mVar 0)) (m2 ninD (mC d_HANDS) (mVar 0))))))
def F_has_what_it_needs : Mi := runD 2 m_has_what_it_needs
def m_all_kinds : MS := (sSeq (sSet 0 (mLst (aCons (mTup aNil) aNil)))
  (sSeq (sFor (iSeq (mC d_WORDS)) (bName 1)
  (sSet 0 (mLst (aStar (mVar 0) (aStar (mLc (iSeq (mVar 0)) (bName 2) mYes (mTup (aStar (mVar 2) (aCons (mVar 1) aNil))) [2]) aNil)))))
  (sRet (mSortKW finO F_kind_order (mLc (iSeq (mVar 0)) (bName 2) (mTru (mCall F_has_what_it_needs (aCons (mVar 2) aNil))) (mVar 2) [2])))))
def F_all_kinds : Mi := runD 3 m_all_kinds
def m__law_cask : MS := (sSeq (sSet 2 (mIf (mTst (m2 ltO (mVar 1) (mN lenG (aCons (mVar 0) aNil)))) (m2 ixO (mVar 0) (mVar 1)) (mC (.int 0))))
  (sRet (mLstO (aCons (mN maxG (aCons (mC (.int 0)) (aCons (m2 subO (mN absG (aCons (mVar 2) aNil)) (m2 powO (mC (.int 10)) (mC (.int 18)))) aNil))) (aCons (m2 addO (m2 addO (m2 mulO (m2 modO (mN intG (aCons (mVar 2) aNil)) (m2 addO (m2 powO (mC (.int 10)) (mC (.int 38))) (mC (.int 133)))) (mC (.int 59))) (m2 mulO (mC (.int 61)) (mVar 1))) (mC (.int 23))) (aCons (mC (.int 0)) aNil))))))
def F__law_cask : Mi := runD 3 m__law_cask
def m__law_agree (G : Mi) : MS := (sSeq (sIf (tOr' (mTru (mN isiG (aCons (mVar 0) (aCons (mC (.ty "bool")) aNil)))) (mTru (mN isiG (aCons (mVar 1) (aCons (mC (.ty "bool")) aNil)))))
  (sRet (mAnd (mN isiG (aCons (mVar 0) (aCons (mC (.ty "bool")) aNil))) (mAnd (mN isiG (aCons (mVar 1) (aCons (mC (.ty "bool")) aNil))) (m2 eqO (mVar 0) (mVar 1)))))
  sNil)
  (sSeq (sIf (tOr' (mTst (m2 neO (mN isiG (aCons (mVar 0) (aCons (mC (.ty "list")) aNil))) (mN isiG (aCons (mVar 1) (aCons (mC (.ty "list")) aNil))))) (mTst (m2 neO (mN isiG (aCons (mVar 0) (aCons (mC (.ty "tuple")) aNil))) (mN isiG (aCons (mVar 1) (aCons (mC (.ty "tuple")) aNil))))))
  (sRet (mC (.bl false)))
  sNil)
  (sSeq (sIf (tOr' (mTst (m2 neO (mN isiG (aCons (mVar 0) (aCons (mC (.ty "str")) aNil))) (mN isiG (aCons (mVar 1) (aCons (mC (.ty "str")) aNil))))) (mTst (m2 neO (mN isiG (aCons (mVar 0) (aCons (mC (.ty "int")) aNil))) (mN isiG (aCons (mVar 1) (aCons (mC (.ty "int")) aNil))))))
  (sRet (mC (.bl false)))
  sNil)
  (sSeq (sIf (mTru (mN isiG (aCons (mVar 1) (aCons (mTup (aCons (mC (.ty "list")) (aCons (mC (.ty "tuple")) aNil))) aNil))))
  (sSeq (sIf (mTst (m2 neO (mN lenG (aCons (mVar 0) aNil)) (mN lenG (aCons (mVar 1) aNil))))
  (sRet (mC (.bl false)))
  sNil)
  (sRet (m2 eqO (mLc (iRange1 (mN lenG (aCons (mVar 1) aNil))) (bName 2) (tNot' (mTru (mCall G (aCons (m2 ixO (mVar 0) (mVar 2)) (aCons (m2 ixO (mVar 1) (mVar 2)) aNil))))) (mVar 2) [2]) (mLst aNil))))
  sNil)
  (sRet (mAnd (m2 eqO (m2 isNO (mVar 0) (mC .non)) (m2 isNO (mVar 1) (mC .non))) (m2 eqO (mVar 0) (mVar 1))))))))
def F__law_agree : Nat → Mi
  | 0 => fun _ _ => .stuck
  | n + 1 => runD 3 (m__law_agree (F__law_agree n))
def m__law_tap : MS := (sSeq (sIf (mTst (m2 gtO (m2 ixO (mVar 0) (mC (.int 0))) (mC (.int 0))))
  (sSeq (sSet 2 (m2 modO (mN intG (aCons (m2 ixO (mVar 0) (mC (.int 0))) aNil)) (mVar 1)))
  (sSeq (sSub (m2 fdivO (m2 ixO (mVar 0) (mC (.int 0))) (mVar 1)) (mVar 0) (mC (.int 0)))
  (sRet (mVar 2))))
  sNil)
  (sSeq (sSub (m2 addO (m2 ixO (mVar 0) (mC (.int 2))) (mC (.int 1))) (mVar 0) (mC (.int 2)))
  (sSeq (sSet 3 (m2 modO (m2 powO (mN intG (aCons (m2 addO (m2 ixO (mVar 0) (mC (.int 1))) (m2 mulO (mC (.int 30011)) (m2 ixO (mVar 0) (mC (.int 2))))) aNil)) (mC (.int 2))) (m2 addO (m2 powO (mC (.int 10)) (mC (.int 39))) (mC (.int 3)))))
  (sSeq (sSet 3 (m2 modO (m2 powO (mN intG (aCons (m2 addO (mVar 3) (m2 mulO (mC (.int 500009)) (m2 ixO (mVar 0) (mC (.int 2))))) aNil)) (mC (.int 3))) (m2 addO (m2 powO (mC (.int 10)) (mC (.int 40))) (mC (.int 121)))))
  (sRet (m2 modO (m2 fdivO (mVar 3) (mC (.int 131072))) (mVar 1)))))))
def F__law_tap : Mi := runD 4 m__law_tap
def m__law_any_thing : MS := (sSeq (sSet 2 (mN listG (aCons (m2 ixO (mVar 1) (mCall F__law_tap (aCons (mVar 0) (aCons (mC (.int 19)) aNil)))) aNil)))
  (sSeq (sPar 3 4 (aCons (mCall F__law_tap (aCons (mVar 0) (aCons (m2 addO (mN lenG (aCons (mVar 2) aNil)) (mC (.int 1))) aNil))) (aCons (mCall F__law_tap (aCons (mVar 0) (aCons (mC (.int 7)) aNil))) aNil)))
  (sSeq (sSet 5 (mLst (aCons (mC (.str "lag")) (aCons (mC (.str "tails")) (aCons (mC (.str "roam")) (aCons (mC (.str "ghosts")) (aCons (mC (.str "unsure")) (aCons (mC (.str "hands")) (aCons (mC (.str "Lag")) (aCons (mC (.str "")) (aCons (mC .non) (aCons (mC (.int 3)) (aCons (mTup (aCons (mC (.str "lag")) aNil)) (aCons (mLst (aCons (mC (.str "lag")) aNil)) aNil))))))))))))))
  (sSeq (sSet 5 (m2 ixO (mVar 5) (mCall F__law_tap (aCons (mVar 0) (aCons (mC (.int 12)) aNil)))))
  (sSeq (sIf (mTst (m2 eqO (mVar 4) (mC (.int 0))))
  (sRet (mN tupleG (aCons (mRev (mVar 2)) aNil)))
  sNil)
  (sSeq (sIf (mTst (m2 eqO (mVar 4) (mC (.int 1))))
  (sRet (mN tupleG (aCons (m2 addO (m2 addO (mSl (mVar 2) oNone (oSome (mVar 3))) (mLst (aCons (mVar 5) aNil))) (mSl (mVar 2) (oSome (mVar 3)) oNone)) aNil)))
  sNil)
  (sSeq (sIf (mTst (m2 eqO (mVar 4) (mC (.int 2))))
  (sRet (mN tupleG (aCons (m2 addO (mSl (mVar 2) oNone (oSome (mVar 3))) (mSl (mVar 2) (oSome (m2 addO (mVar 3) (mC (.int 1)))) oNone)) aNil)))
  sNil)
  (sSeq (sIf (mTst (m2 eqO (mVar 4) (mC (.int 3))))
  (sRet (mVar 2))
  sNil)
  (sSeq (sIf (mTst (m2 eqO (mVar 4) (mC (.int 4))))
  (sRet (m2 ixO (mLst (aCons (mC .non) (aCons (mC (.str "lag")) (aCons (mC (.int 0)) (aCons (mC (.bl true)) (aCons (mC (.dct [])) (aCons (mTup (aCons (mC (.str "lag tails")) aNil)) aNil))))))) (mCall F__law_tap (aCons (mVar 0) (aCons (mC (.int 6)) aNil)))))
  sNil)
  (sSeq (sIf (mTst (m2 eqO (mVar 4) (mC (.int 5))))
  (sRet (mN tupleG (aCons (m2 addO (mVar 2) (mSl (mVar 2) oNone (oSome (mC (.int 1))))) aNil)))
  sNil)
  (sRet (mN tupleG (aCons (mVar 2) aNil)))))))))))))
def F__law_any_thing : Mi := runD 6 m__law_any_thing
def m_is_kind : MS := (sSeq (sIf (tOr' (tNot' (mTru (mN isiG (aCons (mVar 0) (aCons (mC (.ty "tuple")) aNil))))) (tNot' (mTru (mN allG (aCons (mLc (iSeq (mVar 0)) (bName 1) mYes (mAnd (mN isiG (aCons (mVar 1) (aCons (mC (.ty "str")) aNil))) (m2 inD (mVar 1) (mC d_WORDS))) [1]) aNil)))))
  (sRet (mC (.bl false)))
  sNil)
  (sRet (mAnd (m2 eqO (mVar 0) (mN tupleG (aCons (mLc (iSeq (mC d_WORDS)) (bName 1) (mTst (m2 inD (mVar 1) (mVar 0))) (mVar 1) [1]) aNil))) (mCall F_has_what_it_needs (aCons (mVar 0) aNil)))))
def F_is_kind : Mi := runD 2 m_is_kind
def m_check_kind : MS := (sIf (tNot' (mTru (mCall F_is_kind (aCons (mVar 0) aNil))))
  (sRaise 1)
  sNil)
def F_check_kind : Mi := runD 1 m_check_kind
def m_is_within : MS := (sRet (mN allG (aCons (mLc (iSeq (mVar 0)) (bName 2) mYes (m2 inD (mVar 2) (mVar 1)) [2]) aNil)))
def F_is_within : Mi := runD 3 m_is_within
def m_kind_within : MS := (sSeq (sDrop (mCall F_check_kind (aCons (mVar 0) aNil)))
  (sSeq (sDrop (mCall F_check_kind (aCons (mVar 1) aNil)))
  (sRet (mCall F_is_within (aCons (mVar 0) (aCons (mVar 1) aNil))))))
def F_kind_within : Mi := runD 2 m_kind_within
def m__law_said : MS := (sSeq (sAsg (mTup (aCons (mC .non) (aCons (mC (.bl true)) aNil))) (bTup 2 (bCons (bName 2) (bCons (bName 3) bNil))))
  (sSeq (sTry (sSet 2 (mCall F_kind_within (aCons (mVar 0) (aCons (mVar 1) aNil))))
  [⟨ca1, (some 4), fun e => (selX e 1 (sPar 2 3 (aCons (mC (.str "kind")) (aCons (mAnd (mC (.bl true)) (mNot (mC (.bl false)))) aNil)))
  sStuck)⟩])
  (sRet (mIf (mTru (mVar 3)) (mVar 2) (mC (.str "odd"))))))
def F__law_said : Mi := runD 5 m__law_said
def m_law : MS := (sSeq (sSet 1 (mCall F__law_kinds aNil))
  (sSeq (sSet 2 (mCall F_all_kinds aNil))
  (sSeq (sIf (tOr' (tNot' (mTru (mCall (F__law_agree 6) (aCons (mVar 2) (aCons (mVar 1) aNil))))) (mTst (m2 neO (mN lenG (aCons (mVar 1) aNil)) (mC (.int 19)))))
  (sRet (mC (.bl false)))
  sNil)
  (sSeq (sApp (mVar 2) (mC .non))
  (sSeq (sIf (tOr' (tNot' (mTru (mCall (F__law_agree 6) (aCons (mCall F_all_kinds aNil) (aCons (mVar 1) aNil))))) (mTst (m2 neO (mLc (iSeq (mVar 1)) (bName 3) (tNot' (mTru (mCall F_is_kind (aCons (mVar 3) aNil)))) (mVar 3) [3]) (mLst aNil))))
  (sRet (mC (.bl false)))
  sNil)
  (sSeq (sFor (iSeq (mVar 1)) (bName 3)
  (sFor (iSeq (mVar 1)) (bName 4)
  (sSeq (sSet 5 (m2 eqO (mLc (iSeq (mVar 3)) (bName 12) (mTst (m2 ninD (mVar 12) (mVar 4))) (mVar 12) [12]) (mLst aNil)))
  (sIf (tNot' (mTru (mCall (F__law_agree 6) (aCons (mLst (aCons (mCall F_kind_within (aCons (mVar 3) (aCons (mVar 4) aNil))) (aCons (mCallK F_kind_within [1, 0] aNil (aCons (mVar 4) (aCons (mVar 3) aNil))) aNil))) (aCons (mLst (aCons (mVar 5) (aCons (mVar 5) aNil))) aNil)))))
  (sRet (mC (.bl false)))
  sNil))))
  (sSeq (sFor (iRange1 (mN maxG (aCons (mC (.int 1)) (aCons (mN minG (aCons (mC (.int 5)) (aCons (mN lenG (aCons (mVar 0) aNil)) aNil))) aNil)))) (bName 6)
  (sSeq (sSet 7 (mCall F__law_cask (aCons (mVar 0) (aCons (mVar 6) aNil))))
  (sFor (iRange1 (mC (.int 30))) (bName 8)
  (sSeq (sPar 9 10 (aCons (mCall F__law_any_thing (aCons (mVar 7) (aCons (mVar 1) aNil))) (aCons (m2 ixO (mVar 1) (mCall F__law_tap (aCons (mVar 7) (aCons (mC (.int 19)) aNil)))) aNil)))
  (sSeq (sSet 5 (m2 inD (mVar 9) (mVar 1)))
  (sSeq (sIf (tNot' (mTru (mCall (F__law_agree 6) (aCons (mLst (aCons (mCall F_is_kind (aCons (mVar 9) aNil)) (aCons (mCallK F_is_kind [0] aNil (aCons (mVar 9) aNil)) aNil))) (aCons (mLst (aCons (mVar 5) (aCons (mVar 5) aNil))) aNil)))))
  (sRet (mC (.bl false)))
  sNil)
  (sSeq (sSet 11 (mLst (aCons (mCall F__law_said (aCons (mVar 9) (aCons (mVar 10) aNil))) (aCons (mCall F__law_said (aCons (mVar 10) (aCons (mVar 9) aNil))) (aCons (mCall F__law_said (aCons (mVar 9) (aCons (mVar 9) aNil))) aNil)))))
  (sIf (tAnd' (tNot' (mTru (mVar 5))) (mTst (m2 neO (mVar 11) (m2 mulO (mLst (aCons (mC (.str "kind")) aNil)) (mC (.int 3))))))
  (sRet (mC (.bl false)))
  sNil))))))))
  (sRet (mC (.bl true))))))))))
def F_law : Mi := runD 13 m_law
end K04
/-! the walk, printed by gen.py -/
namespace K04
open PySem L2 DL
abbrev UU (K : PySem.W.Frag) (C : Nat → Addr) : Uv := ⟨K, C, fun _ => 0, []⟩
theorem nf_fix {U : Uv} {i j : Nat} {a : Addr} (h : i ≠ j) : Nf (U.fix [(i, a)]) j := fun p hp => by
  rcases List.mem_singleton.mp hp with rfl
  exact h
structure Txt (K : PySem.W.Frag) (mg : Str → Option Value) (C : Nat → Addr) : Prop where
  b_abs : mg "abs" = none
  b_all : mg "all" = none
  b_any : mg "any" = none
  b_bool : mg "bool" = none
  b_int : mg "int" = none
  b_isinstance : mg "isinstance" = none
  b_len : mg "len" = none
  b_list : mg "list" = none
  b_max : mg "max" = none
  b_min : mg "min" = none
  b_range : mg "range" = none
  b_sorted : mg "sorted" = none
  b_str : mg "str" = none
  b_tuple : mg "tuple" = none
  g_LAG : GC K mg (UU K C) "LAG" d_LAG
  g_ROAM : GC K mg (UU K C) "ROAM" d_ROAM
  g_GHOSTS : GC K mg (UU K C) "GHOSTS" d_GHOSTS
  g_HANDS : GC K mg (UU K C) "HANDS" d_HANDS
  g_WORDS : GC K mg (UU K C) "WORDS" d_WORDS
  g_WITH_LAG : GC K mg (UU K C) "WITH_LAG" d_WITH_LAG
  g_WITH_ROAM : GC K mg (UU K C) "WITH_ROAM" d_WITH_ROAM
  k0 : ExCls K mg (C 0) "StoreError"
  k1 : ExCls K mg (C 1) "BadKind"
  k2 : ExCls K mg (C 2) "BadBook"
  x1 : ∀ c b, ca1 c = some b → PySem.W.exmOne K (.ref (C c)) (.ref (C 1)) = some b
  e1 : ExcC K (C 1)
  q1_0 : PySem.W.kitOne K (.ref (C 1)) (.ref (C 0)) = some true
  q1_2 : PySem.W.kitOne K (.ref (C 1)) (.ref (C 2)) = some false
section
variable {P : Program} {w : World} {K : PySem.W.Frag} {mg : Str → Option Value} {base : Heap} {C : Nat → Addr}
theorem sc__law_kinds : FnScope ["found", "word", "due", "words", "needs_lag", "needs_roam", "good", "rows_here", "size"] [] (defScope (top 25)) := ⟨rfl, rfl, rfl, by decide +kernel, rfl, by decide +kernel, by decide +kernel⟩
theorem ok__law_kinds (T : Txt K mg C) {f : Addr} {fd : FuncData} (F : L2.Fun K "_law_kinds" "_law_kinds" (top 25) f fd) (hm : mg "_law_kinds" = some (.ref f)) (hb : Binds K fd [] []) : Does P w K mg base (UU K C) 2 "_law_kinds" f fd [] F__law_kinds := by
  have sc := sc__law_kinds
  exact ok_def F hm hb sc rfl fun cdv A outer s H E hr => (ss_cons (s_set 0 sc.nd (e_lst (a_cons (e_tup a_nil) a_nil)))
  (ss_cons (s_for (i_seq (e_tup (a_cons e_str (a_cons e_str (a_cons e_str (a_cons e_str (a_cons e_str (a_cons e_str a_nil)))))))) (g_name 1 sc.nd)
  (ss_one (s_set 0 sc.nd (e_op o_add (e_var 0) (e_lc [("words", 3)] sc.nd (i_seq (e_var 0)) (blkOk_by (by rfl)) (fun _ _ _ _ _ => (g_name 3 sc.nd)) (fun _ _ _ _ _ => ts_nil) (fun _ _ _ _ _ => (e_op o_add (e_var 3) (e_tup (a_cons (e_var 1) a_nil)))))))) (L2.passes_of rfl))
  (ss_cons (s_set 2 sc.nd (e_lstO a_nil))
  (ss_cons (s_for (i_seq (e_var 0)) (g_name 3 sc.nd)
  (ss_cons (s_setLc 4 [("word", 1)] sc.nd (i_seq (e_tup (a_cons e_str (a_cons e_str (a_cons e_str a_nil))))) (blkOk_by (by rfl)) (fun _ _ _ _ _ => (g_name 1 sc.nd)) (fun _ _ _ _ _ => (ts_one (t_cmp (o_in hr) (e_var 1) (e_var 3)))) (fun _ _ _ _ _ => (e_var 1)))
  (ss_cons (s_setLc 5 [("word", 1)] sc.nd (i_seq (e_tup (a_cons e_str (a_cons e_str a_nil)))) (blkOk_by (by rfl)) (fun _ _ _ _ _ => (g_name 1 sc.nd)) (fun _ _ _ _ _ => (ts_one (t_cmp (o_in hr) (e_var 1) (e_var 3)))) (fun _ _ _ _ _ => (e_var 1)))
  (ss_cons (s_set 6 sc.nd (e_and (e_or (e_cmp (o_eq hr) (e_var 4) (e_lst a_nil)) (e_one (e_cmp (o_in hr) e_str (e_var 3)))) (e_one (e_or (e_cmp (o_eq hr) (e_var 5) (e_lst a_nil)) (e_one (e_cmp (o_in hr) e_str (e_var 3)))))))
  (ss_one (s_if (PW.pt (w_and (t_tru (e_var 6)) (w_and1 (t_cmp (o_lt hr) (e_callB (c_len) T.b_len PySem.boot_len (a_cons (e_var 5) a_nil)) e_int))))
  (ss_one (s_app (e_var 2) (e_var 3)))
  ss_nil))))) (L2.passes_of rfl))
  (ss_cons (s_set 7 sc.nd (e_lst a_nil))
  (ss_cons (s_for (i_range1 T.b_range e_int) (g_name 8 sc.nd)
  (ss_one (s_set 7 sc.nd (e_op o_add (e_var 7) (e_lc [("words", 3)] sc.nd (i_seq (e_callB (c_sorted hr) T.b_sorted PyProof.Rows.boot_sorted (a_cons (e_var 2) a_nil))) (blkOk_by (by rfl)) (fun _ _ _ _ _ => (g_name 3 sc.nd)) (fun _ _ _ _ _ => (ts_one (t_cmp (o_eq hr) (e_callB (c_len) T.b_len PySem.boot_len (a_cons (e_var 3) a_nil)) (e_var 8)))) (fun _ _ _ _ _ => (e_var 3)))))) (L2.passes_of rfl))
  (ss_one (s_ret (e_var 7)))))))))
theorem sc_kind_order : FnScope ["kind"] ["kind"] (defScope (top 18)) := ⟨rfl, rfl, rfl, by decide +kernel, rfl, by decide +kernel, by decide +kernel⟩
theorem ok_kind_order (T : Txt K mg C) {f : Addr} {fd : FuncData} (F : L2.Fun K "kind_order" "kind_order" (top 18) f fd) (hm : mg "kind_order" = some (.ref f)) (hb : Binds K fd ["kind"] []) : Does P w K mg base (UU K C) 2 "kind_order" f fd ["kind"] F_kind_order := by
  have sc := sc_kind_order
  exact ok_def F hm hb sc rfl fun cdv A outer s H E hr => (ss_one (s_ret (e_tup (a_cons (e_callB (c_len) T.b_len PySem.boot_len (a_cons (e_var 0) a_nil)) (a_cons (e_var 0) a_nil)))))
theorem sc_has_what_it_needs : FnScope ["words", "word"] ["words"] (defScope (top 14)) := ⟨rfl, rfl, rfl, by decide +kernel, rfl, by decide +kernel, by decide +kernel⟩
theorem ok_has_what_it_needs (T : Txt K mg C) {f : Addr} {fd : FuncData} (F : L2.Fun K "has_what_it_needs" "has_what_it_needs" (top 14) f fd) (hm : mg "has_what_it_needs" = some (.ref f)) (hb : Binds K fd ["words"] []) : Does P w K mg base (UU K C) 2 "has_what_it_needs" f fd ["words"] F_has_what_it_needs := by
  have sc := sc_has_what_it_needs
  exact ok_def F hm hb sc rfl fun cdv A outer s H E hr => (ss_cons (s_if (PW.pt (w_and (t_cmp (o_nin hr) (e_gc T.g_LAG) (e_var 0)) (w_and1 (t_tru (e_callB (c_any) T.b_any PyProof.Rows.boot_any (a_cons (e_lc [("word", 1)] sc.nd (i_seq (e_gc T.g_WITH_LAG)) (blkOk_by (by rfl)) (fun _ _ _ _ _ => (g_name 1 sc.nd)) (fun _ _ _ _ _ => ts_nil) (fun _ _ _ _ _ => (e_cmp (o_in hr) (e_var 1) (e_var 0)))) a_nil))))))
  (ss_one (s_ret e_bl))
  ss_nil)
  (ss_cons (s_if (PW.pt (w_and (t_cmp (o_nin hr) (e_gc T.g_ROAM) (e_var 0)) (w_and1 (t_tru (e_callB (c_any) T.b_any PyProof.Rows.boot_any (a_cons (e_lc [("word", 1)] sc.nd (i_seq (e_gc T.g_WITH_ROAM)) (blkOk_by (by rfl)) (fun _ _ _ _ _ => (g_name 1 sc.nd)) (fun _ _ _ _ _ => ts_nil) (fun _ _ _ _ _ => (e_cmp (o_in hr) (e_var 1) (e_var 0)))) a_nil))))))
  (ss_one (s_ret e_bl))
  ss_nil)
  (ss_one (s_ret (e_or (e_cmp (o_nin hr) (e_gc T.g_GHOSTS) (e_var 0)) (e_one (e_cmp (o_nin hr) (e_gc T.g_HANDS) (e_var 0))))))))
theorem sc_all_kinds : FnScope ["found", "word", "words"] [] (defScope (top 17)) := ⟨rfl, rfl, rfl, by decide +kernel, rfl, by decide +kernel, by decide +kernel⟩
theorem ok_all_kinds (T : Txt K mg C) {f_has_what_it_needs : Addr} {fd_has_what_it_needs : FuncData} (G_has_what_it_needs : Does P w K mg base (UU K C) 2 "has_what_it_needs" f_has_what_it_needs fd_has_what_it_needs ["words"] F_has_what_it_needs) {f_kind_order : Addr} {fd_kind_order : FuncData} (G_kind_order : Does P w K mg base (UU K C) 2 "kind_order" f_kind_order fd_kind_order ["kind"] F_kind_order) {f : Addr} {fd : FuncData} (F : L2.Fun K "all_kinds" "all_kinds" (top 17) f fd) (hm : mg "all_kinds" = some (.ref f)) (hb : Binds K fd [] []) : Does P w K mg base (UU K C) 5 "all_kinds" f fd [] F_all_kinds := by
  have sc := sc_all_kinds
  exact ok_def F hm hb sc rfl fun cdv A outer s H E hr => (ss_cons (s_set 0 sc.nd (e_lst (a_cons (e_tup a_nil) a_nil)))
  (ss_cons (s_for (i_seq (e_gc T.g_WORDS)) (g_name 1 sc.nd)
  (ss_one (s_set 0 sc.nd (e_lst (a_star (e_var 0) (a_star (e_lc [("words", 2)] sc.nd (i_seq (e_var 0)) (blkOk_by (by rfl)) (fun _ _ _ _ _ => (g_name 2 sc.nd)) (fun _ _ _ _ _ => ts_nil) (fun _ _ _ _ _ => (e_tup (a_star (e_var 2) (a_cons (e_var 1) a_nil))))) a_nil))))) (L2.passes_of rfl))
  (ss_one (s_ret (e_sortKO G_kind_order (e_lc [("words", 2)] sc.nd (i_seq (e_var 0)) (blkOk_by (by rfl)) (fun _ _ _ _ _ => (g_name 2 sc.nd)) (fun _ _ _ _ _ => (ts_one (t_tru (e_call G_has_what_it_needs takes0N hr (a_cons (e_var 2) a_nil) (len_cons len_nil) (hk := by decide))))) (fun _ _ _ _ _ => (e_var 2))) T.b_sorted hr (hk := by decide))))))
theorem sc__law_cask : FnScope ["script", "at", "cell"] ["script", "at"] (defScope (top 22)) := ⟨rfl, rfl, rfl, by decide +kernel, rfl, by decide +kernel, by decide +kernel⟩
theorem ok__law_cask (T : Txt K mg C) {f : Addr} {fd : FuncData} (F : L2.Fun K "_law_cask" "_law_cask" (top 22) f fd) (hm : mg "_law_cask" = some (.ref f)) (hb : Binds K fd ["script", "at"] []) : Does P w K mg base (UU K C) 2 "_law_cask" f fd ["script", "at"] F__law_cask := by
  have sc := sc__law_cask
  exact ok_def F hm hb sc rfl fun cdv A outer s H E hr => (ss_cons (s_set 2 sc.nd (e_if (t_cmp (o_lt hr) (e_var 1) (e_callB (c_len) T.b_len PySem.boot_len (a_cons (e_var 0) a_nil))) (e_ix i_ix (e_var 0) (e_var 1)) e_int))
  (ss_one (s_ret (e_lstO (a_cons (e_callB (c_max) T.b_max PyProof.Rows.boot_max (a_cons e_int (a_cons (e_op o_sub (e_callB (c_abs) T.b_abs PyProof.Rows.boot_abs (a_cons (e_var 2) a_nil)) (e_op o_pow e_int e_int)) a_nil))) (a_cons (e_op o_add (e_op o_add (e_op o_mul (e_op o_mod (e_callT (c_int) T.b_int PyProof.Rows.boot_int (a_cons (e_var 2) a_nil)) (e_op o_add (e_op o_pow e_int e_int) e_int)) e_int) (e_op o_mul e_int (e_var 1))) e_int) (a_cons e_int a_nil)))))))
theorem sc__law_agree : FnScope ["found", "due", "k"] ["found", "due"] (defScope (top 24)) := ⟨rfl, rfl, rfl, by decide +kernel, rfl, by decide +kernel, by decide +kernel⟩
theorem ok__law_agree (T : Txt K mg C) {f : Addr} {fd : FuncData} (F : L2.Fun K "_law_agree" "_law_agree" (top 24) f fd) (hm : mg "_law_agree" = some (.ref f)) (hb : Binds K fd ["found", "due"] []) : ∀ n, Does P w K mg base (UU K C) (1 + n) "_law_agree" f fd ["found", "due"] (F__law_agree n)
  | 0 => does_stuck hm F.kp hb
  | n + 1 => by
    have G__law_agree := ok__law_agree T  F hm hb n
    have sc := sc__law_agree
    exact ok_def F hm hb sc rfl fun cdv A outer s H E hr => (ss_cons (s_if (PW.pt (w_or (t_tru (e_callB (c_isi) T.b_isinstance PyProof.Rows.boot_isinstance (a_cons (e_var 0) (a_cons (e_bltn T.b_bool PyProof.Rows.boot_bool) a_nil)))) (w_or1 (t_tru (e_callB (c_isi) T.b_isinstance PyProof.Rows.boot_isinstance (a_cons (e_var 1) (a_cons (e_bltn T.b_bool PyProof.Rows.boot_bool) a_nil)))))))
  (ss_one (s_ret (e_and (e_callB (c_isi) T.b_isinstance PyProof.Rows.boot_isinstance (a_cons (e_var 0) (a_cons (e_bltn T.b_bool PyProof.Rows.boot_bool) a_nil))) (e_and (e_callB (c_isi) T.b_isinstance PyProof.Rows.boot_isinstance (a_cons (e_var 1) (a_cons (e_bltn T.b_bool PyProof.Rows.boot_bool) a_nil))) (e_one (e_cmp (o_eq hr) (e_var 0) (e_var 1)))))))
  ss_nil)
  (ss_cons (s_if (PW.pt (w_or (t_cmp (o_ne hr) (e_callB (c_isi) T.b_isinstance PyProof.Rows.boot_isinstance (a_cons (e_var 0) (a_cons (e_bltn T.b_list PyProof.Rows.boot_list) a_nil))) (e_callB (c_isi) T.b_isinstance PyProof.Rows.boot_isinstance (a_cons (e_var 1) (a_cons (e_bltn T.b_list PyProof.Rows.boot_list) a_nil)))) (w_or1 (t_cmp (o_ne hr) (e_callB (c_isi) T.b_isinstance PyProof.Rows.boot_isinstance (a_cons (e_var 0) (a_cons (e_bltn T.b_tuple PyProof.Rows.boot_tuple) a_nil))) (e_callB (c_isi) T.b_isinstance PyProof.Rows.boot_isinstance (a_cons (e_var 1) (a_cons (e_bltn T.b_tuple PyProof.Rows.boot_tuple) a_nil)))))))
  (ss_one (s_ret e_bl))
  ss_nil)
  (ss_cons (s_if (PW.pt (w_or (t_cmp (o_ne hr) (e_callB (c_isi) T.b_isinstance PyProof.Rows.boot_isinstance (a_cons (e_var 0) (a_cons (e_bltn T.b_str PyProof.Rows.boot_str) a_nil))) (e_callB (c_isi) T.b_isinstance PyProof.Rows.boot_isinstance (a_cons (e_var 1) (a_cons (e_bltn T.b_str PyProof.Rows.boot_str) a_nil)))) (w_or1 (t_cmp (o_ne hr) (e_callB (c_isi) T.b_isinstance PyProof.Rows.boot_isinstance (a_cons (e_var 0) (a_cons (e_bltn T.b_int PyProof.Rows.boot_int) a_nil))) (e_callB (c_isi) T.b_isinstance PyProof.Rows.boot_isinstance (a_cons (e_var 1) (a_cons (e_bltn T.b_int PyProof.Rows.boot_int) a_nil)))))))
  (ss_one (s_ret e_bl))
  ss_nil)
  (ss_cons (s_if (t_tru (e_callB (c_isi) T.b_isinstance PyProof.Rows.boot_isinstance (a_cons (e_var 1) (a_cons (e_tup (a_cons (e_bltn T.b_list PyProof.Rows.boot_list) (a_cons (e_bltn T.b_tuple PyProof.Rows.boot_tuple) a_nil))) a_nil))))
  (ss_cons (s_if (t_cmp (o_ne hr) (e_callB (c_len) T.b_len PySem.boot_len (a_cons (e_var 0) a_nil)) (e_callB (c_len) T.b_len PySem.boot_len (a_cons (e_var 1) a_nil)))
  (ss_one (s_ret e_bl))
  ss_nil)
  (ss_one (s_ret (e_cmp (o_eq hr) (e_lc [("k", 2)] sc.nd (i_range1 T.b_range (e_callB (c_len) T.b_len PySem.boot_len (a_cons (e_var 1) a_nil))) (blkOk_by (by rfl)) (fun _ _ _ _ _ => (g_name 2 sc.nd)) (fun _ _ _ _ _ => (ts_one (t_not (t_tru (e_call G__law_agree takes0N hr (a_cons (e_ix i_ix (e_var 0) (e_var 2)) (a_cons (e_ix i_ix (e_var 1) (e_var 2)) a_nil)) (len_cons (len_cons len_nil)) (hk := Nat.le_refl _)))))) (fun _ _ _ _ _ => (e_var 2))) (e_lst a_nil)))))
  ss_nil)
  (ss_one (s_ret (e_and (e_cmp (o_eq hr) (e_cmp (o_is) (e_var 0) e_non) (e_cmp (o_is) (e_var 1) e_non)) (e_one (e_cmp (o_eq hr) (e_var 0) (e_var 1))))))))))
theorem sc__law_tap : FnScope ["cask", "span", "digit", "must"] ["cask", "span"] (defScope (top 23)) := ⟨rfl, rfl, rfl, by decide +kernel, rfl, by decide +kernel, by decide +kernel⟩
theorem ok__law_tap (T : Txt K mg C) {f : Addr} {fd : FuncData} (F : L2.Fun K "_law_tap" "_law_tap" (top 23) f fd) (hm : mg "_law_tap" = some (.ref f)) (hb : Binds K fd ["cask", "span"] []) : Does P w K mg base (UU K C) 2 "_law_tap" f fd ["cask", "span"] F__law_tap := by
  have sc := sc__law_tap
  exact ok_def F hm hb sc rfl fun cdv A outer s H E hr => (ss_cons (s_if (t_cmp (o_gt hr) (e_ix i_ix (e_var 0) e_int) e_int)
  (ss_cons (s_set 2 sc.nd (e_op o_mod (e_callT (c_int) T.b_int PyProof.Rows.boot_int (a_cons (e_ix i_ix (e_var 0) e_int) a_nil)) (e_var 1)))
  (ss_cons (s_sub (e_op o_fdiv (e_ix i_ix (e_var 0) e_int) (e_var 1)) (e_var 0) e_int)
  (ss_one (s_ret (e_var 2)))))
  ss_nil)
  (ss_cons (s_sub (e_op o_add (e_ix i_ix (e_var 0) e_int) e_int) (e_var 0) e_int)
  (ss_cons (s_set 3 sc.nd (e_op o_mod (e_op o_pow (e_callT (c_int) T.b_int PyProof.Rows.boot_int (a_cons (e_op o_add (e_ix i_ix (e_var 0) e_int) (e_op o_mul e_int (e_ix i_ix (e_var 0) e_int))) a_nil)) e_int) (e_op o_add (e_op o_pow e_int e_int) e_int)))
  (ss_cons (s_set 3 sc.nd (e_op o_mod (e_op o_pow (e_callT (c_int) T.b_int PyProof.Rows.boot_int (a_cons (e_op o_add (e_var 3) (e_op o_mul e_int (e_ix i_ix (e_var 0) e_int))) a_nil)) e_int) (e_op o_add (e_op o_pow e_int e_int) e_int)))
  (ss_one (s_ret (e_op o_mod (e_op o_fdiv (e_var 3) e_int) (e_var 1))))))))
theorem sc__law_any_thing : FnScope ["cask", "kinds_here", "words", "k", "way", "more"] ["cask", "kinds_here"] (defScope (top 27)) := ⟨rfl, rfl, rfl, by decide +kernel, rfl, by decide +kernel, by decide +kernel⟩
theorem ok__law_any_thing (T : Txt K mg C) {f__law_tap : Addr} {fd__law_tap : FuncData} (G__law_tap : Does P w K mg base (UU K C) 2 "_law_tap" f__law_tap fd__law_tap ["cask", "span"] F__law_tap) {f : Addr} {fd : FuncData} (F : L2.Fun K "_law_any_thing" "_law_any_thing" (top 27) f fd) (hm : mg "_law_any_thing" = some (.ref f)) (hb : Binds K fd ["cask", "kinds_here"] []) : Does P w K mg base (UU K C) 3 "_law_any_thing" f fd ["cask", "kinds_here"] F__law_any_thing := by
  have sc := sc__law_any_thing
  exact ok_def F hm hb sc rfl fun cdv A outer s H E hr => (ss_cons (s_set 2 sc.nd (e_callT (c_list) T.b_list PyProof.Rows.boot_list (a_cons (e_ix i_ix (e_var 1) (e_call G__law_tap (L2N.takes_of rfl rfl rfl rfl) hr (a_cons (e_var 0) (a_cons e_int a_nil)) (len_cons (len_cons len_nil)) (hk := by decide))) a_nil)))
  (ss_cons (s_par 3 4 sc.nd (a_cons (e_call G__law_tap (L2N.takes_of rfl rfl rfl rfl) hr (a_cons (e_var 0) (a_cons (e_op o_add (e_callB (c_len) T.b_len PySem.boot_len (a_cons (e_var 2) a_nil)) e_int) a_nil)) (len_cons (len_cons len_nil)) (hk := by decide)) (a_cons (e_call G__law_tap (L2N.takes_of rfl rfl rfl rfl) hr (a_cons (e_var 0) (a_cons e_int a_nil)) (len_cons (len_cons len_nil)) (hk := by decide)) a_nil)))
  (ss_cons (s_set 5 sc.nd (e_lst (a_cons e_str (a_cons e_str (a_cons e_str (a_cons e_str (a_cons e_str (a_cons e_str (a_cons e_str (a_cons e_str (a_cons e_non (a_cons e_int (a_cons (e_tup (a_cons e_str a_nil)) (a_cons (e_lst (a_cons e_str a_nil)) a_nil))))))))))))))
  (ss_cons (s_set 5 sc.nd (e_ix i_ix (e_var 5) (e_call G__law_tap (L2N.takes_of rfl rfl rfl rfl) hr (a_cons (e_var 0) (a_cons e_int a_nil)) (len_cons (len_cons len_nil)) (hk := by decide))))
  (ss_cons (s_if (t_cmp (o_eq hr) (e_var 4) e_int)
  (ss_one (s_ret (e_callT (c_tuple) T.b_tuple PyProof.Rows.boot_tuple (a_cons (e_rev (e_var 2)) a_nil))))
  ss_nil)
  (ss_cons (s_if (t_cmp (o_eq hr) (e_var 4) e_int)
  (ss_one (s_ret (e_callT (c_tuple) T.b_tuple PyProof.Rows.boot_tuple (a_cons (e_op o_add (e_op o_add (e_slice (e_var 2) o_none (o_some (e_var 3))) (e_lst (a_cons (e_var 5) a_nil))) (e_slice (e_var 2) (o_some (e_var 3)) o_none)) a_nil))))
  ss_nil)
  (ss_cons (s_if (t_cmp (o_eq hr) (e_var 4) e_int)
  (ss_one (s_ret (e_callT (c_tuple) T.b_tuple PyProof.Rows.boot_tuple (a_cons (e_op o_add (e_slice (e_var 2) o_none (o_some (e_var 3))) (e_slice (e_var 2) (o_some (e_op o_add (e_var 3) e_int)) o_none)) a_nil))))
  ss_nil)
  (ss_cons (s_if (t_cmp (o_eq hr) (e_var 4) e_int)
  (ss_one (s_ret (e_var 2)))
  ss_nil)
  (ss_cons (s_if (t_cmp (o_eq hr) (e_var 4) e_int)
  (ss_one (s_ret (e_ix i_ix (e_lst (a_cons e_non (a_cons e_str (a_cons e_int (a_cons e_bl (a_cons e_dct0 (a_cons (e_tup (a_cons e_str a_nil)) a_nil))))))) (e_call G__law_tap (L2N.takes_of rfl rfl rfl rfl) hr (a_cons (e_var 0) (a_cons e_int a_nil)) (len_cons (len_cons len_nil)) (hk := by decide)))))
  ss_nil)
  (ss_cons (s_if (t_cmp (o_eq hr) (e_var 4) e_int)
  (ss_one (s_ret (e_callT (c_tuple) T.b_tuple PyProof.Rows.boot_tuple (a_cons (e_op o_add (e_var 2) (e_slice (e_var 2) o_none (o_some e_int))) a_nil))))
  ss_nil)
  (ss_one (s_ret (e_callT (c_tuple) T.b_tuple PyProof.Rows.boot_tuple (a_cons (e_var 2) a_nil))))))))))))))
theorem sc_is_kind : FnScope ["thing", "word"] ["thing"] (defScope (top 15)) := ⟨rfl, rfl, rfl, by decide +kernel, rfl, by decide +kernel, by decide +kernel⟩
theorem ok_is_kind (T : Txt K mg C) {f_has_what_it_needs : Addr} {fd_has_what_it_needs : FuncData} (G_has_what_it_needs : Does P w K mg base (UU K C) 2 "has_what_it_needs" f_has_what_it_needs fd_has_what_it_needs ["words"] F_has_what_it_needs) {f : Addr} {fd : FuncData} (F : L2.Fun K "is_kind" "is_kind" (top 15) f fd) (hm : mg "is_kind" = some (.ref f)) (hb : Binds K fd ["thing"] []) : Does P w K mg base (UU K C) 3 "is_kind" f fd ["thing"] F_is_kind := by
  have sc := sc_is_kind
  exact ok_def F hm hb sc rfl fun cdv A outer s H E hr => (ss_cons (s_if (PW.pt (w_or (t_not (t_tru (e_callB (c_isi) T.b_isinstance PyProof.Rows.boot_isinstance (a_cons (e_var 0) (a_cons (e_bltn T.b_tuple PyProof.Rows.boot_tuple) a_nil))))) (w_or1 (t_not (t_tru (e_callB (c_all) T.b_all PyProof.Rows.boot_all (a_cons (e_lc [("word", 1)] sc.nd (i_seq (e_var 0)) (blkOk_by (by rfl)) (fun _ _ _ _ _ => (g_name 1 sc.nd)) (fun _ _ _ _ _ => ts_nil) (fun _ _ _ _ _ => (e_and (e_callB (c_isi) T.b_isinstance PyProof.Rows.boot_isinstance (a_cons (e_var 1) (a_cons (e_bltn T.b_str PyProof.Rows.boot_str) a_nil))) (e_one (e_cmp (o_in hr) (e_var 1) (e_gc T.g_WORDS)))))) a_nil)))))))
  (ss_one (s_ret e_bl))
  ss_nil)
  (ss_one (s_ret (e_and (e_cmp (o_eq hr) (e_var 0) (e_callT (c_tuple) T.b_tuple PyProof.Rows.boot_tuple (a_cons (e_lc [("word", 1)] sc.nd (i_seq (e_gc T.g_WORDS)) (blkOk_by (by rfl)) (fun _ _ _ _ _ => (g_name 1 sc.nd)) (fun _ _ _ _ _ => (ts_one (t_cmp (o_in hr) (e_var 1) (e_var 0)))) (fun _ _ _ _ _ => (e_var 1))) a_nil))) (e_one (e_call G_has_what_it_needs (L2N.takes_of rfl rfl rfl rfl) hr (a_cons (e_var 0) a_nil) (len_cons len_nil) (hk := by decide)))))))
theorem sc_check_kind : FnScope ["thing"] ["thing"] (defScope (top 16)) := ⟨rfl, rfl, rfl, by decide +kernel, rfl, by decide +kernel, by decide +kernel⟩
theorem ok_check_kind (T : Txt K mg C) {f_is_kind : Addr} {fd_is_kind : FuncData} (G_is_kind : Does P w K mg base (UU K C) 3 "is_kind" f_is_kind fd_is_kind ["thing"] F_is_kind) {f : Addr} {fd : FuncData} (F : L2.Fun K "check_kind" "check_kind" (top 16) f fd) (hm : mg "check_kind" = some (.ref f)) (hb : Binds K fd ["thing"] []) : Does P w K mg base (UU K C) 4 "check_kind" f fd ["thing"] F_check_kind := by
  have sc := sc_check_kind
  exact ok_def F hm hb sc rfl fun cdv A outer s H E hr => (ss_one (s_if (t_not (t_tru (e_call G_is_kind (L2N.takes_of rfl rfl rfl rfl) hr (a_cons (e_var 0) a_nil) (len_cons len_nil) (hk := by decide))))
  (ss_one (s_raise 1 T.k1 (L2N.takes_of rfl rfl rfl rfl)))
  ss_nil))
theorem sc_is_within : FnScope ["kind", "other", "word"] ["kind", "other"] (defScope (top 19)) := ⟨rfl, rfl, rfl, by decide +kernel, rfl, by decide +kernel, by decide +kernel⟩
theorem ok_is_within (T : Txt K mg C) {f : Addr} {fd : FuncData} (F : L2.Fun K "is_within" "is_within" (top 19) f fd) (hm : mg "is_within" = some (.ref f)) (hb : Binds K fd ["kind", "other"] []) : Does P w K mg base (UU K C) 2 "is_within" f fd ["kind", "other"] F_is_within := by
  have sc := sc_is_within
  exact ok_def F hm hb sc rfl fun cdv A outer s H E hr => (ss_one (s_ret (e_callB (c_all) T.b_all PyProof.Rows.boot_all (a_cons (e_lc [("word", 2)] sc.nd (i_seq (e_var 0)) (blkOk_by (by rfl)) (fun _ _ _ _ _ => (g_name 2 sc.nd)) (fun _ _ _ _ _ => ts_nil) (fun _ _ _ _ _ => (e_cmp (o_in hr) (e_var 2) (e_var 1)))) a_nil))))
theorem sc_kind_within : FnScope ["kind", "other"] ["kind", "other"] (defScope (top 20)) := ⟨rfl, rfl, rfl, by decide +kernel, rfl, by decide +kernel, by decide +kernel⟩
theorem ok_kind_within (T : Txt K mg C) {f_check_kind : Addr} {fd_check_kind : FuncData} (G_check_kind : Does P w K mg base (UU K C) 4 "check_kind" f_check_kind fd_check_kind ["thing"] F_check_kind) {f_is_within : Addr} {fd_is_within : FuncData} (G_is_within : Does P w K mg base (UU K C) 2 "is_within" f_is_within fd_is_within ["kind", "other"] F_is_within) {f : Addr} {fd : FuncData} (F : L2.Fun K "kind_within" "kind_within" (top 20) f fd) (hm : mg "kind_within" = some (.ref f)) (hb : Binds K fd ["kind", "other"] []) : Does P w K mg base (UU K C) 5 "kind_within" f fd ["kind", "other"] F_kind_within := by
  have sc := sc_kind_within
  exact ok_def F hm hb sc rfl fun cdv A outer s H E hr => (ss_cons (s_expr (e_call G_check_kind (L2N.takes_of rfl rfl rfl rfl) hr (a_cons (e_var 0) a_nil) (len_cons len_nil) (hk := by decide)))
  (ss_cons (s_expr (e_call G_check_kind (L2N.takes_of rfl rfl rfl rfl) hr (a_cons (e_var 1) a_nil) (len_cons len_nil) (hk := by decide)))
  (ss_one (s_ret (e_call G_is_within (L2N.takes_of rfl rfl rfl rfl) hr (a_cons (e_var 0) (a_cons (e_var 1) a_nil)) (len_cons (len_cons len_nil)) (hk := by decide))))))
theorem sc__law_said : FnScope ["one", "two", "found", "good", "e"] ["one", "two"] (defScope (top 26)) := ⟨rfl, rfl, rfl, by decide +kernel, rfl, by decide +kernel, by decide +kernel⟩
theorem ok__law_said (T : Txt K mg C) {f_kind_within : Addr} {fd_kind_within : FuncData} (G_kind_within : Does P w K mg base (UU K C) 5 "kind_within" f_kind_within fd_kind_within ["kind", "other"] F_kind_within) {f : Addr} {fd : FuncData} (F : L2.Fun K "_law_said" "_law_said" (top 26) f fd) (hm : mg "_law_said" = some (.ref f)) (hb : Binds K fd ["one", "two"] []) : Does P w K mg base (UU K C) 6 "_law_said" f fd ["one", "two"] F__law_said := by
  have sc := sc__law_said
  exact ok_def F hm hb sc rfl fun cdv A outer s H E hr => (ss_cons (s_asg (e_tup (a_cons e_non (a_cons e_bl a_nil))) (g_tup (gs_cons (g_name 2 sc.nd) (gs_cons (g_name 3 sc.nd) gs_nil))))
  (ss_cons (s_try 4 sc.nd (L2N.takes_of rfl rfl rfl rfl) (fun W pn xe tk po => (ss_one (s_set 2 sc.nd (e_call G_kind_within tk hr (a_cons (e_var 0) (a_cons (e_var 1) a_nil)) (len_cons (len_cons len_nil)) (hk := by decide)))))
  ⟨rfl, by decide, .inl T.k1.g⟩ T.x1 (fun a oe e d pn hz0 hv hd => (ss_sel 1 hz0 hd (fun hz => (ss_one (s_parH 2 3 (hot_suite hz hv) sc.nd (a_cons e_str (a_cons (e_and (e_isE 4 T.e1 hz.zc hv T.b_isinstance T.k0.g T.q1_0 List.mem_cons_self) (e_one (e_not (e_isE 4 T.e1 hz.zc hv T.b_isinstance T.k2.g T.q1_2 List.mem_cons_self)))) a_nil)) (nf_fix (by decide)) (nf_fix (by decide)))))
  ss_stuck)) rfl)
  (ss_one (s_ret (e_if (t_tru (e_var 3)) (e_var 2) e_str)))))
theorem sc_law : FnScope ["script", "kinds_here", "found", "one", "two", "due", "at", "cask", "trial", "thing", "good", "heard", "word"] ["script"] (defScope (top 28)) := ⟨rfl, rfl, rfl, by decide +kernel, rfl, by decide +kernel, by decide +kernel⟩
theorem ok_law (T : Txt K mg C) {f_is_kind : Addr} {fd_is_kind : FuncData} (G_is_kind : Does P w K mg base (UU K C) 3 "is_kind" f_is_kind fd_is_kind ["thing"] F_is_kind) (K_is_kind_0_thing : KwB K fd_is_kind ["thing"] ["thing"] 0 [0]) {f_all_kinds : Addr} {fd_all_kinds : FuncData} (G_all_kinds : Does P w K mg base (UU K C) 5 "all_kinds" f_all_kinds fd_all_kinds [] F_all_kinds) {f_kind_within : Addr} {fd_kind_within : FuncData} (G_kind_within : Does P w K mg base (UU K C) 5 "kind_within" f_kind_within fd_kind_within ["kind", "other"] F_kind_within) (K_kind_within_0_other_kind : KwB K fd_kind_within ["kind", "other"] ["other", "kind"] 0 [1, 0]) {f__law_cask : Addr} {fd__law_cask : FuncData} (G__law_cask : Does P w K mg base (UU K C) 2 "_law_cask" f__law_cask fd__law_cask ["script", "at"] F__law_cask) {f__law_tap : Addr} {fd__law_tap : FuncData} (G__law_tap : Does P w K mg base (UU K C) 2 "_law_tap" f__law_tap fd__law_tap ["cask", "span"] F__law_tap) {f__law_agree : Addr} {fd__law_agree : FuncData} (G__law_agree : Does P w K mg base (UU K C) 7 "_law_agree" f__law_agree fd__law_agree ["found", "due"] (F__law_agree 6)) {f__law_kinds : Addr} {fd__law_kinds : FuncData} (G__law_kinds : Does P w K mg base (UU K C) 2 "_law_kinds" f__law_kinds fd__law_kinds [] F__law_kinds) {f__law_said : Addr} {fd__law_said : FuncData} (G__law_said : Does P w K mg base (UU K C) 6 "_law_said" f__law_said fd__law_said ["one", "two"] F__law_said) {f__law_any_thing : Addr} {fd__law_any_thing : FuncData} (G__law_any_thing : Does P w K mg base (UU K C) 3 "_law_any_thing" f__law_any_thing fd__law_any_thing ["cask", "kinds_here"] F__law_any_thing) {f : Addr} {fd : FuncData} (F : L2.Fun K "law" "law" (top 28) f fd) (hm : mg "law" = some (.ref f)) (hb : Binds K fd ["script"] []) : Does P w K mg base (UU K C) 8 "law" f fd ["script"] F_law := by
  have sc := sc_law
  exact ok_def F hm hb sc rfl fun cdv A outer s H E hr => (ss_cons (s_set 1 sc.nd (e_call0 G__law_kinds (L2N.takes_of rfl rfl rfl rfl) hr (hk := by decide)))
  (ss_cons (s_set 2 sc.nd (e_call0 G_all_kinds (L2N.takes_of rfl rfl rfl rfl) hr (hk := by decide)))
  (ss_cons (s_if (PW.pt (w_or (t_not (t_tru (e_call G__law_agree (L2N.takes_of rfl rfl rfl rfl) hr (a_cons (e_var 2) (a_cons (e_var 1) a_nil)) (len_cons (len_cons len_nil)) (hk := by decide)))) (w_or1 (t_cmp (o_ne hr) (e_callB (c_len) T.b_len PySem.boot_len (a_cons (e_var 1) a_nil)) e_int))))
  (ss_one (s_ret e_bl))
  ss_nil)
  (ss_cons (s_app (e_var 2) e_non)
  (ss_cons (s_if (PW.pt (w_or (t_not (t_tru (e_call G__law_agree (L2N.takes_of rfl rfl rfl rfl) hr (a_cons (e_call0 G_all_kinds (L2N.takes_of rfl rfl rfl rfl) hr (hk := by decide)) (a_cons (e_var 1) a_nil)) (len_cons (len_cons len_nil)) (hk := by decide)))) (w_or1 (t_cmp (o_ne hr) (e_lc [("one", 3)] sc.nd (i_seq (e_var 1)) (blkOk_by (by rfl)) (fun _ _ _ _ _ => (g_name 3 sc.nd)) (fun _ _ _ _ _ => (ts_one (t_not (t_tru (e_call G_is_kind takes0N hr (a_cons (e_var 3) a_nil) (len_cons len_nil) (hk := by decide)))))) (fun _ _ _ _ _ => (e_var 3))) (e_lst a_nil)))))
  (ss_one (s_ret e_bl))
  ss_nil)
  (ss_cons (s_for (i_seq (e_var 1)) (g_name 3 sc.nd)
  (ss_one (s_for (i_seq (e_var 1)) (g_name 4 sc.nd)
  (ss_cons (s_set 5 sc.nd (e_cmp (o_eq hr) (e_lc [("word", 12)] sc.nd (i_seq (e_var 3)) (blkOk_by (by rfl)) (fun _ _ _ _ _ => (g_name 12 sc.nd)) (fun _ _ _ _ _ => (ts_one (t_cmp (o_nin hr) (e_var 12) (e_var 4)))) (fun _ _ _ _ _ => (e_var 12))) (e_lst a_nil)))
  (ss_one (s_if (t_not (t_tru (e_call G__law_agree (L2N.takes_of rfl rfl rfl rfl) hr (a_cons (e_lst (a_cons (e_call G_kind_within (L2N.takes_of rfl rfl rfl rfl) hr (a_cons (e_var 3) (a_cons (e_var 4) a_nil)) (len_cons (len_cons len_nil)) (hk := by decide)) (a_cons (e_callK0 [1, 0] G_kind_within K_kind_within_0_other_kind (L2N.takes_of rfl rfl rfl rfl) hr (k_cons (e_var 4) (k_cons (e_var 3) k_nil)) (len_cons (len_cons len_nil)) (hk := by decide)) a_nil))) (a_cons (e_lst (a_cons (e_var 5) (a_cons (e_var 5) a_nil))) a_nil)) (len_cons (len_cons len_nil)) (hk := by decide))))
  (ss_one (s_ret e_bl))
  ss_nil))) (L2.passes_of rfl))) (L2.passes_of rfl))
  (ss_cons (s_for (i_range1 T.b_range (e_callB (c_max) T.b_max PyProof.Rows.boot_max (a_cons e_int (a_cons (e_callB (c_min) T.b_min PyProof.Rows.boot_min (a_cons e_int (a_cons (e_callB (c_len) T.b_len PySem.boot_len (a_cons (e_var 0) a_nil)) a_nil))) a_nil)))) (g_name 6 sc.nd)
  (ss_cons (s_set 7 sc.nd (e_call G__law_cask (L2N.takes_of rfl rfl rfl rfl) hr (a_cons (e_var 0) (a_cons (e_var 6) a_nil)) (len_cons (len_cons len_nil)) (hk := by decide)))
  (ss_one (s_for (i_range1 T.b_range e_int) (g_name 8 sc.nd)
  (ss_cons (s_par 9 10 sc.nd (a_cons (e_call G__law_any_thing (L2N.takes_of rfl rfl rfl rfl) hr (a_cons (e_var 7) (a_cons (e_var 1) a_nil)) (len_cons (len_cons len_nil)) (hk := by decide)) (a_cons (e_ix i_ix (e_var 1) (e_call G__law_tap (L2N.takes_of rfl rfl rfl rfl) hr (a_cons (e_var 7) (a_cons e_int a_nil)) (len_cons (len_cons len_nil)) (hk := by decide))) a_nil)))
  (ss_cons (s_set 5 sc.nd (e_cmp (o_in hr) (e_var 9) (e_var 1)))
  (ss_cons (s_if (t_not (t_tru (e_call G__law_agree (L2N.takes_of rfl rfl rfl rfl) hr (a_cons (e_lst (a_cons (e_call G_is_kind (L2N.takes_of rfl rfl rfl rfl) hr (a_cons (e_var 9) a_nil) (len_cons len_nil) (hk := by decide)) (a_cons (e_callK0 [0] G_is_kind K_is_kind_0_thing (L2N.takes_of rfl rfl rfl rfl) hr (k_cons (e_var 9) k_nil) (len_cons len_nil) (hk := by decide)) a_nil))) (a_cons (e_lst (a_cons (e_var 5) (a_cons (e_var 5) a_nil))) a_nil)) (len_cons (len_cons len_nil)) (hk := by decide))))
  (ss_one (s_ret e_bl))
  ss_nil)
  (ss_cons (s_set 11 sc.nd (e_lst (a_cons (e_call G__law_said (L2N.takes_of rfl rfl rfl rfl) hr (a_cons (e_var 9) (a_cons (e_var 10) a_nil)) (len_cons (len_cons len_nil)) (hk := by decide)) (a_cons (e_call G__law_said (L2N.takes_of rfl rfl rfl rfl) hr (a_cons (e_var 10) (a_cons (e_var 9) a_nil)) (len_cons (len_cons len_nil)) (hk := by decide)) (a_cons (e_call G__law_said (L2N.takes_of rfl rfl rfl rfl) hr (a_cons (e_var 9) (a_cons (e_var 9) a_nil)) (len_cons (len_cons len_nil)) (hk := by decide)) a_nil)))))
  (ss_one (s_if (PW.pt (w_and (t_not (t_tru (e_var 5))) (w_and1 (t_cmp (o_ne hr) (e_var 11) (e_op o_mul (e_lst (a_cons e_str a_nil)) e_int)))))
  (ss_one (s_ret e_bl))
  ss_nil)))))) (L2.passes_of rfl)))) (L2.passes_of rfl))
  (ss_one (s_ret e_bl)))))))))
end
end K04
/-! the plain law of k04 -/
namespace K04
open PySem L2 DL
def WS : List (List D) := [[], [.str "lag"], [.str "roam"], [.str "lag", .str "roam"], [.str "lag", .str "tails"], [.str "lag", .str "unsure"], [.str "roam", .str "hands"], [.str "lag", .str "roam", .str "ghosts"], [.str "lag", .str "roam", .str "hands"], [.str "lag", .str "roam", .str "unsure"], [.str "lag", .str "tails", .str "roam"], [.str "lag", .str "tails", .str "unsure"], [.str "lag", .str "roam", .str "ghosts", .str "unsure"], [.str "lag", .str "roam", .str "unsure", .str "hands"], [.str "lag", .str "tails", .str "roam", .str "ghosts"], [.str "lag", .str "tails", .str "roam", .str "hands"], [.str "lag", .str "tails", .str "roam", .str "unsure"], [.str "lag", .str "tails", .str "roam", .str "ghosts", .str "unsure"], [.str "lag", .str "tails", .str "roam", .str "unsure", .str "hands"]]
def KS : List D := [.tup [], .tup [.str "lag"], .tup [.str "roam"], .tup [.str "lag", .str "roam"], .tup [.str "lag", .str "tails"], .tup [.str "lag", .str "unsure"], .tup [.str "roam", .str "hands"], .tup [.str "lag", .str "roam", .str "ghosts"], .tup [.str "lag", .str "roam", .str "hands"], .tup [.str "lag", .str "roam", .str "unsure"], .tup [.str "lag", .str "tails", .str "roam"], .tup [.str "lag", .str "tails", .str "unsure"], .tup [.str "lag", .str "roam", .str "ghosts", .str "unsure"], .tup [.str "lag", .str "roam", .str "unsure", .str "hands"], .tup [.str "lag", .str "tails", .str "roam", .str "ghosts"], .tup [.str "lag", .str "tails", .str "roam", .str "hands"], .tup [.str "lag", .str "tails", .str "roam", .str "unsure"], .tup [.str "lag", .str "tails", .str "roam", .str "ghosts", .str "unsure"], .tup [.str "lag", .str "tails", .str "roam", .str "unsure", .str "hands"]]
def S1 : Sto := [.lst [.tup [], .tup [.str "lag"], .tup [.str "lag", .str "tails"], .tup [.str "roam"], .tup [.str "lag", .str "roam"], .tup [.str "lag", .str "tails", .str "roam"], .tup [.str "lag", .str "roam", .str "ghosts"], .tup [.str "lag", .str "tails", .str "roam", .str "ghosts"], .tup [.str "lag", .str "unsure"], .tup [.str "lag", .str "tails", .str "unsure"], .tup [.str "lag", .str "roam", .str "unsure"], .tup [.str "lag", .str "tails", .str "roam", .str "unsure"], .tup [.str "lag", .str "roam", .str "ghosts", .str "unsure"], .tup [.str "lag", .str "tails", .str "roam", .str "ghosts", .str "unsure"], .tup [.str "roam", .str "hands"], .tup [.str "lag", .str "roam", .str "hands"], .tup [.str "lag", .str "tails", .str "roam", .str "hands"], .tup [.str "lag", .str "roam", .str "unsure", .str "hands"], .tup [.str "lag", .str "tails", .str "roam", .str "unsure", .str "hands"]]]
def S2 : Sto := S1 ++ [.lst KS]
def S3 : Sto := S1 ++ [.lst (KS ++ [.non])]
def S4 : Sto := S3 ++ [.lst KS]
theorem kinds_1 : F__law_kinds [] [] = .ok (.lst KS) S1 := by kernel_rfl
theorem all_1 : F_all_kinds [] S1 = .ok (.obj 1) S2 := by kernel_rfl
theorem all_2 : F_all_kinds [] S3 = .ok (.obj 2) S4 := by kernel_rfl
theorem agree_1 : F__law_agree 6 [.obj 1, .lst KS] S2 = .ok (.bl true) S2 := by kernel_rfl
theorem agree_2 : F__law_agree 6 [.obj 2, .lst KS] S4 = .ok (.bl true) S4 := by kernel_rfl
theorem agree_b (b : Bool) (S : Sto) : F__law_agree 6 [.lst [.bl b, .bl b], .lst [.bl b, .bl b]] S = .ok (.bl true) S := by
  cases b
  · kernel_rfl
  · kernel_rfl
/-! ### the things that are asked -/
def mores : List D := [.str "lag", .str "tails", .str "roam", .str "ghosts", .str "unsure", .str "hands", .str "Lag", .str "", .non, .int 3, .tup [.str "lag"], .lst [.str "lag"]]
def zs : List D := [.non, .str "lag", .int 0, .bl true, .dct [], .tup [.str "lag tails"]]
def th1 (ws : List D) (k : Int) (m : D) : D := .tup ((cutD ws none (some k) ++ [m]) ++ cutD ws (some k) none)
def th2 (ws : List D) (k : Int) : D := .tup (cutD ws none (some k) ++ cutD ws (some (k + 1)) none)
def things : List D := zs ++ WS.flatMap fun ws => [.tup ws.reverse, .lst ws, .tup (ws ++ cutD ws none (some 1)), .tup ws] ++ (List.range 7).flatMap fun (k : Nat) => th2 ws (k : Int) :: mores.map (th1 ws (k : Int))
def mem (t : D) : Bool := match inO [] t (.lst KS) with | some b => b | none => false
theorem things_kind (S : Sto) : things.map (fun t => F_is_kind [t] S) = things.map (fun t => .ok (.bl (mem t)) S) := by kernel_rfl
theorem things_in (S : Sto) : things.map (fun t => inD S t (.lst KS)) = things.map (fun t => some (.bl (mem t))) := by kernel_rfl
theorem things_mem : things.all (fun t => !mem t || KS.any (eqD t)) = true := by kernel_rfl
def wi (x y : D) : Bool := match F_is_within [x, y] [] with | .ok (.bl b) _ => b | _ => false
theorem kinds_within (S : Sto) : KS.map (fun x => KS.map fun y => F_is_within [x, y] S) = KS.map (fun x => KS.map fun y => .ok (.bl (wi x y)) S) := by kernel_rfl
theorem kinds_mem (S : Sto) : KS.map (fun t => F_is_kind [t] S) = KS.map (fun t => .ok (.bl true) S) := by kernel_rfl
end K04
/-! the plain law of k04, its end -/
namespace K04
open PySem L2 DL
theorem forL_ix {b : Bd} {body : MS} (I : Nat → DL.Env → Sto → Prop) : ∀ (ds : List D) (n : Nat), (∀ i d, ds[i]? = some d → ∀ ρ S, I (n + i) ρ S → ∃ ρ1, b d ρ = some ρ1 ∧ ∃ ρ2 S2, body ρ1 S = .nx ρ2 S2 ∧ I (n + i + 1) ρ2 S2) → ∀ ρ S, I n ρ S → ∃ ρ' S', forL b body ds ρ S = .nx ρ' S' ∧ I (n + ds.length) ρ' S'
  | [], n, _, ρ, S, h => ⟨ρ, S, rfl, h⟩
  | d :: ds, n, hs, ρ, S, h => by
    obtain ⟨ρ1, e1, ρ2, S2, e2, h2⟩ := hs 0 d rfl ρ S h
    obtain ⟨ρ3, S3, e3, h3⟩ := forL_ix I ds (n + 1) (fun i d hd ρ S hI => by
      have e : n + 1 + i = n + (i + 1) := by omega
      rw [e] at hI ⊢
      exact hs (i + 1) d (by simpa using hd) ρ S hI) ρ2 S2 h2
    refine ⟨ρ3, S3, by simp only [forL, e1, e2, e3], ?_⟩
    have e : n + (d :: ds).length = n + 1 + ds.length := by rw [List.length_cons]; omega
    rw [e]; exact h3
theorem KS_eq : KS = WS.map D.tup := by rfl
theorem WS_len : WS.all (fun ws => decide (ws.length ≤ 6)) = true := by decide +kernel
theorem ws_len {ws : List D} (h : ws ∈ WS) : ws.length ≤ 6 := by
  have := List.all_eq_true.mp WS_len ws h
  simpa using this
theorem ix_kinds {d : Int} (h0 : 0 ≤ d) (h1 : d < 19) (S : Sto) : ∃ ws ∈ WS, ixO S (.lst KS) (.int d) = some (.tup ws) := by
  obtain ⟨n, rfl⟩ := Int.eq_ofNat_of_zero_le h0
  have hn : n < WS.length := by
    show n < 19
    omega
  refine ⟨WS[n], List.getElem_mem hn, ?_⟩
  have e : ixO S (.lst KS) (.int (n : Int)) = L2.atI KS n := rfl
  rw [e]
  exact L2.atI_nat (by rw [KS_eq, List.getElem?_map, List.getElem?_eq_getElem hn]; rfl)
theorem ix_list {xs : List D} {d : Int} (h0 : 0 ≤ d) (h1 : d < xs.length) (S : Sto) : ∃ m ∈ xs, ixO S (.lst xs) (.int d) = some m := by
  obtain ⟨n, rfl⟩ := Int.eq_ofNat_of_zero_le h0
  have hn : n < xs.length := by omega
  refine ⟨xs[n], List.getElem_mem hn, ?_⟩
  have e : ixO S (.lst xs) (.int (n : Int)) = L2.atI xs n := rfl
  rw [e]
  exact L2.atI_nat (List.getElem?_eq_getElem hn)
theorem tap_eq : F__law_tap = tapF := rfl
theorem mtap {ρ : DL.Env} {S : Sto} {c : Nat} {k span : Int} (h : Cask S c k) (hk : k < 10 ^ 9) (h0 : 0 < span) (h1 : span < 10 ^ 9) (hρ : ρ[0]? = some (some (.obj c))) (m : ME) (hm : m ρ S = .ok (.int span) S) :
    ∃ d : Int, ∃ S' : Sto, ∃ k' : Int, mCall F__law_tap (aCons (mVar 0) (aCons m aNil)) ρ S = .ok (.int d) S' ∧ 0 ≤ d ∧ d < span ∧ k' ≤ k + 1 ∧ Cask S' c k' := by
  obtain ⟨d, S', k', e, h2, h3, h4, h5, _⟩ := tap_ok h hk h0 h1
  refine ⟨d, S', k', ?_, h2, h3, h4, h5⟩
  rw [tap_eq]
  simp only [mCall, aCons, aNil, mVar, hρ, Out.bind, hm, e]
theorem cut_len (xs : List D) (lo hi : Option Int) : (cutD xs lo hi).length ≤ xs.length := by
  unfold cutD
  rw [List.length_take, List.length_drop]
  omega
theorem any_ok {S : Sto} {c : Nat} {k : Int} (h : Cask S c k) (hk : k < 10 ^ 8) : ∃ t S' k', F__law_any_thing [.obj c, .lst KS] S = .ok t S' ∧ t ∈ things ∧ Cask S' c k' ∧ k' ≤ k + 5 := by
  obtain ⟨d1, Sa, ka, e1, a1, b1, c1, h1⟩ := mtap (ρ := [some (.obj c), some (.lst KS), none, none, none, none]) h (by omega) (span := 19) (by decide) (by decide) rfl (mC (.int 19)) rfl
  obtain ⟨ws, hws, ews⟩ := ix_kinds a1 b1 Sa
  have hl := ws_len hws
  obtain ⟨d2, Sb, kb, e2, a2, b2, c2, h2⟩ := mtap (ρ := [some (.obj c), some (.lst KS), some (.lst ws), none, none, none]) h1 (by omega) (span := ws.length + 1) (by omega) (by omega) rfl (m2 addO (mN lenG (aCons (mVar 2) aNil)) (mC (.int 1))) rfl
  obtain ⟨d3, Sc, kc, e3, a3, b3, c3, h3⟩ := mtap (ρ := [some (.obj c), some (.lst KS), some (.lst ws), none, none, none]) h2 (by omega) (span := 7) (by decide) (by decide) rfl (mC (.int 7)) rfl
  obtain ⟨d4, Sd, kd, e4, a4, b4, c4, h4⟩ := mtap (ρ := [some (.obj c), some (.lst KS), some (.lst ws), some (.int d2), some (.int d3), some (.lst mores)]) h3 (by omega) (span := 12) (by decide) (by decide) rfl (mC (.int 12)) rfl
  obtain ⟨m, hm, em⟩ := ix_list (xs := mores) a4 b4 Sd
  obtain ⟨kn, rfl⟩ := Int.eq_ofNat_of_zero_le a2
  have hkn : kn < 7 := by omega
  let ρ5 : DL.Env := [some (.obj c), some (.lst KS), some (.lst ws), some (.int kn), some (.int d3), some m]
  have eqT : ∀ j : Int, mTst (m2 eqO (mVar 4) (mC (.int j))) ρ5 Sd = .ok (d3 == j) Sd := fun j => by
    simp only [ρ5, mTst, m2, mVar, mC, Out.bind, ofO, List.getElem?_cons_zero, List.getElem?_cons_succ, eqO_int]
  have pre : ∀ rest : MS, (sSeq (sSet 2 (mN listG (aCons (m2 ixO (mVar 1) (mCall F__law_tap (aCons (mVar 0) (aCons (mC (.int 19)) aNil)))) aNil)))
      (sSeq (sPar 3 4 (aCons (mCall F__law_tap (aCons (mVar 0) (aCons (m2 addO (mN lenG (aCons (mVar 2) aNil)) (mC (.int 1))) aNil))) (aCons (mCall F__law_tap (aCons (mVar 0) (aCons (mC (.int 7)) aNil))) aNil)))
      (sSeq (sSet 5 (mLst (aCons (mC (.str "lag")) (aCons (mC (.str "tails")) (aCons (mC (.str "roam")) (aCons (mC (.str "ghosts")) (aCons (mC (.str "unsure")) (aCons (mC (.str "hands")) (aCons (mC (.str "Lag")) (aCons (mC (.str "")) (aCons (mC .non) (aCons (mC (.int 3)) (aCons (mTup (aCons (mC (.str "lag")) aNil)) (aCons (mLst (aCons (mC (.str "lag")) aNil)) aNil))))))))))))))
      (sSeq (sSet 5 (m2 ixO (mVar 5) (mCall F__law_tap (aCons (mVar 0) (aCons (mC (.int 12)) aNil))))) rest))))
      [some (.obj c), some (.lst KS), none, none, none, none] S = rest ρ5 Sd := fun rest => by
    rw [seq_nx (set_ok (i := 2) (d := .lst ws) (S1 := Sa) (by
      simp only [mN, aCons, aNil, m2, mVar, Out.bind, ofO, List.getElem?_cons_zero, List.getElem?_cons_succ]
      rw [e1]
      simp only [ews]
      rfl))]
    simp only [List.set_cons_zero, List.set_cons_succ]
    rw [seq_nx (ρ1 := [some (.obj c), some (.lst KS), some (.lst ws), some (.int kn), some (.int d3), none]) (S1 := Sc) (by
      have ea : aCons (mCall F__law_tap (aCons (mVar 0) (aCons (m2 addO (mN lenG (aCons (mVar 2) aNil)) (mC (.int 1))) aNil))) (aCons (mCall F__law_tap (aCons (mVar 0) (aCons (mC (.int 7)) aNil))) aNil) [some (.obj c), some (.lst KS), some (.lst ws), none, none, none] Sa = .ok [.int kn, .int d3] Sc := by
        show (mCall F__law_tap (aCons (mVar 0) (aCons (m2 addO (mN lenG (aCons (mVar 2) aNil)) (mC (.int 1))) aNil)) _ Sa).bind _ = _
        rw [e2]
        show ((mCall F__law_tap (aCons (mVar 0) (aCons (mC (.int 7)) aNil)) _ Sb).bind _).bind _ = _
        rw [e3]
        rfl
      show OS.of (aCons _ _ _ Sa) _ _ = _
      rw [ea]
      rfl)]
    rw [seq_nx (set_ok (i := 5) (d := .lst mores) (S1 := Sc) (by rfl))]
    simp only [List.set_cons_zero, List.set_cons_succ]
    rw [seq_nx (set_ok (i := 5) (d := m) (S1 := Sd) (by
      show ((mVar 5 _ Sc).bind fun x S1 => (mCall F__law_tap (aCons (mVar 0) (aCons (mC (.int 12)) aNil)) _ S1).bind fun y S2 => ofO (ixO S2 x y) S2) = _
      show ((mCall F__law_tap (aCons (mVar 0) (aCons (mC (.int 12)) aNil)) _ Sc).bind fun y S2 => ofO (ixO S2 (.lst mores) y) S2) = _
      rw [e4]
      show ofO (ixO Sd (.lst mores) (.int d4)) Sd = _
      rw [em]
      rfl))]
    rfl
  have fin : ∀ t S' k', m__law_any_thing [some (.obj c), some (.lst KS), none, none, none, none] S = .rt t S' → t ∈ things → Cask S' c k' → k' ≤ k + 5 → ∃ t S' k', F__law_any_thing [.obj c, .lst KS] S = .ok t S' ∧ t ∈ things ∧ Cask S' c k' ∧ k' ≤ k + 5 := fun t S' k' e h1 h2 h3 => by
    refine ⟨t, S', k', ?_, h1, h2, h3⟩
    show (match m__law_any_thing [some (.obj c), some (.lst KS), none, none, none, none] S with | .nx _ S' => Out.ok D.non S' | .rt d S' => .ok d S' | .exc e _ S' => .exc e S' | _ => .stuck) = _
    rw [e]
  unfold m__law_any_thing at fin
  rw [pre] at fin
  have inW : ∀ t, t ∈ ([.tup ws.reverse, .lst ws, .tup (ws ++ cutD ws none (some 1)), .tup ws] : List D) ++ (List.range 7).flatMap (fun (k : Nat) => th2 ws (k : Int) :: mores.map (th1 ws (k : Int))) → t ∈ things := fun t ht => List.mem_append_right _ (List.mem_flatMap.mpr ⟨ws, hws, ht⟩)
  have no : ∀ {j : Int} {a rest : MS} {t : D} {S' : Sto}, ¬ d3 = j → rest ρ5 Sd = .rt t S' → sSeq (sIf (mTst (m2 eqO (mVar 4) (mC (.int j)))) a sNil) rest ρ5 Sd = .rt t S' := fun {j a rest t S'} hj hr => by
    rw [seq_nx (ρ1 := ρ5) (S1 := Sd) (by rw [if_f (by rw [eqT j, beq_eq_false_iff_ne.mpr hj])]; rfl)]
    exact hr
  have yes : ∀ {j : Int} {m : ME} {rest : MS} {t : D} {S' : Sto}, d3 = j → m ρ5 Sd = .ok t S' → sSeq (sIf (mTst (m2 eqO (mVar 4) (mC (.int j)))) (sRet m) sNil) rest ρ5 Sd = .rt t S' := fun {j m rest t S'} hj hr => by
    refine seq_rt ?_
    rw [if_t (by rw [eqT j, hj, beq_self_eq_true])]
    exact ret_ok hr
  have l1 := cut_len ws none (some (kn : Int))
  have l2 := cut_len ws (some (kn : Int)) none
  have l3 := cut_len ws (some ((kn : Int) + 1)) none
  have l4 := cut_len ws none (some 1)
  have hlim : lim = 1000000 := rfl
  by_cases q0 : d3 = 0
  · refine fin (.tup ws.reverse) Sd kd (yes q0 rfl) (inW _ (by simp)) h4 (by omega)
  by_cases q1 : d3 = 1
  · refine fin (th1 ws kn m) Sd kd (no q0 (yes q1 ?_)) (inW _ (List.mem_append_right _ (List.mem_flatMap.mpr ⟨kn, List.mem_range.mpr hkn, List.mem_cons_of_mem _ (List.mem_map.mpr ⟨m, hm, rfl⟩)⟩))) h4 (by omega)
    have s1 : addO Sd (.lst (cutD ws none (some (kn : Int)))) (.lst [m]) = some (.lst (cutD ws none (some (kn : Int)) ++ [m])) := by
      show (if (cutD ws none (some (kn : Int))).length + [m].length ≤ lim then some (D.lst (cutD ws none (some (kn : Int)) ++ [m])) else none) = _
      rw [if_pos (by rw [hlim, List.length_singleton]; omega)]
    have s2 : addO Sd (.lst (cutD ws none (some (kn : Int)) ++ [m])) (.lst (cutD ws (some (kn : Int)) none)) = some (.lst ((cutD ws none (some (kn : Int)) ++ [m]) ++ cutD ws (some (kn : Int)) none)) := by
      show (if (cutD ws none (some (kn : Int)) ++ [m]).length + (cutD ws (some (kn : Int)) none).length ≤ lim then some (D.lst ((cutD ws none (some (kn : Int)) ++ [m]) ++ cutD ws (some (kn : Int)) none)) else none) = _
      rw [if_pos (by rw [hlim, List.length_append, List.length_singleton]; omega)]
    have s0 : mLst (aCons (mVar 5) aNil) ρ5 Sd = .ok (.lst [m]) Sd := rfl
    have r1 : mSl (mVar 2) oNone (oSome (mVar 3)) ρ5 Sd = .ok (.lst (cutD ws none (some (kn : Int)))) Sd := rfl
    have r2 : mSl (mVar 2) (oSome (mVar 3)) oNone ρ5 Sd = .ok (.lst (cutD ws (some (kn : Int)) none)) Sd := rfl
    simp only [mN, aCons, aNil, m2, Out.bind, ofO]
    simp only [r1, s0, s1, r2, s2]
    rfl
  by_cases q2 : d3 = 2
  · refine fin (th2 ws kn) Sd kd (no q0 (no q1 (yes q2 ?_))) (inW _ (List.mem_append_right _ (List.mem_flatMap.mpr ⟨kn, List.mem_range.mpr hkn, List.mem_cons_self⟩))) h4 (by omega)
    have s1 : addO Sd (.lst (cutD ws none (some (kn : Int)))) (.lst (cutD ws (some ((kn : Int) + 1)) none)) = some (.lst (cutD ws none (some (kn : Int)) ++ cutD ws (some ((kn : Int) + 1)) none)) := by
      show (if (cutD ws none (some (kn : Int))).length + (cutD ws (some ((kn : Int) + 1)) none).length ≤ lim then some (D.lst (cutD ws none (some (kn : Int)) ++ cutD ws (some ((kn : Int) + 1)) none)) else none) = _
      rw [if_pos (by rw [hlim]; omega)]
    have r1 : mSl (mVar 2) oNone (oSome (mVar 3)) ρ5 Sd = .ok (.lst (cutD ws none (some (kn : Int)))) Sd := rfl
    have r2 : mSl (mVar 2) (oSome (m2 addO (mVar 3) (mC (.int 1)))) oNone ρ5 Sd = .ok (.lst (cutD ws (some ((kn : Int) + 1)) none)) Sd := rfl
    simp only [mN, aCons, aNil, m2, Out.bind, ofO]
    simp only [r1, r2, s1]
    rfl
  by_cases q3 : d3 = 3
  · exact fin (.lst ws) Sd kd (no q0 (no q1 (no q2 (yes q3 rfl)))) (inW _ (by simp)) h4 (by omega)
  by_cases q4 : d3 = 4
  · obtain ⟨d5, Se, ke, e5, a5, b5, c5, h5⟩ := mtap (ρ := ρ5) h4 (by omega) (span := 6) (by decide) (by decide) rfl (mC (.int 6)) rfl
    obtain ⟨z, hz, ez⟩ := ix_list (xs := zs) a5 b5 Se
    refine fin z Se ke (no q0 (no q1 (no q2 (no q3 (yes q4 ?_))))) (List.mem_append_left _ hz) h5 (by omega)
    have s0 : mLst (aCons (mC .non) (aCons (mC (.str "lag")) (aCons (mC (.int 0)) (aCons (mC (.bl true)) (aCons (mC (.dct [])) (aCons (mTup (aCons (mC (.str "lag tails")) aNil)) aNil)))))) ρ5 Sd = .ok (.lst zs) Sd := rfl
    show ((mLst _ ρ5 Sd).bind fun x S1 => (mCall F__law_tap (aCons (mVar 0) (aCons (mC (.int 6)) aNil)) ρ5 S1).bind fun y S2 => ofO (ixO S2 x y) S2) = _
    rw [s0]
    show ((mCall F__law_tap (aCons (mVar 0) (aCons (mC (.int 6)) aNil)) ρ5 Sd).bind fun y S2 => ofO (ixO S2 (.lst zs) y) S2) = _
    rw [e5]
    show ofO (ixO Se (.lst zs) (.int d5)) Se = _
    rw [ez]
    rfl
  by_cases q5 : d3 = 5
  · refine fin (.tup (ws ++ cutD ws none (some 1))) Sd kd (no q0 (no q1 (no q2 (no q3 (no q4 (yes q5 ?_)))))) (inW _ (by simp)) h4 (by omega)
    have s1 : addO Sd (.lst ws) (.lst (cutD ws none (some 1))) = some (.lst (ws ++ cutD ws none (some 1))) := by
      show (if ws.length + (cutD ws none (some 1)).length ≤ lim then some (D.lst (ws ++ cutD ws none (some 1))) else none) = _
      rw [if_pos (by rw [hlim]; omega)]
    have r1 : mVar 2 ρ5 Sd = .ok (.lst ws) Sd := rfl
    have r2 : mSl (mVar 2) oNone (oSome (mC (.int 1))) ρ5 Sd = .ok (.lst (cutD ws none (some 1))) Sd := rfl
    simp only [mN, aCons, aNil, m2, Out.bind, ofO]
    simp only [r1, r2, s1]
    rfl
  · exact fin (.tup ws) Sd kd (no q0 (no q1 (no q2 (no q3 (no q4 (no q5 (ret_ok rfl))))))) (inW _ (by simp)) h4 (by omega)
end K04
/-! the plain law of k04: the trials, the law -/
namespace K04
open PySem L2 DL
theorem tk {t : D} (h : t ∈ things) (S : Sto) : F_is_kind [t] S = .ok (.bl (mem t)) S := List.map_inj_left.mp (things_kind S) t h
theorem ti {t : D} (h : t ∈ things) (S : Sto) : inD S t (.lst KS) = some (.bl (mem t)) := List.map_inj_left.mp (things_in S) t h
theorem tm {t : D} (h : t ∈ things) (e : mem t = true) : t ∈ KS := by
  have z := List.all_eq_true.mp things_mem t h
  rw [e] at z
  obtain ⟨y, hy, q⟩ := List.any_eq_true.mp (show KS.any (eqD t) = true from z)
  rw [eqD_ok _ _ q]; exact hy
theorem gk {g : D} (h : g ∈ KS) (S : Sto) : F_is_kind [g] S = .ok (.bl true) S := List.map_inj_left.mp (kinds_mem S) g h
theorem gw {x y : D} (hx : x ∈ KS) (hy : y ∈ KS) (S : Sto) : F_is_within [x, y] S = .ok (.bl (wi x y)) S := List.map_inj_left.mp (List.map_inj_left.mp (kinds_within S) x hx) y hy
theorem call2 {F : Mi} {m1 m2 : ME} {ρ : DL.Env} {S S1 S2 : Sto} {x y : D} (h1 : m1 ρ S = .ok x S1) (h2 : m2 ρ S1 = .ok y S2) : mCall F (aCons m1 (aCons m2 aNil)) ρ S = F [x, y] S2 := by
  show ((m1 ρ S).bind _).bind _ = _
  rw [h1]
  show (((m2 ρ S1).bind _).bind _).bind _ = _
  rw [h2]
  rfl
section
variable {x y : D} {S : Sto}
theorem chk_t (h : F_is_kind [x] S = .ok (.bl true) S) : F_check_kind [x] S = .ok .non S := by
  show (match m_check_kind [some x] S with | .nx _ S' => Out.ok D.non S' | .rt d S' => .ok d S' | .exc e _ S' => .exc e S' | _ => .stuck) = _
  unfold m_check_kind
  rw [if_f (S1 := S) (by simp only [tNot', mTru, mCall, aCons, aNil, mVar, List.getElem?_cons_zero, Out.bind, h, ofO, truD, Bool.not_true])]
  rfl
theorem chk_f (h : F_is_kind [x] S = .ok (.bl false) S) : F_check_kind [x] S = .exc ⟨1, []⟩ S := by
  show (match m_check_kind [some x] S with | .nx _ S' => Out.ok D.non S' | .rt d S' => .ok d S' | .exc e _ S' => .exc e S' | _ => .stuck) = _
  unfold m_check_kind
  rw [if_t (S1 := S) (by simp only [tNot', mTru, mCall, aCons, aNil, mVar, List.getElem?_cons_zero, Out.bind, h, ofO, truD, Bool.not_false])]
  rfl
theorem within_eq : F_kind_within [x, y] S = (F_check_kind [x] S).bind fun _ S1 => (F_check_kind [y] S1).bind fun _ S2 => F_is_within [x, y] S2 := by
  show (match m_kind_within [some x, some y] S with | .nx _ S' => Out.ok D.non S' | .rt d S' => .ok d S' | .exc e _ S' => .exc e S' | _ => .stuck) = _
  have a : ∀ S, mCall F_check_kind (aCons (mVar 0) aNil) [some x, some y] S = F_check_kind [x] S := fun S => rfl
  have b : ∀ S, mCall F_check_kind (aCons (mVar 1) aNil) [some x, some y] S = F_check_kind [y] S := fun S => rfl
  have c : ∀ S, mCall F_is_within (aCons (mVar 0) (aCons (mVar 1) aNil)) [some x, some y] S = F_is_within [x, y] S := fun S => rfl
  unfold m_kind_within
  cases e1 : F_check_kind [x] S with
  | stuck => simp only [sSeq, OS.seq, sDrop, a, e1, OS.of, Out.bind]
  | exc e S1 => simp only [sSeq, OS.seq, sDrop, a, e1, OS.of, Out.bind]
  | ok d S1 =>
    simp only [sSeq, OS.seq, sDrop, a, e1, OS.of, Out.bind]
    cases e2 : F_check_kind [y] S1 with
    | stuck => simp only [b, e2, OS.of]
    | exc e S2 => simp only [b, e2, OS.of]
    | ok d2 S2 =>
      simp only [b, e2, sRet, c]
      cases e3 : F_is_within [x, y] S2 <;> simp only [OS.of]
abbrev hds : List Hd := [⟨ca1, (some 4), fun e => (selX e 1 (sPar 2 3 (aCons (mC (.str "kind")) (aCons (mAnd (mC (.bl true)) (mNot (mC (.bl false)))) aNil))) sStuck)⟩]
theorem said_exc (h : F_kind_within [x, y] S = .exc ⟨1, []⟩ S) : F__law_said [x, y] S = .ok (.str "kind") S := by
  show (match m__law_said [some x, some y, none, none, none] S with | .nx _ S' => Out.ok D.non S' | .rt d S' => .ok d S' | .exc e _ S' => .exc e S' | _ => .stuck) = _
  have hb : sSet 2 (mCall F_kind_within (aCons (mVar 0) (aCons (mVar 1) aNil))) [some x, some y, some .non, some (.bl true), none] S = .exc ⟨1, []⟩ [some x, some y, some .non, some (.bl true), none] S := by
    show OS.of (F_kind_within [x, y] S) _ _ = _
    rw [h]; rfl
  have ht : sTry (sSet 2 (mCall F_kind_within (aCons (mVar 0) (aCons (mVar 1) aNil)))) hds [some x, some y, some .non, some (.bl true), none] S = .nx [some x, some y, some (.str "kind"), some (.bl true), none] S := by
    unfold sTry
    rw [hb]
    rfl
  unfold m__law_said
  have h0 : sAsg (mTup (aCons (mC .non) (aCons (mC (.bl true)) aNil))) (bTup 2 (bCons (bName 2) (bCons (bName 3) bNil))) [some x, some y, none, none, none] S = .nx [some x, some y, some .non, some (.bl true), none] S := rfl
  rw [seq_nx h0, seq_nx ht]
  rfl
theorem said_ok {b : Bool} (h : F_kind_within [x, y] S = .ok (.bl b) S) : F__law_said [x, y] S = .ok (.bl b) S := by
  show (match m__law_said [some x, some y, none, none, none] S with | .nx _ S' => Out.ok D.non S' | .rt d S' => .ok d S' | .exc e _ S' => .exc e S' | _ => .stuck) = _
  have hb : sSet 2 (mCall F_kind_within (aCons (mVar 0) (aCons (mVar 1) aNil))) [some x, some y, some .non, some (.bl true), none] S = .nx [some x, some y, some (.bl b), some (.bl true), none] S := by
    show OS.of (F_kind_within [x, y] S) _ _ = _
    rw [h]; rfl
  have ht : sTry (sSet 2 (mCall F_kind_within (aCons (mVar 0) (aCons (mVar 1) aNil)))) hds [some x, some y, some .non, some (.bl true), none] S = .nx [some x, some y, some (.bl b), some (.bl true), none] S := by
    unfold sTry
    rw [hb]
  unfold m__law_said
  have h0 : sAsg (mTup (aCons (mC .non) (aCons (mC (.bl true)) aNil))) (bTup 2 (bCons (bName 2) (bCons (bName 3) bNil))) [some x, some y, none, none, none] S = .nx [some x, some y, some .non, some (.bl true), none] S := rfl
  rw [seq_nx h0, seq_nx ht]
  rfl
end
/-! ### a trial -/
def mTrial : MS := (sSeq (sPar 9 10 (aCons (mCall F__law_any_thing (aCons (mVar 7) (aCons (mVar 1) aNil))) (aCons (m2 ixO (mVar 1) (mCall F__law_tap (aCons (mVar 7) (aCons (mC (.int 19)) aNil)))) aNil)))
  (sSeq (sSet 5 (m2 inD (mVar 9) (mVar 1)))
  (sSeq (sIf (tNot' (mTru (mCall (F__law_agree 6) (aCons (mLst (aCons (mCall F_is_kind (aCons (mVar 9) aNil)) (aCons (mCallK F_is_kind [0] aNil (aCons (mVar 9) aNil)) aNil))) (aCons (mLst (aCons (mVar 5) (aCons (mVar 5) aNil))) aNil)))))
  (sRet (mC (.bl false)))
  sNil)
  (sSeq (sSet 11 (mLst (aCons (mCall F__law_said (aCons (mVar 9) (aCons (mVar 10) aNil))) (aCons (mCall F__law_said (aCons (mVar 10) (aCons (mVar 9) aNil))) (aCons (mCall F__law_said (aCons (mVar 9) (aCons (mVar 9) aNil))) aNil)))))
  (sIf (tAnd' (tNot' (mTru (mVar 5))) (mTst (m2 neO (mVar 11) (m2 mulO (mLst (aCons (mC (.str "kind")) aNil)) (mC (.int 3))))))
  (sRet (mC (.bl false)))
  sNil)))))
def env (sc f : D) (v3 v4 v5 v6 v7 v8 v9 v10 v11 v12 : Option D) : DL.Env := [some sc, some (.lst KS), some f, v3, v4, v5, v6, v7, v8, v9, v10, v11, v12]
theorem trial_ok {sc f : D} {v3 v4 v5 v6 v8 v9 v10 v11 v12 : Option D} {S : Sto} {c : Nat} {k : Int} (h : Cask S c k) (hk : k < 10 ^ 8) :
    ∃ v5' v9' v10' v11' S' k', mTrial (env sc f v3 v4 v5 v6 (some (.obj c)) v8 v9 v10 v11 v12) S = .nx (env sc f v3 v4 v5' v6 (some (.obj c)) v8 v9' v10' v11' v12) S' ∧ Cask S' c k' ∧ k' ≤ k + 6 := by
  obtain ⟨t, Sa, ka, ea, ht, ha, hka⟩ := any_ok h hk
  obtain ⟨d, Sb, kb, eb, b0, b1, hkb, hb, _⟩ := tap_ok ha (by omega) (span := 19) (by decide) (by decide)
  obtain ⟨ws, hws, eg⟩ := ix_kinds b0 b1 Sb
  have hg : (D.tup ws) ∈ KS := by rw [KS_eq]; exact List.mem_map.mpr ⟨ws, hws, rfl⟩
  generalize hgg : D.tup ws = g at eg hg
  have tkt := tk ht Sb
  let ρ0 := env sc f v3 v4 v5 v6 (some (.obj c)) v8 v9 v10 v11 v12
  let ρ1 := env sc f v3 v4 v5 v6 (some (.obj c)) v8 (some t) (some g) v11 v12
  let ρ2 := env sc f v3 v4 (some (.bl (mem t))) v6 (some (.obj c)) v8 (some t) (some g) v11 v12
  have x1 : sPar 9 10 (aCons (mCall F__law_any_thing (aCons (mVar 7) (aCons (mVar 1) aNil))) (aCons (m2 ixO (mVar 1) (mCall F__law_tap (aCons (mVar 7) (aCons (mC (.int 19)) aNil)))) aNil)) ρ0 S = .nx ρ1 Sb := by
    have a1 : mCall F__law_any_thing (aCons (mVar 7) (aCons (mVar 1) aNil)) ρ0 S = .ok t Sa := ea
    have a2 : m2 ixO (mVar 1) (mCall F__law_tap (aCons (mVar 7) (aCons (mC (.int 19)) aNil))) ρ0 Sa = .ok g Sb := by
      have a3 : mCall F__law_tap (aCons (mVar 7) (aCons (mC (.int 19)) aNil)) ρ0 Sa = .ok (.int d) Sb := by
        rw [tap_eq]; exact eb
      show ((mCall F__law_tap (aCons (mVar 7) (aCons (mC (.int 19)) aNil)) ρ0 Sa).bind fun y S2 => ofO (ixO S2 (.lst KS) y) S2) = _
      rw [a3]
      show ofO (ixO Sb (.lst KS) (.int d)) Sb = _
      rw [eg]; rfl
    show OS.of ((mCall F__law_any_thing (aCons (mVar 7) (aCons (mVar 1) aNil)) ρ0 S).bind _) _ _ = _
    rw [a1]
    show OS.of (((m2 ixO (mVar 1) (mCall F__law_tap (aCons (mVar 7) (aCons (mC (.int 19)) aNil))) ρ0 Sa).bind _).bind _) _ _ = _
    rw [a2]
    rfl
  have x2 : sSet 5 (m2 inD (mVar 9) (mVar 1)) ρ1 Sb = .nx ρ2 Sb := by
    refine set_ok (i := 5) (d := .bl (mem t)) (S1 := Sb) ?_
    show ofO (inD Sb t (.lst KS)) Sb = _
    rw [ti ht Sb]; rfl
  have x3 : (tNot' (mTru (mCall (F__law_agree 6) (aCons (mLst (aCons (mCall F_is_kind (aCons (mVar 9) aNil)) (aCons (mCallK F_is_kind [0] aNil (aCons (mVar 9) aNil)) aNil))) (aCons (mLst (aCons (mVar 5) (aCons (mVar 5) aNil))) aNil))))) ρ2 Sb = .ok false Sb := by
    have a1 : mCall F_is_kind (aCons (mVar 9) aNil) ρ2 Sb = .ok (.bl (mem t)) Sb := tkt
    have a2 : mCallK F_is_kind [0] aNil (aCons (mVar 9) aNil) ρ2 Sb = .ok (.bl (mem t)) Sb := tkt
    have a3 : mLst (aCons (mCall F_is_kind (aCons (mVar 9) aNil)) (aCons (mCallK F_is_kind [0] aNil (aCons (mVar 9) aNil)) aNil)) ρ2 Sb = .ok (.lst [.bl (mem t), .bl (mem t)]) Sb := by
      show ((mCall F_is_kind (aCons (mVar 9) aNil) ρ2 Sb).bind _).bind _ = _
      rw [a1]
      show (((mCallK F_is_kind [0] aNil (aCons (mVar 9) aNil) ρ2 Sb).bind _).bind _).bind _ = _
      rw [a2]
      rfl
    have a4 : mCall (F__law_agree 6) (aCons (mLst (aCons (mCall F_is_kind (aCons (mVar 9) aNil)) (aCons (mCallK F_is_kind [0] aNil (aCons (mVar 9) aNil)) aNil))) (aCons (mLst (aCons (mVar 5) (aCons (mVar 5) aNil))) aNil)) ρ2 Sb = .ok (.bl true) Sb := by
      have a5 : mLst (aCons (mVar 5) (aCons (mVar 5) aNil)) ρ2 Sb = .ok (.lst [.bl (mem t), .bl (mem t)]) Sb := rfl
      rw [call2 a3 a5]
      exact agree_b (mem t) Sb
    show ((mCall (F__law_agree 6) _ ρ2 Sb).bind _).bind _ = _
    rw [a4]
    rfl
  have heard : ∃ hs, mLst (aCons (mCall F__law_said (aCons (mVar 9) (aCons (mVar 10) aNil))) (aCons (mCall F__law_said (aCons (mVar 10) (aCons (mVar 9) aNil))) (aCons (mCall F__law_said (aCons (mVar 9) (aCons (mVar 9) aNil))) aNil))) ρ2 Sb = .ok hs Sb ∧ (mem t = false → hs = .lst [.str "kind", .str "kind", .str "kind"]) := by
    have com : ∀ r1 r2 r3, F__law_said [t, g] Sb = .ok r1 Sb → F__law_said [g, t] Sb = .ok r2 Sb → F__law_said [t, t] Sb = .ok r3 Sb →
        mLst (aCons (mCall F__law_said (aCons (mVar 9) (aCons (mVar 10) aNil))) (aCons (mCall F__law_said (aCons (mVar 10) (aCons (mVar 9) aNil))) (aCons (mCall F__law_said (aCons (mVar 9) (aCons (mVar 9) aNil))) aNil))) ρ2 Sb = .ok (.lst [r1, r2, r3]) Sb := fun r1 r2 r3 h1 h2 h3 => by
      have a1 : mCall F__law_said (aCons (mVar 9) (aCons (mVar 10) aNil)) ρ2 Sb = .ok r1 Sb := h1
      have a2 : mCall F__law_said (aCons (mVar 10) (aCons (mVar 9) aNil)) ρ2 Sb = .ok r2 Sb := h2
      have a3 : mCall F__law_said (aCons (mVar 9) (aCons (mVar 9) aNil)) ρ2 Sb = .ok r3 Sb := h3
      show ((mCall F__law_said (aCons (mVar 9) (aCons (mVar 10) aNil)) ρ2 Sb).bind _).bind _ = _
      rw [a1]
      show (((mCall F__law_said (aCons (mVar 10) (aCons (mVar 9) aNil)) ρ2 Sb).bind _).bind _).bind _ = _
      rw [a2]
      show ((((mCall F__law_said (aCons (mVar 9) (aCons (mVar 9) aNil)) ρ2 Sb).bind _).bind _).bind _).bind _ = _
      rw [a3]
      rfl
    have cg := chk_t (gk hg Sb)
    cases hm : mem t with
    | true =>
      rw [hm] at tkt
      have ct := chk_t tkt
      have tK := tm ht hm
      exact ⟨_, com _ _ _ (said_ok (b := wi t g) (by rw [within_eq, ct]; simp only [Out.bind, cg]; exact gw tK hg Sb)) (said_ok (b := wi g t) (by rw [within_eq, cg]; simp only [Out.bind, ct]; exact gw hg tK Sb)) (said_ok (b := wi t t) (by rw [within_eq, ct]; simp only [Out.bind, ct]; exact gw tK tK Sb)), fun z => by cases z⟩
    | false =>
      rw [hm] at tkt
      have ct := chk_f tkt
      exact ⟨_, com _ _ _ (said_exc (by rw [within_eq, ct]; rfl)) (said_exc (by rw [within_eq, cg]; simp only [Out.bind, ct])) (said_exc (by rw [within_eq, ct]; rfl)), fun _ => rfl⟩
  obtain ⟨hs, e4, hhs⟩ := heard
  let ρ3 := env sc f v3 v4 (some (.bl (mem t))) v6 (some (.obj c)) v8 (some t) (some g) (some hs) v12
  have x5 : (tAnd' (tNot' (mTru (mVar 5))) (mTst (m2 neO (mVar 11) (m2 mulO (mLst (aCons (mC (.str "kind")) aNil)) (mC (.int 3)))))) ρ3 Sb = .ok false Sb := by
    cases hm : mem t with
    | true =>
      have : (tNot' (mTru (mVar 5))) ρ3 Sb = .ok false Sb := by
        show ((mTru (mVar 5)) ρ3 Sb).bind _ = _
        show ((ofO (truD Sb (.bl (mem t))) Sb).bind _) = _
        rw [hm]; rfl
      show ((tNot' (mTru (mVar 5))) ρ3 Sb).bind _ = _
      rw [this]; rfl
    | false =>
      have : (tNot' (mTru (mVar 5))) ρ3 Sb = .ok true Sb := by
        show ((ofO (truD Sb (.bl (mem t))) Sb).bind _) = _
        rw [hm]; rfl
      show ((tNot' (mTru (mVar 5))) ρ3 Sb).bind _ = _
      rw [this]
      have e := hhs hm
      show mTst (m2 neO (mVar 11) (m2 mulO (mLst (aCons (mC (.str "kind")) aNil)) (mC (.int 3)))) ρ3 Sb = _
      show (m2 neO (mVar 11) (m2 mulO (mLst (aCons (mC (.str "kind")) aNil)) (mC (.int 3))) ρ3 Sb).bind _ = _
      have q : m2 neO (mVar 11) (m2 mulO (mLst (aCons (mC (.str "kind")) aNil)) (mC (.int 3))) ρ3 Sb = .ok (.bl false) Sb := by
        simp only [ρ3, env, e]
        rfl
      rw [q]
      rfl
  refine ⟨some (.bl (mem t)), some t, some g, some hs, Sb, kb, ?_, hb, by omega⟩
  unfold mTrial
  show sSeq _ _ ρ0 S = .nx ρ3 Sb
  rw [seq_nx x1, seq_nx x2, seq_nx (ρ1 := ρ2) (S1 := Sb) (by rw [if_f x3]; rfl), seq_nx (ρ1 := ρ3) (S1 := Sb) (set_ok e4), if_f x5]
  rfl
end K04
/-! the plain law of k04: the whole -/
namespace K04
open PySem L2 DL
def mOuter : MS := (sSeq (sSet 7 (mCall F__law_cask (aCons (mVar 0) (aCons (mVar 6) aNil))))
  (sFor (iRange1 (mC (.int 30))) (bName 8) mTrial))
def mPairs : MS := (sFor (iSeq (mVar 1)) (bName 3)
  (sFor (iSeq (mVar 1)) (bName 4)
  (sSeq (sSet 5 (m2 eqO (mLc (iSeq (mVar 3)) (bName 12) (mTst (m2 ninD (mVar 12) (mVar 4))) (mVar 12) [12]) (mLst aNil)))
  (sIf (tNot' (mTru (mCall (F__law_agree 6) (aCons (mLst (aCons (mCall F_kind_within (aCons (mVar 3) (aCons (mVar 4) aNil))) (aCons (mCallK F_kind_within [1, 0] aNil (aCons (mVar 4) (aCons (mVar 3) aNil))) aNil))) (aCons (mLst (aCons (mVar 5) (aCons (mVar 5) aNil))) aNil)))))
  (sRet (mC (.bl false)))
  sNil))))
abbrev lastK : D := .tup [.str "lag", .str "tails", .str "roam", .str "unsure", .str "hands"]
theorem pairs_ok (sc : D) : ∃ x y z, mPairs (env sc (.obj 1) none none none none none none none none none none) S4 = .nx (env sc (.obj 1) x y z none none none none none none none) S4 :=
  ⟨_, _, _, (by kernel_rfl : mPairs (env sc (.obj 1) none none none none none none none none none none) S4 = .nx (env sc (.obj 1) (KS.getLast?) (KS.getLast?) (some (.bl true)) none none none none none none none) S4)⟩
end K04
/-! the plain law of k04: the law -/
namespace K04
open PySem L2 DL
theorem call0 {F : Mi} {ρ : DL.Env} {S : Sto} : mCall F aNil ρ S = F [] S := rfl
theorem cask_eq : F__law_cask = caskF := rfl
theorem inner_ok {sc f : D} {v3 v4 v5 v6 v8 v9 v10 v11 v12 : Option D} {S : Sto} {c : Nat} (h : Cask S c 0) :
    ∃ v5' v8' v9' v10' v11' S', sFor (iRange1 (mC (.int 30))) (bName 8) mTrial (env sc f v3 v4 v5 v6 (some (.obj c)) v8 v9 v10 v11 v12) S = .nx (env sc f v3 v4 v5' v6 (some (.obj c)) v8' v9' v10' v11' v12) S' := by
  obtain ⟨ρ', S', e, v5', v8', v9', v10', v11', k', rfl, _⟩ := forL_ix (b := bName 8) (body := mTrial) (fun i ρ S => ∃ v5 v8 v9 v10 v11 k, ρ = env sc f v3 v4 v5 v6 (some (.obj c)) v8 v9 v10 v11 v12 ∧ Cask S c k ∧ k ≤ 6 * i ∧ i ≤ 30) (rangeD 0 30) 0
    (fun i d hd ρ S ⟨v5, v8, v9, v10, v11, k, e, hc, hk, _⟩ => by
      subst e
      have hi : i < 30 := by
        have := (List.getElem?_eq_some_iff.mp hd).1
        rwa [rangeD_length] at this
      rw [Nat.zero_add] at hk
      obtain ⟨a1, a2, a3, a4, S', k', e, hc', hk'⟩ := trial_ok (sc := sc) (f := f) (v3 := v3) (v4 := v4) (v5 := v5) (v6 := v6) (v8 := some d) (v9 := v9) (v10 := v10) (v11 := v11) (v12 := v12) hc (by omega)
      exact ⟨env sc f v3 v4 v5 v6 (some (.obj c)) (some d) v9 v10 v11 v12, rfl, _, S', e, a1, some d, a2, a3, a4, k', rfl, hc', by omega, by omega⟩)
    (env sc f v3 v4 v5 v6 (some (.obj c)) v8 v9 v10 v11 v12) S ⟨v5, v8, v9, v10, v11, 0, rfl, h, by omega, by omega⟩
  refine ⟨v5', v8', v9', v10', v11', S', ?_⟩
  have hi : iRange1 (mC (.int 30)) (env sc f v3 v4 v5 v6 (some (.obj c)) v8 v9 v10 v11 v12) S = .ok (rangeD 0 30) S := rfl
  show OS.of (iRange1 (mC (.int 30)) (env sc f v3 v4 v5 v6 (some (.obj c)) v8 v9 v10 v11 v12) S) _ _ = _
  rw [hi]
  exact e
theorem outer_ok {ns : List Int} {f : D} {v3 v4 v5 v7 v8 v9 v10 v11 v12 : Option D} {S : Sto} {i : Nat} (hi : i < 64) :
    ∃ v5' v7' v8' v9' v10' v11' S', mOuter (env (scr ns) f v3 v4 v5 (some (.int i)) v7 v8 v9 v10 v11 v12) S = .nx (env (scr ns) f v3 v4 v5' (some (.int i)) v7' v8' v9' v10' v11' v12) S' := by
  obtain ⟨o, e, hc⟩ := cask_ok ns i hi S
  obtain ⟨a5, a8, a9, a10, a11, S', e2⟩ := inner_ok (sc := scr ns) (f := f) (v3 := v3) (v4 := v4) (v5 := v5) (v6 := some (.int i)) (v8 := v8) (v9 := v9) (v10 := v10) (v11 := v11) (v12 := v12) hc
  refine ⟨a5, some (.obj S.length), a8, a9, a10, a11, S', ?_⟩
  have h1 : mCall F__law_cask (aCons (mVar 0) (aCons (mVar 6) aNil)) (env (scr ns) f v3 v4 v5 (some (.int i)) v7 v8 v9 v10 v11 v12) S = .ok (.obj S.length) (S ++ [o]) := by
    have a : mVar 0 (env (scr ns) f v3 v4 v5 (some (.int i)) v7 v8 v9 v10 v11 v12) S = .ok (scr ns) S := rfl
    have b : mVar 6 (env (scr ns) f v3 v4 v5 (some (.int i)) v7 v8 v9 v10 v11 v12) S = .ok (.int i) S := rfl
    rw [call2 a b, cask_eq]
    exact e
  unfold mOuter
  rw [seq_nx (ρ1 := env (scr ns) f v3 v4 v5 (some (.int i)) (some (.obj S.length)) v8 v9 v10 v11 v12) (S1 := S ++ [o]) (set_ok h1)]
  exact e2
end K04
/-! the plain law of k04: the law -/
namespace K04
open PySem L2 DL
theorem law_eq : m_law = (sSeq (sSet 1 (mCall F__law_kinds aNil))
  (sSeq (sSet 2 (mCall F_all_kinds aNil))
  (sSeq (sIf (tOr' (tNot' (mTru (mCall (F__law_agree 6) (aCons (mVar 2) (aCons (mVar 1) aNil))))) (mTst (m2 neO (mN lenG (aCons (mVar 1) aNil)) (mC (.int 19)))))
  (sRet (mC (.bl false)))
  sNil)
  (sSeq (sApp (mVar 2) (mC .non))
  (sSeq (sIf (tOr' (tNot' (mTru (mCall (F__law_agree 6) (aCons (mCall F_all_kinds aNil) (aCons (mVar 1) aNil))))) (mTst (m2 neO (mLc (iSeq (mVar 1)) (bName 3) (tNot' (mTru (mCall F_is_kind (aCons (mVar 3) aNil)))) (mVar 3) [3]) (mLst aNil))))
  (sRet (mC (.bl false)))
  sNil)
  (sSeq mPairs
  (sSeq (sFor (iRange1 (mN maxG (aCons (mC (.int 1)) (aCons (mN minG (aCons (mC (.int 5)) (aCons (mN lenG (aCons (mVar 0) aNil)) aNil))) aNil)))) (bName 6) mOuter)
  (sRet (mC (.bl true)))))))))) := rfl
end K04
/-! the plain law of k04: the law -/
namespace K04
open PySem L2 DL
theorem if_fN {t : MT} {a : MS} {ρ : DL.Env} {S S1 : Sto} (h : t ρ S = .ok false S1) : sIf t a sNil ρ S = .nx ρ S1 := (if_f h).trans rfl
theorem law_true : ∀ ns : List Int, ns.length ≤ 63 → (∀ z ∈ ns, Builtin.Int.intBits z ≤ 1048576) → ∃ S, F_law [.fz (ns.map D.int)] [] = .ok (.bl true) S := by
  intro ns hl _
  generalize hsc : (D.fz (ns.map D.int)) = sc
  let n0 : DL.Env := [some sc, none, none, none, none, none, none, none, none, none, none, none, none]
  let n1 : DL.Env := [some sc, some (.lst KS), none, none, none, none, none, none, none, none, none, none, none]
  let n2 : DL.Env := env sc (.obj 1) none none none none none none none none none none
  have e1 : sSet 1 (mCall F__law_kinds aNil) n0 [] = .nx n1 S1 := set_ok (i := 1) (by rw [call0]; exact kinds_1)
  have e2 : sSet 2 (mCall F_all_kinds aNil) n1 S1 = .nx n2 S2 := set_ok (i := 2) (by rw [call0]; exact all_1)
  have t3 : (tOr' (tNot' (mTru (mCall (F__law_agree 6) (aCons (mVar 2) (aCons (mVar 1) aNil))))) (mTst (m2 neO (mN lenG (aCons (mVar 1) aNil)) (mC (.int 19))))) n2 S2 = .ok false S2 := by
    have a : mVar 2 n2 S2 = .ok (.obj 1) S2 := rfl
    have b : mVar 1 n2 S2 = .ok (.lst KS) S2 := rfl
    have z : mCall (F__law_agree 6) (aCons (mVar 2) (aCons (mVar 1) aNil)) n2 S2 = .ok (.bl true) S2 := by
      rw [call2 a b]; exact agree_1
    exact or_ff (not_ok (tru_bl z)) (by kernel_rfl)
  have e4 : sApp (mVar 2) (mC .non) n2 S2 = .nx n2 S3 := by kernel_rfl
  have t5 : (tOr' (tNot' (mTru (mCall (F__law_agree 6) (aCons (mCall F_all_kinds aNil) (aCons (mVar 1) aNil))))) (mTst (m2 neO (mLc (iSeq (mVar 1)) (bName 3) (tNot' (mTru (mCall F_is_kind (aCons (mVar 3) aNil)))) (mVar 3) [3]) (mLst aNil)))) n2 S3 = .ok false S4 := by
    have a : mCall F_all_kinds aNil n2 S3 = .ok (.obj 2) S4 := by
      rw [call0]; exact all_2
    have b : mVar 1 n2 S4 = .ok (.lst KS) S4 := rfl
    have z : mCall (F__law_agree 6) (aCons (mCall F_all_kinds aNil) (aCons (mVar 1) aNil)) n2 S3 = .ok (.bl true) S4 := by
      rw [call2 a b]; exact agree_2
    have y : (mTst (m2 neO (mLc (iSeq (mVar 1)) (bName 3) (tNot' (mTru (mCall F_is_kind (aCons (mVar 3) aNil)))) (mVar 3) [3]) (mLst aNil))) n2 S4 = .ok false S4 := by kernel_rfl
    exact or_ff (not_ok (tru_bl z)) y
  obtain ⟨x, y, z, e6⟩ := pairs_ok sc
  have e7 : ∃ ρ' S', sFor (iRange1 (mN maxG (aCons (mC (.int 1)) (aCons (mN minG (aCons (mC (.int 5)) (aCons (mN lenG (aCons (mVar 0) aNil)) aNil))) aNil)))) (bName 6) mOuter (env sc (.obj 1) x y z none none none none none none none) S4 = .nx ρ' S' := by
    let n : Int := let m := (if (ns.length : Int) < 5 then (ns.length : Int) else 5); if m > 1 then m else 1
    have hn : 0 ≤ n ∧ n ≤ 5 := by
      show 0 ≤ (let m := (if (ns.length : Int) < 5 then (ns.length : Int) else 5); if m > 1 then m else 1) ∧ (let m := (if (ns.length : Int) < 5 then (ns.length : Int) else 5); if m > 1 then m else 1) ≤ 5
      dsimp only
      constructor <;> split <;> split <;> omega
    have hlen : lenG S4 [sc] = some (.int ns.length) := by
      rw [← hsc]
      have e : lenG S4 [scr ns] = some (D.int ((ns.map D.int).length : Nat)) := rfl
      rw [e, List.length_map]
    have hi : iRange1 (mN maxG (aCons (mC (.int 1)) (aCons (mN minG (aCons (mC (.int 5)) (aCons (mN lenG (aCons (mVar 0) aNil)) aNil))) aNil))) (env sc (.obj 1) x y z none none none none none none none) S4 = .ok (rangeD 0 n.toNat) S4 := by
      have hb : -(2 ^ 62) ≤ n ∧ n < 2 ^ 62 := by omega
      simp only [iRange1, mN, aCons, aNil, mC, mVar, env, Out.bind, ofO, List.getElem?_cons_zero, hlen, minG, maxG]
      exact if_pos hb
    obtain ⟨ρ', S', e, _⟩ := forL_ix (b := bName 6) (body := mOuter) (fun i ρ S => ∃ v3 v4 v5 v6 v7 v8 v9 v10 v11 v12, ρ = env sc (.obj 1) v3 v4 v5 v6 v7 v8 v9 v10 v11 v12) (rangeD 0 n.toNat) 0
      (fun i d hd ρ S ⟨v3, v4, v5, v6, v7, v8, v9, v10, v11, v12, e⟩ => by
        subst e
        obtain ⟨j, hj, rfl⟩ := mem_rangeD (List.mem_of_getElem? hd)
        have hj' : (0 : Int) + (j : Nat) = (j : Int) := by omega
        rw [hj']
        obtain ⟨a5, a7, a8, a9, a10, a11, S', e⟩ := outer_ok (ns := ns) (f := .obj 1) (v3 := v3) (v4 := v4) (v5 := v5) (v7 := v7) (v8 := v8) (v9 := v9) (v10 := v10) (v11 := v11) (v12 := v12) (S := S) (i := j) (by omega)
        rw [show scr ns = sc from hsc] at e
        exact ⟨env sc (.obj 1) v3 v4 v5 (some (.int j)) v7 v8 v9 v10 v11 v12, rfl, _, S', e, v3, v4, a5, some (.int j), a7, a8, a9, a10, a11, v12, rfl⟩)
      (env sc (.obj 1) x y z none none none none none none none) S4 ⟨x, y, z, none, none, none, none, none, none, none, rfl⟩
    exact ⟨ρ', S', (for_ok hi).trans e⟩
  obtain ⟨ρ', S', e7⟩ := e7
  refine ⟨S', runD_rt (ρ := n0) rfl ?_⟩
  rw [law_eq]
  rw [seq_nx e1, seq_nx e2, seq_nx (if_fN t3), seq_nx e4, seq_nx (if_fN t5), seq_nx e6, seq_nx e7]
  exact ret_ok rfl
end K04
/-! the head, printed by gen.py -/
namespace K04
open PySem L2 DL
theorem all_mk {l : PySem.W.OpenLaw} {w : World} {K : PySem.W.Frag} {h : Heap} {mg : Str → Option Value} {fa : Addr} (X : K.In h) (G : h.Ns mainGlobals mg) (hfa : mg "law" = some (.ref fa))
    {f0 : Addr} {od0 an0 : Option Addr} {sl0 : Array (Option Value)} {oc0 kV0 dc0 pm0 cd0 ct0 : Value} {f1 : Addr} {od1 an1 : Option Addr} {sl1 : Array (Option Value)} {oc1 kV1 dc1 pm1 cd1 ct1 : Value} {f2 : Addr} {od2 an2 : Option Addr} {sl2 : Array (Option Value)} {oc2 kV2 dc2 pm2 cd2 ct2 : Value} {f3 : Addr} {od3 an3 : Option Addr} {sl3 : Array (Option Value)} {oc3 kV3 dc3 pm3 cd3 ct3 : Value} {f4 : Addr} {od4 an4 : Option Addr} {sl4 : Array (Option Value)} {oc4 kV4 dc4 pm4 cd4 ct4 : Value} {f5 : Addr} {od5 an5 : Option Addr} {sl5 : Array (Option Value)} {oc5 kV5 dc5 pm5 cd5 ct5 : Value} {f6 : Addr} {od6 an6 : Option Addr} {sl6 : Array (Option Value)} {oc6 kV6 dc6 pm6 cd6 ct6 : Value} {f7 : Addr} {od7 an7 : Option Addr} {sl7 : Array (Option Value)} {oc7 kV7 dc7 pm7 cd7 ct7 : Value} {f8 : Addr} {od8 an8 : Option Addr} {sl8 : Array (Option Value)} {oc8 kV8 dc8 pm8 cd8 ct8 : Value} {f9 : Addr} {od9 an9 : Option Addr} {sl9 : Array (Option Value)} {oc9 kV9 dc9 pm9 cd9 ct9 : Value} {f10 : Addr} {od10 an10 : Option Addr} {sl10 : Array (Option Value)} {oc10 kV10 dc10 pm10 cd10 ct10 : Value} {f11 : Addr} {od11 an11 : Option Addr} {sl11 : Array (Option Value)} {oc11 kV11 dc11 pm11 cd11 ct11 : Value} {f12 : Addr} {od12 an12 : Option Addr} {sl12 : Array (Option Value)} {oc12 kV12 dc12 pm12 cd12 ct12 : Value} {f13 : Addr} {od13 an13 : Option Addr} {sl13 : Array (Option Value)} {oc13 kV13 dc13 pm13 cd13 ct13 : Value} {tk0 : Tok} {tk1 : Tok} {tk2 : Tok} {tk3 : Tok} {at4 : Addr} {dd4 : Option Addr} {nn4 : Nat} {ss4 : Array (Option Value)} {tk4_0 tk4_1 tk4_2 tk4_3 tk4_4 tk4_5 : Tok} {at5 : Addr} {dd5 : Option Addr} {nn5 : Nat} {ss5 : Array (Option Value)} {tk5_0 tk5_1 tk5_2 : Tok} {at6 : Addr} {dd6 : Option Addr} {nn6 : Nat} {ss6 : Array (Option Value)} {tk6_0 tk6_1 : Tok} {C0 : Addr} {C1 : Addr} {C2 : Addr}
    (a0 : PySem.W.nsIn K mainGlobals "_law_kinds" = some (some (.ref f0)))
    (l0 : K.lookup f0 = some ⟨oc0, od0, .func (PySem.W.fnOf "_law_kinds" "_law_kinds" (defArgs (top 25)) (defBody (top 25)) (defScope (top 25)) .none kV0 dc0 pm0 an0 cd0 ct0), sl0⟩)
    (c0 : PySem.W.codeIn K cd0 "_law_kinds" = true)
    (k0 : PySem.W.keepIn K (.ref f0) = true)
    (a1 : PySem.W.nsIn K mainGlobals "kind_order" = some (some (.ref f1)))
    (l1 : K.lookup f1 = some ⟨oc1, od1, .func (PySem.W.fnOf "kind_order" "kind_order" (defArgs (top 18)) (defBody (top 18)) (defScope (top 18)) .none kV1 dc1 pm1 an1 cd1 ct1), sl1⟩)
    (c1 : PySem.W.codeIn K cd1 "kind_order" = true)
    (k1 : PySem.W.keepIn K (.ref f1) = true)
    (a2 : PySem.W.nsIn K mainGlobals "has_what_it_needs" = some (some (.ref f2)))
    (l2 : K.lookup f2 = some ⟨oc2, od2, .func (PySem.W.fnOf "has_what_it_needs" "has_what_it_needs" (defArgs (top 14)) (defBody (top 14)) (defScope (top 14)) .none kV2 dc2 pm2 an2 cd2 ct2), sl2⟩)
    (c2 : PySem.W.codeIn K cd2 "has_what_it_needs" = true)
    (k2 : PySem.W.keepIn K (.ref f2) = true)
    (a3 : PySem.W.nsIn K mainGlobals "all_kinds" = some (some (.ref f3)))
    (l3 : K.lookup f3 = some ⟨oc3, od3, .func (PySem.W.fnOf "all_kinds" "all_kinds" (defArgs (top 17)) (defBody (top 17)) (defScope (top 17)) .none kV3 dc3 pm3 an3 cd3 ct3), sl3⟩)
    (c3 : PySem.W.codeIn K cd3 "all_kinds" = true)
    (k3 : PySem.W.keepIn K (.ref f3) = true)
    (a4 : PySem.W.nsIn K mainGlobals "_law_cask" = some (some (.ref f4)))
    (l4 : K.lookup f4 = some ⟨oc4, od4, .func (PySem.W.fnOf "_law_cask" "_law_cask" (defArgs (top 22)) (defBody (top 22)) (defScope (top 22)) .none kV4 dc4 pm4 an4 cd4 ct4), sl4⟩)
    (c4 : PySem.W.codeIn K cd4 "_law_cask" = true)
    (k4 : PySem.W.keepIn K (.ref f4) = true)
    (a5 : PySem.W.nsIn K mainGlobals "_law_agree" = some (some (.ref f5)))
    (l5 : K.lookup f5 = some ⟨oc5, od5, .func (PySem.W.fnOf "_law_agree" "_law_agree" (defArgs (top 24)) (defBody (top 24)) (defScope (top 24)) .none kV5 dc5 pm5 an5 cd5 ct5), sl5⟩)
    (c5 : PySem.W.codeIn K cd5 "_law_agree" = true)
    (k5 : PySem.W.keepIn K (.ref f5) = true)
    (a6 : PySem.W.nsIn K mainGlobals "_law_tap" = some (some (.ref f6)))
    (l6 : K.lookup f6 = some ⟨oc6, od6, .func (PySem.W.fnOf "_law_tap" "_law_tap" (defArgs (top 23)) (defBody (top 23)) (defScope (top 23)) .none kV6 dc6 pm6 an6 cd6 ct6), sl6⟩)
    (c6 : PySem.W.codeIn K cd6 "_law_tap" = true)
    (k6 : PySem.W.keepIn K (.ref f6) = true)
    (a7 : PySem.W.nsIn K mainGlobals "_law_any_thing" = some (some (.ref f7)))
    (l7 : K.lookup f7 = some ⟨oc7, od7, .func (PySem.W.fnOf "_law_any_thing" "_law_any_thing" (defArgs (top 27)) (defBody (top 27)) (defScope (top 27)) .none kV7 dc7 pm7 an7 cd7 ct7), sl7⟩)
    (c7 : PySem.W.codeIn K cd7 "_law_any_thing" = true)
    (k7 : PySem.W.keepIn K (.ref f7) = true)
    (a8 : PySem.W.nsIn K mainGlobals "is_kind" = some (some (.ref f8)))
    (l8 : K.lookup f8 = some ⟨oc8, od8, .func (PySem.W.fnOf "is_kind" "is_kind" (defArgs (top 15)) (defBody (top 15)) (defScope (top 15)) .none kV8 dc8 pm8 an8 cd8 ct8), sl8⟩)
    (c8 : PySem.W.codeIn K cd8 "is_kind" = true)
    (k8 : PySem.W.keepIn K (.ref f8) = true)
    (a9 : PySem.W.nsIn K mainGlobals "check_kind" = some (some (.ref f9)))
    (l9 : K.lookup f9 = some ⟨oc9, od9, .func (PySem.W.fnOf "check_kind" "check_kind" (defArgs (top 16)) (defBody (top 16)) (defScope (top 16)) .none kV9 dc9 pm9 an9 cd9 ct9), sl9⟩)
    (c9 : PySem.W.codeIn K cd9 "check_kind" = true)
    (k9 : PySem.W.keepIn K (.ref f9) = true)
    (a10 : PySem.W.nsIn K mainGlobals "is_within" = some (some (.ref f10)))
    (l10 : K.lookup f10 = some ⟨oc10, od10, .func (PySem.W.fnOf "is_within" "is_within" (defArgs (top 19)) (defBody (top 19)) (defScope (top 19)) .none kV10 dc10 pm10 an10 cd10 ct10), sl10⟩)
    (c10 : PySem.W.codeIn K cd10 "is_within" = true)
    (k10 : PySem.W.keepIn K (.ref f10) = true)
    (a11 : PySem.W.nsIn K mainGlobals "kind_within" = some (some (.ref f11)))
    (l11 : K.lookup f11 = some ⟨oc11, od11, .func (PySem.W.fnOf "kind_within" "kind_within" (defArgs (top 20)) (defBody (top 20)) (defScope (top 20)) .none kV11 dc11 pm11 an11 cd11 ct11), sl11⟩)
    (c11 : PySem.W.codeIn K cd11 "kind_within" = true)
    (k11 : PySem.W.keepIn K (.ref f11) = true)
    (a12 : PySem.W.nsIn K mainGlobals "_law_said" = some (some (.ref f12)))
    (l12 : K.lookup f12 = some ⟨oc12, od12, .func (PySem.W.fnOf "_law_said" "_law_said" (defArgs (top 26)) (defBody (top 26)) (defScope (top 26)) .none kV12 dc12 pm12 an12 cd12 ct12), sl12⟩)
    (c12 : PySem.W.codeIn K cd12 "_law_said" = true)
    (k12 : PySem.W.keepIn K (.ref f12) = true)
    (a13 : PySem.W.nsIn K mainGlobals "law" = some (some (.ref f13)))
    (l13 : K.lookup f13 = some ⟨oc13, od13, .func (PySem.W.fnOf "law" "law" (defArgs (top 28)) (defBody (top 28)) (defScope (top 28)) .none kV13 dc13 pm13 an13 cd13 ct13), sl13⟩)
    (c13 : PySem.W.codeIn K cd13 "law" = true)
    (k13 : PySem.W.keepIn K (.ref f13) = true)
    (y0 : PySem.W.nsIn K mainGlobals "LAG" = some (some (.str "lag" tk0)))
    (y1 : PySem.W.nsIn K mainGlobals "ROAM" = some (some (.str "roam" tk1)))
    (y2 : PySem.W.nsIn K mainGlobals "GHOSTS" = some (some (.str "ghosts" tk2)))
    (y3 : PySem.W.nsIn K mainGlobals "HANDS" = some (some (.str "hands" tk3)))
    (y4 : PySem.W.nsIn K mainGlobals "WORDS" = some (some (.ref at4)))
    (z4 : K.lookup at4 = some ⟨.type "tuple", dd4, .seq #[.str "lag" tk4_0, .str "tails" tk4_1, .str "roam" tk4_2, .str "ghosts" tk4_3, .str "unsure" tk4_4, .str "hands" tk4_5] nn4, ss4⟩)
    (y5 : PySem.W.nsIn K mainGlobals "WITH_LAG" = some (some (.ref at5)))
    (z5 : K.lookup at5 = some ⟨.type "tuple", dd5, .seq #[.str "tails" tk5_0, .str "ghosts" tk5_1, .str "unsure" tk5_2] nn5, ss5⟩)
    (y6 : PySem.W.nsIn K mainGlobals "WITH_ROAM" = some (some (.ref at6)))
    (z6 : K.lookup at6 = some ⟨.type "tuple", dd6, .seq #[.str "ghosts" tk6_0, .str "hands" tk6_1] nn6, ss6⟩)
    (b_abs : PySem.W.nsIn K mainGlobals "abs" = some none)
    (b_all : PySem.W.nsIn K mainGlobals "all" = some none)
    (b_any : PySem.W.nsIn K mainGlobals "any" = some none)
    (b_bool : PySem.W.nsIn K mainGlobals "bool" = some none)
    (b_int : PySem.W.nsIn K mainGlobals "int" = some none)
    (b_isinstance : PySem.W.nsIn K mainGlobals "isinstance" = some none)
    (b_len : PySem.W.nsIn K mainGlobals "len" = some none)
    (b_list : PySem.W.nsIn K mainGlobals "list" = some none)
    (b_max : PySem.W.nsIn K mainGlobals "max" = some none)
    (b_min : PySem.W.nsIn K mainGlobals "min" = some none)
    (b_range : PySem.W.nsIn K mainGlobals "range" = some none)
    (b_sorted : PySem.W.nsIn K mainGlobals "sorted" = some none)
    (b_str : PySem.W.nsIn K mainGlobals "str" = some none)
    (b_tuple : PySem.W.nsIn K mainGlobals "tuple" = some none)
    (x0a : PySem.W.nsIn K mainGlobals "StoreError" = some (some (.ref C0)))
    (x0q : PySem.W.excIn K C0 [.type "ValueError", .type "Exception", .type "BaseException", .type "object"] "ValueError.__new__" = true)
    (x0k : PySem.W.keepIn K (.ref C0) = true)
    (x0b : PySem.W.subIn K (.ref C0) (.type "BaseException") = some true)
    (x0t : PySem.W.typeIn K (.ref C0) = some (.type "type"))
    (x0d : PySem.W.hasDictIn K C0 = true)
    (x1a : PySem.W.nsIn K mainGlobals "BadKind" = some (some (.ref C1)))
    (x1q : PySem.W.excIn K C1 [.type "ValueError", .type "Exception", .type "BaseException", .type "object"] "ValueError.__new__" = true)
    (x1k : PySem.W.keepIn K (.ref C1) = true)
    (x1b : PySem.W.subIn K (.ref C1) (.type "BaseException") = some true)
    (x1t : PySem.W.typeIn K (.ref C1) = some (.type "type"))
    (x1d : PySem.W.hasDictIn K C1 = true)
    (x2a : PySem.W.nsIn K mainGlobals "BadBook" = some (some (.ref C2)))
    (x2q : PySem.W.excIn K C2 [.type "ValueError", .type "Exception", .type "BaseException", .type "object"] "ValueError.__new__" = true)
    (x2k : PySem.W.keepIn K (.ref C2) = true)
    (x2b : PySem.W.subIn K (.ref C2) (.type "BaseException") = some true)
    (x2t : PySem.W.typeIn K (.ref C2) = some (.type "type"))
    (x2d : PySem.W.hasDictIn K C2 = true)
    (s1_0 : PySem.W.subIn K (.ref C1) (.ref C0) = some true)
    (s1_1 : PySem.W.subIn K (.ref C1) (.ref C1) = some true)
    (s1_2 : PySem.W.subIn K (.ref C1) (.ref C2) = some false)
    (e1g : PySem.W.findIn K (.ref C1) "__getattribute__" = some (some (.builtin "BaseException.__getattribute__")))
    (e1k : PySem.W.findIn K (.ref C1) "__getattr__" = some none)
    (e1a : PySem.W.findIn K (.ref C1) "__class__" = some (some (.builtin "object.__class__")))
    (e1m : PySem.W.mroIn K C1 (.type "object") = some true)
    (ehn : PySem.W.specialIn K (.builtin "object.__class__") "__get__" = some (some (.builtin "getset_descriptor.__get__")))
    (eht : PySem.W.takesIn K (.builtin "object.__class__") = some true)
    : ∃ fd : FuncData, (∀ (s : Shared) (v : Value), BindsTo s fd ⟨[v], []⟩ [("script", v)]) ∧ ∀ base : Heap, K.In base → base.Ns mainGlobals mg → FnOk l.prog w K mg base (L2N.CX l.prog w) 8 fa fd ["script"] (spLaw K) := by
  have e := hfa.symm.trans (PySem.W.mg_of X G a13)
  cases e
  let C : Nat → Addr := fun c => match c with | 0 => C0 | 1 => C1 | _ => C2
  have T : Txt K mg C := {
    b_abs := PySem.W.mg_none_of X G b_abs
    b_all := PySem.W.mg_none_of X G b_all
    b_any := PySem.W.mg_none_of X G b_any
    b_bool := PySem.W.mg_none_of X G b_bool
    b_int := PySem.W.mg_none_of X G b_int
    b_isinstance := PySem.W.mg_none_of X G b_isinstance
    b_len := PySem.W.mg_none_of X G b_len
    b_list := PySem.W.mg_none_of X G b_list
    b_max := PySem.W.mg_none_of X G b_max
    b_min := PySem.W.mg_none_of X G b_min
    b_range := PySem.W.mg_none_of X G b_range
    b_sorted := PySem.W.mg_none_of X G b_sorted
    b_str := PySem.W.mg_none_of X G b_str
    b_tuple := PySem.W.mg_none_of X G b_tuple
    g_LAG := gc_str X G y0
    g_ROAM := gc_str X G y1
    g_GHOSTS := gc_str X G y2
    g_HANDS := gc_str X G y3
    g_WORDS := gc_tup X G rfl y4 z4 (vals_strs (xs := [("lag", tk4_0), ("tails", tk4_1), ("roam", tk4_2), ("ghosts", tk4_3), ("unsure", tk4_4), ("hands", tk4_5)])) (by show 6 ≤ 1000000; decide) (fun _ _ => rep_strs (xs := ["lag", "tails", "roam", "ghosts", "unsure", "hands"]))
    g_WITH_LAG := gc_tup X G rfl y5 z5 (vals_strs (xs := [("tails", tk5_0), ("ghosts", tk5_1), ("unsure", tk5_2)])) (by show 3 ≤ 1000000; decide) (fun _ _ => rep_strs (xs := ["tails", "ghosts", "unsure"]))
    g_WITH_ROAM := gc_tup X G rfl y6 z6 (vals_strs (xs := [("ghosts", tk6_0), ("hands", tk6_1)])) (by show 2 ≤ 1000000; decide) (fun _ _ => rep_strs (xs := ["ghosts", "hands"]))
    k0 := ⟨x0q, PySem.W.mg_of X G x0a, x0k, x0b, x0t⟩
    k1 := ⟨x1q, PySem.W.mg_of X G x1a, x1k, x1b, x1t⟩
    k2 := ⟨x2q, PySem.W.mg_of X G x2a, x2k, x2b, x2t⟩
    x1 := by
      intro c b hb
      unfold ca1 at hb
      split at hb
      all_goals (cases hb <;> first | exact PySem.W.exm_ref x1b x1d x1t s1_1)
    e1 := ⟨e1g, e1k, x1b, x1d, e1a, ehn, eht, e1m⟩
    q1_0 := kit_of s1_0 s1_1 x0d x0t
    q1_2 := kit_of s1_2 s1_1 x2d x2t }
  have F0 := fun_mk (st := top 25) l0 c0 k0
  have B0 := F0.binds (ps := []) fun _ _ _ _ _ _ us hl => match us, hl with | [], _ => rfl
  have F1 := fun_mk (st := top 18) l1 c1 k1
  have B1 := F1.binds (ps := ["kind"]) fun _ _ _ _ _ _ us hl => match us, hl with | [_], _ => rfl
  have F2 := fun_mk (st := top 14) l2 c2 k2
  have B2 := F2.binds (ps := ["words"]) fun _ _ _ _ _ _ us hl => match us, hl with | [_], _ => rfl
  have F3 := fun_mk (st := top 17) l3 c3 k3
  have B3 := F3.binds (ps := []) fun _ _ _ _ _ _ us hl => match us, hl with | [], _ => rfl
  have F4 := fun_mk (st := top 22) l4 c4 k4
  have B4 := F4.binds (ps := ["script", "at"]) fun _ _ _ _ _ _ us hl => match us, hl with | [_, _], _ => rfl
  have F5 := fun_mk (st := top 24) l5 c5 k5
  have B5 := F5.binds (ps := ["found", "due"]) fun _ _ _ _ _ _ us hl => match us, hl with | [_, _], _ => rfl
  have F6 := fun_mk (st := top 23) l6 c6 k6
  have B6 := F6.binds (ps := ["cask", "span"]) fun _ _ _ _ _ _ us hl => match us, hl with | [_, _], _ => rfl
  have F7 := fun_mk (st := top 27) l7 c7 k7
  have B7 := F7.binds (ps := ["cask", "kinds_here"]) fun _ _ _ _ _ _ us hl => match us, hl with | [_, _], _ => rfl
  have F8 := fun_mk (st := top 15) l8 c8 k8
  have B8 := F8.binds (ps := ["thing"]) fun _ _ _ _ _ _ us hl => match us, hl with | [_], _ => rfl
  have F9 := fun_mk (st := top 16) l9 c9 k9
  have B9 := F9.binds (ps := ["thing"]) fun _ _ _ _ _ _ us hl => match us, hl with | [_], _ => rfl
  have F10 := fun_mk (st := top 19) l10 c10 k10
  have B10 := F10.binds (ps := ["kind", "other"]) fun _ _ _ _ _ _ us hl => match us, hl with | [_, _], _ => rfl
  have F11 := fun_mk (st := top 20) l11 c11 k11
  have B11 := F11.binds (ps := ["kind", "other"]) fun _ _ _ _ _ _ us hl => match us, hl with | [_, _], _ => rfl
  have F12 := fun_mk (st := top 26) l12 c12 k12
  have B12 := F12.binds (ps := ["one", "two"]) fun _ _ _ _ _ _ us hl => match us, hl with | [_, _], _ => rfl
  have F13 := fun_mk (st := top 28) l13 c13 k13
  have B13 := F13.binds (ps := ["script"]) fun _ _ _ _ _ _ us hl => match us, hl with | [_], _ => rfl
  have K_is_kind_0_thing : KwB K _ ["thing"] ["thing"] 0 [0] := kwb_of F8 fun _ _ _ _ _ _ us ws zs h1 h2 h3 => match us, ws, h1, h2, h3 with | [], [_], _, _, h3 => by cases h3; rfl
  have K_kind_within_0_other_kind : KwB K _ ["kind", "other"] ["other", "kind"] 0 [1, 0] := kwb_of F11 fun _ _ _ _ _ _ us ws zs h1 h2 h3 => match us, ws, h1, h2, h3 with | [], [_, _], _, _, h3 => by cases h3; rfl
  refine ⟨PySem.W.fnOf "law" "law" (defArgs (top 28)) (defBody (top 28)) (defScope (top 28)) .none kV13 dc13 pm13 an13 cd13 ct13, fun s v => .of_eq rfl, fun base _ _ => ?_⟩
  have D__law_kinds := ok__law_kinds (P := l.prog) (w := w) (base := base) T F0 (PySem.W.mg_of X G a0) B0
  have D_kind_order := ok_kind_order (P := l.prog) (w := w) (base := base) T F1 (PySem.W.mg_of X G a1) B1
  have D_has_what_it_needs := ok_has_what_it_needs (P := l.prog) (w := w) (base := base) T F2 (PySem.W.mg_of X G a2) B2
  have D_all_kinds := ok_all_kinds (P := l.prog) (w := w) (base := base) T D_has_what_it_needs D_kind_order F3 (PySem.W.mg_of X G a3) B3
  have D__law_cask := ok__law_cask (P := l.prog) (w := w) (base := base) T F4 (PySem.W.mg_of X G a4) B4
  have D__law_agree := ok__law_agree (P := l.prog) (w := w) (base := base) T F5 (PySem.W.mg_of X G a5) B5 6
  have D__law_tap := ok__law_tap (P := l.prog) (w := w) (base := base) T F6 (PySem.W.mg_of X G a6) B6
  have D__law_any_thing := ok__law_any_thing (P := l.prog) (w := w) (base := base) T D__law_tap F7 (PySem.W.mg_of X G a7) B7
  have D_is_kind := ok_is_kind (P := l.prog) (w := w) (base := base) T D_has_what_it_needs F8 (PySem.W.mg_of X G a8) B8
  have D_check_kind := ok_check_kind (P := l.prog) (w := w) (base := base) T D_is_kind F9 (PySem.W.mg_of X G a9) B9
  have D_is_within := ok_is_within (P := l.prog) (w := w) (base := base) T F10 (PySem.W.mg_of X G a10) B10
  have D_kind_within := ok_kind_within (P := l.prog) (w := w) (base := base) T D_check_kind D_is_within F11 (PySem.W.mg_of X G a11) B11
  have D__law_said := ok__law_said (P := l.prog) (w := w) (base := base) T D_kind_within F12 (PySem.W.mg_of X G a12) B12
  have D_law := ok_law (P := l.prog) (w := w) (base := base) T D_is_kind K_is_kind_0_thing D_all_kinds D_kind_within K_kind_within_0_other_kind D__law_cask D__law_tap D__law_agree D__law_kinds D__law_said D__law_any_thing F13 (PySem.W.mg_of X G a13) B13
  exact D_law.fn.imp (law_imp rfl law_true)
end K04
open PySem PySem.W PyProof.Rows
set_option maxRecDepth 100000 in
set_option maxHeartbeats 0 in
theorem PySem.Challenge.cw_tokenreads_k04_kinds_holds : PySem.Challenge.rw_tokenreads_k04_kinds.Holds := by
  w_on; o_law; k_head; (case hw => w_witness2)
  k_fill
  refine DL.walk (l := PySem.Challenge.rw_tokenreads_k04_kinds) 8 rfl rfl ⟨rfl, by decide, by decide⟩ (fun w h Y => PySem.W.kIn_of Y) ?F
  case F =>
    intro w mg fa h KX G hmg
    refine' K04.all_mk KX G hmg ?a0 ?l0 ?c0 ?k0 ?a1 ?l1 ?c1 ?k1 ?a2 ?l2 ?c2 ?k2 ?a3 ?l3 ?c3 ?k3 ?a4 ?l4 ?c4 ?k4 ?a5 ?l5 ?c5 ?k5 ?a6 ?l6 ?c6 ?k6 ?a7 ?l7 ?c7 ?k7 ?a8 ?l8 ?c8 ?k8 ?a9 ?l9 ?c9 ?k9 ?a10 ?l10 ?c10 ?k10 ?a11 ?l11 ?c11 ?k11 ?a12 ?l12 ?c12 ?k12 ?a13 ?l13 ?c13 ?k13 ?y0 ?y1 ?y2 ?y3 ?y4 ?z4 ?y5 ?z5 ?y6 ?z6 ?b_abs ?b_all ?b_any ?b_bool ?b_int ?b_isinstance ?b_len ?b_list ?b_max ?b_min ?b_range ?b_sorted ?b_str ?b_tuple ?x0a ?x0q ?x0k ?x0b ?x0t ?x0d ?x1a ?x1q ?x1k ?x1b ?x1t ?x1d ?x2a ?x2q ?x2k ?x2b ?x2t ?x2d ?s1_0 ?s1_1 ?s1_2 ?e1g ?e1k ?e1a ?e1m ?ehn ?eht
    (case a0 => k_is)
    (case l0 => k_is)
    (case c0 => k_is)
    (case k0 => k_is)
    (case a1 => k_is)
    (case l1 => k_is)
    (case c1 => k_is)
    (case k1 => k_is)
    (case a2 => k_is)
    (case l2 => k_is)
    (case c2 => k_is)
    (case k2 => k_is)
    (case a3 => k_is)
    (case l3 => k_is)
    (case c3 => k_is)
    (case k3 => k_is)
    (case a4 => k_is)
    (case l4 => k_is)
    (case c4 => k_is)
    (case k4 => k_is)
    (case a5 => k_is)
    (case l5 => k_is)
    (case c5 => k_is)
    (case k5 => k_is)
    (case a6 => k_is)
    (case l6 => k_is)
    (case c6 => k_is)
    (case k6 => k_is)
    (case a7 => k_is)
    (case l7 => k_is)
    (case c7 => k_is)
    (case k7 => k_is)
    (case a8 => k_is)
    (case l8 => k_is)
    (case c8 => k_is)
    (case k8 => k_is)
    (case a9 => k_is)
    (case l9 => k_is)
    (case c9 => k_is)
    (case k9 => k_is)
    (case a10 => k_is)
    (case l10 => k_is)
    (case c10 => k_is)
    (case k10 => k_is)
    (case a11 => k_is)
    (case l11 => k_is)
    (case c11 => k_is)
    (case k11 => k_is)
    (case a12 => k_is)
    (case l12 => k_is)
    (case c12 => k_is)
    (case k12 => k_is)
    (case a13 => k_is)
    (case l13 => k_is)
    (case c13 => k_is)
    (case k13 => k_is)
    (case y0 => k_is)
    (case y1 => k_is)
    (case y2 => k_is)
    (case y3 => k_is)
    (case y4 => k_is)
    (case z4 => k_is)
    (case y5 => k_is)
    (case z5 => k_is)
    (case y6 => k_is)
    (case z6 => k_is)
    (case b_abs => k_is)
    (case b_all => k_is)
    (case b_any => k_is)
    (case b_bool => k_is)
    (case b_int => k_is)
    (case b_isinstance => k_is)
    (case b_len => k_is)
    (case b_list => k_is)
    (case b_max => k_is)
    (case b_min => k_is)
    (case b_range => k_is)
    (case b_sorted => k_is)
    (case b_str => k_is)
    (case b_tuple => k_is)
    (case x0a => k_is)
    (case x0q => k_exc)
    (case x0k => k_is)
    (case x0b => k_is)
    (case x0t => k_is)
    (case x0d => k_is)
    (case x1a => k_is)
    (case x1q => k_exc)
    (case x1k => k_is)
    (case x1b => k_is)
    (case x1t => k_is)
    (case x1d => k_is)
    (case x2a => k_is)
    (case x2q => k_exc)
    (case x2k => k_is)
    (case x2b => k_is)
    (case x2t => k_is)
    (case x2d => k_is)
    (case s1_0 => k_is)
    (case s1_1 => k_is)
    (case s1_2 => k_is)
    (case e1g => k_is)
    (case e1k => k_is)
    (case e1a => k_is)
    (case e1m => k_is)
    (case ehn => k_is)
    (case eht => k_is)
