import PyProof.Rows.All
import Wide.All
import OpenK.AllK
import Wide.FinOn
import HandS.ForExc
import HandS.ForMost
import HandS.TupAny
import HandS.IsInst
import HandS.Wide
import HandS.Flow
import HandS.CallSlots
import HandS.TryMany
import HandS.Star
import HandS.ExcCtx
import HandS.Hot
import HandS.HotCalls
import HandS.ExcIs
import HandS.SuiteRaise
import HandS.SortKw
import HandS.Style
import KE.KDictKeyed
import KE.KDictWalk
import KE.KDictCopyH
import KE.DataEq
import KE.DataCmp
import KE.DataAny
import KE.SortData
import HandS.EndBits
import HandS.Iter
import HandS.WideBits
import HandS.NamedTupSort
import HandS.IterVal
import HandS.FStr
import HandS.ExcInit
import HandS.ExcField
import HandS.Replace
import HandS.ReplaceLit
import KE.KExcInit
import KE.KExcLine
import HandS.OwnIter
import HandS.ExcValue
import HandS.ExcInitHot
import PySem.Challenge.RW_tokenreads_k00_error_classes
set_option Elab.async false
set_option linter.all false
set_option maxRecDepth 100000
set_option maxHeartbeats 4000000
/-! DL0: values as data trees, a store of mutable objects, and how they stand in HandS's abstract heap. -/
namespace DL
open PySem L2

inductive D where
  | non
  | bl (b : Bool)
  | int (i : Int)
  | str (s : Str)
  | tup (xs : List D)
  | lst (xs : List D)
  /-- a list that nobody changes (the script, a list of the module) -/
  | fz (xs : List D)
  | dct (kvs : List (D × D))
  | obj (i : Nat)
  /-- a built-in type, a class of the text, a def of the text -/
  | ty (n : String)
  | cls (c : Nat)
  | fn (f : Nat)

/-- a mutable object of the store -/
inductive Ob where
  | lst (xs : List D)
  | ins (c : Nat) (fs : List (Str × D))
  /-- a dict whose keys are ints and texts; one whose keys are tuples (of ints, texts, None and such) -/
  | dK (kvs : List (Key × D))
  | dN (kvs : List (NestedKey × D × D))
  /-- such a dict that is walked or has been: looked at, never written -/
  | dF (kvs : List (NestedKey × D × D))
  /-- an own exception held as a value: its class's number, its fields -/
  | xc (c : Nat) (fs : List (Str × D))
abbrev Sto := List Ob
/-- an exception: its class's number, its fields -/
structure Ex where
  c : Nat
  fs : List (Str × D)
inductive Out (α : Type) where
  | ok (a : α) (S : Sto)
  | exc (e : Ex) (S : Sto)
  | stuck
def Out.bind {α β : Type} (o : Out α) (f : α → Sto → Out β) : Out β := match o with
  | .ok a S => f a S
  | .exc e S => .exc e S
  | .stuck => .stuck
abbrev Env := List (Option D)
abbrev ME := Env → Sto → Out D
abbrev MA := Env → Sto → Out (List D)
abbrev MT := Env → Sto → Out Bool

/-- where the store's objects stand -/
structure Mp where
  at_ : Nat → Addr
  n : Nat
  /-- tracked objects that no value leads to (a comprehension's list while it is made) -/
  pr : List Addr
def Mp.ob (M : Mp) (a : Addr) : Prop := ∃ i, i < M.n ∧ M.at_ i = a
def Mp.has (M : Mp) (a : Addr) : Prop := M.ob a ∨ a ∈ M.pr
/-- what the text gives: its written part, where its classes stand -/
structure Uv where
  K : PySem.W.Frag
  cl : Nat → Addr
  fn : Nat → Addr
  /-- slots that hold these objects (an except suite's error) -/
  f : List (Nat × Addr)
  wd : World

def KTup (K : PySem.W.Frag) (a : Addr) (xs : List V) : Prop :=
  ∃ (o : Obj) (its : Array Value) (n : Nat), K.lookup a = some o ∧ o.cls = .type "tuple" ∧ o.data = .seq its n ∧ its.size ≤ sizeLine ∧ Vals xs its.toList
def KLst (K : PySem.W.Frag) (a : Addr) (xs : List V) : Prop :=
  ∃ (o : Obj) (its : Array Value) (n : Nat), K.lookup a = some o ∧ o.cls = .type "list" ∧ o.dict = none ∧ o.data = .seq its n ∧ its.size ≤ sizeLine ∧ Vals xs its.toList
def TupAt (K : PySem.W.Frag) (M : Mp) (H : Hp) (a : Addr) (xs : List V) : Prop := (H a = some (.tup xs) ∧ ¬ M.has a) ∨ KTup K a xs
def LstAt (M : Mp) (H : Hp) (a : Addr) (xs : List V) : Prop := H a = some (.lst xs) ∧ ¬ M.has a
def FzAt (K : PySem.W.Frag) (M : Mp) (H : Hp) (a : Addr) (xs : List V) : Prop := (∃ u, H a = some u ∧ (u = .lst xs ∨ ∃ o, u = .frz o (.lst xs)) ∧ ¬ M.has a) ∨ KLst K a xs
theorem TupAt.sq {K : PySem.W.Frag} {M : Mp} {H : Hp} {a : Addr} {xs : List V} (h : TupAt K M H a xs) : SqT K H a xs := h.elim (fun z => .inl (.inl z.1)) .inr
theorem LstAt.sq {K : PySem.W.Frag} {M : Mp} {H : Hp} {a : Addr} {xs : List V} (h : LstAt M H a xs) : SqL K H a xs := .inl (.inl h.1)
theorem FzAt.sq {K : PySem.W.Frag} {M : Mp} {H : Hp} {a : Addr} {xs : List V} (h : FzAt K M H a xs) : SqL K H a xs := h.elim (fun ⟨u, z, q, _⟩ => .inl (q.elim (fun e => .inl (by rw [z, e])) fun ⟨o, e⟩ => .inr ⟨o, by rw [z, e]⟩)) .inr

mutual
inductive Rep (U : Uv) (M : Mp) (H : Hp) : V → D → Prop
  | non : Rep U M H .non .non
  | bl (b : Bool) : Rep U M H (.bl b) (.bl b)
  | int (i : Int) : Rep U M H (.int i) (.int i)
  | str (x : Str) : Rep U M H (.str x) (.str x)
  | tup {a : Addr} {xs : List V} {ds : List D} : TupAt U.K M H a xs → RepAll U M H xs ds → Rep U M H (.ref a) (.tup ds)
  | lst {a : Addr} {xs : List V} {ds : List D} : LstAt M H a xs → RepAll U M H xs ds → Rep U M H (.ref a) (.lst ds)
  | fz {a : Addr} {xs : List V} {ds : List D} : FzAt U.K M H a xs → RepAll U M H xs ds → Rep U M H (.ref a) (.fz ds)
  | dct0 {a : Addr} : H a = some (.dK []) → ¬ M.has a → Rep U M H (.ref a) (.dct [])
  | obj {i : Nat} : i < M.n → Rep U M H (.ref (M.at_ i)) (.obj i)
  | ty (n : String) : Rep U M H (.ty n) (.ty n)
  | cls (c : Nat) : Rep U M H (.ref (U.cl c)) (.cls c)
  | fn (f : Nat) : Rep U M H (.ref (U.fn f)) (.fn f)
inductive RepAll (U : Uv) (M : Mp) (H : Hp) : List V → List D → Prop
  | nil : RepAll U M H [] []
  | cons {v : V} {vs : List V} {d : D} {ds : List D} : Rep U M H v d → RepAll U M H vs ds → RepAll U M H (v :: vs) (d :: ds)
end
def FsRep (U : Uv) (M : Mp) (H : Hp) : List (Str × V) → List (Str × D) → Prop := Paired fun p q => p.1 = q.1 ∧ Rep U M H p.2 q.2

/-- the heap has grown, the store's objects may have changed -/
structure Ext (M : Mp) (H : Hp) (M' : Mp) (H' : Hp) : Prop where
  le : M.n ≤ M'.n
  same : ∀ i, i < M.n → M'.at_ i = M.at_ i
  fresh : ∀ i, M.n ≤ i → i < M'.n → H (M'.at_ i) = none
  keep : ∀ a o, H a = some o → ¬ M.ob a → H' a = some o
  live : ∀ i, i < M'.n → ∃ o, H' (M'.at_ i) = some o
  pr : M'.pr = M.pr
  frz : ∀ a o u, H a = some (.frz o u) → H' a = some (.frz o u)

section
variable {K : PySem.W.Frag} {U : Uv} {M M' M1 M2 : Mp} {H H' H1 H2 : Hp} {a : Addr} {xs : List V} {v : V} {d : D}
theorem Ext.ob (e : Ext M H M' H') (h : M.ob a) : M'.ob a := by
  obtain ⟨i, hi, rfl⟩ := h
  exact ⟨i, Nat.lt_of_lt_of_le hi e.le, e.same i hi⟩
theorem Ext.nob {o : HO} (e : Ext M H M' H') (h : H a = some o) (n : ¬ M.ob a) : ¬ M'.ob a := by
  rintro ⟨i, hi, rfl⟩
  by_cases hj : i < M.n
  · exact n ⟨i, hj, (e.same i hj).symm⟩
  · have := e.fresh i (Nat.le_of_not_lt hj) hi
    rw [this] at h; cases h
theorem Mp.nob (n : ¬ M.has a) : ¬ M.ob a := fun z => n (.inl z)
theorem Ext.nhas {o : HO} (e : Ext M H M' H') (h : H a = some o) (n : ¬ M.has a) : ¬ M'.has a := fun z => z.elim (e.nob h (Mp.nob n)) fun z => n (.inr (by rw [← e.pr]; exact z))
theorem Ext.refl (live : ∀ i, i < M.n → ∃ o, H (M.at_ i) = some o) : Ext M H M H :=
  ⟨Nat.le_refl _, fun _ _ => rfl, fun i h1 h2 => absurd h2 (Nat.not_lt.mpr h1), fun _ _ h _ => h, live, rfl, fun _ _ _ h => h⟩
theorem Ext.trans (e : Ext M H M1 H1) (f : Ext M1 H1 M2 H2) : Ext M H M2 H2 where
  le := Nat.le_trans e.le f.le
  same := fun i hi => (f.same i (Nat.lt_of_lt_of_le hi e.le)).trans (e.same i hi)
  fresh := fun i h1 h2 => by
    by_cases hi : i < M1.n
    · rw [f.same i hi]; exact e.fresh i h1 hi
    · have hn := f.fresh i (Nat.le_of_not_lt hi) h2
      cases q : H (M2.at_ i) with
      | none => rfl
      | some o =>
        by_cases hm : M.ob (M2.at_ i)
        · obtain ⟨j, hj, ej⟩ := hm
          have hj1 : j < M1.n := Nat.lt_of_lt_of_le hj e.le
          obtain ⟨o', ho'⟩ := e.live j hj1
          rw [e.same j hj, ej, hn] at ho'; cases ho'
        · have := e.keep _ _ q hm
          rw [hn] at this; cases this
  keep := fun a o h n => f.keep a o (e.keep a o h n) (e.nob h n)
  live := f.live
  pr := f.pr.trans e.pr
  frz := fun a o u h => f.frz a o u (e.frz a o u h)
/-- what a value's data lean on: the store's places, and the tracked objects that are none of them -/
structure Mv (M : Mp) (H : Hp) (M' : Mp) (H' : Hp) : Prop where
  le : M.n ≤ M'.n
  same : ∀ i, i < M.n → M'.at_ i = M.at_ i
  keep : ∀ a o, H a = some o → ¬ M.has a → H' a = some o ∧ ¬ M'.has a
  frz : ∀ a o u, H a = some (.frz o u) → H' a = some (.frz o u)
theorem Mv.refl : Mv M H M H := ⟨Nat.le_refl _, fun _ _ => rfl, fun _ _ h n => ⟨h, n⟩, fun _ _ _ h => h⟩
theorem Mv.trans (e : Mv M H M1 H1) (f : Mv M1 H1 M2 H2) : Mv M H M2 H2 := ⟨Nat.le_trans e.le f.le, fun i hi => (f.same i (Nat.lt_of_lt_of_le hi e.le)).trans (e.same i hi), fun a o h n => let z := e.keep a o h n; f.keep a o z.1 z.2, fun a o u h => f.frz a o u (e.frz a o u h)⟩
theorem Ext.mv (e : Ext M H M' H') : Mv M H M' H' := ⟨e.le, e.same, fun a o h n => ⟨e.keep a o h (Mp.nob n), e.nhas h n⟩, e.frz⟩
theorem TupAt.mv (e : Mv M H M' H') (h : TupAt K M H a xs) : TupAt K M' H' a xs := h.elim (fun z => .inl (e.keep _ _ z.1 z.2)) .inr
theorem LstAt.mv (e : Mv M H M' H') (h : LstAt M H a xs) : LstAt M' H' a xs := e.keep _ _ h.1 h.2
theorem FzAt.mv (e : Mv M H M' H') (h : FzAt K M H a xs) : FzAt K M' H' a xs := h.elim (fun ⟨u, z, q, n⟩ => .inl ⟨u, (e.keep _ _ z n).1, q, (e.keep _ _ z n).2⟩) .inr
mutual
theorem Rep.mv (e : Mv M H M' H') : ∀ {v : V} {d : D}, Rep U M H v d → Rep U M' H' v d
  | _, _, .non => .non
  | _, _, .bl b => .bl b
  | _, _, .int i => .int i
  | _, _, .str x => .str x
  | _, _, .tup h r => .tup (h.mv e) (RepAll.mv e r)
  | _, _, .lst h r => .lst (h.mv e) (RepAll.mv e r)
  | _, _, .fz h r => .fz (h.mv e) (RepAll.mv e r)
  | _, _, .dct0 h n => .dct0 (e.keep _ _ h n).1 (e.keep _ _ h n).2
  | _, _, .obj h => by
    rw [← e.same _ h]
    exact .obj (Nat.lt_of_lt_of_le h e.le)
  | _, _, .ty n => .ty n
  | _, _, .cls c => .cls c
  | _, _, .fn f => .fn f
theorem RepAll.mv (e : Mv M H M' H') : ∀ {vs : List V} {ds : List D}, RepAll U M H vs ds → RepAll U M' H' vs ds
  | _, _, .nil => .nil
  | _, _, .cons h r => .cons (Rep.mv e h) (RepAll.mv e r)
end
theorem Rep.ext (e : Ext M H M' H') {v : V} {d : D} (h : Rep U M H v d) : Rep U M' H' v d := h.mv e.mv
theorem RepAll.ext (e : Ext M H M' H') {vs : List V} {ds : List D} (h : RepAll U M H vs ds) : RepAll U M' H' vs ds := h.mv e.mv
theorem FsRep.mv (e : Mv M H M' H') : ∀ {fv : List (Str × V)} {fs : List (Str × D)}, FsRep U M H fv fs → FsRep U M' H' fv fs
  | _, _, .nil => .nil
  | _, _, .cons h r => .cons ⟨h.1, h.2.mv e⟩ (FsRep.mv e r)
theorem FsRep.ext (e : Ext M H M' H') {fv : List (Str × V)} {fs : List (Str × D)} (h : FsRep U M H fv fs) : FsRep U M' H' fv fs := h.mv e.mv
end

/-- a dict with these keys (tuples, at their places) and values -/
def NDct (w : World) (a : Addr) (xs : List (NestedKey × Addr × Value)) (h : Heap) : Prop := ∃ o es ep, h.get? a = some o ∧ o.ExactDict ∧ o.data = .dict es ep ∧ es.toList = xs.map (fun x => (⟨x.1.hash w, .ref x.2.1, x.2.2⟩ : DictEntry)) ∧ (xs.map (·.1)).Nodup
mutual
/-- data as a key -/
def keyN : D → Option NestedKey
  | .non => some .none
  | .bl b => some (.num (if b = true then 1 else 0))
  | .int i => some (.num i)
  | .str x => some (.text x)
  | .tup ds => (keyNs ds).map .tup
  | _ => none
def keyNs : List D → Option (List NestedKey)
  | [] => some []
  | d :: ds => match keyN d, keyNs ds with
    | some k, some ks => some (k :: ks)
    | _, _ => none
end
/-- a tuple as a key -/
def keyT (d : D) : Option NestedKey := match d with
  | .tup ds => match keyNs ds with
    | some ks => if (NestedKey.tup ks).depth ≤ 8 then some (.tup ks) else none
    | none => none
  | _ => none
def NEnt (U : Uv) (M : Mp) (H : Hp) (x : NestedKey × Addr × Value) (q : NestedKey × D × D) : Prop := x.1 = q.1 ∧ keyT q.2.1 = some q.1 ∧ Rep U M H (.ref x.2.1) q.2.1 ∧ ∃ v, RelV v x.2.2 ∧ Rep U M H v q.2.2
def KEnt (U : Uv) (M : Mp) (H : Hp) (p : Key × V) (q : Key × D) : Prop := p.1 = q.1 ∧ Rep U M H p.2 q.2
theorem NEnt.mv {U : Uv} {M M' : Mp} {H H' : Hp} (e : Mv M H M' H') {x : NestedKey × Addr × Value} {q : NestedKey × D × D} (h : NEnt U M H x q) : NEnt U M' H' x q := ⟨h.1, h.2.1, h.2.2.1.mv e, let ⟨v, a, b⟩ := h.2.2.2; ⟨v, a, b.mv e⟩⟩
theorem KEnt.mv {U : Uv} {M M' : Mp} {H H' : Hp} (e : Mv M H M' H') {p : Key × V} {q : Key × D} (h : KEnt U M H p q) : KEnt U M' H' p q := ⟨h.1, h.2.mv e⟩
/-- an exception object of the class cls with the dict d -/
def XoAt (cls : Value) (d a : Addr) (h : Heap) : Prop := ∃ (oe : Obj) (vs : Array Value), h.get? a = some oe ∧ Zc cls (some d) oe ∧ oe.data = .fields vs
def ObAt (U : Uv) (M : Mp) (H : Hp) (a : Addr) : Ob → Prop
  | .lst ds => ∃ vs, H a = some (.lst vs) ∧ RepAll U M H vs ds
  | .ins c fs => ∃ dx fv, H a = some (.ins (U.cl c) dx fv) ∧ FsRep U M H fv fs
  | .dK kvs => ∃ vs, H a = some (.dK vs) ∧ Paired (KEnt U M H) vs kvs
  | .dN kvs => ∃ xs, H a = some (.ext (NDct U.wd a xs)) ∧ ((a == sysModules) = false ∧ xs.length ≤ sizeLine) ∧ Paired (NEnt U M H) xs kvs
  | .dF kvs => ∃ o xs, H a = some (.frz o (.ext (NDct U.wd a xs))) ∧ ((a == sysModules) = false ∧ xs.length ≤ sizeLine) ∧ Paired (NEnt U M H) xs kvs
  | .xc c fs => ∃ d fv, H a = some (.ext (XoAt (.ref (U.cl c)) d a)) ∧ (H d = some (.xd fv) ∧ ¬ M.has d) ∧ FsRep U M H fv fs
theorem ObAt.there {U : Uv} {M : Mp} {H : Hp} {a : Addr} : ∀ {o : Ob}, ObAt U M H a o → ∃ u, H a = some u
  | .lst _, ⟨_, h, _⟩ => ⟨_, h⟩
  | .ins _ _, ⟨_, _, h, _⟩ => ⟨_, h⟩
  | .dK _, ⟨_, h, _⟩ => ⟨_, h⟩
  | .dN _, ⟨_, h, _⟩ => ⟨_, h⟩
  | .dF _, ⟨_, _, h, _⟩ => ⟨_, h⟩
  | .xc _ _, ⟨_, _, h, _⟩ => ⟨_, h⟩
structure R (U : Uv) (M : Mp) (S : Sto) (H : Hp) : Prop where
  n : M.n = S.length
  inj : ∀ i j, i < M.n → j < M.n → M.at_ i = M.at_ j → i = j
  at_ : ∀ i o, S[i]? = some o → ObAt U M H (M.at_ i) o
  prl : ∀ a ∈ M.pr, ∃ o, H a = some o
  prn : ∀ a ∈ M.pr, ¬ M.ob a
section
variable {U : Uv} {M M' M1 : Mp} {S S' S1 : Sto} {H H' H1 : Hp} {a p : Addr}
theorem R.live (r : R U M S H) : ∀ i, i < M.n → ∃ o, H (M.at_ i) = some o := fun i hi => by
  rw [r.n] at hi
  exact ObAt.there (r.at_ i _ (List.getElem?_eq_getElem hi))
theorem R.refl (r : R U M S H) : Ext M H M H := Ext.refl r.live
theorem R.nhas (r : R U M S H) (hp : H p = none) : ¬ M.has p := by
  rintro (⟨i, hi, rfl⟩ | hq)
  · obtain ⟨o, ho⟩ := r.live i hi
    rw [hp] at ho; cases ho
  · obtain ⟨o, ho⟩ := r.prl p hq
    rw [hp] at ho; cases ho
/-- a new object that the store does not hold -/
theorem R.extNew {o : HO} (r : R U M S H) (hp : H p = none) : Ext M H M (upd H p o) :=
  ⟨Nat.le_refl _, fun _ _ => rfl, fun i h1 h2 => absurd h2 (Nat.not_lt.mpr h1), fun a u h _ => by rw [upd_ne (ne_of_none h hp)]; exact h, fun i hi => by
    obtain ⟨o', ho'⟩ := r.live i hi
    exact ⟨o', by rw [upd_ne (ne_of_none ho' hp)]; exact ho'⟩, rfl, fun a o u h => by rw [upd_ne (ne_of_none h hp)]; exact h⟩
theorem ObAt.ext (e : Ext M H M' H') (k : ∀ u, H a = some u → H' a = some u) : ∀ {o : Ob}, ObAt U M H a o → ObAt U M' H' a o
  | .lst _, ⟨vs, h, r⟩ => ⟨vs, k _ h, r.ext e⟩
  | .ins _ _, ⟨dx, fv, h, r⟩ => ⟨dx, fv, k _ h, r.ext e⟩
  | .dK _, ⟨vs, h, r⟩ => ⟨vs, k _ h, Paired.mapP r fun _ _ z => z.mv e.mv⟩
  | .dN _, ⟨xs, h, z, r⟩ => ⟨xs, k _ h, z, Paired.mapP r fun _ _ z => z.mv e.mv⟩
  | .dF _, ⟨o, xs, h, z, r⟩ => ⟨o, xs, k _ h, z, Paired.mapP r fun _ _ z => z.mv e.mv⟩
  | .xc _ _, ⟨d, fv, h, z, r⟩ => ⟨d, fv, k _ h, e.mv.keep _ _ z.1 z.2, r.ext e⟩
theorem R.new {o : HO} (r : R U M S H) (hp : H p = none) : R U M S (upd H p o) :=
  ⟨r.n, r.inj, fun i ob h => ObAt.ext (r.extNew hp) (fun u hu => by rw [upd_ne (ne_of_none hu hp)]; exact hu) (r.at_ i ob h), fun a ha => by
    obtain ⟨u, hu⟩ := r.prl a ha
    exact ⟨u, by rw [upd_ne (ne_of_none hu hp)]; exact hu⟩, r.prn⟩
/-- a new object of the store -/
def Mp.push (M : Mp) (p : Addr) : Mp := ⟨fun i => if i = M.n then p else M.at_ i, M.n + 1, M.pr⟩
theorem R.extPush {H' : Hp} {u : HO} (r : R U M S H) (hp : H p = none) (hk : ∀ a o, H a = some o → H' a = some o) (h' : H' p = some u) : Ext M H (M.push p) H' where
  le := Nat.le_succ _
  same := fun i hi => if_neg (Nat.ne_of_lt hi)
  fresh := fun i h1 h2 => by
    have : i = M.n := Nat.le_antisymm (Nat.le_of_lt_succ h2) h1
    show H (if i = M.n then p else M.at_ i) = none
    rw [if_pos this]; exact hp
  keep := fun a o h _ => hk a o h
  live := fun i hi => by
    show ∃ o, H' (if i = M.n then p else M.at_ i) = some o
    by_cases e : i = M.n
    · rw [if_pos e]; exact ⟨_, h'⟩
    · rw [if_neg e]
      obtain ⟨o, ho⟩ := r.live i (Nat.lt_of_le_of_ne (Nat.le_of_lt_succ hi) e)
      exact ⟨o, hk _ _ ho⟩
  pr := rfl
  frz := fun a o u h => hk _ _ h
theorem R.push {H' : Hp} {ob : Ob} (r : R U M S H) (hp : H p = none) (hk : ∀ a o, H a = some o → H' a = some o) (h' : ObAt U (M.push p) H' p ob) : R U (M.push p) (S ++ [ob]) H' := by
  obtain ⟨u, hu⟩ := ObAt.there h'
  have e := r.extPush hp hk hu
  refine ⟨by show M.n + 1 = _; rw [List.length_append, r.n]; rfl, fun i j hi hj he => ?_, fun i o ho => ?_, fun a ha => let ⟨u, hu⟩ := r.prl a ha; ⟨u, hk _ _ hu⟩, fun a ha => ?_⟩
  rotate_left 2
  · rintro ⟨i, hi, ei⟩
    have ei' : (if i = M.n then p else M.at_ i) = a := ei
    by_cases e1 : i = M.n
    · rw [if_pos e1] at ei'
      obtain ⟨u, hu⟩ := r.prl a ha
      rw [← ei', hp] at hu; cases hu
    · rw [if_neg e1] at ei'
      exact r.prn a ha ⟨i, Nat.lt_of_le_of_ne (Nat.le_of_lt_succ hi) e1, ei'⟩
  · have old : ∀ k, k < M.n → M.at_ k ≠ p := fun k hk' z => by
      obtain ⟨o, ho⟩ := r.live k hk'
      rw [z, hp] at ho; cases ho
    have he' : (if i = M.n then p else M.at_ i) = (if j = M.n then p else M.at_ j) := he
    by_cases ei : i = M.n <;> by_cases ej : j = M.n
    · rw [ei, ej]
    · rw [if_pos ei, if_neg ej] at he'
      exact absurd he'.symm (old j (Nat.lt_of_le_of_ne (Nat.le_of_lt_succ hj) ej))
    · rw [if_neg ei, if_pos ej] at he'
      exact absurd he' (old i (Nat.lt_of_le_of_ne (Nat.le_of_lt_succ hi) ei))
    · rw [if_neg ei, if_neg ej] at he'
      exact r.inj i j (Nat.lt_of_le_of_ne (Nat.le_of_lt_succ hi) ei) (Nat.lt_of_le_of_ne (Nat.le_of_lt_succ hj) ej) he'
  · by_cases hi : i < S.length
    · rw [List.getElem?_append_left hi] at ho
      have : (M.push p).at_ i = M.at_ i := if_neg (Nat.ne_of_lt (by rw [r.n]; exact hi))
      rw [this]
      exact ObAt.ext e (fun u hu => hk _ _ hu) (r.at_ i o ho)
    · have hi' : S.length ≤ i := Nat.le_of_not_lt hi
      rw [List.getElem?_append_right hi'] at ho
      have e0 : i - S.length = 0 := by
        cases q : i - S.length with
        | zero => rfl
        | succ k => rw [q] at ho; simp at ho
      rw [e0] at ho
      have eo : ob = o := Option.some.inj ho
      subst eo
      have ei : i = M.n := by rw [r.n]; omega
      have : (M.push p).at_ i = p := if_pos ei
      rw [this]; exact h'
theorem nofrz {u : HO} (h : H a = some u) (n : ∀ o u', u ≠ .frz o u') : ∀ o u', H a ≠ some (.frz o u') := fun o u' z => by rw [h] at z; exact n o u' (Option.some.inj z)
/-- an object of the store is written -/
theorem R.extSet {i : Nat} {o : HO} (r : R U M S H) (hi : i < M.n) (nf : ∀ o u, H (M.at_ i) ≠ some (.frz o u)) : Ext M H M (upd H (M.at_ i) o) :=
  ⟨Nat.le_refl _, fun _ _ => rfl, fun i h1 h2 => absurd h2 (Nat.not_lt.mpr h1), fun a u h n => by rw [upd_ne fun z => n ⟨i, hi, z.symm⟩]; exact h, fun j hj => by
    by_cases e : M.at_ j = M.at_ i
    · exact ⟨o, by rw [e, upd_same]⟩
    · obtain ⟨o', ho'⟩ := r.live j hj
      exact ⟨o', by rw [upd_ne e]; exact ho'⟩, rfl, fun a o u h => by rw [upd_ne fun z => nf o u (by rw [← z]; exact h)]; exact h⟩
theorem R.set {i : Nat} {o : HO} {ob : Ob} (r : R U M S H) (hi : i < M.n) (nf : ∀ o u, H (M.at_ i) ≠ some (.frz o u)) (h' : ObAt U M (upd H (M.at_ i) o) (M.at_ i) ob) : R U M (S.set i ob) (upd H (M.at_ i) o) := by
  refine ⟨by rw [List.length_set]; exact r.n, r.inj, fun j oj hj => ?_, fun a ha => ?_, r.prn⟩
  rotate_left
  · obtain ⟨u, hu⟩ := r.prl a ha
    exact ⟨u, by rw [upd_ne fun z => r.prn a ha ⟨i, hi, z.symm⟩]; exact hu⟩
  by_cases e : i = j
  · subst e
    rw [List.getElem?_set_self (by rw [← r.n]; exact hi)] at hj
    cases hj; exact h'
  · rw [List.getElem?_set_ne e] at hj
    have hjl : j < M.n := by
      rw [r.n]; exact (List.getElem?_eq_some_iff.mp hj).1
    have ne : M.at_ j ≠ M.at_ i := fun z => e (r.inj _ _ hi hjl z.symm)
    exact ObAt.ext (r.extSet hi nf) (fun u hu => by rw [upd_ne ne]; exact hu) (r.at_ j oj hj)
end

section
variable {U : Uv} {M M' : Mp} {S : Sto} {H H' : Hp} {a p : Addr}
theorem ObAt.mv (e : Mv M H M' H') (k : ∀ u, H a = some u → H' a = some u) : ∀ {o : Ob}, ObAt U M H a o → ObAt U M' H' a o
  | .lst _, ⟨vs, h, r⟩ => ⟨vs, k _ h, r.mv e⟩
  | .ins _ _, ⟨dx, fv, h, r⟩ => ⟨dx, fv, k _ h, r.mv e⟩
  | .dK _, ⟨vs, h, r⟩ => ⟨vs, k _ h, Paired.mapP r fun _ _ z => z.mv e⟩
  | .dN _, ⟨xs, h, z, r⟩ => ⟨xs, k _ h, z, Paired.mapP r fun _ _ z => z.mv e⟩
  | .dF _, ⟨o, xs, h, z, r⟩ => ⟨o, xs, k _ h, z, Paired.mapP r fun _ _ z => z.mv e⟩
  | .xc _ _, ⟨d, fv, h, z, r⟩ => ⟨d, fv, k _ h, e.keep _ _ z.1 z.2, r.mv e⟩
/-- a private object: made, written, no longer private -/
def Mp.priv (M : Mp) (p : Addr) : Mp := ⟨M.at_, M.n, p :: M.pr⟩
theorem priv_ob : (M.priv p).ob a ↔ M.ob a := Iff.rfl
theorem priv_has : (M.priv p).has a ↔ M.ob a ∨ a = p ∨ a ∈ M.pr := by
  show M.ob a ∨ a ∈ p :: M.pr ↔ _
  rw [List.mem_cons]
theorem Mv.priv {o : HO} (hp : H p = none) : Mv M H (M.priv p) (upd H p o) := ⟨Nat.le_refl _, fun _ _ => rfl, fun a u h n => by
  have ne := ne_of_none h hp
  refine ⟨by rw [upd_ne ne]; exact h, fun z => ?_⟩
  rcases priv_has.mp z with z | z | z
  · exact n (.inl z)
  · exact ne z
  · exact n (.inr z), fun a o u h => by rw [upd_ne (ne_of_none h hp)]; exact h⟩
theorem R.priv {o : HO} (r : R U M S H) (hp : H p = none) : R U (M.priv p) S (upd H p o) :=
  ⟨r.n, r.inj, fun i ob h => ObAt.mv (Mv.priv hp) (fun u hu => by rw [upd_ne (ne_of_none hu hp)]; exact hu) (r.at_ i ob h), fun a ha => by
    rcases List.mem_cons.mp ha with rfl | ha
    · exact ⟨_, upd_same⟩
    · obtain ⟨u, hu⟩ := r.prl a ha
      exact ⟨u, by rw [upd_ne (ne_of_none hu hp)]; exact hu⟩, fun a ha z => by
    rcases List.mem_cons.mp ha with rfl | ha
    · exact r.nhas hp (.inl z)
    · exact r.prn a ha z⟩
theorem Mv.write {o : HO} {x0 : List V} (hp : p ∈ M.pr) (h0 : H p = some (.lst x0)) : Mv M H M (upd H p o) := ⟨Nat.le_refl _, fun _ _ => rfl, fun a u h n => by
  have ne : a ≠ p := fun z => n (.inr (by rw [z]; exact hp))
  exact ⟨by rw [upd_ne ne]; exact h, n⟩, fun a o u h => by rw [upd_ne fun z => by rw [z, h0] at h; cases h]; exact h⟩
theorem R.write {o : HO} {x0 : List V} (r : R U M S H) (hp : p ∈ M.pr) (h0 : H p = some (.lst x0)) : R U M S (upd H p o) :=
  ⟨r.n, r.inj, fun i ob h => by
    have hi : i < M.n := by rw [r.n]; exact (List.getElem?_eq_some_iff.mp h).1
    exact ObAt.mv (Mv.write hp h0) (fun u hu => by rw [upd_ne fun z => r.prn p hp ⟨i, hi, z⟩]; exact hu) (r.at_ i ob h), fun a ha => by
    by_cases e : a = p
    · exact ⟨o, by rw [e, upd_same]⟩
    · obtain ⟨u, hu⟩ := r.prl a ha
      exact ⟨u, by rw [upd_ne e]; exact hu⟩, r.prn⟩
theorem Mv.unpriv : Mv (M.priv p) H M H := ⟨Nat.le_refl _, fun _ _ => rfl, fun a u h n => ⟨h, fun z => n (priv_has.mpr (z.elim .inl fun z => .inr (.inr z)))⟩, fun _ _ _ h => h⟩
theorem R.unpriv (r : R U (M.priv p) S H) : R U M S H :=
  ⟨r.n, r.inj, fun i ob h => ObAt.mv Mv.unpriv (fun u hu => hu) (r.at_ i ob h), fun a ha => r.prl a (List.mem_cons_of_mem _ ha), fun a ha => r.prn a (List.mem_cons_of_mem _ ha)⟩
end

/-- an exception as it stands -/
def ExAt (U : Uv) (M : Mp) (H : Hp) (e : Ex) (cv : Value) (dd : Option Addr) : Prop :=
  cv = .ref (U.cl e.c) ∧ ((e.fs = [] ∧ dd = none) ∨ ∃ d fv, e.fs ≠ [] ∧ dd = some d ∧ H d = some (.xd fv) ∧ FsRep U M H fv e.fs)

def SlotRep (U : Uv) (M : Mp) (H : Hp) (σ : St) (ρ : Env) : Prop := ∀ (i : Nat) d, ρ[i]? = some (some d) → ∃ v, σ[i]? = some (some v) ∧ Rep U M H v d
structure At (U : Uv) (M : Mp) (S : Sto) (ρ : Env) (σ : St) (H : Hp) : Prop where
  r : R U M S H
  sl : SlotRep U M H σ ρ
  len : ρ.length = σ.length
  fx : ∀ p ∈ U.f, σ[p.1]? = some (some (.ref p.2))
abbrev Nf (U : Uv) (i : Nat) : Prop := ∀ p ∈ U.f, p.1 ≠ i
section
variable {U : Uv} {M M' M1 : Mp} {S S' S1 : Sto} {H H' H1 : Hp} {ρ : Env} {σ : St}
theorem SlotRep.ext (e : Ext M H M' H') (s : SlotRep U M H σ ρ) : SlotRep U M' H' σ ρ := fun i d h => let ⟨v, h1, h2⟩ := s i d h; ⟨v, h1, h2.ext e⟩
theorem At.ext (a : At U M S ρ σ H) (e : Ext M H M' H') (r : R U M' S' H') : At U M' S' ρ σ H' := ⟨r, a.sl.ext e, a.len, a.fx⟩
theorem At.refl (a : At U M S ρ σ H) : Ext M H M H := a.r.refl
theorem At.set {i : Nat} {v : V} {d : D} (a : At U M S ρ σ H) (h : Rep U M H v d) (hf : Nf U i) : At U M S (ρ.set i (some d)) (σ.set i (some v)) H := by
  refine ⟨a.r, fun j dj hj => ?_, by rw [List.length_set, List.length_set]; exact a.len, fun p hp => by rw [List.getElem?_set_ne (hf p hp).symm]; exact a.fx p hp⟩
  by_cases e : i = j
  · subst e
    have hi : i < ρ.length := by
      have := (List.getElem?_eq_some_iff.mp hj).1
      rwa [List.length_set] at this
    rw [List.getElem?_set_self hi] at hj
    cases hj
    exact ⟨v, List.getElem?_set_self (by rw [← a.len]; exact hi), h⟩
  · rw [List.getElem?_set_ne e] at hj
    obtain ⟨w, h1, h2⟩ := a.sl j dj hj
    exact ⟨w, by rw [List.getElem?_set_ne e]; exact h1, h2⟩
theorem SlotRep.unset {i : Nat} {o : Option V} (a : SlotRep U M H σ ρ) : SlotRep U M H (σ.set i o) (ρ.set i none) := by
  intro j dj hj
  by_cases e : i = j
  · subst e
    have hi : i < ρ.length := by
      have := (List.getElem?_eq_some_iff.mp hj).1
      rwa [List.length_set] at this
    rw [List.getElem?_set_self hi] at hj
    cases hj
  · rw [List.getElem?_set_ne e] at hj
    obtain ⟨w, h1, h2⟩ := a j dj hj
    exact ⟨w, by rw [List.getElem?_set_ne e]; exact h1, h2⟩
theorem At.unset {i : Nat} {o : Option V} (a : At U M S ρ σ H) (hf : Nf U i) : At U M S (ρ.set i none) (σ.set i o) H :=
  ⟨a.r, a.sl.unset, by rw [List.length_set, List.length_set]; exact a.len, fun p hp => by rw [List.getElem?_set_ne (hf p hp).symm]; exact a.fx p hp⟩
end
/-! ### the same with other slots fixed -/
abbrev Uv.fix (U : Uv) (l : List (Nat × Addr)) : Uv := { U with f := l }
section
variable {U : Uv} {l : List (Nat × Addr)} {M : Mp} {S : Sto} {H : Hp} {ρ : Env} {σ : St}
mutual
theorem Rep.fix : ∀ {v : V} {d : D}, Rep U M H v d → Rep (U.fix l) M H v d
  | _, _, .non => .non
  | _, _, .bl b => .bl b
  | _, _, .int i => .int i
  | _, _, .str x => .str x
  | _, _, .tup h r => .tup h (RepAll.fix r)
  | _, _, .lst h r => .lst h (RepAll.fix r)
  | _, _, .fz h r => .fz h (RepAll.fix r)
  | _, _, .dct0 h n => .dct0 h n
  | _, _, .obj h => .obj h
  | _, _, .ty n => .ty n
  | _, _, .cls c => .cls (U := U.fix l) c
  | _, _, .fn f => .fn (U := U.fix l) f
theorem RepAll.fix : ∀ {vs : List V} {ds : List D}, RepAll U M H vs ds → RepAll (U.fix l) M H vs ds
  | _, _, .nil => .nil
  | _, _, .cons h r => .cons (Rep.fix h) (RepAll.fix r)
end
theorem FsRep.fix : ∀ {fv : List (Str × V)} {fs : List (Str × D)}, FsRep U M H fv fs → FsRep (U.fix l) M H fv fs
  | _, _, .nil => .nil
  | _, _, .cons h r => .cons ⟨h.1, h.2.fix⟩ (FsRep.fix r)
theorem ObAt.fix {a : Addr} : ∀ {o : Ob}, ObAt U M H a o → ObAt (U.fix l) M H a o
  | .lst _, ⟨vs, h, r⟩ => ⟨vs, h, r.fix⟩
  | .ins _ _, ⟨dx, fv, h, r⟩ => ⟨dx, fv, h, r.fix⟩
  | .dK _, ⟨vs, h, r⟩ => ⟨vs, h, Paired.mapP r fun _ _ z => ⟨z.1, z.2.fix⟩⟩
  | .dN _, ⟨xs, h, z, r⟩ => ⟨xs, h, z, Paired.mapP r fun _ _ z => ⟨z.1, z.2.1, z.2.2.1.fix, let ⟨v, a, b⟩ := z.2.2.2; ⟨v, a, b.fix⟩⟩⟩
  | .dF _, ⟨o, xs, h, z, r⟩ => ⟨o, xs, h, z, Paired.mapP r fun _ _ z => ⟨z.1, z.2.1, z.2.2.1.fix, let ⟨v, a, b⟩ := z.2.2.2; ⟨v, a, b.fix⟩⟩⟩
  | .xc _ _, ⟨d, fv, h, z, r⟩ => ⟨d, fv, h, z, r.fix⟩
theorem R.fix (r : R U M S H) : R (U.fix l) M S H := ⟨r.n, r.inj, fun i o h => ObAt.fix (r.at_ i o h), r.prl, r.prn⟩
theorem SlotRep.fix (s : SlotRep U M H σ ρ) : SlotRep (U.fix l) M H σ ρ := fun i d h => let ⟨v, h1, h2⟩ := s i d h; ⟨v, h1, h2.fix⟩
theorem ExAt.fix {e : Ex} {cv : Value} {dd : Option Addr} (x : ExAt U M H e cv dd) : ExAt (U.fix l) M H e cv dd := ⟨x.1, x.2.elim .inl fun ⟨d, fv, h0, h1, h2, h3⟩ => .inr ⟨d, fv, h0, h1, h2, h3.fix⟩⟩
end

/-! ### what is wanted behind a mirror's outcome -/
def PostX {α β : Type} (U : Uv) (rel : Mp → Hp → β → α → Prop) (M : Mp) (H : Hp) (σ : St) (W : WX) (o : Out α) (Q : β → Hp → Prop) : Prop := match o with
  | .ok a S => ∀ M' H' b, Ext M H M' H' → R U M' S H' → rel M' H' b a → Q b H'
  | .exc e S => ∀ M' H' cv dd, Ext M H M' H' → R U M' S H' → ExAt U M' H' e cv dd → W cv dd σ H'
  | .stuck => False
def tX {α β : Type} (U : Uv) (rel : Mp → Hp → β → α → Prop) (W : WX) (m : Env → Sto → Out α) : St → Hp → (β → Hp → Prop) → Prop := fun σ H Q => ∃ M S ρ, At U M S ρ σ H ∧ PostX U rel M H σ W (m ρ S) Q
abbrev relB : Mp → Hp → Bool → Bool → Prop := fun _ _ b a => b = a
abbrev tE (U : Uv) (W : WX) (m : ME) : TE := tX U (Rep U) W m
abbrev tA (U : Uv) (W : WX) (m : MA) : TA := tX U (RepAll U) W m
abbrev tT (U : Uv) (W : WX) (m : MT) : TT := tX U relB W m
section
variable {α β α' β' : Type} {U : Uv} {rel : Mp → Hp → β → α → Prop} {rel' : Mp → Hp → β' → α' → Prop} {M M1 : Mp} {S S1 : Sto} {H H1 : Hp} {σ : St} {W : WX} {ρ : Env}
theorem PostX.ext {o : Out α} {Q : β → Hp → Prop} (e : Ext M H M1 H1) (p : PostX U rel M H σ W o Q) : PostX U rel M1 H1 σ W o Q := by
  cases o with
  | ok a S => exact fun M' H' b f r q => p M' H' b (e.trans f) r q
  | exc x S => exact fun M' H' cv dd f r q => p M' H' cv dd (e.trans f) r q
  | stuck => exact p
theorem PostX.bind {o : Out α} {f : α → Sto → Out α'} {Q : β' → Hp → Prop} {Q1 : β → Hp → Prop} (p : PostX U rel' M H σ W (o.bind f) Q)
    (h : ∀ a S1 M1 H1 b, Ext M H M1 H1 → R U M1 S1 H1 → rel M1 H1 b a → PostX U rel' M1 H1 σ W (f a S1) Q → Q1 b H1) : PostX U rel M H σ W o Q1 := by
  cases o with
  | ok a S => exact fun M' H' b e r q => h a S M' H' b e r q (PostX.ext e p)
  | exc x S => exact p
  | stuck => exact p
theorem PostX.ok {a : α} {b : β} {Q : β → Hp → Prop} (p : PostX U rel M H σ W (.ok a S) Q) (M' : Mp) (H' : Hp) (e : Ext M H M' H') (r : R U M' S H') (q : rel M' H' b a) : Q b H' := p M' H' b e r q
/-- the one rule: a part's reading, then the rest -/
theorem tX.bind {m : Env → Sto → Out α} {f : α → Sto → Out α'} {Q : β' → Hp → Prop} {Q1 : β → Hp → Prop} (a : At U M S ρ σ H) (p : PostX U rel' M H σ W ((m ρ S).bind f) Q)
    (h : ∀ x S1 M1 H1 b, Ext M H M1 H1 → At U M1 S1 ρ σ H1 → rel M1 H1 b x → PostX U rel' M1 H1 σ W (f x S1) Q → Q1 b H1) : tX U rel W m σ H Q1 :=
  ⟨M, S, ρ, a, p.bind fun x S1 M1 H1 b e r q p1 => h x S1 M1 H1 b e (a.ext e r) q p1⟩
end
section
variable {X : Cx} {e : Expr} {t t' : TE}
theorem pe_imp (h : PE X e t) (hi : ∀ σ H Q, t' σ H Q → t σ H Q) : PE X e t' := ⟨fun pins s σ H Q I q => h.run pins s σ H Q I (hi _ _ _ q)⟩
theorem pt_imp {t t' : TT} (h : PT X e t) (hi : ∀ σ H Q, t' σ H Q → t σ H Q) : PT X e t' := ⟨fun pins s σ H Q I q => h.run pins s σ H Q I (hi _ _ _ q)⟩
theorem pw_imp {t t' : TT} (h : PW X e t) (hi : ∀ σ H Q, t' σ H Q → t σ H Q) : PW X e t' := ⟨fun wh pins s σ H Q I q => h.run wh pins s σ H Q I (hi _ _ _ q)⟩
theorem pa_imp {es : List Expr} {t t' : TA} (h : PA X es t) (hi : ∀ σ H Q, t' σ H Q → t σ H Q) : PA X es t' := ⟨fun p pins s σ H Q I q => h.run p pins s σ H Q I (hi _ _ _ q)⟩
theorem ps_imp {st : Stmt} {t t' : TS} (h : PS X st t) (hi : ∀ D σ H, t' D σ H → t D σ H) : PS X st t' := ⟨fun pins s σ H D I q => h.run pins s σ H D I (hi _ _ _ q)⟩
theorem pss_imp {st : List Stmt} {t t' : TS} (h : PSs X st t) (hi : ∀ D σ H, t' D σ H → t D σ H) : PSs X st t' := ⟨fun pins s σ H D I q => h.run pins s σ H D I (hi _ _ _ q)⟩
end
end DL
/-! DL1: expressions. -/
namespace DL
open PySem L2

def lim : Nat := 1000000
theorem lim_line {n : Nat} (h : n ≤ lim) : n ≤ sizeLine := Nat.le_trans h (by rw [sizeLine_eq]; exact (by decide : lim ≤ 16777216))
def ofO {α : Type} (o : Option α) (S : Sto) : Out α := match o with
  | some d => .ok d S
  | none => .stuck
def mVar (i : Nat) : ME := fun ρ S => match ρ[i]? with
  | some (some d) => .ok d S
  | _ => .stuck
def mC (d : D) : ME := fun _ S => .ok d S
def m1 (g : Sto → D → Option D) (ma : ME) : ME := fun ρ S => (ma ρ S).bind fun x S1 => ofO (g S1 x) S1
def m2 (g : Sto → D → D → Option D) (ma mb : ME) : ME := fun ρ S => (ma ρ S).bind fun x S1 => (mb ρ S1).bind fun y S2 => ofO (g S2 x y) S2
def mN (g : Sto → List D → Option D) (ma : MA) : ME := fun ρ S => (ma ρ S).bind fun xs S1 => ofO (g S1 xs) S1
def mTst (m : ME) : MT := fun ρ S => (m ρ S).bind fun x S1 => match x with
  | .bl b => .ok b S1
  | _ => .stuck
def aNil : MA := fun _ S => .ok [] S
def aCons (m : ME) (ms : MA) : MA := fun ρ S => (m ρ S).bind fun x S1 => (ms ρ S1).bind fun xs S2 => .ok (x :: xs) S2
/-- the items of a list or a tuple -/
def seqD (S : Sto) : D → Option (List D)
  | .tup xs => some xs
  | .lst xs => some xs
  | .fz xs => some xs
  | .obj i => match S[i]? with
    | some (.lst xs) => some xs
    | _ => none
  | _ => none
def aStar (m : ME) (ms : MA) : MA := fun ρ S => (m ρ S).bind fun x S1 => match seqD S1 x with
  | some ys => (ms ρ S1).bind fun xs S2 => .ok (ys ++ xs) S2
  | none => .stuck
def mTup (ms : MA) : ME := fun ρ S => (ms ρ S).bind fun xs S1 => if xs.length ≤ lim then .ok (.tup xs) S1 else .stuck
def mLst (ms : MA) : ME := fun ρ S => (ms ρ S).bind fun xs S1 => if xs.length ≤ lim then .ok (.lst xs) S1 else .stuck

section
variable {U : Uv} {M M1 : Mp} {S : Sto} {H H1 : Hp} {σ : St} {W : WX}
theorem Rep.seq {S : Sto} {v : V} {d : D} {ds : List D} (r : R U M S H) (h : Rep U M H v d) (e : seqD S d = some ds) : ∃ a xs, v = .ref a ∧ (SqT U.K H a xs ∨ SqL U.K H a xs) ∧ RepAll U M H xs ds := by
  cases h with
  | tup h q => cases e; exact ⟨_, _, rfl, .inl h.sq, q⟩
  | lst h q => cases e; exact ⟨_, _, rfl, .inr h.sq, q⟩
  | fz h q => cases e; exact ⟨_, _, rfl, .inr h.sq, q⟩
  | obj hi =>
    rename_i i
    cases q : S[i]? with
    | none => simp only [seqD, q] at e; cases e
    | some o =>
      simp only [seqD, q] at e
      cases o with
      | lst xs =>
        cases e
        obtain ⟨vs, h1, h2⟩ := r.at_ _ _ q
        exact ⟨_, vs, rfl, .inr (.inl (.inl h1)), h2⟩
      | ins c fs => cases e
      | dK _ => cases e
      | dN _ => cases e
      | dF _ => cases e
      | xc _ _ => cases e
  | _ => cases e
theorem RepAll.length : ∀ {xs : List V} {ds : List D}, RepAll U M H xs ds → xs.length = ds.length
  | _, _, .nil => rfl
  | _, _, .cons _ r => by rw [List.length_cons, List.length_cons, r.length]
theorem RepAll.append : ∀ {xs ys : List V} {ds es : List D}, RepAll U M H xs ds → RepAll U M H ys es → RepAll U M H (xs ++ ys) (ds ++ es)
  | _, _, _, _, .nil, s => s
  | _, _, _, _, .cons h r, s => .cons h (r.append s)
theorem RepAll.get : ∀ {xs : List V} {ds : List D} {i : Nat} {d : D}, RepAll U M H xs ds → ds[i]? = some d → ∃ v, xs[i]? = some v ∧ Rep U M H v d
  | _, _, _, _, .nil, e => by simp at e
  | _, _, 0, _, .cons h _, e => by simp at e; subst e; exact ⟨_, rfl, h⟩
  | _, _, i + 1, _, .cons _ r, e => by
    obtain ⟨v, h1, h2⟩ := r.get (i := i) (by simpa using e)
    exact ⟨v, by simpa using h1, h2⟩
theorem RepAll.getV : ∀ {xs : List V} {ds : List D} {i : Nat} {v : V}, RepAll U M H xs ds → xs[i]? = some v → ∃ d, ds[i]? = some d ∧ Rep U M H v d
  | _, _, _, _, .nil, e => by simp at e
  | _, _, 0, _, .cons h _, e => by simp at e; subst e; exact ⟨_, rfl, h⟩
  | _, _, i + 1, _, .cons _ r, e => by
    obtain ⟨v, h1, h2⟩ := r.getV (i := i) (by simpa using e)
    exact ⟨v, by simpa using h1, h2⟩
theorem RepAll.set {v : V} {d : D} (h : Rep U M H v d) : ∀ {xs : List V} {ds : List D} (i : Nat), RepAll U M H xs ds → RepAll U M H (xs.set i v) (ds.set i d)
  | _, _, _, .nil => .nil
  | _, _, 0, .cons _ r => .cons h r
  | _, _, i + 1, .cons q r => .cons q (RepAll.set h i r)
theorem RepAll.drop : ∀ {xs : List V} {ds : List D} (n : Nat), RepAll U M H xs ds → RepAll U M H (xs.drop n) (ds.drop n)
  | _, _, 0, r => r
  | _, _, _ + 1, .nil => .nil
  | _, _, n + 1, .cons _ r => RepAll.drop n r
theorem RepAll.take : ∀ {xs : List V} {ds : List D} (n : Nat), RepAll U M H xs ds → RepAll U M H (xs.take n) (ds.take n)
  | _, _, 0, _ => .nil
  | _, _, _ + 1, .nil => .nil
  | _, _, n + 1, .cons h r => .cons h (RepAll.take n r)
theorem cut_len (xs : List V) (ds : List D) (h : xs.length = ds.length) (lo hi : Option Int) : ∃ i j, cutV xs lo hi = (xs.drop i).take j ∧ (ds.drop (HT.sIx ds.length 0 lo)).take (HT.sIx ds.length ds.length hi - HT.sIx ds.length 0 lo) = (ds.drop i).take j := ⟨_, _, rfl, by rw [h]⟩
/-- a new tuple, a new list that the store does not hold -/
theorem Rep.newTup {xs : List V} {ds : List D} {p : Addr} (r : R U M S H) (hp : H p = none) (h : RepAll U M H xs ds) : Rep U M (upd H p (.tup xs)) (.ref p) (.tup ds) :=
  .tup (.inl ⟨upd_same, r.nhas hp⟩) (h.ext (r.extNew hp))
theorem Rep.newLst {xs : List V} {ds : List D} {p : Addr} (r : R U M S H) (hp : H p = none) (h : RepAll U M H xs ds) : Rep U M (upd H p (.lst xs)) (.ref p) (.lst ds) :=
  .lst ⟨upd_same, r.nhas hp⟩ (h.ext (r.extNew hp))
end

/-! ### two-place operations, one-place ones, calls of built-ins, by data -/
/-- what comes is data d -/
abbrev Gives (U : Uv) (M : Mp) (S : Sto) (H : Hp) (d : D) (Q : VK) : Prop := ∀ M' H' v, Ext M H M' H' → R U M' S H' → Rep U M' H' v d → Q v H'
theorem Gives.here {U : Uv} {M : Mp} {S : Sto} {H : Hp} {d : D} {Q : VK} {v : V} (g : Gives U M S H d Q) (r : R U M S H) (h : Rep U M H v d) : Q v H := g M H v r.refl r h
theorem Gives.tup {U : Uv} {M : Mp} {S : Sto} {H : Hp} {ds : List D} {Q : VK} {vs : List V} {p : Addr} (g : Gives U M S H (.tup ds) Q) (r : R U M S H) (h : RepAll U M H vs ds) (hp : H p = none) : Q (.ref p) (upd H p (.tup vs)) :=
  g M _ _ (r.extNew hp) (r.new hp) (Rep.newTup r hp h)
theorem Gives.lst {U : Uv} {M : Mp} {S : Sto} {H : Hp} {ds : List D} {Q : VK} {vs : List V} {p : Addr} (g : Gives U M S H (.lst ds) Q) (r : R U M S H) (h : RepAll U M H vs ds) (hp : H p = none) : Q (.ref p) (upd H p (.lst vs)) :=
  g M _ _ (r.extNew hp) (r.new hp) (Rep.newLst r hp h)
structure OpD (U : Uv) (X : Cx) (f : Value → Value → Sem Value) (g : Sto → D → D → Option D) : Prop where
  ex : ∃ r, OpR X f r ∧ ∀ M S H x y dx dy d Q, R U M S H → Rep U M H x dx → Rep U M H y dy → g S dx dy = some d → Gives U M S H d Q → r x y H Q
structure UnD (U : Uv) (X : Cx) (f : Value → Sem Value) (g : Sto → D → Option D) : Prop where
  ex : ∃ r, UnR X f r ∧ ∀ M S H x dx d Q, R U M S H → Rep U M H x dx → g S dx = some d → Gives U M S H d Q → r x H Q
structure CallD (U : Uv) (X : Cx) (f : Value) (g : Sto → List D → Option D) : Prop where
  ex : ∃ r, CallR X f r ∧ ∀ M S H xs ds d Q, R U M S H → RepAll U M H xs ds → g S ds = some d → Gives U M S H d Q → r xs H Q
structure IxD (U : Uv) (X : Cx) (g : Sto → D → D → Option D) : Prop where
  ex : ∃ r, IxR X r ∧ ∀ M S H x y dx dy d Q, R U M S H → Rep U M H x dx → Rep U M H y dy → g S dx dy = some d → Gives U M S H d Q → r x y H Q

section
variable {X : Cx} {U : Uv} {W : WX}
theorem ofO_post {α β : Type} {rel : Mp → Hp → β → α → Prop} {M : Mp} {H : Hp} {σ : St} {o : Option α} {S : Sto} {Q : β → Hp → Prop} (p : PostX U rel M H σ W (ofO o S) Q) : ∃ d, o = some d ∧ ∀ M' H' b, Ext M H M' H' → R U M' S H' → rel M' H' b d → Q b H' := by
  cases o with
  | none => exact p.elim
  | some d => exact ⟨d, rfl, p⟩
theorem e_var (i : Nat) {x : Str} {pos : Pos} (hN : X.N[i]? = some x := by rfl) (hv : Vis X.env.scope x := by first | exact Or.inl rfl | exact Or.inr (Or.inl rfl) | exact Or.inr (Or.inr rfl)) (hd : (x == ("__debug__" : Str)) = false := by decide)
    (hcd : (x == ("__classdict__" : Str)) = false := by decide) : PE X (.Name x pos) (tE U W (mVar i)) := pe_imp (pv i hN hv hd hcd) fun σ H Q ⟨M, S, ρ, a, p⟩ => by
  unfold mVar at p
  cases e : ρ[i]? with
  | none => rw [e] at p; exact p.elim
  | some o =>
    cases o with
    | none => rw [e] at p; exact p.elim
    | some d =>
      rw [e] at p
      obtain ⟨v, h1, h2⟩ := a.sl i d e
      exact ⟨v, h1, p M H v a.refl a.r h2⟩
theorem e_c {e : Expr} {v : V} {d : D} (h : PE X e (tC v)) (hr : ∀ M H, Rep U M H v d) : PE X e (tE U W (mC d)) := pe_imp h fun σ H Q ⟨M, S, ρ, a, p⟩ => p M H v a.refl a.r (hr M H)
theorem e_int {i : Int} {j : Nat} {pos : Pos} : PE X (.Constant (.int i) j pos) (tE U W (mC (.int i))) := e_c pe_int fun _ _ => .int i
theorem e_bl {b : Bool} {j : Nat} {pos : Pos} : PE X (.Constant (.bool b) j pos) (tE U W (mC (.bl b))) := e_c pe_bl fun _ _ => .bl b
theorem e_non {j : Nat} {pos : Pos} : PE X (.Constant .none j pos) (tE U W (mC .non)) := e_c pe_non fun _ _ => .non
theorem e_str {x : Str} {j : Nat} {pos : Pos} : PE X (.Constant (.str x) j pos) (tE U W (mC (.str x))) := e_c pe_str fun _ _ => .str x
/-- a module's constant -/
theorem e_glob {x : Str} {v : V} {u : Value} {d : D} {pos : Pos} (hm : X.mg x = some u) (r : RelV v u) (hr : ∀ M H, Rep U M H v d) (hg : Gl X x := by rfl) (hd : (x == ("__debug__" : Str)) = false := by decide) : PE X (.Name x pos) (tE U W (mC d)) := e_c (pe_glob hg hm r hd) hr
/-- a built-in's name as a value -/
theorem e_bltn {x : Str} {n : String} {pos : Pos} (hm : X.mg x = none) (hv : bootBuiltins x = some (.type n)) (hg : Gl X x := by rfl) (hn : x ≠ "__name__" := by decide) (hd : (x == ("__debug__" : Str)) = false := by decide) : PE X (.Name x pos) (tE U W (mC (.ty n))) :=
  e_c (pe_bltn hg hm hv (v := .ty n) rfl hn hd) fun _ _ => .ty n

variable {a b c : Expr} {ma mb mc : ME} {ta tb tc : MT} {pos : Pos}
theorem op_post {f : Value → Value → Sem Value} {g : Sto → D → D → Option D} {r : R2} (hr : ∀ M S H x y dx dy d Q, R U M S H → Rep U M H x dx → Rep U M H y dy → g S dx dy = some d → Gives U M S H d Q → r x y H Q)
    {σ : St} {H : Hp} {Q : VK} (h : tE U W (m2 g ma mb) σ H Q) : tOp r (tE U W ma) (tE U W mb) σ H Q := by
  obtain ⟨M, S, ρ, A, p⟩ := h
  refine tX.bind A p fun x S1 M1 H1 v e1 A1 r1 p1 => tX.bind A1 p1 fun y S2 M2 H2 w e2 A2 r2 p2 => ?_
  obtain ⟨d, ed, q⟩ := ofO_post p2
  exact hr M2 S2 H2 v w x y d Q A2.r (r1.ext e2) r2 ed q
theorem e_op {op : Operator} {g : Sto → D → D → Option D} (ho : OpD U X (binaryOp op) g) (ha : PE X a (tE U W ma)) (hb : PE X b (tE U W mb)) : PE X (.BinOp a op b pos) (tE U W (m2 g ma mb)) := by
  obtain ⟨r, h1, h2⟩ := ho.ex
  exact pe_imp (pe_op h1 ha hb) fun σ H Q h => op_post (f := binaryOp op) h2 h
theorem e_cmp {op : CmpOp} {g : Sto → D → D → Option D} (ho : OpD U X (compareOp op) g) (ha : PE X a (tE U W ma)) (hb : PE X b (tE U W mb)) (hm : behindInMarks op b = false := by first | exact nomark _ | rfl | with_unfolding_all rfl) : PE X (.Compare a [op] [b] pos) (tE U W (m2 g ma mb)) := by
  obtain ⟨r, h1, h2⟩ := ho.ex
  exact pe_imp (pe_cmpR h1 ha hb hm) fun σ H Q h => op_post (f := compareOp op) h2 h
theorem tst_post {m : ME} {t : TE} (ht : ∀ σ H Q, tE U W m σ H Q → t σ H Q) {σ : St} {H : Hp} {Q : Bool → Hp → Prop} (h : tT U W (mTst m) σ H Q) : tTest t σ H Q := by
  obtain ⟨M, S, ρ, A, p⟩ := h
  refine ht σ H _ (tX.bind A p fun x S1 M1 H1 v e1 A1 r1 p1 => ?_)
  cases r1 with
  | bl k => exact ⟨k, rfl, p1 M1 H1 k A1.refl A1.r rfl⟩
  | _ => exact p1.elim
theorem t_cmp {op : CmpOp} {g : Sto → D → D → Option D} (ho : OpD U X (compareOp op) g) (ha : PE X a (tE U W ma)) (hb : PE X b (tE U W mb)) (hm : behindInMarks op b = false := by first | exact nomark _ | rfl | with_unfolding_all rfl) : PT X (.Compare a [op] [b] pos) (tT U W (mTst (m2 g ma mb))) := by
  obtain ⟨r, h1, h2⟩ := ho.ex
  exact pt_imp (pt_cmpR h1 ha hb hm) fun σ H Q h => tst_post (fun σ H Q h => op_post (f := compareOp op) h2 h) h
/-- a op b op' c -/
def mChain (g g' : Sto → D → D → Option D) (ma mb mc : ME) : ME := fun ρ S => (ma ρ S).bind fun x S1 => (mb ρ S1).bind fun y S2 => match g S2 x y with
  | some (.bl true) => (mc ρ S2).bind fun z S3 => ofO (g' S3 y z) S3
  | some (.bl false) => .ok (.bl false) S2
  | _ => .stuck
theorem chain_post {g g' : Sto → D → D → Option D} {r r' : R2} (hr : ∀ M S H x y dx dy d Q, R U M S H → Rep U M H x dx → Rep U M H y dy → g S dx dy = some d → Gives U M S H d Q → r x y H Q)
    (hr' : ∀ M S H x y dx dy d Q, R U M S H → Rep U M H x dx → Rep U M H y dy → g' S dx dy = some d → Gives U M S H d Q → r' x y H Q)
    {σ : St} {H : Hp} {Q : VK} (h : tE U W (mChain g g' ma mb mc) σ H Q) : tChain r r' (tE U W ma) (tE U W mb) (tE U W mc) σ H Q := by
  obtain ⟨M, S, ρ, A, p⟩ := h
  refine tX.bind A p fun x S1 M1 H1 v e1 A1 r1 p1 => tX.bind A1 p1 fun y S2 M2 H2 w e2 A2 r2 p2 => ?_
  cases q : g S2 x y with
  | none => rw [q] at p2; exact p2.elim
  | some d =>
    rw [q] at p2
    refine hr M2 S2 H2 v w x y d _ A2.r (r1.ext e2) r2 q fun M3 H3 z e3 R3 r3 => ?_
    cases r3 with
    | bl k =>
      refine ⟨k, rfl, ?_⟩
      cases k with
      | false => rw [if_neg (by decide)]; exact p2 M3 H3 _ e3 R3 (.bl false)
      | true =>
        rw [if_pos rfl]
        refine tX.bind (A2.ext e3 R3) (PostX.ext e3 p2) fun z S4 M4 H4 w4 e4 A4 r4 p4 => ?_
        obtain ⟨d, ed, q⟩ := ofO_post p4
        exact hr' M4 S4 H4 w w4 y z d Q A4.r ((r2.ext e3).ext e4) r4 ed q
    | _ => exact p2.elim
theorem e_chain {op op' : CmpOp} {g g' : Sto → D → D → Option D} (ho : OpD U X (compareOp op) g) (ho' : OpD U X (compareOp op') g') (ha : PE X a (tE U W ma)) (hb : PE X b (tE U W mb)) (hc : PE X c (tE U W mc))
    (hm : lastMarks [op, op'] [b, c] = false := by with_unfolding_all rfl) : PE X (.Compare a [op, op'] [b, c] pos) (tE U W (mChain g g' ma mb mc)) := by
  obtain ⟨r, h1, h2⟩ := ho.ex
  obtain ⟨r', h1', h2'⟩ := ho'.ex
  exact pe_imp (pe_chain h1 h1' ha hb hc hm) fun σ H Q h => chain_post h2 h2' h
theorem t_chain {op op' : CmpOp} {g g' : Sto → D → D → Option D} (ho : OpD U X (compareOp op) g) (ho' : OpD U X (compareOp op') g') (ha : PE X a (tE U W ma)) (hb : PE X b (tE U W mb)) (hc : PE X c (tE U W mc))
    (hm : lastMarks [op, op'] [b, c] = false := by with_unfolding_all rfl) : PT X (.Compare a [op, op'] [b, c] pos) (tT U W (mTst (mChain g g' ma mb mc))) := by
  obtain ⟨r, h1, h2⟩ := ho.ex
  obtain ⟨r', h1', h2'⟩ := ho'.ex
  exact pt_imp (pt_chain h1 h1' ha hb hc hm) fun σ H Q h => tst_post (fun σ H Q h => chain_post h2 h2' h) h

/-! ### truth -/
def truD (S : Sto) : D → Option Bool
  | .non => some false
  | .bl b => some b
  | .int i => some (i != 0)
  | .str s => if s.length ≤ lim then some ((s.length : Int) != 0) else none
  | .dct [] => some false
  | d => (seqD S d).map fun xs => !xs.isEmpty
theorem isE_of {U : Uv} {M : Mp} {H : Hp} {xs : List V} {ds : List D} (r : RepAll U M H xs ds) : (!xs.isEmpty) = !ds.isEmpty := by
  cases r <;> rfl
theorem Rep.tru {M : Mp} {S : Sto} {H : Hp} {v : V} {d : D} {k : Bool} (r : R U M S H) (h : Rep U M H v d) (e : truD S d = some k) : TruV U.K v H k := by
  have sq : ∀ ds, seqD S d = some ds → (!ds.isEmpty) = k → TruV U.K v H k := fun ds e1 e2 => by
    obtain ⟨a, xs, rfl, q, ra⟩ := h.seq r e1
    rw [← e2, ← isE_of ra]
    rcases q with q | q
    · exact .inr (.inl ⟨xs, q, rfl⟩)
    · exact .inl ⟨xs, q, rfl⟩
  cases h with
  | non => cases e; rfl
  | bl b => cases e; rfl
  | int i => cases e; rfl
  | str x =>
    simp only [truD] at e
    by_cases hl : x.length ≤ lim
    · rw [if_pos hl] at e
      cases e
      exact ⟨lim_line hl, rfl⟩
    · rw [if_neg hl] at e; cases e
  | tup h q => cases e; exact sq _ rfl rfl
  | lst h q => cases e; exact sq _ rfl rfl
  | fz h q => cases e; exact sq _ rfl rfl
  | dct0 h n => cases e; exact .inr (.inr ⟨[], h, rfl⟩)
  | obj hi =>
    rename_i i
    change (seqD S (.obj i)).map _ = _ at e
    cases q : seqD S (.obj i) with
    | none => rw [q] at e; cases e
    | some xs => rw [q] at e; exact sq xs q (Option.some.inj e)
  | _ => cases e
def mTru (m : ME) : MT := fun ρ S => (m ρ S).bind fun x S1 => ofO (truD S1 x) S1
theorem t_tru (ha : PE X a (tE U W ma)) (hK : X.K = U.K := by rfl) (he : ∀ whole, isTrue a X.env whole = (do let v ← whole; standAt a.pos; holding [v] (truthy v)) := by intro _; rfl) : PT X a (tT U W (mTru ma)) :=
  pt_imp (pt_truth ha he) fun σ H Q ⟨M, S, ρ, A, p⟩ => tX.bind A p fun x S1 M1 H1 v e1 A1 r1 p1 => by
    obtain ⟨k, ek, q⟩ := ofO_post p1
    rw [hK]
    exact ⟨k, r1.tru A1.r ek, q M1 H1 k A1.refl A1.r rfl⟩
/-! ### and, or, not -/
def tAnd' (t u : MT) : MT := fun ρ S => (t ρ S).bind fun b S1 => if b = true then u ρ S1 else .ok false S1
def tOr' (t u : MT) : MT := fun ρ S => (t ρ S).bind fun b S1 => if b = true then .ok true S1 else u ρ S1
def tNot' (t : MT) : MT := fun ρ S => (t ρ S).bind fun b S1 => .ok (!b) S1
theorem and_post {σ : St} {H : Hp} {Q : Bool → Hp → Prop} (h : tT U W (tAnd' ta tb) σ H Q) : tAnd (tT U W ta) (tT U W tb) σ H Q := by
  obtain ⟨M, S, ρ, A, p⟩ := h
  refine tX.bind A p fun x S1 M1 H1 k e1 A1 r1 p1 => ?_
  subst r1
  cases k with
  | true => exact ⟨M1, S1, ρ, A1, p1⟩
  | false => exact p1 M1 H1 _ A1.refl A1.r rfl
theorem or_post {σ : St} {H : Hp} {Q : Bool → Hp → Prop} (h : tT U W (tOr' ta tb) σ H Q) : tOr (tT U W ta) (tT U W tb) σ H Q := by
  obtain ⟨M, S, ρ, A, p⟩ := h
  refine tX.bind A p fun x S1 M1 H1 k e1 A1 r1 p1 => ?_
  subst r1
  cases k with
  | false => exact ⟨M1, S1, ρ, A1, p1⟩
  | true => exact p1 M1 H1 _ A1.refl A1.r rfl
theorem w_and1 (h : PT X a (tT U W ta)) : PW X (.BoolOp .And [a] pos) (tT U W ta) := pw_and1 h
theorem w_or1 (h : PT X a (tT U W ta)) : PW X (.BoolOp .Or [a] pos) (tT U W ta) := pw_or1 h
theorem w_and {rest : List Expr} (ha : PT X a (tT U W ta)) (hb : PW X (.BoolOp .And (b :: rest) pos) (tT U W tb)) : PW X (.BoolOp .And (a :: b :: rest) pos) (tT U W (tAnd' ta tb)) := pw_imp (pw_and ha hb) fun _ _ _ => and_post
theorem w_or {rest : List Expr} (ha : PT X a (tT U W ta)) (hb : PW X (.BoolOp .Or (b :: rest) pos) (tT U W tb)) : PW X (.BoolOp .Or (a :: b :: rest) pos) (tT U W (tOr' ta tb)) := pw_imp (pw_or ha hb) fun _ _ _ => or_post
theorem t_not (ha : PT X a (tT U W ta)) : PT X (.UnaryOp .Not a pos) (tT U W (tNot' ta)) := pt_imp (pt_not ha) fun σ H Q ⟨M, S, ρ, A, p⟩ => tX.bind A p fun x S1 M1 H1 k e1 A1 r1 p1 => by
  subst r1
  exact p1 M1 H1 _ A1.refl A1.r rfl
/-- .. as values -/
def mAnd (ma mb : ME) : ME := fun ρ S => (ma ρ S).bind fun x S1 => match truD S1 x with
  | some true => mb ρ S1
  | some false => .ok x S1
  | none => .stuck
def mOr (ma mb : ME) : ME := fun ρ S => (ma ρ S).bind fun x S1 => match truD S1 x with
  | some true => .ok x S1
  | some false => mb ρ S1
  | none => .stuck
def mNot (ma : ME) : ME := fun ρ S => (ma ρ S).bind fun x S1 => match truD S1 x with
  | some b => .ok (.bl (!b)) S1
  | none => .stuck
theorem e_one {op : BoolOp} (h : PE X a (tE U W ma)) : PE X (.BoolOp op [a] pos) (tE U W ma) := pe_one h
theorem e_and {rest : List Expr} (ha : PE X a (tE U W ma)) (hb : PE X (.BoolOp .And (b :: rest) pos) (tE U W mb)) (hK : X.K = U.K := by rfl) : PE X (.BoolOp .And (a :: b :: rest) pos) (tE U W (mAnd ma mb)) :=
  pe_imp (pe_andT ha hb) fun σ H Q ⟨M, S, ρ, A, p⟩ => tX.bind A p fun x S1 M1 H1 v e1 A1 r1 p1 => by
    rw [hK]
    cases q : truD S1 x with
    | none => rw [q] at p1; exact p1.elim
    | some k =>
      rw [q] at p1
      refine ⟨k, r1.tru A1.r q, ?_⟩
      cases k with
      | true => exact ⟨M1, S1, ρ, A1, p1⟩
      | false => exact p1 M1 H1 _ A1.refl A1.r r1
theorem e_or {rest : List Expr} (ha : PE X a (tE U W ma)) (hb : PE X (.BoolOp .Or (b :: rest) pos) (tE U W mb)) (hK : X.K = U.K := by rfl) : PE X (.BoolOp .Or (a :: b :: rest) pos) (tE U W (mOr ma mb)) :=
  pe_imp (pe_orT ha hb) fun σ H Q ⟨M, S, ρ, A, p⟩ => tX.bind A p fun x S1 M1 H1 v e1 A1 r1 p1 => by
    rw [hK]
    cases q : truD S1 x with
    | none => rw [q] at p1; exact p1.elim
    | some k =>
      rw [q] at p1
      refine ⟨k, r1.tru A1.r q, ?_⟩
      cases k with
      | false => exact ⟨M1, S1, ρ, A1, p1⟩
      | true => exact p1 M1 H1 _ A1.refl A1.r r1
theorem e_not (ha : PE X a (tE U W ma)) (hK : X.K = U.K := by rfl) : PE X (.UnaryOp .Not a pos) (tE U W (mNot ma)) :=
  pe_imp (pe_notT ha) fun σ H Q ⟨M, S, ρ, A, p⟩ => tX.bind A p fun x S1 M1 H1 v e1 A1 r1 p1 => by
    rw [hK]
    cases q : truD S1 x with
    | none => rw [q] at p1; exact p1.elim
    | some k =>
      rw [q] at p1
      exact ⟨k, r1.tru A1.r q, p1 M1 H1 _ A1.refl A1.r (.bl _)⟩
def mIf (t : MT) (ma mb : ME) : ME := fun ρ S => (t ρ S).bind fun k S1 => if k = true then ma ρ S1 else mb ρ S1
theorem e_if (hc : PT X c (tT U W tc)) (ha : PE X a (tE U W ma)) (hb : PE X b (tE U W mb)) : PE X (.IfExp c a b pos) (tE U W (mIf tc ma mb)) :=
  pe_imp (pe_ifExp hc ha hb) fun σ H Q ⟨M, S, ρ, A, p⟩ => tX.bind A p fun x S1 M1 H1 k e1 A1 r1 p1 => by
    subst r1
    cases k with
    | true => exact ⟨M1, S1, ρ, A1, p1⟩
    | false => exact ⟨M1, S1, ρ, A1, p1⟩
theorem e_un {op : UnaryOp} {g : Sto → D → Option D} (ho : UnD U X (unaryOp op) g) (ha : PE X a (tE U W ma)) : PE X (.UnaryOp op a pos) (tE U W (m1 g ma)) := by
  obtain ⟨r, h1, h2⟩ := ho.ex
  exact pe_imp (pe_un h1 ha) fun σ H Q ⟨M, S, ρ, A, p⟩ => tX.bind A p fun x S1 M1 H1 v e1 A1 r1 p1 => by
    obtain ⟨d, ed, q⟩ := ofO_post p1
    exact h2 M1 S1 H1 v x d Q A1.r r1 ed q
/-! ### argument lists, displays -/
variable {e : Expr} {es : List Expr} {m : ME} {ms : MA}
theorem a_nil : PA X [] (tA U W aNil) := pa_imp pa_nil fun σ H Q ⟨M, S, ρ, A, p⟩ => p M H [] A.refl A.r .nil
theorem a_cons (h : PE X e (tE U W m)) (hr : PA X es (tA U W ms)) (hs : starEach (e :: es) X.env = (false, eval e X.env) :: starEach es X.env := by rfl) : PA X (e :: es) (tA U W (aCons m ms)) :=
  pa_imp (pa_cons h hr hs) fun σ H Q ⟨M, S, ρ, A, p⟩ => tX.bind A p fun x S1 M1 H1 v e1 A1 r1 p1 => tX.bind A1 p1 fun xs S2 M2 H2 vs e2 A2 r2 p2 => p2 M2 H2 _ A2.refl A2.r (.cons (r1.ext e2) r2)
theorem a_star {q : Pos} (h : PE X e (tE U W m)) (hr : PA X es (tA U W ms)) (hK : X.K = U.K := by rfl) (hs : starEach (.Starred e q :: es) X.env = (true, eval e X.env) :: starEach es X.env := by rfl) : PA X (.Starred e q :: es) (tA U W (aStar m ms)) :=
  pa_imp (StX.pa_star h hr hs) fun σ H Q ⟨M, S, ρ, A, p⟩ => tX.bind A p fun x S1 M1 H1 v e1 A1 r1 p1 => by
    cases q : seqD S1 x with
    | none => rw [q] at p1; exact p1.elim
    | some ys =>
      rw [q] at p1
      obtain ⟨a, xs, rfl, hq, ra⟩ := r1.seq A1.r q
      rw [hK]
      exact ⟨a, xs, rfl, hq, tX.bind A1 p1 fun zs S2 M2 H2 vs e2 A2 r2 p2 => p2 M2 H2 _ A2.refl A2.r ((ra.ext e2).append r2)⟩
theorem e_tup {k : Nat} (h : PA X es (tA U W ms)) : PE X (.Tuple es k pos) (tE U W (mTup ms)) :=
  pe_imp (pe_tup h) fun σ H Q ⟨M, S, ρ, A, p⟩ => tX.bind A p fun xs S1 M1 H1 vs e1 A1 r1 p1 => by
    by_cases hl : xs.length ≤ lim
    · rw [if_pos hl] at p1
      exact ⟨lim_line (by rw [r1.length]; exact hl), fun q hq => Gives.tup p1 A1.r r1 hq⟩
    · rw [if_neg hl] at p1; exact p1.elim
theorem e_lst (h : PA X es (tA U W ms)) : PE X (.List es pos) (tE U W (mLst ms)) :=
  pe_imp (pe_lst h) fun σ H Q ⟨M, S, ρ, A, p⟩ => tX.bind A p fun xs S1 M1 H1 vs e1 A1 r1 p1 => by
    by_cases hl : xs.length ≤ lim
    · rw [if_pos hl] at p1
      exact ⟨lim_line (by rw [r1.length]; exact hl), fun q hq => Gives.lst p1 A1.r r1 hq⟩
    · rw [if_neg hl] at p1; exact p1.elim
/-- .. a new list of the store -/
def mLstO (ms : MA) : ME := fun ρ S => (ms ρ S).bind fun xs S1 => if xs.length ≤ lim then .ok (.obj S1.length) (S1 ++ [.lst xs]) else .stuck
theorem Gives.pushL {M : Mp} {S : Sto} {H : Hp} {σ : St} {ds : List D} {Q : VK} {vs : List V} {p : Addr} (g : PostX U (Rep U) M H σ W (.ok (.obj S.length) (S ++ [.lst ds])) Q) (r : R U M S H) (h : RepAll U M H vs ds) (hp : H p = none) : Q (.ref p) (upd H p (.lst vs)) := by
  have hk : ∀ a o, H a = some o → upd H p (.lst vs) a = some o := fun a o z => by rw [upd_ne (ne_of_none z hp)]; exact z
  have e := r.extPush (u := .lst vs) hp hk upd_same
  have e1 : (M.push p).at_ S.length = p := by show (if _ then _ else _) = _; rw [if_pos r.n.symm]
  refine g (M.push p) _ _ e (r.push hp hk ⟨vs, upd_same, h.ext e⟩) ?_
  have z : Rep U (M.push p) (upd H p (.lst vs)) (.ref ((M.push p).at_ S.length)) (.obj S.length) := .obj (by show _ < M.n + 1; rw [r.n]; exact Nat.lt_succ_self _)
  rw [e1] at z; exact z
theorem e_lstO (h : PA X es (tA U W ms)) : PE X (.List es pos) (tE U W (mLstO ms)) :=
  pe_imp (pe_lst h) fun σ H Q ⟨M, S, ρ, A, p⟩ => tX.bind A p fun xs S1 M1 H1 vs e1 A1 r1 p1 => by
    by_cases hl : xs.length ≤ lim
    · rw [if_pos hl] at p1
      exact ⟨lim_line (by rw [r1.length]; exact hl), fun q hq => Gives.pushL p1 A1.r r1 hq⟩
    · rw [if_neg hl] at p1; exact p1.elim
/-! ### calls of built-ins -/
variable {x : Str} {q pos' : Pos} {id T : String} {g : Sto → List D → Option D}
theorem call_post {r : List V → Hp → VK → Prop} (hr : ∀ M S H xs ds d Q, R U M S H → RepAll U M H xs ds → g S ds = some d → Gives U M S H d Q → r xs H Q) {σ : St} {H : Hp} {Q : VK} (h : tE U W (mN g ms) σ H Q) : tCB r (tA U W ms) σ H Q := by
  obtain ⟨M, S, ρ, A, p⟩ := h
  refine tX.bind A p fun xs S1 M1 H1 vs e1 A1 r1 p1 => ?_
  obtain ⟨d, ed, q⟩ := ofO_post p1
  exact hr M1 S1 H1 vs xs d Q A1.r r1 ed q
theorem e_callB (hc : CallD U X (.builtin id) g) (hm : X.mg x = none) (hv : bootBuiltins x = some (.builtin id)) (ha : PA X (e :: es) (tA U W ms)) (hg : Gl X x := by rfl) (hn : x ≠ "__name__" := by decide) (hdb : (x == ("__debug__" : Str)) = false := by decide)
    (he : starEach (e :: es) X.env = (false, eval e X.env) :: starEach es X.env := by rfl) (hpl : (backTo pos (starEach es X.env)).any (·.1) = false := by rfl) : PE X (.Call (.Name x q) (e :: es) [] pos) (tE U W (mN g ms)) := by
  obtain ⟨r, h1, h2⟩ := hc.ex
  exact pe_imp (pe_callB h1 hg hm hv ha hn hdb he hpl) fun σ H Q h => call_post h2 h
theorem e_callT (hc : CallD U X (.type T) g) (hm : X.mg x = none) (hv : bootBuiltins x = some (.type T)) (ha : PA X (e :: es) (tA U W ms)) (hg : Gl X x := by rfl) (hn : x ≠ "__name__" := by decide) (hdb : (x == ("__debug__" : Str)) = false := by decide)
    (he : starEach (e :: es) X.env = (false, eval e X.env) :: starEach es X.env := by rfl) (hpl : (backTo pos (starEach es X.env)).any (·.1) = false := by rfl) : PE X (.Call (.Name x q) (e :: es) [] pos) (tE U W (mN g ms)) := by
  obtain ⟨r, h1, h2⟩ := hc.ex
  exact pe_imp (pe_callTy h1 hg hm hv ha hn hdb he hpl) fun σ H Q h => call_post h2 h
/-! ### subscripts, slices -/
theorem e_ix {g : Sto → D → D → Option D} (ho : IxD U X g) (ha : PE X a (tE U W ma)) (hb : PE X b (tE U W mb)) (hs : PlainIx b := by exact fun _ _ => rfl) : PE X (.Subscript a b pos) (tE U W (m2 g ma mb)) := by
  obtain ⟨r, h1, h2⟩ := ho.ex
  exact pe_imp (pe_ix h1 ha hb hs) fun σ H Q h => op_post (f := fun v u => getItem v u) h2 h
abbrev MO := Env → Sto → Out (Option Int)
abbrev relO : Mp → Hp → Option Int → Option Int → Prop := fun _ _ b a => b = a
abbrev tO (U : Uv) (W : WX) (m : MO) : TO := tX U relO W m
def oNone : MO := fun _ S => .ok none S
def oSome (m : ME) : MO := fun ρ S => (m ρ S).bind fun x S1 => match x with
  | .int i => .ok (some i) S1
  | _ => .stuck
theorem po_imp {o : Option Expr} {t t' : TO} (h : PO X o t) (hi : ∀ σ H Q, t' σ H Q → t σ H Q) : PO X o t' := ⟨fun pins s σ H Q I q => h.run pins s σ H Q I (hi _ _ _ q)⟩
theorem o_none : PO X none (tO U W oNone) := po_imp po_none fun σ H Q ⟨M, S, ρ, A, p⟩ => p M H none A.refl A.r rfl
theorem o_some (h : PE X e (tE U W m)) : PO X (some e) (tO U W (oSome m)) := po_imp (po_some h) fun σ H Q ⟨M, S, ρ, A, p⟩ => tX.bind A p fun x S1 M1 H1 v e1 A1 r1 p1 => by
  cases r1 with
  | int i => exact ⟨i, rfl, p1 M1 H1 _ A1.refl A1.r rfl⟩
  | _ => exact p1.elim
def cutD (ds : List D) (lo hi : Option Int) : List D := (ds.drop (HT.sIx ds.length 0 lo)).take (HT.sIx ds.length ds.length hi - HT.sIx ds.length 0 lo)
theorem RepAll.cut {M : Mp} {H : Hp} {xs : List V} {ds : List D} (r : RepAll U M H xs ds) (lo hi : Option Int) : RepAll U M H (cutV xs lo hi) (cutD ds lo hi) := by
  unfold cutV cutD
  rw [r.length]
  exact (r.drop _).take _
def slD (S : Sto) (d : D) (lo hi : Option Int) : Option D := match d with
  | .tup xs => some (.tup (cutD xs lo hi))
  | .str z => if z.length ≤ lim then some (.str (cutS z lo hi)) else none
  | d => (seqD S d).map fun xs => .lst (cutD xs lo hi)
def mSl (m : ME) (lo hi : MO) : ME := fun ρ S => (m ρ S).bind fun x S1 => (lo ρ S1).bind fun l S2 => (hi ρ S2).bind fun u S3 => ofO (slD S3 x l u) S3
end
end DL
/-! DL2: operators and built-ins by data. -/
namespace DL
open PySem L2

/-! ### data as the library's data -/
mutual
def toPy : D → PyData
  | .non => .none
  | .bl b => .bool b
  | .int i => .int i
  | .str s => .str s
  | .tup xs => .tuple (toPyAll xs)
  | .lst xs => .list (toPyAll xs)
  | .fz xs => .list (toPyAll xs)
  | .dct _ => .dict []
  | .obj _ => .dict []
  | .ty _ => .dict []
  | .cls _ => .dict []
  | .fn _ => .dict []
def toPyAll : List D → List PyData
  | [] => []
  | x :: xs => toPy x :: toPyAll xs
end
/-- an object of the store that is a list: as one -/
def resD (S : Sto) : D → D
  | .obj i => match S[i]? with
    | some (.lst xs) => .lst xs
    | _ => .obj i
  | d => d
def pl (d : D) : Bool := (toPy d).plain
def deq (a b : D) : Bool := PyData.eqv (toPy a) (toPy b)
def dep (d : D) : Nat := (toPy d).depth
def okEq (a b : D) : Bool := pl a && pl b && decide (min (dep a) (dep b) ≤ 60)
def eqO (S : Sto) (x y : D) : Option D := if okEq (resD S x) (resD S y) then some (.bl (deq (resD S x) (resD S y))) else none
def neO (S : Sto) (x y : D) : Option D := if okEq (resD S x) (resD S y) then some (.bl (!deq (resD S x) (resD S y))) else none

section
variable {U : Uv} {M : Mp} {H : Hp} {S : Sto}
mutual
theorem Rep.dp : ∀ {d : D} {v : V}, Rep U M H v d → pl d = true → Dp U.K H v (toPy d)
  | _, _, .non, _ => .non
  | _, _, .bl b, _ => .bl b
  | _, _, .int i, _ => .int i
  | _, _, .str x, _ => .str x
  | _, _, .tup h r, p => .tup h.sq (RepAll.dp r p)
  | _, _, .lst h r, p => .lst h.sq (RepAll.dp r p)
  | _, _, .fz h r, p => .lst h.sq (RepAll.dp r p)
  | _, _, .dct0 _ _, p => nomatch p
  | _, _, .obj _, p => nomatch p
  | _, _, .ty _, p => nomatch p
  | _, _, .cls _, p => nomatch p
  | _, _, .fn _, p => nomatch p
theorem RepAll.dp : ∀ {ds : List D} {vs : List V}, RepAll U M H vs ds → PyData.plainAll (toPyAll ds) = true → DpAll U.K H vs (toPyAll ds)
  | _, _, .nil, _ => .nil
  | d :: ds, _, .cons h r, p => by
    have p' : (toPy d).plain = true ∧ PyData.plainAll (toPyAll ds) = true := by simpa [toPyAll, PyData.plainAll] using p
    exact .cons (Rep.dp h p'.1) (RepAll.dp r p'.2)
end
theorem Rep.res {v : V} {d : D} (r : R U M S H) (h : Rep U M H v d) (p : pl (resD S d) = true) : Dp U.K H v (toPy (resD S d)) := by
  cases h with
  | obj hi =>
    rename_i i
    cases q : S[i]? with
    | none => simp only [resD, q] at p; cases p
    | some o =>
      cases o with
      | lst xs =>
        simp only [resD, q] at p ⊢
        obtain ⟨vs, h1, h2⟩ := r.at_ _ _ q
        exact .lst (.inl (.inl h1)) (RepAll.dp h2 p)
      | ins c fs => simp only [resD, q] at p; cases p
      | dK _ => simp only [resD, q] at p; cases p
      | dN _ => simp only [resD, q] at p; cases p
      | dF _ => simp only [resD, q] at p; cases p
      | xc _ _ => simp only [resD, q] at p; cases p
  | non => exact Rep.dp (M := M) .non p
  | bl b => exact Rep.dp (M := M) (.bl b) p
  | int i => exact Rep.dp (M := M) (.int i) p
  | str x => exact Rep.dp (M := M) (.str x) p
  | tup h q => exact Rep.dp (.tup h q) p
  | lst h q => exact Rep.dp (.lst h q) p
  | fz h q => exact Rep.dp (.fz h q) p
  | dct0 h q => exact Rep.dp (.dct0 h q) p
  | ty n => exact Rep.dp (M := M) (.ty n) p
  | cls n => exact Rep.dp (M := M) (.cls n) p
  | fn n => exact Rep.dp (M := M) (.fn n) p
end
section
variable {X : Cx} {U : Uv} {k : Nat}
theorem okEq_room {A : Around} {a b : D} (hr : Room k A) (h : okEq a b = true) : (toPy a).plain = true ∧ (toPy b).plain = true ∧ A.units + min (toPy a).depth (toPy b).depth < cLine := by
  unfold okEq pl at h
  simp only [Bool.and_eq_true, decide_eq_true_eq] at h
  refine ⟨h.1.1, h.1.2, ?_⟩
  have := hr.un
  have h2 : min (toPy a).depth (toPy b).depth ≤ 60 := h.2
  omega
theorem o_eq (hr : Room k X.A) (hK : X.K = U.K := by rfl) : OpD U X (compareOp .Eq) eqO := ⟨fun x y H Q => ∃ d e, Dp X.K H x d ∧ Dp X.K H y e ∧ d.plain = true ∧ e.plain = true ∧ X.A.units + min d.depth e.depth < cLine ∧ Q (.bl (PyData.eqv d e)) H,
  fun pins s σ H x y v u Q I rx ry ⟨d, e, hd, he, pd, pe, hu, q⟩ => by
    obtain ⟨as, r1⟩ := Dp.reads I d x v hd rx
    obtain ⟨bs, r2⟩ := Dp.reads I e y u he ry
    exact PySem.SeqAt.eq_plain r1 r2 pd pe hu ⟨.bl _, H, I, rfl, q⟩,
  fun M S H x y dx dy d Q r hx hy e g => by
    unfold eqO at e
    by_cases hk : okEq (resD S dx) (resD S dy) = true
    · rw [if_pos hk] at e
      cases e
      obtain ⟨p1, p2, hu⟩ := okEq_room hr hk
      rw [hK]
      exact ⟨_, _, hx.res r p1, hy.res r p2, p1, p2, hu, g.here r (.bl _)⟩
    · rw [if_neg hk] at e; cases e⟩
theorem o_ne (hr : Room k X.A) (hK : X.K = U.K := by rfl) : OpD U X (compareOp .NotEq) neO := ⟨fun x y H Q => ∃ d e, Dp X.K H x d ∧ Dp X.K H y e ∧ d.plain = true ∧ e.plain = true ∧ X.A.units + min d.depth e.depth < cLine ∧ Q (.bl (!PyData.eqv d e)) H,
  fun pins s σ H x y v u Q I rx ry ⟨d, e, hd, he, pd, pe, hu, q⟩ => by
    obtain ⟨as, r1⟩ := Dp.reads I d x v hd rx
    obtain ⟨bs, r2⟩ := Dp.reads I e y u he ry
    exact PySem.SeqAt.ne_plain r1 r2 pd pe hu ⟨.bl _, H, I, rfl, q⟩,
  fun M S H x y dx dy d Q r hx hy e g => by
    unfold neO at e
    by_cases hk : okEq (resD S dx) (resD S dy) = true
    · rw [if_pos hk] at e
      cases e
      obtain ⟨p1, p2, hu⟩ := okEq_room hr hk
      rw [hK]
      exact ⟨_, _, hx.res r p1, hy.res r p2, p1, p2, hu, g.here r (.bl _)⟩
    · rw [if_neg hk] at e; cases e⟩
end
end DL
/-! DL2b: operators and built-ins by data, further. -/
namespace DL
open PySem L2

/-! ### ints, texts, lists, tuples: + - * // % ** -/
def catS (x y : Str) : Option D := if x.length + y.length ≤ lim then some (.str (x ++ y)) else none
def addO (S : Sto) (x y : D) : Option D := match x, y with
  | .int i, .int j => some (.int (i + j))
  | .str a, .str b => catS a b
  | .tup xs, .tup ys => if xs.length + ys.length ≤ lim then some (.tup (xs ++ ys)) else none
  | .lst xs, .lst ys => if xs.length + ys.length ≤ lim then some (.lst (xs ++ ys)) else none
  | .obj i, .lst ys => match S[i]? with
    | some (.lst xs) => if xs.length + ys.length ≤ lim then some (.lst (xs ++ ys)) else none
    | _ => none
  | .lst xs, .obj j => match S[j]? with
    | some (.lst ys) => if xs.length + ys.length ≤ lim then some (.lst (xs ++ ys)) else none
    | _ => none
  | .obj i, .obj j => match S[i]?, S[j]? with
    | some (.lst xs), some (.lst ys) => if xs.length + ys.length ≤ lim then some (.lst (xs ++ ys)) else none
    | _, _ => none
  | _, _ => none
def subO (_ : Sto) (x y : D) : Option D := match x, y with
  | .int i, .int j => some (.int (i - j))
  | _, _ => none
def mulO (S : Sto) (x y : D) : Option D := match x, y with
  | .int i, .int j => if i.natAbs.log2 + j.natAbs.log2 < 1000000 then some (.int (i * j)) else none
  | .lst xs, .int k => if -(2 ^ 63) ≤ k ∧ k < 2 ^ 63 ∧ xs.length * k.toNat ≤ lim then some (.lst (List.replicate k.toNat xs).flatten) else none
  | _, _ => none
def fdivO (_ : Sto) (x y : D) : Option D := match x, y with
  | .int i, .int j => if 0 < j ∧ j.natAbs.log2 < 9000 then some (.int (i / j)) else none
  | _, _ => none
def modO (_ : Sto) (x y : D) : Option D := match x, y with
  | .int i, .int j => if 0 < j then some (.int (i % j)) else none
  | _, _ => none
def powO (_ : Sto) (x y : D) : Option D := match x, y with
  | .int i, .int j => if 0 ≤ j ∧ (Builtin.Int.intBits i : Int) * j ≤ 2 ^ 27 then some (.int (i ^ j.toNat)) else none
  | _, _ => none
def negO (_ : Sto) (x : D) : Option D := match x with
  | .int i => some (.int (-i))
  | _ => none

section
variable {U : Uv} {M : Mp} {H : Hp} {S : Sto}
theorem Rep.intV {v : V} {i : Int} (h : Rep U M H v (.int i)) : v = .int i := by cases h; rfl
theorem Rep.strV {v : V} {x : Str} (h : Rep U M H v (.str x)) : v = .str x := by cases h; rfl
theorem Rep.blV {v : V} {b : Bool} (h : Rep U M H v (.bl b)) : v = .bl b := by cases h; rfl
theorem Rep.nonV {v : V} (h : Rep U M H v .non) : v = .non := by cases h; rfl
theorem Rep.tyV {v : V} {n : String} (h : Rep U M H v (.ty n)) : v = .ty n := by cases h; rfl
theorem Rep.tupV {v : V} {ds : List D} (h : Rep U M H v (.tup ds)) : ∃ a xs, v = .ref a ∧ TupAt U.K M H a xs ∧ RepAll U M H xs ds := by cases h with | tup h r => exact ⟨_, _, rfl, h, r⟩
theorem Rep.lstV {v : V} {ds : List D} (h : Rep U M H v (.lst ds)) : ∃ a xs, v = .ref a ∧ H a = some (.lst xs) ∧ RepAll U M H xs ds := by cases h with | lst h r => exact ⟨_, _, rfl, h.1, r⟩
theorem Rep.objL {v : V} {i : Nat} {ds : List D} (r : R U M S H) (h : Rep U M H v (.obj i)) (e : S[i]? = some (.lst ds)) : ∃ a xs, v = .ref a ∧ H a = some (.lst xs) ∧ RepAll U M H xs ds ∧ a = M.at_ i ∧ i < M.n := by
  cases h with
  | obj hi =>
    obtain ⟨vs, h1, h2⟩ := r.at_ _ _ e
    exact ⟨_, vs, rfl, h1, h2, rfl, hi⟩
theorem Rep.toTup {a : Addr} {xs : List V} {ds : List D} (h : TupAt U.K M H a xs) (r : RepAll U M H xs ds) : Rep U M H (.ref a) (.tup ds) := .tup h r
end

section
variable {X : Cx} {U : Uv}
theorem ofR {f : Value → Value → Sem Value} {g : Sto → D → D → Option D} (r : R2) (h : OpR X f r) (k : ∀ M S H x y dx dy d Q, R U M S H → Rep U M H x dx → Rep U M H y dy → g S dx dy = some d → Gives U M S H d Q → r x y H Q) : OpD U X f g := ⟨r, h, k⟩
theorem nil_iff {U : Uv} {M : Mp} {H : Hp} {xs : List V} {ds : List D} (r : RepAll U M H xs ds) : xs = [] ↔ ds = [] := by cases r <;> simp
theorem o_add (hK : X.K = U.K := by rfl) : OpD U X (binaryOp .Add) addO := by
  refine ofR _ (op_add.or (op_add_str.or (op_catA.or op_cat))) fun M S H x y dx dy d Q r hx hy e g => ?_
  have lists : ∀ (a b : Addr) (xs ys : List V) (ds es : List D), x = .ref a → y = .ref b → H a = some (.lst xs) → H b = some (.lst ys) → RepAll U M H xs ds → RepAll U M H ys es →
      (if ds.length + es.length ≤ lim then some (D.lst (ds ++ es)) else none) = some d → rCat x y H Q := fun a b xs ys ds es ex ey ha hb ra rb he => by
    by_cases hl : ds.length + es.length ≤ lim
    · rw [if_pos hl] at he
      cases he
      exact ⟨a, b, xs, ys, ex, ey, ha, hb, lim_line (by rw [ra.length, rb.length]; exact hl), fun p hp => g.lst r (ra.append rb) hp⟩
    · rw [if_neg hl] at he; cases he
  unfold addO at e
  split at e
  · cases e
    exact .inl ⟨_, _, hx.intV, hy.intV, g.here r (.int _)⟩
  · rename_i a b
    unfold catS at e
    by_cases hl : a.length + b.length ≤ lim
    · rw [if_pos hl] at e
      cases e
      exact .inr (.inl ⟨_, _, hx.strV, hy.strV, lim_line hl, g.here r (.str _)⟩)
    · rw [if_neg hl] at e; cases e
  · rename_i ds es
    by_cases hl : ds.length + es.length ≤ lim
    · rw [if_pos hl] at e
      cases e
      obtain ⟨a, xs, rfl, ha, ra⟩ := hx.tupV
      obtain ⟨b, ys, rfl, hb, rb⟩ := hy.tupV
      refine .inr (.inr (.inl ⟨a, b, xs, ys, rfl, rfl, by rw [hK]; exact ha.sq, by rw [hK]; exact hb.sq, lim_line (by rw [ra.length, rb.length]; exact hl), fun en => ?_, fun en em => ?_, fun _ _ p hp => g.tup r (ra.append rb) hp⟩))
      · have : ds = [] := (nil_iff ra).mp en
        subst this
        exact g.here r (.tup hb rb)
      · have : es = [] := (nil_iff rb).mp em
        subst this
        rw [List.append_nil] at g
        exact g.here r (.tup ha ra)
    · rw [if_neg hl] at e; cases e
  · obtain ⟨a, xs, rfl, ha, ra⟩ := hx.lstV
    obtain ⟨b, ys, rfl, hb, rb⟩ := hy.lstV
    exact .inr (.inr (.inr (lists a b xs ys _ _ rfl rfl ha hb ra rb e)))
  · split at e
    · rename_i q
      obtain ⟨a, xs, rfl, ha, ra, _⟩ := hx.objL r q
      obtain ⟨b, ys, rfl, hb, rb⟩ := hy.lstV
      exact .inr (.inr (.inr (lists a b xs ys _ _ rfl rfl ha hb ra rb e)))
    · cases e
  · split at e
    · rename_i q
      obtain ⟨a, xs, rfl, ha, ra⟩ := hx.lstV
      obtain ⟨b, ys, rfl, hb, rb, _⟩ := hy.objL r q
      exact .inr (.inr (.inr (lists a b xs ys _ _ rfl rfl ha hb ra rb e)))
    · cases e
  · split at e
    · rename_i q1 q2
      obtain ⟨a, xs, rfl, ha, ra, _⟩ := hx.objL r q1
      obtain ⟨b, ys, rfl, hb, rb, _⟩ := hy.objL r q2
      exact .inr (.inr (.inr (lists a b xs ys _ _ rfl rfl ha hb ra rb e)))
    · cases e
  · cases e
theorem o_sub : OpD U X (binaryOp .Sub) subO := ofR _ op_sub fun M S H x y dx dy d Q r hx hy e g => by
  unfold subO at e
  split at e
  · cases e; exact ⟨_, _, hx.intV, hy.intV, g.here r (.int _)⟩
  · cases e
theorem RepAll.rep {M : Mp} {H : Hp} {xs : List V} {ds : List D} (h : RepAll U M H xs ds) : ∀ k : Nat, RepAll U M H (List.replicate k xs).flatten (List.replicate k ds).flatten
  | 0 => .nil
  | k + 1 => by
    rw [List.replicate_succ, List.replicate_succ, List.flatten_cons, List.flatten_cons]
    exact h.append (RepAll.rep h k)
theorem o_mul : OpD U X (binaryOp .Mult) mulO := ofR _ (op_mulW.or op_rep) fun M S H x y dx dy d Q r hx hy e g => by
  unfold mulO at e
  split at e
  · split at e
    · rename_i hc
      cases e; exact .inl ⟨_, _, hx.intV, hy.intV, hc, g.here r (.int _)⟩
    · cases e
  · split at e
    · rename_i hc
      cases e
      obtain ⟨a, xs, rfl, ha, ra⟩ := hx.lstV
      exact .inr ⟨a, _, xs, rfl, hy.intV, ha, hc.1, hc.2.1, lim_line (by rw [ra.length]; exact hc.2.2), fun p hp => g.lst r (ra.rep _) hp⟩
    · cases e
  · cases e
theorem o_fdiv : OpD U X (binaryOp .FloorDiv) fdivO := ofR _ op_fdivW fun M S H x y dx dy d Q r hx hy e g => by
  unfold fdivO at e
  split at e
  · split at e
    · rename_i hc
      cases e; exact ⟨_, _, hx.intV, hy.intV, hc, g.here r (.int _)⟩
    · cases e
  · cases e
theorem o_mod : OpD U X (binaryOp .Mod) modO := ofR _ op_mod fun M S H x y dx dy d Q r hx hy e g => by
  unfold modO at e
  split at e
  · split at e
    · rename_i hc
      cases e; exact ⟨_, _, hx.intV, hy.intV, hc, g.here r (.int _)⟩
    · cases e
  · cases e
def CPowW (i j : Int) : Prop := 0 ≤ j ∧ (Builtin.Int.intBits i : Int) * j ≤ 2 ^ 27
theorem op_powW : OpR X (binaryOp .Pow) (rI CPowW fun i j => .int (i ^ j.toNat)) := opI fun i j t u s Q E h q => PyProof.Rows.pow_int h.1 h.2 q
theorem o_pow : OpD U X (binaryOp .Pow) powO := ofR _ op_powW fun M S H x y dx dy d Q r hx hy e g => by
  unfold powO at e
  split at e
  · split at e
    · rename_i hc
      cases e; exact ⟨_, _, hx.intV, hy.intV, hc, g.here r (.int _)⟩
    · cases e
  · cases e
theorem u_neg : UnD U X (unaryOp .USub) negO := ⟨_, un_neg, fun M S H x dx d Q r hx e g => by
  unfold negO at e
  split at e
  · cases e; exact ⟨_, hx.intV, g.here r (.int _)⟩
  · cases e⟩

/-! ### is None; order -/
def isNon : D → Bool
  | .non => true
  | _ => false
def isNO (_ : Sto) (x y : D) : Option D := match y with
  | .non => some (.bl (isNon x))
  | _ => none
def notNO (_ : Sto) (x y : D) : Option D := match y with
  | .non => some (.bl (!isNon x))
  | _ => none
theorem Rep.isN {M : Mp} {H : Hp} {v : V} {d : D} (h : Rep U M H v d) : decide (v = .non) = isNon d := by cases h <;> simp [isNon]
theorem o_is : OpD U X (compareOp .Is) isNO := ofR _ op_isN fun M S H x y dx dy d Q r hx hy e g => by
  unfold isNO at e
  split at e
  · cases e
    exact ⟨hy.nonV, by rw [hx.isN]; exact g.here r (.bl _)⟩
  · cases e
theorem o_isnot : OpD U X (compareOp .IsNot) notNO := ofR _ op_notN fun M S H x y dx dy d Q r hx hy e g => by
  unfold notNO at e
  split at e
  · cases e
    refine ⟨hy.nonV, ?_⟩
    rw [hx.isN]
    exact g.here r (.bl _)
  · cases e
/-- two data that < takes -/
def okLt (x y : D) : Bool := PySem.W.alike (toPy x) (toPy y) && (match x with | .non => false | _ => true) && decide (min (dep x) (dep y) ≤ 60) && pl x && pl y
def dlt (x y : D) : Bool := PySem.W.dataLt (toPy x) (toPy y)
def ltO (S : Sto) (x y : D) : Option D := if okLt (resD S x) (resD S y) then some (.bl (dlt (resD S x) (resD S y))) else none
def gtO (S : Sto) (x y : D) : Option D := if okLt (resD S x) (resD S y) then some (.bl (dlt (resD S y) (resD S x))) else none
def leO (S : Sto) (x y : D) : Option D := if okLt (resD S x) (resD S y) then some (.bl (!dlt (resD S y) (resD S x))) else none
def geO (S : Sto) (x y : D) : Option D := if okLt (resD S x) (resD S y) then some (.bl (!dlt (resD S x) (resD S y))) else none
def rLtD (K : PySem.W.Frag) (A : Around) (f : PyData → PyData → Bool) : R2 := fun x y H Q => ∃ d e, Dp K H x d ∧ Dp K H y e ∧ PySem.W.alike d e = true ∧ d ≠ .none ∧ A.units + min d.depth e.depth < cLine ∧ Q (.bl (f d e)) H
theorem okLt_of {k : Nat} {A : Around} {a b : D} (hr : Room k A) (h : okLt a b = true) : PySem.W.alike (toPy a) (toPy b) = true ∧ toPy a ≠ .none ∧ A.units + min (toPy a).depth (toPy b).depth < cLine ∧ pl a = true ∧ pl b = true := by
  unfold okLt at h
  simp only [Bool.and_eq_true, decide_eq_true_eq] at h
  obtain ⟨⟨⟨⟨h1, h2⟩, h3⟩, h4⟩, h5⟩ := h
  refine ⟨h1, ?_, ?_, h4, h5⟩
  · intro e
    cases a <;> simp [toPy] at e h2
  · have := hr.un
    have h2 : min (toPy a).depth (toPy b).depth ≤ 60 := h3
    omega
theorem o_ltD {k : Nat} {op : CmpOp} {f : PyData → PyData → Bool} {g : Sto → D → D → Option D} (hr : Room k X.A)
    (rule : ∀ {A : Around} {E : Value → Shared → Prop} {s : Shared} {a b : Value} {da db : PyData} {as bs : List Addr} {Q : Value → Shared → Prop}, Reads s.heap a da as → Reads s.heap b db bs → PySem.W.alike da db = true → da ≠ .none → A.units + min da.depth db.depth < cLine → Q (.bool (f da db)) s → wpAny (model X.prog X.w) A (compareOp op a b) Q E s)
    (hg : ∀ S x y, g S x y = if okLt (resD S x) (resD S y) then some (.bl (f (toPy (resD S x)) (toPy (resD S y)))) else none) (hK : X.K = U.K) : OpD U X (compareOp op) g :=
  ofR (rLtD X.K X.A f) (fun pins s σ H x y v u Q I rx ry ⟨d, e, hd, he, hal, hn, hu, q⟩ => by
    obtain ⟨as, r1⟩ := Dp.reads I d x v hd rx
    obtain ⟨bs, r2⟩ := Dp.reads I e y u he ry
    exact rule r1 r2 hal hn hu ⟨.bl _, H, I, rfl, q⟩) fun M S H x y dx dy d Q r hx hy e g => by
    rw [hg] at e
    by_cases hk : okLt (resD S dx) (resD S dy) = true
    · rw [if_pos hk] at e
      cases e
      obtain ⟨h1, h2, h3, h4, h5⟩ := okLt_of hr hk
      rw [hK]
      exact ⟨_, _, hx.res r h4, hy.res r h5, h1, h2, h3, g.here r (.bl _)⟩
    · rw [if_neg hk] at e; cases e
theorem o_lt {k : Nat} (hr : Room k X.A) (hK : X.K = U.K := by rfl) : OpD U X (compareOp .Lt) ltO := o_ltD (f := fun a b => PySem.W.dataLt a b) hr (fun a b c d e f => PySem.W.lt_data a b c d e f) (fun _ _ _ => rfl) hK
theorem o_gt {k : Nat} (hr : Room k X.A) (hK : X.K = U.K := by rfl) : OpD U X (compareOp .Gt) gtO := o_ltD (f := fun a b => PySem.W.dataLt b a) hr (fun a b c d e f => PySem.W.gt_data a b c d e f) (fun _ _ _ => rfl) hK
theorem o_le {k : Nat} (hr : Room k X.A) (hK : X.K = U.K := by rfl) : OpD U X (compareOp .LtE) leO := o_ltD (f := fun a b => !PySem.W.dataLt b a) hr (fun a b c d e f => PySem.W.le_data a b c d e f) (fun _ _ _ => rfl) hK
theorem o_ge {k : Nat} (hr : Room k X.A) (hK : X.K = U.K := by rfl) : OpD U X (compareOp .GtE) geO := o_ltD (f := fun a b => !PySem.W.dataLt a b) hr (fun a b c d e f => PySem.W.ge_data a b c d e f) (fun _ _ _ => rfl) hK
end
end DL
/-! DL2c: in, built-ins, subscripts, slices, isinstance by data. -/
namespace PySem.SeqAt
open AutoSeq1 (wpAny_loadPart')
open MeetsSeq
theorem dl_tuple_declines_dict (l b : Addr) (items : Array Value) (n : Nat) (dd dd2 : Option Addr) (sl sl2 : Array (Option Value)) (es : Array DictEntry) (ep : Nat) :
    Meets (Builtin.«tuple.__eq__» ⟨[.ref l, .ref b], []⟩) (fun _ R s => s.heap.get? l = some { cls := .type "tuple", dict := dd, data := .seq items n, slots := sl } ∧ s.heap.get? b = some { cls := .type "dict", dict := dd2, data := .dict es ep, slots := sl2 } ∧ R (.ok (.ret .notImplemented)) s) :=
  .of_wp fun prog w A R s h => by obtain ⟨hp, g, d, tk, os⟩ := s; obtain ⟨hl, hb, h⟩ := h; have f1 := F.sub_dict_tuple; wp_walk using wpAny_loadPart' hl, wpAny_loadPart' hb; exact ⟨_, rfl, h⟩
theorem dl_dict_declines_tuple (l b : Addr) (items : Array Value) (n : Nat) (dd dd2 : Option Addr) (sl sl2 : Array (Option Value)) (es : Array DictEntry) (ep : Nat) :
    Meets (Builtin.«dict.__eq__» ⟨[.ref b, .ref l], []⟩) (fun _ R s => s.heap.get? l = some { cls := .type "tuple", dict := dd, data := .seq items n, slots := sl } ∧ s.heap.get? b = some { cls := .type "dict", dict := dd2, data := .dict es ep, slots := sl2 } ∧ R (.ok (.ret .notImplemented)) s) :=
  .of_wp fun prog w A R s h => by obtain ⟨hp, g, d, tk, os⟩ := s; obtain ⟨hl, hb, h⟩ := h; have f1 := F.sub_tuple_dict; wp_walk using wpAny_loadPart' hl, wpAny_loadPart' hb; exact ⟨_, rfl, h⟩
section
variable {A : Around} {s : Shared}
theorem dl_RcAt_tuple_dict {l b : Addr} {items : Array Value} {dd2 : Option Addr} {sl2 : Array (Option Value)} {es : Array DictEntry} {ep : Nat} (hl : s.heap.IsTuple l items) (ho2 : s.heap.get? b = some { cls := .type "dict", dict := dd2, data := .dict es ep, slots := sl2 }) (hu : A.units < cLine) : RcAt A s (.ref l) (.ref b) false := fun prog w E Q h => by
  obtain ⟨⟨cls, dd, data, sl⟩, ho, hc, n, hd⟩ := id hl
  simp only at hc hd
  subst hc hd
  have hne : l ≠ b := fun e => by
    subst e
    rw [ho] at ho2
    have := congrArg Obj.cls (Option.some.inj ho2)
    simp at this
  exact (rc_eq_decline_or (k := false) ⟨_, ho, rfl⟩ ⟨_, ho2, rfl⟩ (by decide) F.sub_dict_tuple F.slot_tuple_eq F.slot_dict_eq_refl
    (fun _ hq => call_meets F.slot_tuple_eq ⟨_, ho, rfl⟩ F.entry_tuple_eq (F.args_tuple_eq_2 _ _) (dl_tuple_declines_dict l b items n dd dd2 sl sl2 es ep) ⟨ho, ho2, hq⟩)
    (fun _ hq => call_meets F.slot_dict_eq_refl ⟨_, ho2, rfl⟩ F.entry_dict_eq (F.args_dict_eq_2 _ _) (dl_dict_declines_tuple l b items n dd dd2 sl sl2 es ep) ⟨ho, ho2, hq⟩)
    (fun _ hq => wpAny_isSame_ref_other' hne ho ho2 (by simp) hq) (.inr hu) h)
theorem dl_EqAt_tuple_dict {l b : Addr} {items : Array Value} {dd2 : Option Addr} {sl2 : Array (Option Value)} {es : Array DictEntry} {ep : Nat} (hl : s.heap.IsTuple l items) (ho2 : s.heap.get? b = some { cls := .type "dict", dict := dd2, data := .dict es ep, slots := sl2 }) (hu : A.units < cLine) : EqAt A s (.ref l) (.ref b) false :=
  .of_refs (fun e => by
    obtain ⟨o, ho, hc, n, hd⟩ := id hl
    subst e
    rw [ho] at ho2
    have e2 := Option.some.inj ho2
    rw [e2] at hc
    simp at hc) (dl_RcAt_tuple_dict hl ho2 hu)
end
end PySem.SeqAt
namespace DL
open PySem L2

def isTup : D → Bool
  | .tup _ => true
  | _ => false
def isDct0 : D → Bool
  | .dct [] => true
  | _ => false
/-- x in c: the items of a list or a tuple; one sign of a text, or a text in a text -/
def inS (x z : Str) : Bool := !(Builtin.Str.occurrences z x 0 z.length 1).isEmpty
def okIn (ys : List D) (x : D) : Bool := (PyData.plainAll (toPyAll ys) && pl x && decide (min (PyData.depthAll (toPyAll ys)) (dep x) ≤ 60)) || (isDct0 x && ys.all isTup)
def inO (S : Sto) (x c : D) : Option Bool := match c with
  | .str z => match x with
    | .str y => some (inS y z)
    | _ => none
  | c => match seqD S c with
    | some ys => if okIn ys x then some (ys.any fun y => deq y x) else none
    | none => none
def inD (S : Sto) (x c : D) : Option D := (inO S x c).map .bl
def ninD (S : Sto) (x c : D) : Option D := (inO S x c).map fun b => .bl (!b)
def rIn1 (K : PySem.W.Frag) (A : Around) (neg : Bool) : R2 := fun x c H Q => ∃ d xs, Dp K H x d ∧ (Dp K H c (.list xs) ∨ Dp K H c (.tuple xs)) ∧ d.plain = true ∧ PyData.plainAll xs = true ∧ A.units + 1 + min (PyData.depthAll xs) d.depth < cLine ∧ Q (.bl (if neg = true then !(xs.any fun y => PyData.eqv y d) else xs.any fun y => PyData.eqv y d)) H
def rIn2 (K : PySem.W.Frag) (A : Around) (neg : Bool) : R2 := fun x c H Q => ∃ a l xs, x = .ref a ∧ c = .ref l ∧ H a = some (.dK []) ∧ (SqT K H l xs ∨ SqL K H l xs) ∧ (∀ v ∈ xs, ∃ b ys, v = .ref b ∧ SqT K H b ys) ∧ A.units + 1 < cLine ∧ Q (.bl neg) H
section
variable {X : Cx} {U : Uv} {k : Nat}
theorem toPyAll_any (f : PyData → Bool) : ∀ ys : List D, (toPyAll ys).any f = ys.any fun y => f (toPy y)
  | [] => rfl
  | y :: ys => by
    show (f (toPy y) || (toPyAll ys).any f) = (f (toPy y) || ys.any fun y => f (toPy y))
    rw [toPyAll_any f ys]
theorem op_in1 (neg : Bool) : OpR X (compareOp (if neg = true then .NotIn else .In)) (rIn1 X.K X.A neg) := fun pins s σ H x y v u Q I rx ry ⟨d, xs, hd, hc, pd, pxs, hu, q⟩ => by
  obtain ⟨bs, r2⟩ := Dp.reads I d x v hd rx
  rcases hc with hc | hc
  · obtain ⟨as, r1⟩ := Dp.reads I _ y u hc ry
    cases neg with
    | false => exact SeqAt.in_list_data r1 r2 pxs pd hu ⟨.bl _, H, I, rfl, q⟩
    | true => exact SeqAt.notIn_list_data r1 r2 pxs pd hu ⟨.bl _, H, I, rfl, q⟩
  · obtain ⟨as, r1⟩ := Dp.reads I _ y u hc ry
    cases neg with
    | false => exact SeqAt.in_tuple_data r1 r2 pxs pd hu ⟨.bl _, H, I, rfl, q⟩
    | true => exact SeqAt.notIn_tuple_data r1 r2 pxs pd hu ⟨.bl _, H, I, rfl, q⟩
theorem anyF {us : Array Value} : us.any (fun _ => false) = false := by
  rw [← Array.any_toList]; simp
theorem vals_mem : ∀ {xs : List V} {us : List Value} {u : Value}, Vals xs us → u ∈ us → ∃ v, v ∈ xs ∧ RelV v u
  | _, _, _, .nil, h => nomatch h
  | x :: xs, _, u, .cons r t, h => by
    rcases List.mem_cons.mp h with rfl | h
    · exact ⟨x, List.mem_cons_self, r⟩
    · obtain ⟨v, hv, rv⟩ := vals_mem t h
      exact ⟨v, List.mem_cons_of_mem _ hv, rv⟩
theorem op_in2 (neg : Bool) : OpR X (compareOp (if neg = true then .NotIn else .In)) (rIn2 X.K X.A neg) := fun pins s σ H x y v u Q I rx ry ⟨a, l, xs, ex, ey, ha, hs, hi, hu, q⟩ => by
  subst ex ey
  obtain rfl : v = Value.ref a := rx
  obtain rfl : u = Value.ref l := ry
  obtain ⟨_, _, vs, _, o, es, ep, ho, ext, hdat, _⟩ := I.hok _ _ ha
  obtain ⟨e1, e2, e3⟩ := ext
  obtain ⟨cls, dd, data, sl⟩ := o
  simp only at e1 e2 e3 hdat
  subst e1 e2 e3 hdat
  have eqs : ∀ {its : List Value}, Vals xs its → ∀ y, y ∈ its.toArray → SeqAt.EqAt X.A.in1 s y (.ref a) ((fun _ => false : Value → Bool) y) := fun {its} r y hy => by
    obtain ⟨w, hw, rw'⟩ := vals_mem r (by simpa using hy)
    obtain ⟨b, ys, rfl, hb⟩ := hi w hw
    obtain rfl : y = Value.ref b := rw'
    obtain ⟨its', _, tp, _⟩ := I.tuple hb
    exact SeqAt.dl_EqAt_tuple_dict tp ho hu
  rcases hs with hs | hs
  · obtain ⟨its, r, tp, _⟩ := I.tuple hs
    cases neg with
    | false => exact SeqAt.in_tupleAt _ tp (eqs r) (by rw [anyF]; exact ⟨.bl _, H, I, rfl, q⟩)
    | true => exact SeqAt.notIn_tupleAt _ tp (eqs r) (by rw [anyF]; exact ⟨.bl _, H, I, rfl, q⟩)
  · obtain ⟨its, r, tp, _⟩ := I.list hs
    cases neg with
    | false => exact SeqAt.in_listAt _ (PlainL.isList tp) (eqs r) (by rw [anyF]; exact ⟨.bl _, H, I, rfl, q⟩)
    | true => exact SeqAt.notIn_listAt _ (PlainL.isList tp) (eqs r) (by rw [anyF]; exact ⟨.bl _, H, I, rfl, q⟩)
theorem op_in3 (neg : Bool) : OpR X (compareOp (if neg = true then .NotIn else .In)) (fun x y H Q => ∃ i j, x = .str i ∧ y = .str j ∧ Q (.bl (if neg = true then !(inS i j) else inS i j)) H) := by
  cases neg with
  | false => exact fun pins s σ H x y v u Q I rx ry ⟨i, j, h1, h2, q⟩ => op_in_str pins s σ H x y v u Q I rx ry ⟨i, j, h1, h2, q⟩
  | true => exact fun pins s σ H x y v u Q I rx ry ⟨i, j, h1, h2, q⟩ => L2.op_notIn_str pins s σ H x y v u Q I rx ry ⟨i, j, h1, h2, q⟩
theorem in_read {M : Mp} {S : Sto} {H : Hp} {x y : V} {dx dy : D} {b : Bool} {Q : VK} (hr : Room k X.A) (hK : X.K = U.K) (neg : Bool) (r : R U M S H) (hx : Rep U M H x dx) (hy : Rep U M H y dy) (e : inO S dx dy = some b) (q : Q (.bl (if neg = true then !b else b)) H) :
    rIn1 X.K X.A neg x y H Q ∨ rIn2 X.K X.A neg x y H Q ∨ ∃ i j, x = .str i ∧ y = .str j ∧ Q (.bl (if neg = true then !(inS i j) else inS i j)) H := by
  have seq : ∀ ys, seqD S dy = some ys → (if okIn ys dx = true then some (ys.any fun y => deq y dx) else none) = some b → rIn1 X.K X.A neg x y H Q ∨ rIn2 X.K X.A neg x y H Q := fun ys es e => by
    by_cases hk : okIn ys dx = true
    · rw [if_pos hk] at e
      cases e
      have hun := hr.un
      unfold okIn at hk
      rw [Bool.or_eq_true] at hk
      rcases hk with hk | hk
      · simp only [Bool.and_eq_true, decide_eq_true_eq] at hk
        refine .inl ⟨toPy dx, toPyAll ys, by rw [hK]; exact hx.dp hk.1.2, ?_, hk.1.2, hk.1.1, ?_, ?_⟩
        · obtain ⟨a, xs, rfl, hs, ra⟩ := hy.seq r es
          rw [hK]
          rcases hs with hs | hs
          · exact .inr (.tup hs (RepAll.dp ra hk.1.1))
          · exact .inl (.lst hs (RepAll.dp ra hk.1.1))
        · have : min (PyData.depthAll (toPyAll ys)) (toPy dx).depth ≤ 60 := hk.2
          omega
        · rw [toPyAll_any]; exact q
      · rw [Bool.and_eq_true] at hk
        obtain ⟨h1, h2⟩ := hk
        cases hx with
        | dct0 hd nd =>
          obtain ⟨l, xs, rfl, hs, ra⟩ := hy.seq r es
          have hany : (ys.any fun y => deq y (.dct [])) = false := by
            rw [List.any_eq_false]
            intro z hz
            have := List.all_eq_true.mp h2 z hz
            cases z <;> simp [isTup] at this
            simp [deq, toPy, PyData.eqv]
          rw [hany] at q
          refine .inr ⟨_, l, xs, rfl, rfl, hd, by rw [hK]; exact hs, fun v hv => ?_, by omega, by cases neg <;> exact q⟩
          obtain ⟨i, hi⟩ := List.getElem?_of_mem hv
          obtain ⟨d, hd', rd⟩ := ra.getV hi
          have := List.all_eq_true.mp h2 d (List.mem_of_getElem? hd')
          cases rd with
          | tup ht _ => exact ⟨_, _, rfl, by rw [hK]; exact ht.sq⟩
          | _ => cases this
        | _ => cases h1
    · rw [if_neg hk] at e; cases e
  have seq' : (match seqD S dy with
    | some ys => if okIn ys dx then some (ys.any fun y => deq y dx) else none
    | none => none) = some b → rIn1 X.K X.A neg x y H Q ∨ rIn2 X.K X.A neg x y H Q := fun e => by
    cases es : seqD S dy with
    | none => rw [es] at e; cases e
    | some ys => rw [es] at e; exact seq ys es e
  cases dy with
  | str z =>
    simp only [inO] at e
    cases dx with
    | str w => cases e; exact .inr (.inr ⟨w, z, hx.strV, hy.strV, q⟩)
    | _ => cases e
  | _ => exact (seq' e).elim .inl fun z => .inr (.inl z)
theorem o_in (hr : Room k X.A) (hK : X.K = U.K := by rfl) : OpD U X (compareOp .In) inD := ofR _ ((op_in1 false).or ((op_in2 false).or (op_in3 false))) fun M S H x y dx dy d Q r hx hy e g => by
  unfold inD at e
  cases h : inO S dx dy with
  | none => rw [h] at e; cases e
  | some b =>
    rw [h] at e
    cases e
    exact in_read hr hK false r hx hy h (g.here r (.bl _))
theorem o_nin (hr : Room k X.A) (hK : X.K = U.K := by rfl) : OpD U X (compareOp .NotIn) ninD := ofR _ ((op_in1 true).or ((op_in2 true).or (op_in3 true))) fun M S H x y dx dy d Q r hx hy e g => by
  unfold ninD at e
  cases h : inO S dx dy with
  | none => rw [h] at e; cases e
  | some b =>
    rw [h] at e
    cases e
    exact in_read hr hK true r hx hy h (g.here r (.bl _))
end
end DL
/-! DL2d: built-ins, subscripts, slices, isinstance by data. -/
namespace DL
open PySem L2

def lenG (S : Sto) (ds : List D) : Option D := match ds with
  | [.str z] => if z.length ≤ lim then some (.int z.length) else none
  | [d] => (seqD S d).map fun xs => .int xs.length
  | _ => none
def absG (_ : Sto) (ds : List D) : Option D := match ds with
  | [.int i] => some (.int (if i < 0 then -i else i))
  | _ => none
def maxG (_ : Sto) (ds : List D) : Option D := match ds with
  | [.int i, .int j] => some (.int (if j > i then j else i))
  | _ => none
def minG (_ : Sto) (ds : List D) : Option D := match ds with
  | [.int i, .int j] => some (.int (if j < i then j else i))
  | _ => none
def intG (_ : Sto) (ds : List D) : Option D := match ds with
  | [.int i] => some (.int i)
  | [.bl b] => some (.int (if b then 1 else 0))
  | _ => none
def blsD : List D → Option (List Bool)
  | [] => some []
  | .bl b :: r => (blsD r).map (b :: ·)
  | _ => none
def allG (S : Sto) (ds : List D) : Option D := match ds with
  | [.lst xs] => (blsD xs).map fun bs => .bl (bs.all id)
  | _ => none
def anyG (S : Sto) (ds : List D) : Option D := match ds with
  | [.lst xs] => (blsD xs).map fun bs => .bl (bs.any id)
  | _ => none
def listG (S : Sto) (ds : List D) : Option D := match ds with
  | [d] => (seqD S d).map .lst
  | _ => none
def tupleG (S : Sto) (ds : List D) : Option D := match ds with
  | [d] => (seqD S d).map .tup
  | _ => none
def strG (_ : Sto) (ds : List D) : Option D := match ds with
  | [.int i] => if i.natAbs.log2 < 1920 then some (.str (toString i)) else none
  | [.str x] => some (.str x)
  | _ => none

section
variable {U : Uv} {M : Mp} {H : Hp} {S : Sto}
theorem RepAll.one {vs : List V} {d : D} (h : RepAll U M H vs [d]) : ∃ v, vs = [v] ∧ Rep U M H v d := by
  cases h with | cons h r => cases r; exact ⟨_, rfl, h⟩
theorem RepAll.two {vs : List V} {d e : D} (h : RepAll U M H vs [d, e]) : ∃ v w, vs = [v, w] ∧ Rep U M H v d ∧ Rep U M H w e := by
  cases h with | cons h r => cases r with | cons h2 r => cases r; exact ⟨_, _, rfl, h, h2⟩
theorem RepAll.bls : ∀ {vs : List V} {ds : List D} {bs : List Bool}, RepAll U M H vs ds → blsD ds = some bs → vs = bs.map V.bl
  | _, _, _, .nil, e => by cases e; rfl
  | _, d :: ds, bs, .cons h r, e => by
    cases h with
    | bl b =>
      simp only [blsD] at e
      cases q : blsD ds with
      | none => rw [q] at e; cases e
      | some cs =>
        rw [q] at e
        cases e
        rw [RepAll.bls r q]
        rfl
    | _ => simp [blsD] at e
end
section
variable {X : Cx} {U : Uv} {k : Nat}
theorem ofC {f : Value} {g : Sto → List D → Option D} (r : List V → Hp → VK → Prop) (h : CallR X f r) (k : ∀ M S H xs ds d Q, R U M S H → RepAll U M H xs ds → g S ds = some d → Gives U M S H d Q → r xs H Q) : CallD U X f g := ⟨r, h, k⟩
theorem c_len (hK : X.K = U.K := by rfl) : CallD U X (.builtin "len") lenG := ofC _ call_len fun M S H xs ds d Q r hx e g => by
  have sq : ∀ d0 z, ds = [d0] → seqD S d0 = some z → d = .int z.length → ∃ x n, xs = [x] ∧ LenV X.K x H n ∧ Q (.int n) H := fun d0 z e1 e2 e3 => by
    subst e1 e3
    obtain ⟨v, rfl, hv⟩ := hx.one
    obtain ⟨a, us, rfl, hs, ra⟩ := hv.seq r e2
    rw [hK]
    refine ⟨_, z.length, rfl, ?_, g.here r (.int _)⟩
    rcases hs with hs | hs
    · exact .inr ⟨us, hs, ra.length.symm⟩
    · exact .inl ⟨us, hs, ra.length.symm⟩
  unfold lenG at e
  split at e
  · rename_i z
    by_cases hl : z.length ≤ lim
    · rw [if_pos hl] at e
      cases e
      obtain ⟨v, rfl, hv⟩ := hx.one
      cases hv
      exact ⟨_, z.length, rfl, ⟨lim_line hl, rfl⟩, g.here r (.int _)⟩
    · rw [if_neg hl] at e; cases e
  · rename_i d0 _
    cases q : seqD S d0 with
    | none => rw [q] at e; cases e
    | some z => rw [q] at e; exact sq d0 z rfl q (Option.some.inj e).symm
  · cases e
theorem c_abs : CallD U X (.builtin "abs") absG := ofC _ call_abs fun M S H xs ds d Q r hx e g => by
  unfold absG at e
  split at e
  · cases e
    obtain ⟨v, rfl, hv⟩ := hx.one
    cases hv
    exact ⟨_, rfl, g.here r (.int _)⟩
  · cases e
theorem c_max (hc : X.calm = true := by rfl) : CallD U X (.builtin "max") maxG := ofC _ (call_max2 hc) fun M S H xs ds d Q r hx e g => by
  unfold maxG at e
  split at e
  · cases e
    obtain ⟨v, w, rfl, hv, hw⟩ := hx.two
    cases hv; cases hw
    exact ⟨_, _, rfl, g.here r (.int _)⟩
  · cases e
theorem c_min (hc : X.calm = true := by rfl) : CallD U X (.builtin "min") minG := ofC _ (call_min2 hc) fun M S H xs ds d Q r hx e g => by
  unfold minG at e
  split at e
  · cases e
    obtain ⟨v, w, rfl, hv, hw⟩ := hx.two
    cases hv; cases hw
    exact ⟨_, _, rfl, g.here r (.int _)⟩
  · cases e
theorem c_int : CallD U X (.type "int") intG := ofC _ call_int1 fun M S H xs ds d Q r hx e g => by
  unfold intG at e
  split at e
  · cases e
    obtain ⟨v, rfl, hv⟩ := hx.one
    cases hv
    exact .inl ⟨_, rfl, g.here r (.int _)⟩
  · cases e
    obtain ⟨v, rfl, hv⟩ := hx.one
    cases hv
    exact .inr ⟨_, rfl, g.here r (.int _)⟩
  · cases e
theorem c_all (hc : X.calm = true := by rfl) (hK : X.K = U.K := by rfl) : CallD U X (.builtin "all") allG := ofC _ (cr_all hc) fun M S H xs ds d Q r hx e g => by
  unfold allG at e
  split at e
  · rename_i ys
    cases q : blsD ys with
    | none => rw [q] at e; cases e
    | some bs =>
      rw [q] at e
      cases e
      obtain ⟨v, rfl, hv⟩ := hx.one
      cases hv with
      | lst h ra =>
        rw [hK]
        refine ⟨_, bs, rfl, ?_, g.here r (.bl _)⟩
        rw [← ra.bls q]; exact h.sq
  · cases e
theorem c_any (hc : X.calm = true := by rfl) (hK : X.K = U.K := by rfl) : CallD U X (.builtin "any") anyG := ofC _ (cr_any hc) fun M S H xs ds d Q r hx e g => by
  unfold anyG at e
  split at e
  · rename_i ys
    cases q : blsD ys with
    | none => rw [q] at e; cases e
    | some bs =>
      rw [q] at e
      cases e
      obtain ⟨v, rfl, hv⟩ := hx.one
      cases hv with
      | lst h ra =>
        rw [hK]
        refine ⟨_, bs, rfl, ?_, g.here r (.bl _)⟩
        rw [← ra.bls q]; exact h.sq
  · cases e
theorem c_list (hK : X.K = U.K := by rfl) : CallD U X (.type "list") listG := ofC _ call_list_of fun M S H xs ds d Q r hx e g => by
  unfold listG at e
  split at e
  · rename_i d0
    cases q : seqD S d0 with
    | none => rw [q] at e; cases e
    | some z =>
      rw [q] at e
      cases e
      obtain ⟨v, rfl, hv⟩ := hx.one
      obtain ⟨a, us, rfl, hs, ra⟩ := hv.seq r q
      rw [hK]
      exact ⟨a, us, rfl, hs.symm, fun l hl => g.lst r ra hl⟩
  · cases e
theorem c_tuple (hK : X.K = U.K := by rfl) : CallD U X (.type "tuple") tupleG := ofC _ call_tuple_of fun M S H xs ds d Q r hx e g => by
  unfold tupleG at e
  split at e
  · rename_i d0
    cases q : seqD S d0 with
    | none => rw [q] at e; cases e
    | some z =>
      rw [q] at e
      cases e
      obtain ⟨v, rfl, hv⟩ := hx.one
      rw [hK]
      cases hv with
      | tup h ra => cases q; exact ⟨_, _, rfl, .inr ⟨h.sq, g.here r (.tup h ra)⟩⟩
      | lst h ra => cases q; exact ⟨_, _, rfl, .inl ⟨h.sq, fun l hl => g.tup r ra hl⟩⟩
      | fz h ra => cases q; exact ⟨_, _, rfl, .inl ⟨h.sq, fun l hl => g.tup r ra hl⟩⟩
      | obj hi =>
        rename_i i
        cases qs : S[i]? with
        | none => simp only [seqD, qs] at q; cases q
        | some o =>
          simp only [seqD, qs] at q
          cases o with
          | lst zs =>
            cases q
            obtain ⟨vs, h1, h2⟩ := r.at_ _ _ qs
            exact ⟨_, vs, rfl, .inl ⟨.inl (.inl h1), fun l hl => g.tup r h2 hl⟩⟩
          | ins c fs => cases q
          | dK _ => cases q
          | dN _ => cases q
          | dF _ => cases q
          | xc _ _ => cases q
      | _ => cases q
  · cases e
theorem call_str1 : CallR X (.type "str") (fun xs H Q => ∃ i, xs = [.int i] ∧ i.natAbs.log2 < 1920 ∧ Q (.str (toString i)) H) := call_str_int
/-! ### subscripts -/
def ixO (S : Sto) (x y : D) : Option D := match y with
  | .int i => match x with
    | .str z => if z.length ≤ lim then (atI z.cps.toList i).map fun c => .str ⟨#[c]⟩ else none
    | d => (seqD S d).bind fun xs => atI xs i
  | _ => none
theorem RepAll.atI {M : Mp} {H : Hp} {xs : List V} {ds : List D} {i : Int} {d : D} (h : RepAll U M H xs ds) (e : L2.atI ds i = some d) : ∃ v, L2.atI xs i = some v ∧ Rep U M H v d := by
  unfold L2.atI at e ⊢
  rw [h.length]
  cases q : ixN ds.length i with
  | none => rw [q] at e; cases e
  | some j => rw [q] at e; exact h.get e
theorem i_ix (hK : X.K = U.K := by rfl) : IxD U X ixO := ⟨rIx X.K, ix_seq, fun M S H x y dx dy d Q r hx hy e g => by
  unfold ixO at e
  split at e
  · rename_i i
    obtain rfl := hy.intV
    have sq : (seqD S dx).bind (fun xs => L2.atI xs i) = some d → rIx X.K x (.int i) H Q := fun e => by
      cases q : seqD S dx with
      | none => rw [q] at e; cases e
      | some zs =>
        rw [q] at e
        obtain ⟨a, us, rfl, hs, ra⟩ := hx.seq r q
        obtain ⟨v, hv, rv⟩ := RepAll.atI ra e
        rw [hK]
        rcases hs with hs | hs
        · exact .inr (.inl ⟨a, us, i, v, rfl, rfl, hs, hv, g.here r rv⟩)
        · exact .inl ⟨a, us, i, v, rfl, rfl, hs, hv, g.here r rv⟩
    cases dx with
    | str z =>
      by_cases hl : z.length ≤ lim
      · simp only [if_pos hl] at e
        cases q : L2.atI z.cps.toList i with
        | none => rw [q] at e; cases e
        | some c =>
          rw [q] at e
          cases e
          exact .inr (.inr ⟨z, i, c, hx.strV, rfl, lim_line hl, q, g.here r (.str _)⟩)
      · simp only [if_neg hl] at e; cases e
    | _ => exact sq e
  · cases e⟩
/-! ### slices -/
variable {W : WX} {e : Expr} {m : ME} {lo hi : Option Expr} {ml mh : MO} {pos p2 : Pos}
theorem e_slice (h : PE X e (tE U W m)) (hl : PO X lo (tO U W ml)) (hh : PO X hi (tO U W mh)) (hK : X.K = U.K := by rfl) : PE X (.Subscript e (.Slice lo hi none p2) pos) (tE U W (mSl m ml mh)) :=
  pe_imp (pe_slice (sl_list.or (sl_tupA.or sl_str)) h hl hh) fun σ H Q ⟨M, S, ρ, A, p⟩ =>
    tX.bind A p fun x S1 M1 H1 v e1 A1 r1 p1 => tX.bind A1 p1 fun l S2 M2 H2 lv e2 A2 r2 p2 => tX.bind A2 p2 fun u S3 M3 H3 uv e3 A3 r3 p3 => by
      subst r2 r3
      obtain ⟨d, ed, g⟩ := ofO_post p3
      have hv := (r1.ext e2).ext e3
      have lists : ∀ a us zs, v = .ref a → SqL U.K H3 a us → RepAll U M3 H3 us zs → d = .lst (cutD zs lv uv) → rSlL X.K v lv uv H3 Q := fun a us zs ev hs ra ed => by
        subst ed
        rw [hK]
        exact ⟨a, us, ev, hs, fun q hq => Gives.lst g A3.r (ra.cut _ _) hq⟩
      cases hv with
      | tup ht ra =>
        cases ed
        rename_i a0 xs0 ds0
        refine .inr (.inl ⟨_, _, rfl, by rw [hK]; exact ht.sq, fun hw => ?_, fun _ q hq => Gives.tup g A3.r (ra.cut _ _) hq⟩)
        have hd : cutD ds0 lv uv = ds0 := by
          unfold cutD
          rw [← ra.length, hw.1, hw.2]
          rw [List.drop_zero, Nat.sub_zero, ra.length, List.take_length]
        rw [hd] at g
        exact Gives.here g A3.r (.tup ht ra)
      | str z =>
        simp only [slD] at ed
        by_cases hl : z.length ≤ lim
        · rw [if_pos hl] at ed
          cases ed
          exact .inr (.inr ⟨z, rfl, lim_line hl, Gives.here g A3.r (.str _)⟩)
        · rw [if_neg hl] at ed; cases ed
      | lst ht ra => cases ed; exact .inl (lists _ _ _ rfl ht.sq ra rfl)
      | fz ht ra => cases ed; exact .inl (lists _ _ _ rfl ht.sq ra rfl)
      | obj hi =>
        rename_i i
        change (seqD S3 (.obj i)).map _ = _ at ed
        cases qs : S3[i]? with
        | none => simp only [seqD, qs] at ed; cases ed
        | some o =>
          simp only [seqD, qs] at ed
          cases o with
          | lst zs =>
            cases ed
            obtain ⟨vs, h1, h2⟩ := A3.r.at_ _ _ qs
            exact .inl (lists _ vs zs rfl (.inl (.inl h1)) h2 rfl)
          | ins c fs => cases ed
          | dK _ => cases ed
          | dN _ => cases ed
          | dF _ => cases ed
          | xc _ _ => cases ed
      | _ => cases ed
end
/-! ### isinstance of data -/
inductive Tc where
  | non | bl | int | str | tup | lst | dct
def Tc.nm : Tc → String
  | .non => "NoneType" | .bl => "bool" | .int => "int" | .str => "str" | .tup => "tuple" | .lst => "list" | .dct => "dict"
def tcOf (n : String) : Option Tc := if n = "bool" then some .bl else if n = "int" then some .int else if n = "str" then some .str else if n = "tuple" then some .tup else if n = "list" then some .lst else if n = "dict" then some .dct else none
def Tc.sub : Tc → Tc → Bool
  | .bl, .bl => true | .bl, .int => true | .int, .int => true | .str, .str => true | .tup, .tup => true | .lst, .lst => true | .dct, .dct => true | .non, .non => true
  | _, _ => false
theorem tc_ok (a b : Tc) (h : b.nm ≠ "NoneType") : kitB a.nm b.nm = some (a.sub b) := by
  cases b with
  | non => exact absurd rfl h
  | _ => cases a <;> decide +kernel
theorem tcOf_ok {n : String} {c : Tc} (h : tcOf n = some c) : c.nm = n ∧ c.nm ≠ "NoneType" := by
  unfold tcOf at h
  repeat' split at h
  all_goals first | (cases h; subst_vars; exact ⟨rfl, by decide⟩) | cases h
def tcD (S : Sto) : D → Option Tc
  | .non => some .non
  | .bl _ => some .bl
  | .int _ => some .int
  | .str _ => some .str
  | .tup _ => some .tup
  | .lst _ => some .lst
  | .fz _ => some .lst
  | .dct [] => some .dct
  | .obj i => match S[i]? with
    | some (.lst _) => some .lst
    | _ => none
  | _ => none
def isiAny (S : Sto) (t : Tc) : List D → Option Bool
  | [] => some false
  | .ty n :: r => match tcOf n with
    | some c => (isiAny S t r).map fun b => t.sub c || b
    | none => none
  | _ => none
def isiG (S : Sto) (ds : List D) : Option D := match ds with
  | [x, .ty n] => (tcD S x).bind fun t => (tcOf n).map fun c => .bl (t.sub c)
  | [x, .tup cs] => (tcD S x).bind fun t => (isiAny S t cs).map .bl
  | _ => none
section
variable {X : Cx} {U : Uv} {k : Nat} {M : Mp} {S : Sto} {H : Hp}
theorem Rep.tyx {v : V} {d : D} {t : Tc} (r : R U M S H) (h : Rep U M H v d) (e : tcD S d = some t) : TyX U.K H v (.type t.nm) := by
  cases h with
  | non => cases e; exact .base .non
  | bl b => cases e; exact .base (.bl b)
  | int i => cases e; exact .base (.int i)
  | str x => cases e; exact .base (.str x)
  | tup h ra =>
    cases e
    rcases h with h | ⟨o, its, n, hl, hc, hd, _⟩
    · exact .base (.tup h.1)
    · exact .kTuple hl hc
  | lst h ra => cases e; exact .base (.lst h.1)
  | fz h ra =>
    cases e
    rcases h with ⟨u, h, rfl | ⟨o, rfl⟩, _⟩ | ⟨o, its, n, hl, hc, hd, _⟩
    · exact .base (.lst h)
    · exact .base (.frz h)
    · exact .kList hl hc
  | dct0 h n => cases e; exact .base (.dK h)
  | obj hi =>
    rename_i i
    cases qs : S[i]? with
    | none => simp only [tcD, qs] at e; cases e
    | some o =>
      simp only [tcD, qs] at e
      cases o with
      | lst zs =>
        cases e
        obtain ⟨vs, h1, h2⟩ := r.at_ _ _ qs
        exact .base (.lst h1)
      | ins c fs => cases e
      | dK _ => cases e
      | dN _ => cases e
      | dF _ => cases e
      | xc _ _ => cases e
  | _ => cases e
theorem isiAny_ok {K : PySem.W.Frag} {t : Tc} : ∀ {cs : List D} {vs : List V} {b : Bool}, RepAll U M H vs cs → isiAny S t cs = some b → ∃ us, Paired ClsV vs us ∧ PySem.W.kitAny K (.type t.nm) us = some b
  | _, _, _, .nil, e => by cases e; exact ⟨[], .nil, kitAny_nil⟩
  | c :: cs, _, b, .cons (v := v) (vs := vs) h r, e => by
    cases h with
    | ty n =>
      simp only [isiAny] at e
      cases q : tcOf n with
      | none => rw [q] at e; cases e
      | some cc =>
        rw [q] at e
        obtain ⟨e1, e2⟩ := tcOf_ok q
        have h1 : PySem.W.kitOne K (.type t.nm) (.type n) = some (t.sub cc) := by rw [← e1]; exact kit_ty (tc_ok t cc e2)
        simp only at e
        cases q2 : isiAny S t cs with
        | none => rw [q2] at e; cases e
        | some b2 =>
          rw [q2] at e
          cases e
          obtain ⟨us, p, ha⟩ := isiAny_ok r q2
          refine ⟨.type n :: us, .cons (.ty n) p, kitAny_cons h1 (fun z => ?_) (fun z => by rw [z]; rfl)⟩
          rw [z]; exact ha
    | _ => simp [isiAny] at e
theorem c_isi (hK : X.K = U.K := by rfl) : CallD U X (.builtin "isinstance") isiG := ofC _ (call_isi.or (call_isiT.or call_isiK)) fun M S H xs ds d Q r hx e g => by
  unfold isiG at e
  split at e
  · rename_i x n
    cases q1 : tcD S x with
    | none => rw [q1] at e; cases e
    | some t =>
      rw [q1] at e
      cases q2 : tcOf n with
      | none => rw [q2] at e; cases e
      | some c =>
        rw [q2] at e
        cases e
        obtain ⟨e1, e2⟩ := tcOf_ok q2
        obtain ⟨v, w, rfl, hv, hw⟩ := hx.two
        cases hw
        rw [hK]
        exact .inl ⟨v, _, _, _, _, rfl, .ty n, hv.tyx r q1, by rw [← e1]; exact kit_ty (tc_ok t c e2), g.here r (.bl _)⟩
  · rename_i x cs
    cases q1 : tcD S x with
    | none => rw [q1] at e; cases e
    | some t =>
      rw [q1] at e
      cases q2 : isiAny S t cs with
      | none =>
        have e' : (isiAny S t cs).map D.bl = some d := e
        rw [q2] at e'; cases e'
      | some b =>
        have e' : (isiAny S t cs).map D.bl = some d := e
        rw [q2] at e'
        cases e'
        obtain ⟨v, w, rfl, hv, hw⟩ := hx.two
        rw [hK]
        cases hw with
        | tup ht ra =>
          obtain ⟨us, p, ha⟩ := isiAny_ok (K := U.K) ra q2
          rcases ht with ht | ⟨o, its, n, hl, hc, hd, _, hv2⟩
          · exact .inr (.inl ⟨v, _, _, _, us, b, rfl, ht.1, p, hv.tyx r q1, ha, g.here r (.bl _)⟩)
          · have eu : its.toList = us := ClsV.all p hv2
            obtain ⟨cls, dd, data, sl⟩ := o
            simp only at hc hd
            subst hc hd
            have ei : its = us.toArray := by rw [← eu]
            subst ei
            exact .inr (.inr ⟨v, _, _, us, n, sl, _, b, rfl, hl, hv.tyx r q1, ha, g.here r (.bl _)⟩)
  · cases e
end
end DL
/-! DL3: statements, what is walked, loops, comprehensions. -/
namespace DL
open PySem L2

/-- a statement's outcome -/
inductive OS where
  | nx (ρ : Env) (S : Sto)
  | rt (d : D) (S : Sto)
  | bk (ρ : Env) (S : Sto)
  | ct (ρ : Env) (S : Sto)
  | exc (e : Ex) (ρ : Env) (S : Sto)
  | stuck
abbrev MS := Env → Sto → OS
def OS.of {α : Type} (o : Out α) (ρ : Env) (k : α → Sto → OS) : OS := match o with
  | .ok a S => k a S
  | .exc e S => .exc e ρ S
  | .stuck => .stuck
def OS.seq (o : OS) (k : MS) : OS := match o with
  | .nx ρ S => k ρ S
  | o => o
def PostS (U : Uv) (M : Mp) (H : Hp) (W : WX) (o : OS) (Dn : Ends) : Prop := match o with
  | .nx ρ S => ∀ M' H' σ', Ext M H M' H' → At U M' S ρ σ' H' → Dn.nx σ' H'
  | .rt d S => ∀ M' H' v, Ext M H M' H' → R U M' S H' → Rep U M' H' v d → Dn.rt v H'
  | .bk ρ S => ∀ M' H' σ', Ext M H M' H' → At U M' S ρ σ' H' → Dn.bk σ' H'
  | .ct ρ S => ∀ M' H' σ', Ext M H M' H' → At U M' S ρ σ' H' → Dn.ct σ' H'
  | .exc e ρ S => ∀ M' H' σ' cv dd, Ext M H M' H' → At U M' S ρ σ' H' → ExAt U M' H' e cv dd → W cv dd σ' H'
  | .stuck => False
def tS (U : Uv) (W : WX) (m : MS) : TS := fun Dn σ H => ∃ M S ρ, At U M S ρ σ H ∧ PostS U M H W (m ρ S) Dn
section
variable {U : Uv} {M M1 : Mp} {S S1 : Sto} {H H1 : Hp} {σ : L2.St} {W : WX} {ρ : Env} {Dn : Ends}
theorem PostS.ext {o : OS} (e : Ext M H M1 H1) (p : PostS U M H W o Dn) : PostS U M1 H1 W o Dn := by
  cases o with
  | nx ρ S => exact fun M' H' σ' f a => p M' H' σ' (e.trans f) a
  | rt d S => exact fun M' H' v f r q => p M' H' v (e.trans f) r q
  | bk ρ S => exact fun M' H' σ' f a => p M' H' σ' (e.trans f) a
  | ct ρ S => exact fun M' H' σ' f a => p M' H' σ' (e.trans f) a
  | exc x ρ S => exact fun M' H' σ' cv dd f a q => p M' H' σ' cv dd (e.trans f) a q
  | stuck => exact p
/-- an expression's reading within a statement -/
theorem tX.ofS {α β : Type} {rel : Mp → Hp → β → α → Prop} {m : Env → Sto → Out α} {k : α → Sto → OS} {Q1 : β → Hp → Prop} (a : At U M S ρ σ H) (p : PostS U M H W (OS.of (m ρ S) ρ k) Dn)
    (h : ∀ x S1 M1 H1 b, Ext M H M1 H1 → At U M1 S1 ρ σ H1 → rel M1 H1 b x → PostS U M1 H1 W (k x S1) Dn → Q1 b H1) : tX U rel W m σ H Q1 := by
  refine ⟨M, S, ρ, a, ?_⟩
  cases q : m ρ S with
  | ok x S1 =>
    rw [q] at p
    exact fun M1 H1 b e r z => h x S1 M1 H1 b e (a.ext e r) z (PostS.ext e p)
  | exc x S1 =>
    rw [q] at p
    exact fun M1 H1 cv dd e r z => p M1 H1 σ cv dd e (a.ext e r) z
  | stuck => rw [q] at p; exact p
/-- a statement, then the rest -/
theorem PostS.seq {o : OS} {k : MS} (p : PostS U M H W (o.seq k) Dn) : PostS U M H W o { Dn with nx := tS U W k Dn } := by
  cases o with
  | nx ρ S => exact fun M' H' σ' f a => ⟨M', S, ρ, a, PostS.ext f p⟩
  | rt d S => exact p
  | bk ρ S => exact p
  | ct ρ S => exact p
  | exc x ρ S => exact p
  | stuck => exact p
end
/-! ### statements -/
section
variable {X : Cx} {U : Uv} {W : WX} {st : Stmt} {rest : List Stmt} {e : Expr} {m : ME} {t : MT} {ms mu : MS} {pos : Pos}
def sNil : MS := fun ρ S => .nx ρ S
def sSeq (a b : MS) : MS := fun ρ S => (a ρ S).seq b
theorem ss_nil : PSs X [] (tS U W sNil) := pss_imp pss_nil fun Dn σ H ⟨M, S, ρ, A, p⟩ => p M H σ A.refl A
theorem ss_cons (h1 : PS X st (tS U W ms)) (h2 : PSs X rest (tS U W mu)) : PSs X (st :: rest) (tS U W (sSeq ms mu)) := pss_imp (pss_cons h1 h2) fun Dn σ H ⟨M, S, ρ, A, p⟩ => ⟨M, S, ρ, A, PostS.seq p⟩
theorem ss_one (h1 : PS X st (tS U W ms)) : PSs X [st] (tS U W ms) := pss_one h1
theorem s_pass : PS X (.Pass pos) (tS U W sNil) := ps_imp ps_pass fun Dn σ H ⟨M, S, ρ, A, p⟩ => p M H σ A.refl A
def sBreak : MS := fun ρ S => .bk ρ S
def sCont : MS := fun ρ S => .ct ρ S
theorem s_break : PS X (.Break pos) (tS U W sBreak) := ps_imp ps_break fun Dn σ H ⟨M, S, ρ, A, p⟩ => p M H σ A.refl A
theorem s_cont : PS X (.Continue pos) (tS U W sCont) := ps_imp ps_continue fun Dn σ H ⟨M, S, ρ, A, p⟩ => p M H σ A.refl A
def sDrop (m : ME) : MS := fun ρ S => .of (m ρ S) ρ fun _ S1 => .nx ρ S1
theorem s_expr (he : PE X e (tE U W m)) (hs : swapsWith e none pos.line X.env = pure false := by rfl) : PS X (.Expr e pos) (tS U W (sDrop m)) :=
  ps_imp (ps_expr he hs) fun Dn σ H ⟨M, S, ρ, A, p⟩ => tX.ofS A p fun x S1 M1 H1 v e1 A1 r1 p1 => p1 M1 H1 σ A1.refl A1
def sRet (m : ME) : MS := fun ρ S => .of (m ρ S) ρ fun d S1 => .rt d S1
theorem s_ret (he : PE X e (tE U W m)) : PS X (.Return (some e) pos) (tS U W (sRet m)) :=
  ps_imp (ps_ret he) fun Dn σ H ⟨M, S, ρ, A, p⟩ => tX.ofS A p fun x S1 M1 H1 v e1 A1 r1 p1 => p1 M1 H1 v A1.refl A1.r r1
def sRetN : MS := fun _ S => .rt .non S
theorem s_retN : PS X (.Return none pos) (tS U W sRetN) := ps_imp ps_retN fun Dn σ H ⟨M, S, ρ, A, p⟩ => p M H .non A.refl A.r .non
def sIf (t : MT) (a b : MS) : MS := fun ρ S => .of (t ρ S) ρ fun k S1 => if k = true then a ρ S1 else b ρ S1
theorem s_if {c : Expr} {a b : List Stmt} (hc : PT X c (tT U W t)) (ha : PSs X a (tS U W ms)) (hb : PSs X b (tS U W mu)) : PS X (.If c a b pos) (tS U W (sIf t ms mu)) :=
  ps_imp (ps_if hc ha hb) fun Dn σ H ⟨M, S, ρ, A, p⟩ => tX.ofS A p fun x S1 M1 H1 k e1 A1 r1 p1 => by
    subst r1
    cases k with
    | true => exact ⟨M1, S1, ρ, A1, p1⟩
    | false => exact ⟨M1, S1, ρ, A1, p1⟩
/-! ### targets -/
abbrev Bd := D → Env → Option Env
/-- but for these slots the same -/
def But (l : List Nat) (σ σ' : L2.St) : Prop := σ'.length = σ.length ∧ ∀ i, i ∉ l → σ'[i]? = σ[i]?
theorem But.refl {l : List Nat} {σ : L2.St} : But l σ σ := ⟨rfl, fun _ _ => rfl⟩
theorem But.trans {l l' : List Nat} {σ σ1 σ2 : L2.St} (a : But l σ σ1) (b : But l' σ1 σ2) : But (l ++ l') σ σ2 := ⟨b.1.trans a.1, fun i hi => (b.2 i fun z => hi (List.mem_append_right _ z)).trans (a.2 i fun z => hi (List.mem_append_left _ z))⟩
theorem But.set {i : Nat} {σ : L2.St} {o : Option V} : But [i] σ (σ.set i o) := ⟨List.length_set, fun j hj => List.getElem?_set_ne fun z => hj (by rw [← z]; exact List.mem_singleton.mpr rfl)⟩
def tG (U : Uv) (l : List Nat) (b : Bd) : TG := fun v σ H Q => ∃ M S ρ d ρ', At U M S ρ σ H ∧ Rep U M H v d ∧ b d ρ = some ρ' ∧ ∀ σ', At U M S ρ' σ' H → But l σ σ' → Q σ' H
theorem pg_imp {tg : Expr} {g g' : TG} (h : PG X tg g) (hi : ∀ v σ H Q, g' v σ H Q → g v σ H Q) : PG X tg g' := ⟨fun pins s σ H v u Q I r q => h.run pins s σ H v u Q I r (hi _ _ _ _ q)⟩
def bName (i : Nat) : Bd := fun d ρ => some (ρ.set i (some d))
theorem g_name (i : Nat) {x : Str} (hN : X.N.Nodup) (hi : X.N[i]? = some x := by rfl) (hx : Loc X.env.scope x := by first | exact Or.inl rfl | exact Or.inr rfl) (hf : X.fn x = true ∨ X.env.scope.names.lookup x = some .local := by first | exact .inl rfl | exact .inr rfl | assumption) (hn : Nf U i := by exact fun _ h => absurd h List.not_mem_nil) : PG X (.Name x pos) (tG U [i] (bName i)) :=
  pg_imp (pg_name hN hi hx hf) fun v σ H Q ⟨M, S, ρ, d, ρ', A, r, e, q⟩ => by
    cases e
    exact q _ (A.set r hn) But.set
abbrev Bds := List D → Env → Option Env
def tGs (U : Uv) (l : List Nat) (b : Bds) : TGs := fun vs σ H Q => ∃ M S ρ ds ρ', At U M S ρ σ H ∧ RepAll U M H vs ds ∧ b ds ρ = some ρ' ∧ ∀ σ', At U M S ρ' σ' H → But l σ σ' → Q σ' H
def bNil : Bds := fun ds ρ => match ds with
  | [] => some ρ
  | _ => none
def bCons (b : Bd) (bs : Bds) : Bds := fun ds ρ => match ds with
  | d :: r => (b d ρ).bind fun ρ' => bs r ρ'
  | [] => none
def bTup (n : Nat) (bs : Bds) : Bd := fun d ρ => match d with
  | .tup ds => if ds.length = n then bs ds ρ else none
  | _ => none
theorem pgs_imp {ts : List Expr} {g g' : TGs} (h : PGs X ts g) (hi : ∀ v σ H Q, g' v σ H Q → g v σ H Q) : PGs X ts g' := ⟨fun pins s σ H v u Q I r q => h.run pins s σ H v u Q I r (hi _ _ _ _ q)⟩
theorem gs_nil : PGs X [] (tGs U [] bNil) := pgs_imp pgs_nil fun vs σ H Q ⟨M, S, ρ, ds, ρ', A, r, e, q⟩ => by
  cases r with
  | nil => cases e; exact ⟨rfl, q _ A But.refl⟩
  | cons _ _ => cases e
theorem gs_cons {tg : Expr} {es : List Expr} {b : Bd} {bs : Bds} {l l' : List Nat} (h1 : PG X tg (tG U l b)) (h2 : PGs X es (tGs U l' bs)) (hs : (assignEach (tg :: es) X.env).map (·.2) = assign tg X.env :: (assignEach es X.env).map (·.2) := by rfl) : PGs X (tg :: es) (tGs U (l ++ l') (bCons b bs)) :=
  pgs_imp (pgs_cons h1 h2 hs) fun vs σ H Q ⟨M, S, ρ, ds, ρ', A, r, e, q⟩ => by
    cases r with
    | nil => cases e
    | @cons v vs d ds h r =>
      change (b d ρ).bind _ = _ at e
      cases q1 : b d ρ with
      | none => rw [q1] at e; cases e
      | some ρ1 =>
        rw [q1] at e
        exact ⟨v, vs, rfl, M, S, ρ, d, ρ1, A, h, q1, fun σ' A' b1 => ⟨M, S, ρ1, ds, ρ', A', r, e, fun σ2 A2 b2 => q σ2 A2 (b1.trans b2)⟩⟩
theorem g_tup {es : List Expr} {k n : Nat} {bs : Bds} {l : List Nat} (h : PGs X es (tGs U l bs)) (hc : X.calm = true := by rfl) (hn : (assignEach es X.env).length = n := by rfl) (hst : (assignEach es X.env).findIdx? (·.1) = none := by rfl) (hK : X.K = U.K := by rfl) : PG X (.Tuple es k pos) (tG U l (bTup n bs)) :=
  pg_imp (pg_tup hc h hn hst) fun v σ H Q ⟨M, S, ρ, d, ρ', A, r, e, q⟩ => by
    cases r with
    | @tup a xs ds ht ra =>
      change (if ds.length = n then bs ds ρ else none) = _ at e
      by_cases hl : ds.length = n
      · rw [if_pos hl] at e
        rw [hK]
        exact ⟨a, xs, rfl, ht.sq, by rw [ra.length]; exact hl, M, S, ρ, ds, ρ', A, ra, e, q⟩
      · rw [if_neg hl] at e; cases e
    | _ => cases e
def sAsg (m : ME) (b : Bd) : MS := fun ρ S => .of (m ρ S) ρ fun d S1 => match b d ρ with
  | some ρ' => .nx ρ' S1
  | none => .stuck
theorem s_asg {tg : Expr} {b : Bd} {l : List Nat} (he : PE X e (tE U W m)) (hg : PG X tg (tG U l b)) (hs : swapsWithSole [tg] e pos.line X.env = pure false := by rfl) (hw : swappedStores [tg] e X.env = pure none := by rfl) (h1 : (assignEach [tg] X.env).map (·.2) = [assign tg X.env] := by rfl) :
    PS X (.Assign [tg] e pos) (tS U W (sAsg m b)) :=
  ps_imp (ps_asg he hg hs hw h1) fun Dn σ H ⟨M, S, ρ, A, p⟩ => tX.ofS A p fun x S1 M1 H1 v e1 A1 r1 p1 => by
    cases q : b x ρ with
    | none => rw [q] at p1; exact p1.elim
    | some ρ' =>
      rw [q] at p1
      exact ⟨M1, S1, ρ, x, ρ', A1, r1, q, fun σ' A' _ => p1 M1 H1 σ' A1.refl A'⟩
def sSet (i : Nat) (m : ME) : MS := fun ρ S => .of (m ρ S) ρ fun d S1 => .nx (ρ.set i (some d)) S1
theorem s_set (i : Nat) {x : Str} {pos' : Pos} (hN : X.N.Nodup) (he : PE X e (tE U W m)) (hi : X.N[i]? = some x := by rfl) (hx : Loc X.env.scope x := by first | exact Or.inl rfl | exact Or.inr rfl) (hs : swapsWith e (some (.Name x pos')) pos.line X.env = pure false := by rfl)
    (hf : X.fn x = true ∨ X.env.scope.names.lookup x = some .local := by first | exact .inl rfl | exact .inr rfl | assumption) (hn : Nf U i := by exact fun _ h => absurd h List.not_mem_nil) : PS X (.Assign [.Name x pos'] e pos) (tS U W (sSet i m)) :=
  ps_imp (ps_set hN hi hx he hs hf) fun Dn σ H ⟨M, S, ρ, A, p⟩ => tX.ofS A p fun x S1 M1 H1 v e1 A1 r1 p1 => p1 M1 H1 _ A1.refl (A1.set r1 hn)
/-- a, b = e1, e2 -/
def sPar (i j : Nat) (ms : MA) : MS := fun ρ S => .of (ms ρ S) ρ fun ds S1 => match ds with
  | [d, e] => .nx ((ρ.set i (some d)).set j (some e)) S1
  | _ => .stuck
theorem s_par (i j : Nat) {x y : Str} {a b : Expr} {ma : MA} {px py pt : Pos} {kt k2 : Nat} {pt2 : Pos} (hN : X.N.Nodup) (ha : PA X [a, b] (tA U W ma)) (hc : X.calm = true := by rfl) (hi : X.N[i]? = some x := by rfl) (hj : X.N[j]? = some y := by rfl) (hij : i ≠ j := by decide)
    (hx : X.env.scope.names.lookup x = some .local := by rfl) (hy : X.env.scope.names.lookup y = some .local := by rfl)
    (hw : swappedStores [.Tuple [.Name x px, .Name y py] kt pt] (.Tuple [a, b] k2 pt2) X.env = pure (some [x, y]) := by rfl)
    (hs : swapsWithSole [.Tuple [.Name x px, .Name y py] kt pt] (.Tuple [a, b] k2 pt2) pos.line X.env = pure false := by rfl) (hn : Nf U i := by exact fun _ h => absurd h List.not_mem_nil) (hn2 : Nf U j := by exact fun _ h => absurd h List.not_mem_nil) :
    PS X (.Assign [.Tuple [.Name x px, .Name y py] kt pt] (.Tuple [a, b] k2 pt2) pos) (tS U W (sPar i j ma)) :=
  ps_imp (ps_par hc hN hi hj hij hx hy ha hw hs) fun Dn σ H ⟨M, S, ρ, A, p⟩ => tX.ofS A p fun ds S1 M1 H1 vs e1 A1 r1 p1 => by
    cases r1 with
    | nil => exact p1.elim
    | cons h1 r1 => cases r1 with
      | nil => exact p1.elim
      | cons h2 r1 => cases r1 with
        | cons _ _ => exact p1.elim
        | nil => exact ⟨_, _, rfl, p1 M1 H1 _ A1.refl ((A1.set h1 hn).set h2 hn2)⟩
/-- o[i] = e, a list of the store -/
def sSub (m mo mi : ME) : MS := fun ρ S => .of (m ρ S) ρ fun d S1 => .of (mo ρ S1) ρ fun o S2 => .of (mi ρ S2) ρ fun i S3 => match o, i with
  | .obj n, .int k => match S3[n]? with
    | some (.lst xs) => match ixN xs.length k with
      | some j => .nx ρ (S3.set n (.lst (xs.set j d)))
      | none => .stuck
    | _ => .stuck
  | _, _ => .stuck
theorem s_sub {o i : Expr} {mo mi : ME} {pos' : Pos} (he : PE X e (tE U W m)) (ho : PE X o (tE U W mo)) (hi : PE X i (tE U W mi))
    (ha : ∀ v, assign (.Subscript o i pos') X.env v = (do
      let ov ← holding [v] (eval o X.env)
      let iv ← holding [v, ov] (eval i X.env)
      standAt pos'
      holding [v, ov, iv] (setItem ov iv v)
      release [v, ov, iv] []) := by intro _; rfl)
    (hs : swapsWithSole [.Subscript o i pos'] e pos.line X.env = pure false := by rfl) (hw : swappedStores [.Subscript o i pos'] e X.env = pure none := by rfl) (h1 : (assignEach [.Subscript o i pos'] X.env).map (·.2) = [assign (.Subscript o i pos') X.env] := by rfl) :
    PS X (.Assign [.Subscript o i pos'] e pos) (tS U W (sSub m mo mi)) :=
  ps_imp (ps_asg he (pg_sub ho hi set_list ha) hs hw h1) fun Dn σ H ⟨M, S, ρ, A, p⟩ => tX.ofS A p fun d S1 M1 H1 v e1 A1 r1 p1 => tX.ofS A1 p1 fun dO S2 M2 H2 ov e2 A2 r2 p2 => tX.ofS A2 p2 fun dI S3 M3 H3 iv e3 A3 r3 p3 => by
    have r2' := r2.ext e3
    have r1' := (r1.ext e2).ext e3
    cases dO with
    | obj n =>
      cases dI with
      | int k =>
        simp only at p3
        cases q : S3[n]? with
        | none => rw [q] at p3; exact p3.elim
        | some ob =>
          rw [q] at p3
          cases ob with
          | ins c fs => exact p3.elim
          | dK _ => exact p3.elim
          | dN _ => exact p3.elim
          | dF _ => exact p3.elim
          | xc _ _ => exact p3.elim
          | lst xs =>
            simp only at p3
            obtain ⟨a, vs, rfl, hH, ra, ea, hn⟩ := r2'.objL A3.r q
            cases q2 : ixN xs.length k with
            | none => rw [q2] at p3; exact p3.elim
            | some j =>
              rw [q2] at p3
              refine ⟨a, vs, k, j, rfl, r3.intV, hH, by rw [ra.length]; exact q2, ?_⟩
              subst ea
              have ex := A3.r.extSet (o := .lst (vs.set j v)) hn (nofrz hH fun _ _ z => nomatch z)
              have R3 := A3.r.set (o := .lst (vs.set j v)) (ob := .lst (xs.set j d)) hn (nofrz hH fun _ _ z => nomatch z) ⟨_, upd_same, (ra.set r1' j).ext ex⟩
              exact p3 M3 _ _ ex (A3.ext ex R3)
      | _ => exact p3.elim
    | _ => exact p3.elim
/-- xs.append(e), a list of the store -/
def sApp (mo m : ME) : MS := fun ρ S => .of (mo ρ S) ρ fun o S1 => match o with
  | .obj n => match S1[n]? with
    | some (.lst _) => .of (m ρ S1) ρ fun d S2 => match S2[n]? with
      | some (.lst xs) => if xs.length < lim then .nx ρ (S2.set n (.lst (xs ++ [d]))) else .stuck
      | _ => .stuck
    | _ => .stuck
  | _ => .stuck
theorem s_app {o : Expr} {mo : ME} {apos cpos : Pos} (ho : PE X o (tE U W mo)) (he : PE X e (tE U W m)) (hK : X.K = U.K := by rfl)
    (hbase : attributeBase o "append" X.env (eval o X.env) = eval o X.env := by rfl) (hfew : ((backTo cpos (starEach [e] X.env)).all (fun x => !x.1) && (backToKw cpos (keywordEach [] X.env)).all (fun x => x.1.isSome)
      && decide ([e].length + ([] : List Keyword).length + (if ([] : List Keyword).isEmpty then 0 else 1) < 30)) = true := by rfl)
    (hline : (apos.endLine == cpos.line) = true := by rfl) (hst : starEach [e] X.env = (false, eval e X.env) :: starEach [] X.env := by rfl) (hpl : (backTo cpos (starEach [] X.env)).any (·.1) = false := by rfl)
    (hs : swapsWith (.Call (.Attribute o "append" apos) [e] [] cpos) none pos.line X.env = pure false := by rfl) : PS X (.Expr (.Call (.Attribute o "append" apos) [e] [] cpos) pos) (tS U W (sApp mo m)) :=
  ps_imp (ps_expr (pe_bm PySem.F.plainAttrs_list PySem.F.slot_list_append PySem.F.type_list_append mt_append ho (pa_cons he pa_nil hst) hbase hfew hline hst hpl) hs) fun Dn σ H ⟨M, S, ρ, A, p⟩ => tX.ofS A p fun dO S1 M1 H1 ov e1 A1 r1 p1 => by
    cases r1 with
    | @obj n hn1 =>
      simp only at p1
      cases q1 : S1[n]? with
      | none => rw [q1] at p1; exact p1.elim
      | some ob1 =>
        rw [q1] at p1
        cases ob1 with
        | ins c fs => exact p1.elim
        | dK _ => exact p1.elim
        | dN _ => exact p1.elim
        | dF _ => exact p1.elim
        | xc _ _ => exact p1.elim
        | lst xs1 =>
          obtain ⟨vs1, hH1, _⟩ := A1.r.at_ _ _ q1
          refine ⟨.inl ⟨rfl, vs1, .inl (.inl hH1)⟩, ?_⟩
          refine tX.ofS A1 p1 fun d S2 M2 H2 v e2 A2 r2 p2 => ?_
          cases q : S2[n]? with
          | none => rw [q] at p2; exact p2.elim
          | some ob =>
            rw [q] at p2
            cases ob with
            | ins c fs => exact p2.elim
            | dK _ => exact p2.elim
            | dN _ => exact p2.elim
            | dF _ => exact p2.elim
            | xc _ _ => exact p2.elim
            | lst xs =>
              simp only at p2
              have hn2 : n < M2.n := Nat.lt_of_lt_of_le hn1 e2.le
              obtain ⟨vs, hH, ra⟩ := A2.r.at_ _ _ q
              by_cases hl : xs.length < lim
              · rw [if_pos hl] at p2
                rw [← e2.same n hn1]
                have hl2 : vs.length < sizeLine := by
                  rw [ra.length]
                  exact Nat.lt_of_lt_of_le hl (lim_line (Nat.le_refl _))
                refine ⟨_, vs, v, rfl, rfl, hH, hl2, ?_⟩
                have ex := A2.r.extSet (o := .lst (vs ++ [v])) hn2 (nofrz hH fun _ _ z => nomatch z)
                have R3 := A2.r.set (o := .lst (vs ++ [v])) (ob := .lst (xs ++ [d])) hn2 (nofrz hH fun _ _ z => nomatch z) ⟨_, upd_same, (ra.append (.cons r2 .nil)).ext ex⟩
                exact p2 M2 _ _ ex (A2.ext ex R3)
              · rw [if_neg hl] at p2; exact p2.elim
    | _ => exact p1.elim
end
end DL
/-! DL4: what is walked, for loops, list comprehensions. -/
namespace DL
open PySem L2

/-- a walk that gives these items -/
structure Yields (U : Uv) (M : Mp) (H : Hp) (J : It) (ds : List D) : Prop where
  go : ∀ M' S' H' k, Mv M H M' H' → R U M' S' H' → k < ds.length → J.go k H'
  yld : ∀ M' S' H' k x H'', Mv M H M' H' → R U M' S' H' → k < ds.length → J.yld k H' x H'' → ∃ d, ds[k]? = some d ∧ Ext M' H' M' H'' ∧ R U M' S' H'' ∧ Rep U M' H'' x d
  stop : ∀ M' S' H', Mv M H M' H' → R U M' S' H' → J.stop ds.length H'
abbrev MI := Env → Sto → Out (List D)
abbrev tI (U : Uv) (W : WX) (m : MI) : TI := tX U (Yields U) W m
section
variable {U : Uv} {M M1 : Mp} {S S1 : Sto} {H H1 : Hp}
theorem Yields.ext {J : It} {ds : List D} (e : Ext M H M1 H1) (y : Yields U M H J ds) : Yields U M1 H1 J ds :=
  ⟨fun M' S' H' k f => y.go M' S' H' k (e.mv.trans f), fun M' S' H' k x H'' f => y.yld M' S' H' k x H'' (e.mv.trans f), fun M' S' H' f => y.stop M' S' H' (e.mv.trans f)⟩
theorem yields_list {a : Addr} {xs : List V} {ds : List D} (h : ∀ M' H', Mv M H M' H' → SqL U.K H' a xs) (ra : RepAll U M H xs ds) : Yields U M H (Itl U.K a) ds where
  go := fun M' S' H' k f r hk => by
    have hk' : k < xs.length := by rw [ra.length]; exact hk
    exact ⟨xs, _, h M' H' f, List.getElem?_eq_getElem hk'⟩
  yld := fun M' S' H' k x H'' f r hk hy => by
    obtain ⟨rfl, hy⟩ := hy
    obtain ⟨d, h1, h2⟩ := (ra.mv f).getV (hy xs (h M' _ f))
    exact ⟨d, h1, r.refl, r, h2⟩
  stop := fun M' S' H' f r => ⟨xs, h M' H' f, by rw [ra.length]; exact Nat.le_refl _⟩
theorem yields_tup {a : Addr} {xs : List V} {ds : List D} (h : TupAt U.K M H a xs) (ra : RepAll U M H xs ds) : Yields U M H (Itt U.K a) ds where
  go := fun M' S' H' k f r hk => by
    have hk' : k < xs.length := by rw [ra.length]; exact hk
    exact ⟨xs, _, (h.mv f).sq, List.getElem?_eq_getElem hk'⟩
  yld := fun M' S' H' k x H'' f r hk hy => by
    obtain ⟨rfl, hy⟩ := hy
    obtain ⟨d, h1, h2⟩ := (ra.mv f).getV (hy xs (h.mv f).sq)
    exact ⟨d, h1, r.refl, r, h2⟩
  stop := fun M' S' H' f r => ⟨xs, (h.mv f).sq, by rw [ra.length]; exact Nat.le_refl _⟩
def rangeD (lo : Int) (n : Nat) : List D := (List.range n).map fun i => .int (lo + (i : Nat))
theorem rangeD_length (lo : Int) (n : Nat) : (rangeD lo n).length = n := by unfold rangeD; rw [List.length_map, List.length_range]
theorem yields_range (lo : Int) (n : Nat) : Yields U M H (Itr lo n) (rangeD lo n) where
  go := fun M' S' H' k f r hk => by rw [rangeD_length] at hk; exact hk
  yld := fun M' S' H' k x H'' f r hk hy => by
    rw [rangeD_length] at hk
    obtain ⟨rfl, rfl⟩ := hy
    refine ⟨.int (lo + (k : Nat)), ?_, r.refl, r, .int _⟩
    unfold rangeD
    rw [List.getElem?_map, List.getElem?_range hk]
    rfl
  stop := fun M' S' H' f r => by rw [rangeD_length]; exact Nat.le_refl _
def signsD (x : Str) : List D := x.cps.toList.map fun c => .str ⟨#[c]⟩
theorem yields_str (x : Str) : Yields U M H (Its x) (signsD x) where
  go := fun M' S' H' k f r hk => by unfold signsD at hk; rw [List.length_map] at hk; show k < x.cps.size; simpa using hk
  yld := fun M' S' H' k y H'' f r hk hy => by
    obtain ⟨rfl, c, hc, rfl⟩ := hy
    refine ⟨.str ⟨#[c]⟩, ?_, r.refl, r, .str _⟩
    unfold signsD
    have : x.cps.toList[k]? = some c := by simpa using hc
    rw [List.getElem?_map, this]
    rfl
  stop := fun M' S' H' f r => by unfold signsD; rw [List.length_map]; show x.cps.size ≤ x.cps.toList.length; simp
end
theorem pi_imp {X : Cx} {tg e : Expr} {w w' : TI} (h : PI X tg e w) (hi : ∀ σ H R, w' σ H R → w σ H R) : PI X tg e w' := ⟨fun pins s σ H R I q => h.run pins s σ H R I (hi _ _ _ q)⟩
theorem pi_or {X : Cx} {tg e : Expr} {w w' : TI} (h : PI X tg e w) (h' : PI X tg e w') : PI X tg e (fun σ H R => w σ H R ∨ w' σ H R) := ⟨fun pins s σ H R I q => q.elim (h.run pins s σ H R I) (h'.run pins s σ H R I)⟩
/-- a list or a tuple (not one of the store's), a text -/
def seqI : D → Option (List D)
  | .tup xs => some xs
  | .lst xs => some xs
  | .fz xs => some xs
  | .str x => some (signsD x)
  | _ => none
def iSeq (m : ME) : MI := fun ρ S => (m ρ S).bind fun x S1 => ofO (seqI x) S1
def iRange1 (m : ME) : MI := fun ρ S => (m ρ S).bind fun x S1 => match x with
  | .int j => if -(2 ^ 62) ≤ j ∧ j < 2 ^ 62 then .ok (rangeD 0 j.toNat) S1 else .stuck
  | _ => .stuck
def iRange2 (ma mb : ME) : MI := fun ρ S => (ma ρ S).bind fun x S1 => (mb ρ S1).bind fun y S2 => match x, y with
  | .int i, .int j => if -(2 ^ 62) ≤ i ∧ i < 2 ^ 62 ∧ -(2 ^ 62) ≤ j ∧ j < 2 ^ 62 then .ok (rangeD i (j - i).toNat) S2 else .stuck
  | _, _ => .stuck
section
variable {X : Cx} {U : Uv} {W : WX} {tg e a b : Expr} {m ma mb : ME} {q pos : Pos}
theorem i_seq (he : PE X e (tE U W m)) (hK : X.K = U.K := by rfl) : PI X tg e (tI U W (iSeq m)) := by
  refine ⟨fun pins s σ H R I h => ?_⟩
  obtain ⟨M, S, ρ, A, p⟩ := h
  -- by what the mirror says it is
  have key : ∀ w : TI, PI X tg e w → w σ H R → wpAny (model X.prog X.w) X.A (eval e X.env) (fun v s1 => wpAny (model X.prog X.w) X.A (pyIter v) (PIE X pins σ tg R) X.xe s1) X.xe s := fun w hw hr => hw.run pins s σ H R I hr
  cases q : m ρ S with
  | stuck =>
    unfold iSeq at p; rw [q] at p; exact p.elim
  | exc x S1 =>
    refine key _ (pi_list he) ⟨M, S, ρ, A, ?_⟩
    unfold iSeq at p
    rw [q] at p ⊢
    exact p
  | ok d S1 =>
    unfold iSeq at p
    rw [q] at p
    have p' : PostX U (Yields U) M H σ W (ofO (seqI d) S1) R := p
    obtain ⟨ds, ed, g⟩ := ofO_post p'
    cases d with
    | tup xs =>
      cases ed
      refine key _ (pi_tup he) ⟨M, S, ρ, A, ?_⟩
      rw [q]
      intro M' H' v ee rr h
      cases h with
      | tup ht ra =>
        rw [hK]
        exact ⟨_, rfl, ⟨_, ht.sq⟩, g M' H' _ ee rr (yields_tup ht ra)⟩
    | lst xs =>
      cases ed
      refine key _ (pi_list he) ⟨M, S, ρ, A, ?_⟩
      rw [q]
      intro M' H' v ee rr h
      cases h with
      | lst ht ra =>
        rw [hK]
        refine ⟨_, rfl, ⟨_, ht.sq⟩, g M' H' _ ee rr ?_⟩
        exact yields_list (fun M2 H2 f => (ht.mv f).sq) ra
    | fz xs =>
      cases ed
      refine key _ (pi_list he) ⟨M, S, ρ, A, ?_⟩
      rw [q]
      intro M' H' v ee rr h
      cases h with
      | fz ht ra =>
        rw [hK]
        refine ⟨_, rfl, ⟨_, ht.sq⟩, g M' H' _ ee rr ?_⟩
        exact yields_list (fun M2 H2 f => (ht.mv f).sq) ra
    | str x =>
      cases ed
      refine key _ (pi_str he) ⟨M, S, ρ, A, ?_⟩
      rw [q]
      intro M' H' v ee rr h
      cases h
      exact ⟨x, rfl, g M' H' _ ee rr (yields_str x)⟩
    | _ => cases ed
theorem i_range1 (hm : X.mg "range" = none) (ha : PE X a (tE U W ma)) (hg : Gl X "range" := by rfl) (hs : starEach [a] X.env = [(false, eval a X.env)] := by rfl) (hs1 : starEach [a] X.env = (false, eval a X.env) :: starEach [] X.env := by rfl) : PI X tg (.Call (.Name "range" q) [a] [] pos) (tI U W (iRange1 ma)) :=
  pi_imp (pi_range1 hg hm (pa_cons ha pa_nil hs1) hs) fun σ H R' ⟨M, S, ρ, A, p⟩ => tX.bind A p fun x S1 M1 H1 v e1 A1 r1 p1 => by
    cases r1 with
    | int j =>
      by_cases hb : -(2 ^ 62) ≤ j ∧ j < 2 ^ 62
      · simp only [if_pos hb] at p1
        exact ⟨j, rfl, hb.1, hb.2, p1 M1 H1 _ A1.refl A1.r (yields_range 0 _)⟩
      · simp only [if_neg hb] at p1; exact p1.elim
    | _ => exact p1.elim
theorem i_range2 (hm : X.mg "range" = none) (ha : PE X a (tE U W ma)) (hb' : PE X b (tE U W mb)) (hg : Gl X "range" := by rfl) (hs : starEach [a, b] X.env = [(false, eval a X.env), (false, eval b X.env)] := by rfl) (hs2 : starEach [b] X.env = [(false, eval b X.env)] := by rfl)
    (h1 : starEach [a, b] X.env = (false, eval a X.env) :: starEach [b] X.env := by rfl) (h2 : starEach [b] X.env = (false, eval b X.env) :: starEach [] X.env := by rfl) : PI X tg (.Call (.Name "range" q) [a, b] [] pos) (tI U W (iRange2 ma mb)) :=
  pi_imp (pi_range2 hg hm (pa_cons ha (pa_cons hb' pa_nil h2) h1) hs hs2) fun σ H R' ⟨M, S, ρ, A, p⟩ => tX.bind A p fun x S1 M1 H1 v e1 A1 r1 p1 => tX.bind A1 p1 fun y S2 M2 H2 w e2 A2 r2 p2 => by
    cases r1 with
    | int i =>
      cases r2 with
      | int j =>
        by_cases hb : -(2 ^ 62) ≤ i ∧ i < 2 ^ 62 ∧ -(2 ^ 62) ≤ j ∧ j < 2 ^ 62
        · simp only [if_pos hb] at p2
          exact ⟨i, j, rfl, hb, p2 M2 H2 _ A2.refl A2.r (yields_range i _)⟩
        · simp only [if_neg hb] at p2; exact p2.elim
      | _ => exact p2.elim
    | _ => cases r2 <;> exact p2.elim
/-! ### for -/
def forL (b : Bd) (body : MS) : List D → MS
  | [], ρ, S => .nx ρ S
  | d :: ds, ρ, S => match b d ρ with
    | none => .stuck
    | some ρ1 => match body ρ1 S with
      | .nx ρ2 S2 => forL b body ds ρ2 S2
      | .ct ρ2 S2 => forL b body ds ρ2 S2
      | .bk ρ2 S2 => .nx ρ2 S2
      | .rt d S2 => .rt d S2
      | .exc e ρ2 S2 => .exc e ρ2 S2
      | .stuck => .stuck
def sFor (src : MI) (b : Bd) (body : MS) : MS := fun ρ S => .of (src ρ S) ρ fun ds S1 => forL b body ds ρ S1
variable {body : List Stmt} {src : MI} {bd : Bd} {mb' : MS} {l : List Nat}
theorem s_for {iter : Expr} (hi : PI X tg iter (tI U W src)) (hg : PG X tg (tG U l bd)) (hb : PSs X body (tS U W mb')) (hp : PassesOwn (model X.prog X.w) X.A X.env X.xe) (hc : X.calm = true := by rfl) (hs : ∀ x, foldedSetIterable iter X.env x = pure x := by intro _; rfl) :
    PS X (.For tg iter body [] pos) (tS U W (sFor src bd mb')) :=
  ps_imp (ps_for hp hc hi hg hb hs) fun Dn σ H ⟨M, S, ρ, A, p⟩ => tX.ofS A p fun ds S1 M1 H1 J e1 A1 y p1 => by
    refine ⟨fun k m σ H => m = ds.length - k ∧ k ≤ ds.length ∧ ∃ M' S' ρ', Ext M1 H1 M' H ∧ At U M' S' ρ' σ H ∧ PostS U M' H W (forL bd mb' (ds.drop k) ρ' S') Dn,
      ⟨_, rfl, Nat.zero_le _, M1, S1, ρ, A1.refl, A1, p1⟩, fun k m σ' H' ⟨em, hk, M', S', ρ', f, A', p'⟩ => ?_⟩
    by_cases hl : k < ds.length
    · have hd : ds.drop k = ds[k] :: ds.drop (k + 1) := List.drop_eq_getElem_cons hl
      rw [hd] at p'
      refine .inr ⟨y.go M' S' H' k f.mv A'.r hl, fun σ2 H2 => ds.length - (k + 1) < m ∧ k + 1 ≤ ds.length ∧ ∃ M2 S2 ρ2, Ext M1 H1 M2 H2 ∧ At U M2 S2 ρ2 σ2 H2 ∧ PostS U M2 H2 W (forL bd mb' (ds.drop (k + 1)) ρ2 S2) Dn,
        fun σ2 H2 ⟨h1, h2, h3⟩ => ⟨_, h1, rfl, h2, h3⟩, fun x H2 hy => ?_⟩
      have hm : ds.length - (k + 1) < m := by omega
      obtain ⟨d, hd2, g, R2, rd⟩ := y.yld M' S' H' k x H2 f.mv A'.r hl hy
      have ed : ds[k] = d := by
        rw [List.getElem?_eq_getElem hl] at hd2
        exact Option.some.inj hd2
      rw [ed] at p'
      have A2 := A'.ext g R2
      have p2 := PostS.ext g p'
      cases q : bd d ρ' with
      | none =>
        simp only [forL, q] at p2
        exact p2.elim
      | some ρ1 =>
        simp only [forL, q] at p2
        refine ⟨M', S', ρ', d, ρ1, A2, rd, q, fun σ3 A3 _ => ⟨M', S', ρ1, A3, ?_⟩⟩
        cases q2 : mb' ρ1 S' with
        | nx ρ2 S2 =>
          rw [q2] at p2
          exact fun M4 H4 σ4 f4 A4 => ⟨hm, hl, M4, S2, ρ2, (f.trans g).trans f4, A4, PostS.ext f4 p2⟩
        | ct ρ2 S2 =>
          rw [q2] at p2
          exact fun M4 H4 σ4 f4 A4 => ⟨hm, hl, M4, S2, ρ2, (f.trans g).trans f4, A4, PostS.ext f4 p2⟩
        | bk ρ2 S2 => rw [q2] at p2; exact p2
        | rt d2 S2 => rw [q2] at p2; exact p2
        | exc e2 ρ2 S2 => rw [q2] at p2; exact p2
        | stuck => rw [q2] at p2; exact p2
    · have ek : k = ds.length := Nat.le_antisymm hk (Nat.le_of_not_lt hl)
      subst ek
      rw [List.drop_length] at p'
      exact .inl ⟨y.stop M' S' H' f.mv A'.r, p' M' H' σ' A'.refl A'⟩
end
/-! ### list comprehensions -/
def Out.bindN {α β : Type} (o : Out α) (f : α → Sto → Out β) : Out β := match o with
  | .ok a S => f a S
  | _ => .stuck
def wipeE (ρ : Env) : List Nat → Env
  | [] => ρ
  | v :: vs => (wipeE ρ vs).set v none
def lcL (b : Bd) (t : MT) (m : ME) (ρ : Env) : List D → List D → Sto → Out (List D)
  | [], acc, S => .ok acc S
  | d :: ds, acc, S => match b d ρ with
    | none => .stuck
    | some ρ1 => (t ρ1 S).bindN fun k S1 => if k = true then (m ρ1 S1).bindN fun x S2 => if acc.length < lim then lcL b t m ρ ds (acc ++ [x]) S2 else .stuck else lcL b t m ρ ds acc S1
def mLcL (src : MI) (b : Bd) (t : MT) (m : ME) (vs : List Nat) : Env → Sto → Out (List D) := fun ρ S => (src ρ S).bind fun ds S1 => lcL b t m (wipeE ρ vs) ds [] S1
def mLc (src : MI) (b : Bd) (t : MT) (m : ME) (vs : List Nat) : ME := fun ρ S => (mLcL src b t m vs ρ S).bind fun xs S1 => .ok (.lst xs) S1
def mYes : MT := fun _ S => .ok true S
abbrev W0 : WX := fun _ _ _ _ => False
section
variable {U : Uv} {M M1 Mq : Mp} {S : Sto} {H H1 H2 : Hp} {σ : L2.St} {ρ : Env} {p : Addr} {vs : List Nat}
theorem At.wipe (a : At U M S ρ σ H) : ∀ vs : List Nat, (∀ i ∈ vs, Nf U i) → At U M S (wipeE ρ vs) (wipe σ vs) H
  | [], _ => a
  | v :: vs, h => (At.wipe a vs fun i hi => h i (List.mem_cons_of_mem _ hi)).unset (h v List.mem_cons_self)
theorem wipe_in {i : Nat} : ∀ {vs : List Nat}, i ∈ vs → (wipe σ vs)[i]? = if i < σ.length then some none else none
  | v :: vs, h => by
    unfold wipe
    by_cases e : v = i
    · subst e
      by_cases hl : v < σ.length
      · rw [if_pos hl, List.getElem?_set_self (by rw [wipe_length]; exact hl)]
      · rw [if_neg hl, List.getElem?_eq_none (by rw [List.length_set, wipe_length]; exact Nat.le_of_not_lt hl)]
    · rw [List.getElem?_set_ne e]
      exact wipe_in ((List.mem_cons.mp h).resolve_left fun z => e z.symm)
theorem wipe_but {σ' : L2.St} {l : List Nat} (b : But l (wipe σ vs) σ') (h : ∀ i ∈ l, i ∈ vs) : wipe σ' vs = wipe σ vs := by
  apply List.ext_getElem?
  intro i
  by_cases hi : i ∈ vs
  · rw [wipe_in hi, wipe_in hi, b.1, wipe_length]
  · rw [wipe_out hi, b.2 i fun z => hi (h i z)]
theorem mvPriv (e : Ext M1 H1 Mq H) (hp : H1 p = none) : Mv M1 H1 (Mq.priv p) H := ⟨e.le, e.same, fun a o h n => ⟨e.keep a o h (Mp.nob n), fun z => by
  rcases priv_has.mp z with z | z | z
  · exact e.nob h (Mp.nob n) z
  · exact ne_of_none h hp z
  · exact n (.inr (by rw [← e.pr]; exact z))⟩, e.frz⟩
theorem extWrite {o : HO} (e : Ext M1 H1 Mq H) (hp : H1 p = none) (hn : ¬ Mq.ob p) : Ext M1 H1 Mq (upd H p o) := ⟨e.le, e.same, e.fresh, fun a u h n => by rw [upd_ne (ne_of_none h hp)]; exact e.keep a u h n, fun i hi => by
  obtain ⟨u, hu⟩ := e.live i hi
  exact ⟨u, by rw [upd_ne fun z => hn ⟨i, hi, z⟩]; exact hu⟩, e.pr, fun a o u h => by rw [upd_ne (ne_of_none h hp)]; exact e.frz a o u h⟩
theorem Ext.unpriv {M' : Mp} {H' : Hp} (e : Ext (M.priv p) H M' H') : ∃ M2, M' = Mp.priv M2 p ∧ Ext M H M2 H' := by
  obtain ⟨at', n', pr'⟩ := M'
  have epr : pr' = p :: M.pr := e.pr
  subst epr
  exact ⟨⟨at', n', M.pr⟩, rfl, ⟨e.le, e.same, e.fresh, e.keep, e.live, rfl, e.frz⟩⟩
end
section
variable {X : Cx} {U : Uv} {W : WX} {src : MI} {bd : Bd} {mt : MT} {me : ME} {vs l : List Nat}
theorem lc_post (hl : ∀ i ∈ l, i ∈ vs) (hn : ∀ i ∈ vs, Nf U i) {σ : L2.St} {H : Hp} {Q : VK} (h : tE U W (mLc src bd mt me vs) σ H Q) : tLc (tI U W src) (tG U l bd) (tT U W0 mt) (tE U W0 me) vs σ H Q := by
  obtain ⟨M, S, ρ, A, p⟩ := h
  have p' : PostX U (Rep U) M H σ W ((src ρ S).bind fun ds S1 => (lcL bd mt me (wipeE ρ vs) ds [] S1).bind fun xs S2 => .ok (.lst xs) S2) Q := by
    unfold mLc mLcL at p
    cases q : src ρ S with
    | ok a S1 => rw [q] at p; exact p
    | exc x S1 => rw [q] at p; exact p
    | stuck => rw [q] at p; exact p
  refine tX.bind A p' fun ds S1 M1 H1 J e1 A1 y p1 => fun D hD => ?_
  refine ⟨fun k m H => m = ds.length - k ∧ k ≤ ds.length ∧ ∃ Mq S' acc accD, Ext M1 H1 Mq H ∧ R U (Mq.priv D) S' H ∧ H D = some (.lst acc) ∧ RepAll U (Mq.priv D) H acc accD ∧ SlotRep U (Mq.priv D) H (wipe σ vs) (wipeE ρ vs) ∧
      PostX U (Rep U) M1 H1 σ W ((lcL bd mt me (wipeE ρ vs) (ds.drop k) accD S').bind fun xs S2 => .ok (.lst xs) S2) Q,
    ⟨_, rfl, Nat.zero_le _, M1, S1, [], [], A1.r.extNew hD, A1.r.priv hD, upd_same, .nil, fun i d h => ?_, p1⟩, fun k m H3 ⟨em, hk, Mq, S', acc, accD, f, R3, hHD, ra, sl, p3⟩ => ?_⟩
  · obtain ⟨v, h1, h2⟩ := (A1.wipe vs hn).sl i d h
    exact ⟨v, h1, h2.mv (Mv.priv hD)⟩
  have hnob : ∀ {M' : Mp} {S' : Sto} {H' : Hp}, R U (M'.priv D) S' H' → ¬ M'.ob D := fun r => r.prn D List.mem_cons_self
  by_cases hlt : k < ds.length
  · have hd : ds.drop k = ds[k] :: ds.drop (k + 1) := List.drop_eq_getElem_cons hlt
    rw [hd] at p3
    have mv3 : Mv M1 H1 (Mq.priv D) H3 := mvPriv f hD
    refine .inr ⟨y.go _ S' H3 k mv3 R3 hlt, fun H4 => ds.length - (k + 1) < m ∧ k + 1 ≤ ds.length ∧ ∃ Mq S' acc accD, Ext M1 H1 Mq H4 ∧ R U (Mq.priv D) S' H4 ∧ H4 D = some (.lst acc) ∧ RepAll U (Mq.priv D) H4 acc accD ∧ SlotRep U (Mq.priv D) H4 (wipe σ vs) (wipeE ρ vs) ∧
      PostX U (Rep U) M1 H1 σ W ((lcL bd mt me (wipeE ρ vs) (ds.drop (k + 1)) accD S').bind fun xs S2 => .ok (.lst xs) S2) Q,
      fun H4 ⟨h1, h2, h3⟩ => ⟨_, h1, rfl, h2, h3⟩, fun x H4 hy => ?_⟩
    have hm : ds.length - (k + 1) < m := by omega
    obtain ⟨d, hd2, g, R4, rd⟩ := y.yld _ S' H3 k x H4 mv3 R3 hlt hy
    have ed : ds[k] = d := by
      rw [List.getElem?_eq_getElem hlt] at hd2
      exact Option.some.inj hd2
    rw [ed] at p3
    obtain ⟨Mx, ex, g'⟩ := g.unpriv
    have eMx : Mx = Mq := by
      obtain ⟨a1, n1, q1⟩ := Mx
      obtain ⟨a2, n2, q2⟩ := Mq
      unfold Mp.priv at ex
      injection ex with e1 e2 e3
      injection e3 with _ e3
      subst e1 e2 e3; rfl
    subst eMx
    have A4 : At U (Mx.priv D) S' (wipeE ρ vs) (wipe σ vs) H4 := ⟨R4, sl.ext g, (A1.wipe vs hn).len, (A1.wipe vs hn).fx⟩
    cases q : bd d (wipeE ρ vs) with
    | none =>
      simp only [lcL, q] at p3
      exact p3.elim
    | some ρ1 =>
      simp only [lcL, q] at p3
      refine ⟨Mx.priv D, S', wipeE ρ vs, d, ρ1, A4, rd, q, fun σ5 A5 b5 => ⟨wipe_but b5 hl, ?_⟩⟩
      refine ⟨Mx.priv D, S', ρ1, A5, ?_⟩
      cases q2 : mt ρ1 S' with
      | exc e S6 => rw [q2] at p3; exact p3.elim
      | stuck => rw [q2] at p3; exact p3.elim
      | ok kk S6 =>
        rw [q2] at p3
        intro M6 H6 b e6 R6 eb
        have eb' : b = kk := eb
        subst eb'
        obtain ⟨Mq6, em6, f6⟩ := e6.unpriv
        subst em6
        have f16 := (f.trans g').trans f6
        have e36 := g.trans e6
        have hD6 : H6 D = some (.lst acc) := e36.keep _ _ hHD (R3.prn D List.mem_cons_self)
        have p6 := p3
        cases b with
        | false =>
          rw [if_neg (by decide)]
          exact ⟨hm, hlt, Mq6, S6, acc, accD, f16, R6, hD6, ra.ext e36, sl.ext e36, p6⟩
        | true =>
          rw [if_pos rfl]
          refine ⟨Mq6.priv D, S6, ρ1, A5.ext e6 R6, ?_⟩
          change PostX U (Rep U) M1 H1 σ W (((me ρ1 S6).bindN fun x S2 => if accD.length < lim then lcL bd mt me (wipeE ρ vs) (ds.drop (k + 1)) (accD ++ [x]) S2 else .stuck).bind fun xs S2 => .ok (.lst xs) S2) Q at p6
          cases q7 : me ρ1 S6 with
          | exc e S7 => rw [q7] at p6; exact p6.elim
          | stuck => rw [q7] at p6; exact p6.elim
          | ok z S7 =>
            rw [q7] at p6
            intro M7 H7 v7 e7 R7 r7
            obtain ⟨Mq7, em7, f7⟩ := e7.unpriv
            subst em7
            have hD7 : H7 D = some (.lst acc) := e7.keep _ _ hD6 (R6.prn D List.mem_cons_self)
            have e37 := e36.trans e7
            by_cases hlim : accD.length < lim
            · have p7 : PostX U (Rep U) M1 H1 σ W ((lcL bd mt me (wipeE ρ vs) (ds.drop (k + 1)) (accD ++ [z]) S7).bind fun xs S2 => .ok (.lst xs) S2) Q := by
                change PostX U (Rep U) M1 H1 σ W ((if accD.length < lim then lcL bd mt me (wipeE ρ vs) (ds.drop (k + 1)) (accD ++ [z]) S7 else .stuck).bind _) Q at p6
                rw [if_pos hlim] at p6; exact p6
              have hpr : D ∈ (Mq7.priv D).pr := List.mem_cons_self
              have f17 := f16.trans f7
              refine ⟨acc, hD7, ?_, hm, hlt, Mq7, S7, acc ++ [v7], accD ++ [z], extWrite f17 hD (hnob R7), R7.write hpr hD7, upd_same, ((ra.ext e37).append (.cons r7 .nil)).mv (Mv.write hpr hD7), fun i d h => ?_, p7⟩
              · rw [(ra.ext e37).length]
                exact Nat.lt_of_lt_of_le hlim (lim_line (Nat.le_refl _))
              · obtain ⟨v, h1, h2⟩ := sl i d h
                exact ⟨v, h1, (h2.ext e37).mv (Mv.write hpr hD7)⟩
            · change PostX U (Rep U) M1 H1 σ W ((if accD.length < lim then lcL bd mt me (wipeE ρ vs) (ds.drop (k + 1)) (accD ++ [z]) S7 else .stuck).bind _) Q at p6
              rw [if_neg hlim] at p6; exact p6.elim
  · have ek : k = ds.length := Nat.le_antisymm hk (Nat.le_of_not_lt hlt)
    subst ek
    rw [List.drop_length] at p3
    refine .inl ⟨y.stop _ S' H3 (mvPriv f hD) R3, ?_⟩
    have hnh : ¬ Mq.has D := fun z => z.elim (hnob R3) fun z => by
      rw [f.pr] at z
      obtain ⟨u, hu⟩ := A1.r.prl D z
      rw [hD] at hu; cases hu
    exact p3 Mq H3 _ f R3.unpriv (.lst ⟨hHD, hnh⟩ (ra.mv Mv.unpriv))
end
end DL
/-! DL5: comprehensions, calls of defs, the rule for a def. -/
namespace DL
open PySem L2
section
variable {X : Cx} {U : Uv} {W : WX} {src : MI} {bd : Bd} {mt : MT} {me : ME} {l : List Nat}
/-- [elt for tg in iter if ..] -/
theorem e_lc {elt tg iter : Expr} {ifs : List Expr} {scope : Scope} (own : List (Str × Nat)) {pos : Pos} (hN : X.N.Nodup) (hi : PI X tg iter (tI U W src)) (ok : BlkOk X.N X.env.scope scope own)
    (hg : ∀ (s : Shared) (H : Hp) (C : Addr) (cl : List (Str × Addr)) (fp : List Addr), PG (X.blk s H scope (compEnvC scope cl C X.env) fp) tg (tG U l bd)) (ht : ∀ (s : Shared) (H : Hp) (C : Addr) (cl : List (Str × Addr)) (fp : List Addr), PTs (X.blk s H scope (compEnvC scope cl C X.env) fp) ifs (tT U W0 mt))
    (he : ∀ (s : Shared) (H : Hp) (C : Addr) (cl : List (Str × Addr)) (fp : List Addr), PE (X.blk s H scope (compEnvC scope cl C X.env) fp) elt (tE U W0 me)) (hc : X.calm = true := by rfl) (hl : ∀ i ∈ l, i ∈ own.map (·.2) := by decide) (hn : ∀ i ∈ own.map (·.2), Nf U i := by exact fun _ _ _ h => absurd h List.not_mem_nil)
    (hs : ∀ x, foldedSetIterable iter X.env x = pure x := by intro _; rfl) : PE X (.ListComp elt [⟨tg, iter, ifs, 0⟩] scope pos) (tE U W (mLc src bd mt me (own.map (·.2)))) :=
  pe_imp (pe_lc hc hN hi ok hg ht he hs) fun σ H Q h => lc_post hl hn h
theorem ts_nil : PTs X [] (tT U W mYes) := ⟨fun pins s σ H Q I h => by
  obtain ⟨M, S, ρ, A, p⟩ := h
  exact pts_nil.run pins s σ H Q I (p M H true A.refl A.r rfl)⟩
theorem ts_one {c : Expr} (h : PT X c (tT U W mt)) : PTs X [c] (tT U W mt) := pts_one h
/-- y = [..], on one line -/
theorem s_setLc (i : Nat) {y : Str} {py : Pos} {elt tg iter : Expr} {ifs : List Expr} {scope : Scope} (own : List (Str × Nat)) {pos spos : Pos} (hN : X.N.Nodup) (hi : PI X tg iter (tI U W src)) (ok : BlkOk X.N X.env.scope scope own)
    (hg : ∀ (s : Shared) (H : Hp) (C : Addr) (cl : List (Str × Addr)) (fp : List Addr), PG (X.blk s H scope (compEnvC scope cl C X.env) fp) tg (tG U l bd)) (ht : ∀ (s : Shared) (H : Hp) (C : Addr) (cl : List (Str × Addr)) (fp : List Addr), PTs (X.blk s H scope (compEnvC scope cl C X.env) fp) ifs (tT U W0 mt))
    (he : ∀ (s : Shared) (H : Hp) (C : Addr) (cl : List (Str × Addr)) (fp : List Addr), PE (X.blk s H scope (compEnvC scope cl C X.env) fp) elt (tE U W0 me)) (hc : X.calm = true := by rfl) (hy : X.N[i]? = some y := by rfl) (hyl : X.env.scope.names.lookup y = some .local := by rfl)
    (hk : X.env.scope.kind = .function := by rfl) (hln : (py.line == pos.line) = true := by rfl) (ha : (scope.names.any fun (n, k) => n == y && (k == .local || k == .cell)) = false := by rfl)
    (hl : ∀ i ∈ l, i ∈ own.map (·.2) := by decide) (hn : ∀ i ∈ own.map (·.2), Nf U i := by exact fun _ _ _ h => absurd h List.not_mem_nil) (hn2 : Nf U i := by exact fun _ h => absurd h List.not_mem_nil)
    (hs : ∀ x, foldedSetIterable iter X.env x = pure x := by intro _; rfl) : PS X (.Assign [.Name y py] (.ListComp elt [⟨tg, iter, ifs, 0⟩] scope pos) spos) (tS U W (sSet i (mLc src bd mt me (own.map (·.2))))) :=
  ps_imp (ps_setLc hc hN hy hyl (sw_true hk hyl hln ha) hi ok hg ht he hs) fun Dn σ H ⟨M, S, ρ, A, p⟩ => by
    refine lc_post (U := U) (W := W) hl hn (tX.ofS A p fun x S1 M1 H1 v e1 A1 r1 p1 => ?_)
    exact p1 M1 H1 _ A1.refl (A1.set r1 hn2)
end
/-! ### what a def does: its mirror -/
abbrev Mi := List D → Sto → Out D
def spF (U : Uv) (np : Nat) (F : Mi) : Sp := fun vs H Q E => ∃ M S ds, R U M S H ∧ RepAll U M H vs ds ∧ ds.length = np ∧ PostX U (Rep U) M H [] (fun cv dd _ H' => E cv dd H') (F ds S) Q
def mCall (F : Mi) (ms : MA) : ME := fun ρ S => (ms ρ S).bind F
section
variable {U : Uv} {W : WX} {M : Mp} {S : Sto} {H : Hp} {σ : L2.St} {ds : List D} {vs : List V} {Q : VK} {np : Nat} {F : Mi}
theorem sp_in (r : R U M S H) (ra : RepAll U M H vs ds) (hl : ds.length = np) (p : PostX U (Rep U) M H σ W (F ds S) Q) : spF U np F vs H Q (fun cv dd H' => W cv dd σ H') := by
  refine ⟨M, S, ds, r, ra, hl, ?_⟩
  revert p
  cases F ds S <;> exact fun p => p
end
/-- a def that does what F does -/
structure Does (P : Program) (w : World) (K : PySem.W.Frag) (mg : Str → Option Value) (base : Heap) (U : Uv) (k : Nat) (x : Str) (f : Addr) (fd : FuncData) (ps : List Str) (F : Mi) : Prop where
  fn : FnOk P w K mg base (L2N.CX P w) k f fd ps (spF U ps.length F)
  mg_ : mg x = some (.ref f)
  kp : PySem.W.keepIn K (.ref f) = true
  b : Binds K fd ps []
/-- these, in another order -/
def pick {α : Type} : List Nat → List α → Option (List α)
  | [], _ => some []
  | i :: is, l => match l[i]?, pick is l with
    | some x, some r => some (x :: r)
    | _, _ => none
theorem vals_getD {vs : List V} {us : List Value} (r : Vals vs us) : ∀ {i : Nat} {x : V}, vs[i]? = some x → ∃ u, us[i]? = some u ∧ RelV x u := by
  induction r with
  | nil => intro i x q; simp at q
  | cons h1 h2 ih =>
    intro i x q
    cases i with
    | zero => simp at q; subst q; exact ⟨_, rfl, h1⟩
    | succ i => simp at q; exact ih q
theorem pick_rel {vs : List V} {us : List Value} (r : Vals vs us) : ∀ {is : List Nat} {ws : List V}, pick is vs = some ws → ∃ zs, pick is us = some zs ∧ Vals ws zs
  | [], _, h => by cases h; exact ⟨[], rfl, .nil⟩
  | i :: is, ws, h => by
    unfold pick at h
    cases q : vs[i]? with
    | none => rw [q] at h; cases h
    | some x =>
      cases q2 : pick is vs with
      | none => rw [q, q2] at h; cases h
      | some rr =>
        rw [q, q2] at h
        cases h
        obtain ⟨u, h1, h2⟩ : ∃ u, us[i]? = some u ∧ RelV x u := by
          clear q2
          exact vals_getD r q
        obtain ⟨zs, h3, h4⟩ := pick_rel r q2
        exact ⟨u :: zs, by unfold pick; rw [h1, h3], .cons h2 h4⟩
theorem pick_repA {U : Uv} {M : Mp} {H : Hp} {vs : List V} {ds : List D} (r : RepAll U M H vs ds) : ∀ {is : List Nat} {es : List D}, pick is ds = some es → ∃ ws, pick is vs = some ws ∧ RepAll U M H ws es
  | [], _, h => by cases h; exact ⟨[], rfl, .nil⟩
  | i :: is, es, h => by
    unfold pick at h
    cases q : ds[i]? with
    | none => rw [q] at h; cases h
    | some x =>
      cases q2 : pick is ds with
      | none => rw [q, q2] at h; cases h
      | some rr =>
        rw [q, q2] at h
        cases h
        obtain ⟨u, h1, h2⟩ := r.get q
        obtain ⟨zs, h3, h4⟩ := pick_repA r q2
        exact ⟨u :: zs, by unfold pick; rw [h1, h3], .cons h2 h4⟩
/-- how a call with n positional values and keywords named ks binds -/
def KwB (K : PySem.W.Frag) (fd : FuncData) (ps ks : List Str) (n : Nat) (is : List Nat) : Prop :=
  ∀ (s : Shared) (us ws zs : List Value), K.In s.heap → us.length = n → ws.length = ks.length → pick is (us ++ ws) = some zs → BindsTo s fd ⟨us, ks.zip ws⟩ (ps.zip zs)
section
variable {X : Cx} {U : Uv} {W : WX} {k j np : Nat} {F : Mi} {x : Str} {e : Expr} {es : List Expr} {ms : MA} {p pos : Pos} {f : Addr} {fd : FuncData} {ps ks : List Str}
/-- x(e, ..), as many arguments as parameters -/
theorem e_call (G : Does X.prog X.w X.K X.mg X.base U k x f fd ps F) (tk : L2N.Takes X W) (hr : Room j X.A) (ha : PA X (e :: es) (tA U W ms)) (hn : ∀ ρ S ds S1, ms ρ S = .ok ds S1 → ds.length = ps.length) (hk : k ≤ j := by decide) (hg : Gl X x := by rfl) (hdb : (x == ("__debug__" : Str)) = false := by decide)
    (he : starEach (e :: es) X.env = (false, eval e X.env) :: starEach es X.env := by rfl) (hpl : (backTo pos (starEach es X.env)).any (·.1) = false := by rfl) : PE X (.Call (.Name x p) (e :: es) [] pos) (tE U W (mCall F ms)) := by
  refine pe_imp (pe_callS G.fn (hr.mono hk) hg G.mg_ G.kp G.b (fun σ => L2N.passAt tk σ) ha hdb he hpl) fun σ H Q ⟨M, S, ρ, A, q⟩ => ⟨M, S, ρ, A, ?_⟩
  show PostX U (RepAll U) M H σ W (ms ρ S) _
  have q : PostX U (Rep U) M H σ W ((ms ρ S).bind F) Q := q
  cases e1 : ms ρ S with
  | ok ds S1 =>
    rw [e1] at q
    exact fun M' H' vs ex r ra => sp_in r ra (hn _ _ _ _ e1) (PostX.ext ex q)
  | exc x S1 => rw [e1] at q; exact q
  | stuck => rw [e1] at q; exact q
theorem len_nil : ∀ (ρ : Env) (S : Sto) (ds : List D) (S1 : Sto), aNil ρ S = .ok ds S1 → ds.length = 0 := fun _ _ _ _ h => by cases h; rfl
theorem len_cons {m : ME} {ms : MA} {n : Nat} (hr : ∀ ρ S ds S1, ms ρ S = .ok ds S1 → ds.length = n) : ∀ ρ S ds S1, aCons m ms ρ S = .ok ds S1 → ds.length = n + 1 := fun ρ S ds S1 h => by
  unfold aCons at h
  cases e1 : m ρ S with
  | ok d S2 =>
    rw [e1] at h
    change (ms ρ S2).bind _ = _ at h
    cases e2 : ms ρ S2 with
    | ok es S3 =>
      rw [e2] at h
      cases h
      rw [List.length_cons, hr _ _ _ _ e2]
    | _ => rw [e2] at h; cases h
  | _ => rw [e1] at h; cases h
/-- x() -/
theorem e_call0 (G : Does X.prog X.w X.K X.mg X.base U k x f fd [] F) (tk : L2N.Takes X W) (hr : Room j X.A) (hk : k ≤ j := by decide) (hg : Gl X x := by rfl) (hdb : (x == ("__debug__" : Str)) = false := by decide) : PE X (.Call (.Name x p) [] [] pos) (tE U W (mCall F aNil)) := by
  refine ⟨fun pins s σ H Q I h => ?_⟩
  obtain ⟨M, S, ρ, A, q⟩ := h
  refine wpAny_Call_Name_kw (ld_glob I hg G.mg_ ?_ hdb)
  exact PySem.W.callWith_K0 I.kIn G.kp (run_fnS (E := WE W) (us := []) G.fn (hr.mono hk) G.b (L2N.passAt tk σ) I .nil (sp_in A.r .nil rfl q))
/-- x(.., k = e, ..): the values of both, then picked -/
def mCallK (F : Mi) (is : List Nat) (ms mk : MA) : ME := fun ρ S => (ms ρ S).bind fun ds S1 => (mk ρ S1).bind fun es S2 => match pick is (ds ++ es) with
  | some zs => F zs S2
  | none => .stuck
theorem pk_imp {kws : List Keyword} {t t' : TA} (h : PK X kws t) (hi : ∀ σ H Q, t' σ H Q → t σ H Q) : PK X kws t' := ⟨fun p pins s σ H Q I q => h.run p pins s σ H Q I (hi _ _ _ q)⟩
theorem k_nil : PK X [] (tA U W aNil) := pk_imp pk_nil fun σ H Q ⟨M, S, ρ, A, p⟩ => p M H [] A.refl A.r .nil
theorem k_cons {nm : Option Str} {kpos : Pos} {kws : List Keyword} {m : ME} (h : PE X e (tE U W m)) (hr : PK X kws (tA U W ms)) : PK X (⟨nm, e, kpos⟩ :: kws) (tA U W (aCons m ms)) :=
  pk_imp (pk_cons h hr) fun σ H Q ⟨M, S, ρ, A, p⟩ => tX.bind A p fun x S1 M1 H1 v e1 A1 r1 p1 => tX.bind A1 p1 fun xs S2 M2 H2 vs e2 A2 r2 p2 => p2 M2 H2 _ A2.refl A2.r (.cons (r1.ext e2) r2)
theorem run_fnKS {pins : List (Addr × Obj)} {σ : L2.St} {H : Hp} {s : Shared} {Q : VK} {us ws : List Value} {vs zs es : List V} {n : Nat} {is : List Nat} {sp : Sp} {E : L2.St → XK} (G : FnOk X.prog X.w X.K X.mg X.base (L2N.CX X.prog X.w) k f fd ps sp) (hr : Room k X.A) (hb : KwB X.K fd ps ks n is) (hx : PassesAt (L2N.CX X.prog X.w) X σ (E σ))
    (I : Inv X pins σ H s) (r : Vals vs us) (rz : Vals zs ws) (l1 : us.length = n) (l2 : ws.length = ks.length) (hp : pick is (vs ++ zs) = some es) (h : sp es H Q (E σ)) : wpAny (model X.prog X.w) X.A (call (.ref f) us (ks.zip ws)) (EP X pins σ Q) X.xe s := by
  obtain ⟨ys, h1, h2⟩ := pick_rel (r.append rz) hp
  refine wpAny_call (codeAny_mono (G.run X.A X.stack s H ⟨us, ks.zip ws⟩ ys es Q (E σ) hr I.env0 (hb s us ws ys I.kIn l1 l2 h1) h2 h) fun r s' hq => ?_)
  cases r with
  | error e => exact hx pins H s e s' I hq
  | ok fl =>
    cases fl with
    | ret u => exact I.after hq
    | next => exact False.elim hq
    | brk => exact False.elim hq
    | cont => exact False.elim hq
theorem pick_len {α : Type} : ∀ {is : List Nat} {l zs : List α}, pick is l = some zs → zs.length = is.length
  | [], _, _, h => by cases h; rfl
  | i :: is, l, zs, h => by
    unfold pick at h
    cases q : l[i]? with
    | none => rw [q] at h; cases h
    | some x =>
      cases q2 : pick is l with
      | none => rw [q, q2] at h; cases h
      | some rr =>
        rw [q, q2] at h
        cases h
        rw [List.length_cons, List.length_cons, pick_len q2]
theorem callK_post {n : Nat} {is : List Nat} {mk : MA} {M : Mp} {S : Sto} {H : Hp} {σ : L2.St} {ρ : Env} {Q : VK} {R' : List V → List V → Hp → Prop} (A : At U M S ρ σ H) (q : PostX U (Rep U) M H σ W (mCallK F is ms mk ρ S) Q) (hn : ∀ ρ S ds S1, ms ρ S = .ok ds S1 → ds.length = n) (hm : ∀ ρ S ds S1, mk ρ S = .ok ds S1 → ds.length = ks.length) (hi : is.length = ps.length)
    (hR : ∀ vs zs es H1, vs.length = n → zs.length = ks.length → pick is (vs ++ zs) = some es → spF U ps.length F es H1 Q (WE W σ) → R' vs zs H1) : tA U W ms σ H fun vs H1 => tA U W mk σ H1 fun zs H2 => R' vs zs H2 := by
  refine ⟨M, S, ρ, A, ?_⟩
  show PostX U (RepAll U) M H σ W (ms ρ S) _
  unfold mCallK at q
  cases e1 : ms ρ S with
  | exc x S1 => rw [e1] at q; exact q
  | stuck => rw [e1] at q; exact q
  | ok ds S1 =>
    rw [e1] at q
    intro M1 H1 vs x1 r1 ra
    refine ⟨M1, S1, ρ, A.ext x1 r1, ?_⟩
    show PostX U (RepAll U) M1 H1 σ W (mk ρ S1) _
    change PostX U (Rep U) M H σ W ((mk ρ S1).bind _) Q at q
    cases e2 : mk ρ S1 with
    | exc x S2 => rw [e2] at q; exact PostX.ext x1 q
    | stuck => rw [e2] at q; exact q
    | ok es S2 =>
      rw [e2] at q
      change PostX U (Rep U) M H σ W (match pick is (ds ++ es) with | some zs => F zs S2 | none => .stuck) Q at q
      intro M2 H2 zs x2 r2 rz
      cases e3 : pick is (ds ++ es) with
      | none => rw [e3] at q; exact q.elim
      | some qs =>
        rw [e3] at q
        obtain ⟨ws, h1, h2⟩ := pick_repA ((ra.ext x2).append rz) e3
        exact hR vs zs ws H2 (by rw [ra.length]; exact hn _ _ _ _ e1) (by rw [rz.length]; exact hm _ _ _ _ e2) h1 (sp_in r2 h2 (by rw [pick_len e3]; exact hi) (PostX.ext (x1.trans x2) q))
/-- x(k = e, ..) -/
theorem e_callK0 {kws : List Keyword} {mk : MA} (is : List Nat) (G : Does X.prog X.w X.K X.mg X.base U k x f fd ps F) (hb : KwB X.K fd ps ks 0 is) (tk : L2N.Takes X W) (hr : Room j X.A) (hkw : PK X kws (tA U W mk)) (hm : ∀ ρ S ds S1, mk ρ S = .ok ds S1 → ds.length = ks.length)
    (hk : k ≤ j := by decide) (hi : is.length = ps.length := by rfl) (hg : Gl X x := by rfl) (hall : (backToKw pos (keywordEach kws X.env)).all (·.1.isSome) = true := by rfl) (hks : (backToKw pos (keywordEach kws X.env)).filterMap (·.1) = ks := by rfl) (hdb : (x == ("__debug__" : Str)) = false := by decide)
    (hpl : ((backTo pos (starEach [] X.env)).any (·.1) || (backToKw pos (keywordEach kws X.env)).any (·.1.isNone)) = false := by rfl) : PE X (.Call (.Name x p) [] kws pos) (tE U W (mCallK F is aNil mk)) := by
  refine ⟨fun pins s σ H Q I h => ?_⟩
  obtain ⟨M, S, ρ, A, q⟩ := h
  refine wpAny_Call_Name_kw (ld_glob I hg G.mg_ ?_ hdb)
  refine PySem.W.callWith_KW0 (h₀ := X.base) I.ok.mod.kin G.kp hall ?_ hpl
  have z := callK_post (ks := ks) (ps := ps) (n := 0) (R' := fun vs zs H2 => vs = [] ∧ zs.length = ks.length ∧ ∃ es, pick is ([] ++ zs) = some es ∧ spF U ps.length F es H2 Q (WE W σ)) A q len_nil hm hi fun vs zs es H1 h1 h2 h3 h4 => by
    cases vs with
    | cons _ _ => cases h1
    | nil => exact ⟨rfl, h2, es, h3, h4⟩
  obtain ⟨M0, S0, ρ0, A0, z0⟩ := z
  have z1 := z0 M0 H [] A0.refl A0.r .nil
  refine thn (hkw.run pos pins s σ H _ I z1) fun ws s2 ⟨zs, H2, I2, rz, _, l2, es, h3, h4⟩ => ⟨I2.kIn, ?_⟩
  rw [hks]
  exact run_fnKS (E := WE W) (us := []) (vs := []) G.fn (hr.mono hk) hb (L2N.passAt tk σ) I2 .nil rz rfl (rz.length.symm.trans l2) h3 h4
/-- x(e, .., k = e, ..) -/
theorem e_callK {kws : List Keyword} {mk : MA} {n : Nat} (is : List Nat) (G : Does X.prog X.w X.K X.mg X.base U k x f fd ps F) (hb : KwB X.K fd ps ks n is) (tk : L2N.Takes X W) (hr : Room j X.A) (ha : PA X (e :: es) (tA U W ms)) (hkw : PK X kws (tA U W mk)) (hn : ∀ ρ S ds S1, ms ρ S = .ok ds S1 → ds.length = n) (hm : ∀ ρ S ds S1, mk ρ S = .ok ds S1 → ds.length = ks.length)
    (hk : k ≤ j := by decide) (hi : is.length = ps.length := by rfl) (hg : Gl X x := by rfl) (hall : (backToKw pos (keywordEach kws X.env)).all (·.1.isSome) = true := by rfl) (hks : (backToKw pos (keywordEach kws X.env)).filterMap (·.1) = ks := by rfl) (hdb : (x == ("__debug__" : Str)) = false := by decide)
    (he : starEach (e :: es) X.env = (false, eval e X.env) :: starEach es X.env := by rfl) (hpl : ((backTo pos (starEach (e :: es) X.env)).any (·.1) || (backToKw pos (keywordEach kws X.env)).any (·.1.isNone)) = false := by rfl) : PE X (.Call (.Name x p) (e :: es) kws pos) (tE U W (mCallK F is ms mk)) := by
  refine ⟨fun pins s σ H Q I h => ?_⟩
  obtain ⟨M, S, ρ, A, q⟩ := h
  refine wpAny_Call_Name_kw (ld_glob I hg G.mg_ ?_ hdb)
  have z := callK_post (ks := ks) (ps := ps) (n := n) (R' := fun vs zs H2 => vs.length = n ∧ zs.length = ks.length ∧ ∃ es, pick is (vs ++ zs) = some es ∧ spF U ps.length F es H2 Q (WE W σ)) A q hn hm hi fun vs zs es H1 h1 h2 h3 h4 => ⟨h1, h2, es, h3, h4⟩
  refine PySem.W.callWith_KW (h₀ := X.base) I.ok.mod.kin G.kp hall (thn (ha.run pos pins s σ H _ I z) fun us s1 ⟨vs, H1, I1, r, q1⟩ => ?_) hpl he
  refine thn (hkw.run pos pins s1 σ H1 _ I1 q1) fun ws s2 ⟨zs, H2, I2, rz, l1, l2, es, h3, h4⟩ => ⟨I2.kIn, ?_⟩
  rw [hks]
  exact run_fnKS (E := WE W) (us := us) (vs := vs) G.fn (hr.mono hk) hb (L2N.passAt tk σ) I2 r rz (r.length.symm.trans l1) (rz.length.symm.trans l2) h3 h4
end
/-! ### the rule for a def -/
def runD (n : Nat) (ms : MS) : Mi := fun ds S => match ms (ds.map some ++ List.replicate (n - ds.length) none) S with
  | .nx _ S' => .ok .non S'
  | .rt d S' => .ok d S'
  | .exc e _ S' => .exc e S'
  | _ => .stuck
theorem start_rep {U : Uv} {M : Mp} {H : Hp} (n : Nat) : ∀ {vs : List V} {ds : List D}, RepAll U M H vs ds → SlotRep U M H (vs.map some ++ List.replicate n none) (ds.map some ++ List.replicate n none)
  | _, _, .nil => by
    intro i d h
    have h' : (List.replicate n (none : Option D))[i]? = some (some d) := h
    rw [List.getElem?_replicate] at h'
    by_cases c : i < n
    · rw [if_pos c] at h'; cases h'
    · rw [if_neg c] at h'; cases h'
  | _, _, @RepAll.cons _ _ _ v vs d ds h r => by
    intro i e he
    cases i with
    | zero =>
      have he' : some (some d) = some (some e) := he
      cases he'
      exact ⟨v, rfl, h⟩
    | succ i => exact start_rep n r i e he
section
variable {P : Program} {w : World} {K : PySem.W.Frag} {mg : Str → Option Value} {base : Heap} {U : Uv}
theorem fn_def {x qual : Str} {st : Stmt} {f : Addr} {fd : FuncData} {N ps : List Str} {k : Nat} {ms : MS} (F : L2.Fun K x qual st f fd) (S : FnScope N ps (defScope st)) (hf : U.f = [])
    (body : ∀ (cdv : Value) (A : Around) (outer : List PySem.Env) (s : Shared) (H : Hp) (E : XK), Room k (A.deeper (PyProof.Rows.envOfC qual (defScope st) s.heap.objs.size f cdv)) →
      PSs (cxOf (L2N.CX P w) P w K mg base N qual (defScope st) f cdv A outer s H E) (defBody st) (tS U (fun cls d _ H => E cls d H) ms)) : FnOk P w K mg base (L2N.CX P w) (k + 1) f fd ps (spF U ps.length (runD N.length ms)) := by
  obtain ⟨oc, od, kV, doc, pm, an, cdv, ct, osl, rfl, lk, hcd⟩ := F.ex
  refine fn_of lk hcd S (fun vs H Q E ⟨M, S', ds, r, ra, hl, p⟩ => by rw [ra.length]; exact hl) fun A outer s H vs Q E hr ⟨M, S', ds, r, ra, hl, p⟩ => ⟨_, body cdv A outer s H E hr, M, S', ds.map some ++ List.replicate (N.length - ds.length) none, ⟨r, ?_, ?_, fun p hp => ?_⟩, ?_⟩
  · unfold L2.start
    rw [ra.length]
    exact start_rep _ ra
  · unfold L2.start
    simp only [List.length_append, List.length_map, List.length_replicate, ra.length]
  · rw [hf] at hp; cases hp
  · unfold runD at p
    generalize ms (ds.map some ++ List.replicate (N.length - ds.length) none) S' = o at p
    cases o with
    | nx ρ S1 => exact fun M' H' σ' ex A' => p M' H' .non ex A'.r .non
    | rt d S1 => exact p
    | bk ρ S1 => exact p.elim
    | ct ρ S1 => exact p.elim
    | exc e ρ S1 => exact fun M' H' σ' cv dd ex A' xa => p M' H' cv dd ex A'.r xa
    | stuck => exact p.elim
theorem ok_def {x : Str} {st : Stmt} {f : Addr} {fd : FuncData} {N ps : List Str} {k : Nat} {ms : MS} (F : L2.Fun K x x st f fd) (hm : mg x = some (.ref f)) (hb : Binds K fd ps []) (S : FnScope N ps (defScope st)) (hf : U.f = [])
    (body : ∀ (cdv : Value) (A : Around) (outer : List PySem.Env) (s : Shared) (H : Hp) (E : XK), Room k (A.deeper (PyProof.Rows.envOfC x (defScope st) s.heap.objs.size f cdv)) →
      PSs (cxOf (L2N.CX P w) P w K mg base N x (defScope st) f cdv A outer s H E) (defBody st) (tS U (fun cls d _ H => E cls d H) ms)) : Does P w K mg base U (k + 1) x f fd ps (runD N.length ms) :=
  ⟨fn_def F S hf body, hm, F.kp, hb⟩
theorem Does.mono {j k : Nat} {x : Str} {f : Addr} {fd : FuncData} {ps : List Str} {F : Mi} (G : Does P w K mg base U j x f fd ps F) (h : j ≤ k) : Does P w K mg base U k x f fd ps F := ⟨G.fn.mono h, G.mg_, G.kp, G.b⟩
end
/-! ### raise -/
/-- an own exception class without own __init__ -/
structure ExCls (K : PySem.W.Frag) (mg : Str → Option Value) (C : Addr) (x : Str) : Prop where
  q : PySem.W.excIn K C [.type "ValueError", .type "Exception", .type "BaseException", .type "object"] "ValueError.__new__" = true
  g : mg x = some (.ref C)
  k : PySem.W.keepIn K (.ref C) = true
  b : PySem.W.subIn K (.ref C) (.type "BaseException") = some true
  t : PySem.W.typeIn K (.ref C) = some (.type "type")
def sRaise (c : Nat) : MS := fun ρ S => .exc ⟨c, []⟩ ρ S
section
variable {X : Cx} {U : Uv} {W : WX}
theorem s_raise (c : Nat) {x m : Str} {j : Nat} {p p2 pos pos' : Pos} (C : ExCls X.K X.mg (U.cl c) x) (tk : L2N.Takes X W) (hc : X.calm = true := by rfl) (hg : Gl X x := by rfl) (hdb : (x == ("__debug__" : Str)) = false := by decide) :
    PS X (.Raise (some (.Call (.Name x p) [.Constant (.str m) j p2] [] pos)) none pos') (tS U W (sRaise c)) :=
  ps_imp (L2N.ps_raise hc tk (L2N.pmk_own PySem.F.excBase_ValueError C.q C.g C.k (raises_own C.b C.t) hg hdb)) fun Dn σ H ⟨M, S, ρ, A, p⟩ => p M H σ _ _ A.refl A ⟨rfl, .inl ⟨rfl, rfl⟩⟩
end
end DL
/-! DL6: try / except with several clauses, with and without a name; what an except suite may do. -/
/-! ### a pair taken apart while an exception is handled -/
namespace DL
open PySem PySem.Spec PyProof.Rows HotX
section
variable {P : Program} {w : World} {A : Around} {Ex : Value → Shared → Prop} {s : Shared} {it tp x1 : Addr}
/-- a new StopIteration is raised and caught again: what stood stands -/
theorem stop_hot {α : Type} {Q : α → Shared → Prop} {E : Value → Shared → Prop} (hot : HotAt A x1 s.heap)
    (h : ∀ (e : Addr) h', (∀ b o, s.heap.get? b = some o → h'.get? b = some o) → (∃ oe, h'.get? e = some oe ∧ oe.cls = .type "StopIteration") → E (.ref e) { s with heap := h' }) :
    wpAny (model P w) A (do let x ← newExc (.type "StopIteration") []; raiseNew x) Q E s := by
  obtain ⟨hh, o1, vs1, g1, d1, c1⟩ := hot
  simp only [newExc, newTuple]
  refine wpAny_bind (wpAny_bind (wpAny_newObj_type (wpAny_bind (m := firstArgMember _ _) (wpAny_of_eq (a := Value.none) (by first | rfl | (simp only [firstArgMember]; rfl)) (wpAny_newObj_type ?_ (by size_fits)))) (by size_fits)))
  have g2 : ∀ (b : Addr) o, s.heap.get? b = some o → ((s.heap.push { cls := .type "tuple", data := .seq #[] }).get? b) = some o := fun b o e => Heap.get?_push_of_some _ e
  refine raiseNew_hot ⟨hh, o1, vs1, Heap.get?_push_of_some _ (g2 _ _ g1), d1, c1⟩ (Nat.ne_of_lt (Heap.lt_size (g2 _ _ g1))) (Heap.get?_push_size _ rfl) rfl (by simp; omega) (h _ _ (fun b o e => ?_) ⟨_, Heap.get?_update_self _ (Heap.get?_push_size _ rfl) rfl, rfl⟩)
  exact (Heap.get?_update_other _ _ (Nat.ne_of_gt (Heap.lt_size (g2 b o e)))).trans (Heap.get?_push_of_some _ (g2 b o e))
theorem tup_end_hot {i : Nat} {its : Array Value} {Q : Option Value → Shared → Prop} (hot : HotAt A x1 s.heap) (ne : x1 ≠ it) (I : IsTupIter s.heap it tp i) (T : IsTup s.heap tp its) (over : its[i]? = none)
    (q : ∀ h', Heap.ExtBut it s.heap h' → Q none { s with heap := h' }) : wpAny (model P w) A (pyNext (.ref it)) Q Ex s := by
  obtain ⟨oi, gi, ci, di⟩ := id I
  obtain ⟨ot, gt, _, n, dt⟩ := id T
  obtain ⟨hh, o1, vs1, g1, d1, c1⟩ := id hot
  unfold pyNext
  refine wpAny_bind (wpAny_attempt (wpAny_callSpecial?_slot (name := Str.ofString "__next__") I.typeIs slot_tupleiter_next (wpAny_call_entry slot_tupleiter_next I.typeIs entry_tupleiter_next (wpAny_bind (m := field (.ref it) 0) (wpAny_field gi di (x := .ref tp) rfl ?_)) (args_tupleiter_next _))))
  rw [if_neg (by simp)]
  refine wpAny_bind (m := field (.ref it) 1) (wpAny_field gi di (x := .int i 0) rfl (wpAny_bind (m := seqItems? (.ref tp)) (wpAny_seqItems gt dt ?_)))
  simp only [Int.toNat_natCast, over]
  have same := Heap.SameBut.update s.heap it (Obj.mapFields (·.setIfInBounds 0 Value.none))
  refine wpAny_bind (wpAny_rule (wpAny_bind (wpAny_setField gi di (by simp) ?_)))
  refine stop_hot (s := { s with heap := s.heap.update it (Obj.mapFields (·.setIfInBounds 0 Value.none)) }) ⟨hh, o1, vs1, (same.2 x1 ne).trans g1, d1, c1⟩ fun e h' keep there => ?_
  exact wpAny_bind (wpAny_isInstance (T := "StopIteration") (b := true) there isSubtype_stop (wpAny_pure (q h' fun b o hb g => keep b o ((same.2 b hb).trans g))))
theorem unpack_hot {its : Array Value} {Q : List Value → Shared → Prop} (hot : HotAt A x1 s.heap) (T : IsTup s.heap tp its) (q : ∀ h', Heap.ExtBut s.heap.objs.size s.heap h' → Q its.toList { s with heap := h' }) :
    wpAny (model P w) A (unpackItems (.ref tp) its.size none) Q Ex s := by
  obtain ⟨hh, o1, vs1, g1, d1, c1⟩ := id hot
  obtain ⟨ot, gt, _⟩ := id T
  have nt : tp ≠ s.heap.objs.size := Nat.ne_of_lt (Heap.lt_size gt)
  have n1 : x1 ≠ s.heap.objs.size := Nat.ne_of_lt (Heap.lt_size g1)
  unfold unpackItems notIterableAtAll
  refine wpAny_bind (wpAny_bind (wpAny_specialOf T.typeIs slot_tuple_iter.lookup (wpAny_pure ?_)))
  rw [if_neg (by simp)]
  refine wpAny_bind (wpAny_holding (iter_tuple T (wpAny_bind (wpAny_holding (draw_tuple nt its.size 0 _ _ ⟨_, Heap.get?_push_size _ rfl, rfl, rfl⟩ (T.push _) (by omega) fun h2 I2 sb => ?_)))))
  have all : (its.toList.drop 0).take its.size = its.toList := by rw [List.drop_zero, List.take_of_length_le (by simp)]
  rw [all, if_neg (by simp)]
  have up : ∀ b o, b ≠ s.heap.objs.size → s.heap.get? b = some o → h2.get? b = some o := fun b o hb g => sb.extBut b o hb (Heap.get?_push_of_some _ g)
  refine wpAny_bind (wpAny_holding (tup_end_hot (x1 := x1) ⟨hh, o1, vs1, up x1 o1 n1 g1, d1, c1⟩ n1 I2 ((T.push _).extBut sb.extBut nt) (by simp) fun h3 ext => ?_))
  simp only [Option.isSome_none, Bool.false_eq_true, if_false]
  exact wpAny_pure (q h3 fun b o hb g => ext b o hb (up b o hb g))
end
end DL
namespace DL
open PySem PySem.Spec PyProof.Rows HotX L2
/-- a, b = x, y where an exception is handled -/
theorem ps_parHot {X : Cx} {i j : Nat} {x y : Str} {a b : Expr} {ta : TA} {px py pt p2 : Pos} {k1 k2 : Nat} (hot : L2H.HotC X) (nd : X.N.Nodup) (hi : X.N[i]? = some x) (hj : X.N[j]? = some y) (ne : i ≠ j) (lx : X.env.scope.names.lookup x = some .local) (ly : X.env.scope.names.lookup y = some .local) (args : PA X [a, b] ta)
    (sw : swappedStores [.Tuple [.Name x px, .Name y py] k1 pt] (.Tuple [a, b] k2 p2) X.env = pure (some [x, y])) (so : swapsWithSole [.Tuple [.Name x px, .Name y py] k1 pt] (.Tuple [a, b] k2 p2) pos.line X.env = pure false) :
    PS X (.Assign [.Tuple [.Name x px, .Name y py] k1 pt] (.Tuple [a, b] k2 p2) pos) (tPar i j ta) := ⟨fun pins s σ H D I h => by
  rw [exec_Assign_arm]
  refine wpAny_bind (wpAny_standAt ?_)
  rw [so]
  refine wpAny_bind (wpAny_pure ?_)
  rw [if_neg Bool.false_ne_true]
  refine wpAny_bind (Tuple_ (thn (args.run p2 pins s σ H _ I h) fun us s1 ⟨_, H1, I1, vals, v, w, ev, done⟩ => ?_))
  subst ev
  obtain ⟨u1, u2, rfl, r1, r2⟩ := vals2 vals
  refine wpAny_newObj_type ?_ (by show 2 ≤ sizeLine; decide)
  rw [sw]
  refine wpAny_bind (wpAny_pure ?_)
  have J : Inv X pins σ H1 { s1 with heap := s1.heap.push { cls := .type "tuple", data := .seq [u1, u2].toArray } } := I1.kept (t' := s1.toks) fun _ _ g => Heap.get?_push_of_some _ g
  obtain ⟨x1, at1⟩ := hot.at J
  refine wpAny_bind (m := rule "assign.swapped-stores") (wpAny_rule (wpAny_bind (m := unpackItems (.ref s1.heap.objs.size) 2 none) (unpack_hot (its := #[u1, u2]) at1 (IsTup.new s1.heap _) fun h2 ext => ?_)))
  have J2 := J.kept (h' := h2) (t' := s1.toks) fun b o g => ext b o (Nat.ne_of_lt (Heap.lt_size g)) g
  refine wpAny_bind (m := assignInOrder [fun v => bindName X.env y v, fun v => bindName X.env x v] [u2, u1]) (assignInOrder_cons (wpAny_bindName (store_ok J2 nd hj (.inl ly) r2 (fun s3 J3 => assignInOrder_cons (wpAny_bindName (store_ok J3 nd hi (.inl lx) r1 (fun s4 J4 => assignInOrder_nil (wpAny_pure ⟨_, H1, ?_, done⟩)) (.inr lx)))) (.inr ly))))
  rw [List.set_comm _ _ ne]
  exact J4⟩
end DL
namespace DL
open PySem L2
theorem takes0N {X : Cx} : L2N.Takes X W0 := fun _ _ ⟨_, _, _, _, _, _, _, _, _, _, _, _, _, _, _, _, w⟩ => w.elim
theorem hot_suite {X : Cx} {a : Addr} {oe : Obj} {cls : Value} {d : Option Addr} {pn : List (Addr × Obj)} (hz : L2N.Zn cls d oe) (hv : ∃ vs, oe.data = .fields vs) : L2H.HotC (X.suite a ((a, oe) :: pn)) :=
  let ⟨vs, e⟩ := hv
  ⟨(a, oe), ⟨rfl, vs, e, hz.2.2 vs e⟩, List.mem_cons_self⟩
/-! ### try, by mirrors -/
structure Hd where
  catch_ : Nat → Option Bool
  slot : Option Nat
  su : Ex → MS
def noX (o : OS) : OS := match o with
  | .exc _ _ _ => .stuck
  | o => o
def unO (i : Nat) (o : OS) : OS := match o with
  | .nx ρ S => .nx (ρ.set i none) S
  | .bk ρ S => .bk (ρ.set i none) S
  | .ct ρ S => .ct (ρ.set i none) S
  | .rt d S => .rt d S
  | _ => .stuck
def tryH : List Hd → Ex → Env → Sto → OS
  | [], e, ρ, S => .exc e ρ S
  | h :: r, e, ρ, S => match h.catch_ e.c with
    | none => .stuck
    | some false => tryH r e ρ S
    | some true => match h.slot with
      | none => noX (h.su e ρ S)
      | some i => if i < ρ.length then unO i (h.su e (ρ.set i none) S) else .stuck
def sTry (mb : MS) (hs : List Hd) : MS := fun ρ S => match mb ρ S with
  | .exc e ρ' S' => tryH hs e ρ' S'
  | o => o
abbrev tsD (U U' : Addr → Uv) (su : Ex → MS) : Addr → Value → Option Addr → TS := fun a cls d Dn σ H => ∃ e : Ex, cls = .ref ((U a).cl e.c) ∧ (e.fs = [] → d = none) ∧ tS (U' a) W0 (su e) Dn σ H
section
variable {U : Uv} {M : Mp} {S : Sto} {ρ : Env} {σ : L2.St} {H : Hp} {i : Nat} {a : Addr}
theorem At.fixed (hf : U.f = []) (A : At U M S ρ σ H) (hi : i < ρ.length) : At (U.fix [(i, a)]) M S (ρ.set i none) (σ.set i (some (.ref a))) H :=
  ⟨A.r.fix, SlotRep.fix (SlotRep.unset A.sl), by rw [List.length_set, List.length_set]; exact A.len, fun p hp => by
    rcases List.mem_singleton.mp hp with rfl
    exact List.getElem?_set_self (by rw [← A.len]; exact hi)⟩
theorem At.unfixed (hf : U.f = []) (A : At (U.fix [(i, a)]) M S ρ σ H) : At U M S (ρ.set i none) (σ.set i none) H :=
  ⟨R.fix (U := U.fix [(i, a)]) (l := U.f) A.r, SlotRep.fix (U := U.fix [(i, a)]) (l := U.f) (SlotRep.unset A.sl), by rw [List.length_set, List.length_set]; exact A.len, fun p hp => by rw [hf] at hp; cases hp⟩
end
/-- one clause with a name: what it wishes of the body's exceptions -/
theorem try1_post {U : Uv} {K : PySem.W.Frag} {c : Value} {i : Nat} {ca : Nat → Option Bool} {su : Ex → MS} (hf : U.f = []) (hm : ∀ k b, ca k = some b → PySem.W.exmOne K (.ref (U.cl k)) c = some b) {M : Mp} {S : Sto} {ρ : Env} {σ : L2.St} {H : Hp} {W : WX} {Dn : Ends} {e : Ex} {cv : Value} {dd : Option Addr}
    (A : At U M S ρ σ H) (xa : ExAt U M H e cv dd) (p : PostS U M H W (tryH [⟨ca, some i, su⟩] e ρ S) Dn) : wAs K c i (tsD (fun _ => U) (fun a => U.fix [(i, a)]) su) W Dn cv dd σ H := by
  have hd0 : e.fs = [] → dd = none := fun z => xa.2.elim (fun q => q.2) fun ⟨_, _, n, _⟩ => absurd z n
  have ecv := xa.1
  unfold tryH at p
  cases q : ca e.c with
  | none => simp only [q] at p; exact p.elim
  | some b =>
    refine ⟨b, by rw [ecv]; exact hm _ _ q, fun eb a ha => ?_, fun eb => ?_⟩
    · subst eb
      simp only [q] at p
      by_cases hl : i < ρ.length
      · rw [if_pos hl] at p
        refine ⟨e, ecv, hd0, M, S, ρ.set i none, A.fixed hf hl, ?_⟩
        revert p
        cases su e (ρ.set i none) S with
        | nx ρ2 S2 => exact fun p M' H' σ' ex A' => p M' H' _ ex (A'.unfixed hf)
        | bk ρ2 S2 => exact fun p M' H' σ' ex A' => p M' H' _ ex (A'.unfixed hf)
        | ct ρ2 S2 => exact fun p M' H' σ' ex A' => p M' H' _ ex (A'.unfixed hf)
        | rt d S2 => exact fun p M' H' v ex r rd => p M' H' v ex (R.fix (U := U.fix [(i, a)]) (l := U.f) r) (Rep.fix (U := U.fix [(i, a)]) (l := U.f) rd)
        | exc e2 ρ2 S2 => exact fun p => p.elim
        | stuck => exact fun p => p.elim
      · rw [if_neg hl] at p; exact p.elim
    · subst eb
      simp only [q] at p
      exact p M H σ cv dd A.refl A xa
section
variable {X : Cx} {U : Uv} {W : WX} {body suite : List Stmt} {b₀ : Stmt} {pos pos' np : Pos} {mb : MS} {x n : Str} {c : Value} {ca : Nat → Option Bool} {su : Ex → MS}
theorem s_try (i : Nat) (nd : X.N.Nodup) (tk : L2N.Takes X W) (hb : ∀ (W : WX) (pn : List (Addr × Obj)) (xe : Value → Shared → Prop), L2N.Takes (X.tr pn xe) W → PassesOwn (model X.prog X.w) X.A X.env xe → PSs (X.tr pn xe) body (tS U W mb)) (hc : Names X x c) (hm : ∀ k b, ca k = some b → PySem.W.exmOne X.K (.ref (U.cl k)) c = some b)
    (hsu : ∀ (a : Addr) (oe : Obj) (e : Ex) (d : Option Addr) (pn : List (Addr × Obj)), L2N.Zn (.ref (U.cl e.c)) d oe → (∃ vs, oe.data = .fields vs) → (e.fs = [] → d = none) → PSs (X.suite a ((a, oe) :: pn)) (b₀ :: suite) (tS (U.fix [(i, a)]) W0 (su e))) (hf : U.f = [])
    (hi : X.N[i]? = some n := by rfl) (hln : X.env.kindOf n = some .local := by rfl) (hst : X.stack = X.env :: X.outer := by rfl) (hfr : X.env.frame = some X.env.locals := by rfl) : PS X (.Try body [.ExceptHandler (some (.Name x np)) (some n) (b₀ :: suite) pos'] [] [] pos) (tS U W (sTry mb [⟨ca, some i, su⟩])) :=
  ps_imp (L2N.ps_try_as (tb := fun W => tS U W mb) (ts := tsD (fun _ => U) (fun a => U.fix [(i, a)]) su) hst hfr nd hi hln hc tk hb fun a oe cls d pn hz hv => ⟨fun pins s σ H Dn I ⟨e, e1, e2, t⟩ => by subst e1; exact (hsu a oe e d pn hz hv e2).run pins s σ H Dn I t⟩) fun Dn σ H ⟨M, S, ρ, A, p⟩ => by
    refine ⟨M, S, ρ, A, ?_⟩
    unfold sTry at p
    cases q : mb ρ S with
    | exc e ρ2 S2 =>
      rw [q] at p
      exact fun M' H' σ' cv dd ex A' xa => try1_post hf hm A' xa (PostS.ext ex p)
    | nx ρ2 S2 => rw [q] at p; exact p
    | bk ρ2 S2 => rw [q] at p; exact p
    | ct ρ2 S2 => rw [q] at p; exact p
    | rt d S2 => rw [q] at p; exact p
    | stuck => rw [q] at p; exact p
/-- a, b = e1, e2 within an except suite -/
theorem s_parH (i j : Nat) {x y : Str} {a b : Expr} {ma : MA} {px py pt : Pos} {kt k2 : Nat} {pt2 : Pos} (hc : L2H.HotC X) (hN : X.N.Nodup) (ha : PA X [a, b] (tA U W ma)) (hn : Nf U i) (hn2 : Nf U j) (hi : X.N[i]? = some x := by rfl) (hj : X.N[j]? = some y := by rfl) (hij : i ≠ j := by decide)
    (hx : X.env.scope.names.lookup x = some .local := by rfl) (hy : X.env.scope.names.lookup y = some .local := by rfl)
    (hw : swappedStores [.Tuple [.Name x px, .Name y py] kt pt] (.Tuple [a, b] k2 pt2) X.env = pure (some [x, y]) := by rfl)
    (hs : swapsWithSole [.Tuple [.Name x px, .Name y py] kt pt] (.Tuple [a, b] k2 pt2) pos.line X.env = pure false := by rfl) :
    PS X (.Assign [.Tuple [.Name x px, .Name y py] kt pt] (.Tuple [a, b] k2 pt2) pos) (tS U W (sPar i j ma)) :=
  ps_imp (ps_parHot hc hN hi hj hij hx hy ha hw hs) fun Dn σ H ⟨M, S, ρ, A, p⟩ => tX.ofS A p fun ds S1 M1 H1 vs e1 A1 r1 p1 => by
    cases r1 with
    | nil => exact p1.elim
    | cons h1 r1 => cases r1 with
      | nil => exact p1.elim
      | cons h2 r1 => cases r1 with
        | cons _ _ => exact p1.elim
        | nil => exact ⟨_, _, rfl, p1 M1 H1 _ A1.refl ((A1.set h1 hn).set h2 hn2)⟩
end
end DL
/-! DL7: sorted, of data, with and without a def as its key. -/
namespace DL
open PySem PySem.Spec PySem.Calls PyProof.Rows PySem.W PySem.SeqAt
/-- u reads as d -/
abbrev Rds (h : Heap) (u : Value) (d : PyData) : Prop := ∃ as, Reads h u d as
section
variable {P : Program} {w : World} {A : Around} {s : Shared}
/-- tuple.__lt__ of two tuples, by what their items say -/
theorem tupLt_call {E Q : Value → Shared → Prop} {p q : Addr} {us ws : Array Value} {eq lt : Nat → Bool} (hp : s.heap.IsTuple p us) (hq : s.heap.IsTuple q ws) (ie : ∀ n (x : n < us.size) (y : n < ws.size), EqAt A.in1 s us[n] ws[n] (eq n))
    (il : ∀ n (x : n < us.size) (y : n < ws.size), eq n = false → RcLt A.in1 s us[n] ws[n] (lt n)) (z : Q (.bool (firstLt eq lt (decide (us.size < ws.size)) (List.range (min us.size ws.size)))) s) : wpAny (model P w) A (call (.builtin "tuple.__lt__") [.ref p, .ref q]) Q E s := by
  obtain ⟨⟨op, _, vp, _⟩, gp, cp, np, dp⟩ := hp
  obtain ⟨⟨oq, _, vq, _⟩, gq, cq, nq, dq⟩ := hq
  have cp' : op = _ := cp
  have cq' : oq = _ := cq
  have dp' : vp = _ := dp
  have dq' : vq = _ := dq
  subst cp' cq' dp' dq'
  exact call_meets F.slot_tuple_lt ⟨_, gp, rfl⟩ F.entry_tuple_lt (F.args_tuple_lt_2 _ _) (tuple_ltAt p q us ws np nq _ _ _ _ eq lt) ⟨gp, gq, ie, il, z⟩
/-- two tuples as keys of one type -/
theorem tupLt_key {E : Value → Shared → Prop} {xs ys : List PyData} {u v : Value} {Q : Bool → Shared → Prop} (ru : Rds s.heap u (.tuple xs)) (rv : Rds s.heap v (.tuple ys)) (al : alike (.tuple xs) (.tuple ys) = true) (room : A.units + min (PyData.tuple xs).depth (PyData.tuple ys).depth < cLine)
    (q : Q (dataLt (.tuple xs) (.tuple ys)) s) : wpAny (model P w) A (oneLt' true u v) Q E s := by
  obtain ⟨au, ru⟩ := ru
  obtain ⟨av, rv⟩ := rv
  have al' : alikeAll xs ys = true := by simpa only [alike] using al
  cases ru with
  | @tuple p op us np _ bu gp cp dp ip =>
    cases rv with
    | @tuple p' oq ws nq _ bv gq cq dq iq =>
      have lu : us.size = xs.length := (Array.length_toList (xs := us)).symm.trans (ReadsAll.length _ _ _ ip)
      have lw : ws.size = ys.length := (Array.length_toList (xs := ws)).symm.trans (ReadsAll.length _ _ _ iq)
      have q' : Q (firstLt (pairEq xs ys) (fun n => dataLt (xs.getD n .none) (ys.getD n .none)) (decide (us.size < ws.size)) (List.range (min us.size ws.size))) s := by
        rw [lu, lw, firstLt_toks xs ys al', ← dataLt_tuple]; exact q
      rw [oneLt'_eq, if_pos rfl]
      refine wpAny_bind (wpAny_cRoomFor (room_here room) (wpAny_bind (wpAny_callSpecialIfBound?_slot (T := "tuple") ⟨_, gp, cp⟩ F.slot_tuple_lt (tupLt_call ⟨_, gp, cp, _, dp⟩ ⟨_, gq, cq, _, dq⟩ (fun n x y => ?_) (fun n x y ne => ?_) (wpAny_truthy_bool q')))))
      · exact eqAt_alikeAll xs ys A.in1 s us.toList ws.toList _ _ ip iq al' (room_in room) n x y
      · exact rcLt_alikeAll xs ys A.in1 s us.toList ws.toList _ _ ip iq al' (room_in room) n x y ne
/-- the first items of keys that are tuples: none of an empty one -/
theorem tup_firsts : ∀ {us : List Value} {ds : List PyData}, EachIs (Rds s.heap) us ds → (∀ d ∈ ds, ∃ xs, d = .tuple xs) →
    ∃ fs : List (Option Value), (ds.head? = some (.tuple []) → fs.head? = some none) ∧ ∀ (M : Model) (E : Value → Shared → Prop) (Q : List (Option Value) → Shared → Prop), Q fs s → wpAny M A (us.mapM firstOfTuple') Q E s
  | _, _, .nil, _ => ⟨[], fun z => (by cases z), fun M E Q q => by rw [List.mapM_nil]; exact wpAny_pure q⟩
  | _, _, .cons (b := d) ⟨_, r⟩ more, tu => by
    obtain ⟨fs, _, run⟩ := tup_firsts more fun x m => tu x (List.mem_cons_of_mem _ m)
    obtain ⟨xs, rfl⟩ := tu d List.mem_cons_self
    cases r with
    | @tuple p o its n _ _ g cl dt ri =>
      refine ⟨its[0]? :: fs, fun z => ?_, fun M E Q q => ?_⟩
      · have nil : xs = [] := by simpa using z
        subst nil
        have none_ : its[0]? = none := Array.getElem?_eq_none (Nat.le_of_eq ((Array.length_toList (xs := its)).symm.trans (ReadsAll.length _ _ _ ri)))
        rw [none_]; rfl
      · have ty : Looks M s.heap (typeOf (.ref p)) (.type "tuple") := cl ▸ (Looks.ld g).andThen .now
        rw [List.mapM_cons, kas_first_eq]
        refine wpAny_bind (wpAny_bind (ty.here ?_))
        rw [if_neg (by decide)]
        exact wpAny_bind (listItems_at g dt (wpAny_pure (wpAny_bind (run M E _ (wpAny_pure q)))))
/-- tuples can be sorted, too, where the first of them is empty -/
theorem sorts_tups {us : List Value} {ds : List PyData} (rd : EachIs (Rds s.heap) us ds) (al : AllAlike ds) (tu : ∀ d ∈ ds, ∃ xs, d = .tuple xs) (first : ds.head? = some (.tuple [])) (deep : ∀ d ∈ ds, A.units + d.depth < cLine) : SortsAt P w A s (dataKind s.heap ds) us where
  keys := fun v m => let ⟨_, md, _, r⟩ := rd.left v m; ⟨_, dataKind_some al md r⟩
  kind := by
    refine ⟨oneType', fun E x y kx ky Q hx hy q => ?_, fun two E Q q => ?_⟩
    · obtain ⟨dx, ax, mx, rx, ex⟩ := dataKind_inv hx
      obtain ⟨dy, ay, my, ry, ey⟩ := dataKind_inv hy
      subst ex ey
      have a := al dx mx dy my
      have dp := deep dx mx
      obtain ⟨xs, rfl⟩ := tu dx mx
      obtain ⟨ys, rfl⟩ := tu dy my
      exact tupLt_key ⟨_, rx⟩ ⟨_, ry⟩ a (by omega) q
    · obtain ⟨fs, hd, run⟩ := tup_firsts (A := A) rd tu
      have fst := hd first
      match fs, fst with
      | none :: more, _ =>
        have allT : ∀ v ∈ us, Looks (model P w) s.heap (typeOf v) (.type "tuple") := fun v m => by
          obtain ⟨d, md, _, r⟩ := rd.left v m
          obtain ⟨xs, rfl⟩ := tu d md
          exact looks_reads r
        have one : ∀ (vs : List Value), 2 ≤ vs.length → ((vs.map fun _ => Value.type "tuple").toArray[0]? = some (.type "tuple")) ∧ ((vs.map fun _ => Value.type "tuple").toArray.all (· == Value.type "tuple")) = true := fun vs l => by
          cases vs with
          | nil => simp at l
          | cons v r => exact ⟨rfl, by simp⟩
        obtain ⟨o1, o2⟩ := one us two
        rw [keyKind'_eq, List.mapM_toArray, map_eq_pure_bind]
        refine wpAny_bind (wpAny_bind (run _ _ _ (wpAny_pure ?_)))
        simp only [List.all_toArray, List.all_cons, Option.isSome_none, Bool.false_and, Bool.false_eq_true, if_false]
        rw [if_neg (by simp), oneTypeOnly'_eq, List.mapM_toArray, map_eq_pure_bind]
        refine wpAny_bind (wpAny_bind (wpAny_bind (kas_mapM (r := Value.type "tuple") us (fun v m Q' q' => (allT v m).here q') (wpAny_pure ?_))))
        rw [o1]
        simp only [o2, if_true]
        exact wpAny_pure (wpAny_pure q)
end
end DL
namespace PySem.W
open PySem PySem.SeqAt PyProof.Rows
/-- data that sort takes -/
def SortOk (ds : List PyData) : Prop := Sortable ds ∨ ((∀ d, d ∈ ds → ∃ xs, d = .tuple xs) ∧ ds.head? = some (.tuple []))
theorem dl_sortsAt {P : Program} {w : World} {A : Around} {s : Shared} {us : List Value} {ds : List PyData} (rd : EachIs (DL.Rds s.heap) us ds) (al : AllAlike ds) (ok : SortOk ds) (deep : ∀ d ∈ ds, A.units + d.depth < cLine) : SortsAt P w A s (dataKind s.heap ds) us :=
  ok.elim (fun z => SortsAt.data rd al z deep) fun z => DL.sorts_tups rd al z.1 z.2 deep
end PySem.W
namespace L2
open PySem PySem.Spec PyProof.Rows PySem.W
/-- values and their data -/
def rSortD (K : PySem.W.Frag) (A : Around) : List V → Hp → VK → Prop := fun vs H Q => ∃ (β : Type) (a : Addr) (bs : List β) (f : β → V) (enc : β → PyData), vs = [V.ref a] ∧ SqL K H a (bs.map f) ∧ (∀ b ∈ bs, Dp K H (f b) (enc b)) ∧ AllAlike (bs.map enc) ∧ SortOk (bs.map enc) ∧ bs.length ≤ sizeLine ∧
  (∀ b ∈ bs, A.units + 2 + (enc b).depth < cLine) ∧ ∀ p, H p = none → Q (.ref p) (upd H p (.lst ((bs.mergeSort (dataLe false enc)).map f)))
theorem each_vals {β : Type} {f : β → V} : ∀ {bs : List β} {us : List Value}, Vals (bs.map f) us → EachIs (fun u b => RelV (f b) u) us bs
  | [], _, r => by cases r; exact .nil
  | b :: bs, _, r => by
    cases r with
    | cons h t => exact .cons h (each_vals t)
theorem vals_each {β : Type} {f : β → V} : ∀ {bs : List β} {us : List Value}, EachIs (fun u b => RelV (f b) u) us bs → Vals (bs.map f) us
  | _, _, .nil => .nil
  | _, _, .cons h t => .cons h (vals_each t)
theorem each_reads {X : Cx} {pins : List (Addr × Obj)} {σ : St} {H : Hp} {s : Shared} {β : Type} {f : β → V} {enc : β → PyData} (I : Inv X pins σ H s) : ∀ {bs : List β} {us : List Value}, Vals (bs.map f) us → (∀ b ∈ bs, Dp X.K H (f b) (enc b)) → EachIs (fun u b => ∃ as, Reads s.heap u (enc b) as) us bs
  | [], _, r, _ => by cases r; exact .nil
  | b :: bs, _, r, h => by
    cases r with
    | cons h1 t => exact .cons (Dp.reads I _ _ _ (h b List.mem_cons_self) h1) (each_reads I t fun b hb => h b (List.mem_cons_of_mem _ hb))
theorem cr_sortD {X : Cx} : CallR X (.builtin "sorted") (rSortD X.K X.A) := by
  intro pins s σ H vs us Q I r h
  obtain ⟨β, a, bs, f, enc, rfl, hs, hd, hal, hk, hL, hu, q⟩ := h
  obtain ⟨its, rv, hl, hz⟩ := I.list hs
  rw [Vals.ref1 r]
  have rd2 : EachIs (fun u b => DL.Rds (sortingHeap (copyHeap s.heap its) (s.heap.objs.size + 1) its) u (enc b)) its bs := (each_reads I rv hd).mono fun _ _ ⟨as, r⟩ => ⟨as, PyProof.Rows.Reads.keeps (fun _ _ => sorting_copy_old) r⟩
  have lb : its.length = bs.length := rv.length.symm.trans (List.length_map ..)
  have h2 := sortVals_data false (each_vals rv) rd2 hal
  refine sorted_vals hl.isList (dl_sortsAt (s := { s with heap := sortingHeap (copyHeap s.heap its) (s.heap.objs.size + 1) its }) (each_map (R := DL.Rds (sortingHeap (copyHeap s.heap its) (s.heap.objs.size + 1) its)) enc rd2) hal hk fun d m => ?_) (by rw [lb]; exact hL) ?_
  · obtain ⟨b, mb, rfl⟩ := List.mem_map.mp m
    exact hu b mb
  generalize sortVals (dataKind (sortingHeap (copyHeap s.heap its) (s.heap.objs.size + 1) its) (bs.map enc)) false its its = out at h2 ⊢
  obtain ⟨ep, he'⟩ := PyProof.Rows.sortedAll_at s.heap its out.toArray
  have hlen : ((bs.mergeSort (dataLe false enc)).map f).length ≤ sizeLine := by
    rw [List.length_map, List.length_mergeSort]; exact hL
  exact ⟨.ref _, upd H (s.heap.objs.size + 1) (.lst ((bs.mergeSort (dataLe false enc)).map f)), I.laid (t' := s.toks) (fun _ _ => PyProof.Rows.sortedAll_old) (Nat.le_succ _) ⟨hlen, out, ep, vals_each h2, he'⟩, rfl, q _ (I.hok.fresh (Nat.le_succ _))⟩
end L2
namespace DL
open PySem L2
/-- a list's items -/
def seqL (S : Sto) : D → Option (List D)
  | .tup _ => none
  | d => seqD S d
def tupB : PyData → Bool
  | .tuple _ => true
  | _ => false
def tupNE : PyData → Bool
  | .tuple (_ :: _) => true
  | _ => false
def okSort (ps : List PyData) : Bool := ps.all (fun a => a.plain && decide (a.depth ≤ 60) && ps.all fun b => PySem.W.alike a b) && decide (ps.length ≤ lim) &&
  (ps.all tupNE || ps.all (fun a => !tupB a && !(match a with | .none => true | _ => false)) || (ps.all tupB && (match ps with | .tuple [] :: _ => true | _ => false)))
/-- sorting that the kernel can do -/
def ins {α : Type} (le : α → α → Bool) (a : α) : List α → List α
  | [] => [a]
  | b :: r => if le a b then a :: b :: r else b :: ins le a r
def isort {α : Type} (le : α → α → Bool) : List α → List α
  | [] => []
  | a :: l => ins le a (isort le l)
theorem ins_app {α : Type} {le : α → α → Bool} {a : α} : ∀ {l1 l2 : List α}, (∀ b ∈ l1, le a b = false) → (∀ b ∈ l2, le a b = true) → ins le a (l1 ++ l2) = l1 ++ a :: l2
  | [], [], _, _ => rfl
  | [], b :: r, _, h => by
    show (if le a b then a :: b :: r else b :: ins le a r) = _
    rw [if_pos (h b List.mem_cons_self)]; rfl
  | b :: l1, l2, h1, h2 => by
    show (if le a b then a :: b :: (l1 ++ l2) else b :: ins le a (l1 ++ l2)) = _
    rw [if_neg (by rw [h1 b List.mem_cons_self]; decide), ins_app (fun c hc => h1 c (List.mem_cons_of_mem _ hc)) h2]; rfl
theorem isort_eq {α : Type} {le : α → α → Bool} (T : PySem.W.TotalLe le) : ∀ l : List α, isort le l = l.mergeSort le
  | [] => by simp [isort]
  | a :: l => by
    have tot : ∀ a b, (le a b || le b a) = true := fun a b => by rw [Bool.or_eq_true]; exact T.total a b
    obtain ⟨l1, l2, h1, h2, h3⟩ := List.mergeSort_cons T.trans tot a l
    have pw := List.pairwise_mergeSort T.trans tot (a :: l)
    rw [h1] at pw
    have h4 : ∀ b ∈ l2, le a b = true := fun b hb => List.rel_of_pairwise_cons (List.pairwise_append.mp pw).2.1 hb
    show ins le a (isort le l) = _
    rw [isort_eq T l, h2, h1]
    exact ins_app (fun b hb => by simpa using h3 b hb) h4
def sortD (ds : List D) : List D := isort (PySem.W.dataLe false toPy) ds
def sortedG (S : Sto) (ds : List D) : Option D := match ds with
  | [d] => (seqL S d).bind fun xs => if okSort (xs.map toPy) then some (.lst (sortD xs)) else none
  | _ => none
theorem okSort_of {ps : List PyData} (h : okSort ps = true) : PySem.W.AllAlike ps ∧ PySem.W.SortOk ps ∧ ps.length ≤ lim ∧ ∀ d ∈ ps, d.plain = true ∧ d.depth ≤ 60 := by
  unfold okSort at h
  simp only [Bool.and_eq_true, List.all_eq_true, decide_eq_true_eq, Bool.or_eq_true] at h
  obtain ⟨⟨h1, h2⟩, h3⟩ := h
  refine ⟨fun d hd d' hd' => (h1 d hd).2 d' hd', ?_, h2, fun d hd => (h1 d hd).1⟩
  rcases h3 with (h3 | h3) | h3
  · refine .inl (.inl fun d hd => ?_)
    have := h3 d hd
    match d, this with
    | .tuple (x :: r), _ => exact ⟨x, r, rfl⟩
  · refine .inl (.inr fun d hd => ?_)
    have := h3 d hd
    refine ⟨fun e => ?_, fun xs e => ?_⟩
    · subst e; simp at this
    · subst e; simp [tupB] at this
  · refine .inr ⟨fun d hd => ?_, ?_⟩
    · have := h3.1 d hd
      match d, this with
      | .tuple xs, _ => exact ⟨xs, rfl⟩
    · have := h3.2
      match ps, this with
      | .tuple [] :: _, _ => rfl
section
variable {U : Uv} {M : Mp} {H : Hp} {S : Sto}
theorem Rep.seqL' {v : V} {d : D} {ds : List D} (r : R U M S H) (h : Rep U M H v d) (e : seqL S d = some ds) : ∃ a xs, v = .ref a ∧ SqL U.K H a xs ∧ RepAll U M H xs ds := by
  cases d with
  | tup xs => cases e
  | lst xs =>
    cases e
    obtain ⟨a, ys, h1, h2, h3⟩ := h.lstV
    exact ⟨a, ys, h1, .inl (.inl h2), h3⟩
  | fz xs =>
    cases e
    cases h with
    | fz hf ra => exact ⟨_, _, rfl, hf.sq, ra⟩
  | obj i =>
    have e' : (match S[i]? with | some (.lst xs) => some xs | _ => none) = some ds := e
    cases q : S[i]? with
    | none => rw [q] at e'; cases e'
    | some o =>
      rw [q] at e'
      cases o with
      | ins _ _ => cases e'
      | dK _ => cases e'
      | dN _ => cases e'
      | dF _ => cases e'
      | xc _ _ => cases e'
      | lst xs =>
        cases e'
        obtain ⟨a, ys, h1, h2, h3, _⟩ := h.objL r q
        exact ⟨a, ys, h1, .inl (.inl h2), h3⟩
  | _ => cases e
theorem RepAll.zipV : ∀ {vs : List V} {ds : List D}, RepAll U M H vs ds → ((vs.zip ds).map (·.1)) = vs ∧ ((vs.zip ds).map (·.2)) = ds ∧ ∀ b ∈ vs.zip ds, Rep U M H b.1 b.2
  | _, _, .nil => ⟨rfl, rfl, fun b hb => by cases hb⟩
  | v :: vs, d :: ds, .cons h r => by
    obtain ⟨h1, h2, h3⟩ := RepAll.zipV r
    refine ⟨by simp only [List.zip_cons_cons, List.map_cons, h1], by simp only [List.zip_cons_cons, List.map_cons, h2], fun b hb => ?_⟩
    rcases List.mem_cons.mp hb with rfl | hb
    · exact h
    · exact h3 b hb
theorem RepAll.ofZip : ∀ {bs : List (V × D)}, (∀ b ∈ bs, Rep U M H b.1 b.2) → RepAll U M H (bs.map (·.1)) (bs.map (·.2))
  | [], _ => .nil
  | b :: bs, h => .cons (h b List.mem_cons_self) (RepAll.ofZip fun b hb => h b (List.mem_cons_of_mem _ hb))
theorem sortD_zip {bs : List (V × D)} : (bs.mergeSort (PySem.W.dataLe false fun b => toPy b.2)).map (·.2) = sortD (bs.map (·.2)) := by
  unfold sortD
  rw [isort_eq (le := PySem.W.dataLe false toPy) (PySem.W.sortLe_total _ _ _)]
  exact List.map_mergeSort (fun _ _ _ _ => rfl)
end
section
variable {X : Cx} {U : Uv} {k : Nat}
theorem c_sorted (hr : Room k X.A) (hK : X.K = U.K := by rfl) : CallD U X (.builtin "sorted") sortedG :=
  ofC (rSortD X.K X.A) cr_sortD fun M S H xs ds d Q r ra e g => by
    match ds, ra, e with
    | [d0], ra, e =>
      obtain ⟨v, rfl, h⟩ := ra.one
      have e' : ((seqL S d0).bind fun xs => if okSort (xs.map toPy) then some (D.lst (sortD xs)) else none) = some d := e
      cases q : seqL S d0 with
      | none => rw [q] at e'; cases e'
      | some ys =>
        rw [q] at e'
        change (if okSort (ys.map toPy) then some (D.lst (sortD ys)) else none) = some d at e'
        by_cases hk : okSort (ys.map toPy) = true
        · rw [if_pos hk] at e'
          cases e'
          obtain ⟨k1, k2, k3, k4⟩ := okSort_of hk
          obtain ⟨a, vs, rfl, hs, rv⟩ := h.seqL' r q
          obtain ⟨z1, z2, z3⟩ := rv.zipV
          have zm : (vs.zip ys).map (fun b => toPy b.2) = ys.map toPy := by
            rw [show (vs.zip ys).map (fun b => toPy b.2) = ((vs.zip ys).map (·.2)).map toPy from by rw [List.map_map]; rfl, z2]
          refine ⟨V × D, a, vs.zip ys, (·.1), fun b => toPy b.2, rfl, by rw [z1, hK]; exact hs, fun b hb => ?_, by rw [zm]; exact k1, by rw [zm]; exact k2, ?_, fun b hb => ?_, fun p hp => ?_⟩
          · rw [hK]
            exact (z3 b hb).dp (k4 _ (by rw [← zm]; exact List.mem_map.mpr ⟨b, hb, rfl⟩)).1
          · have : (vs.zip ys).length = ys.length := by
              have z := congrArg List.length z2
              rwa [List.length_map] at z
            rw [this]
            rw [List.length_map] at k3
            exact lim_line k3
          · have hd := (k4 _ (by rw [← zm]; exact List.mem_map.mpr ⟨b, hb, rfl⟩)).2
            have h1 := hr.un
            have h2 : (toPy b.2).depth ≤ 60 := hd
            show X.A.units + 2 + (toPy b.2).depth < cLine
            omega
          · have rr : RepAll U M H (((vs.zip ys).mergeSort (PySem.W.dataLe false fun b => toPy b.2)).map (·.1)) (sortD ys) := by
              have := RepAll.ofZip (U := U) (M := M) (H := H) (bs := (vs.zip ys).mergeSort (PySem.W.dataLe false fun b => toPy b.2)) fun b hb => z3 b (List.mem_mergeSort.mp hb)
              rwa [sortD_zip, z2] at this
            exact g.lst r rr hp
        · rw [if_neg hk] at e'; cases e'
end
end DL
/-! ### sorted(xs, key=f), f a def -/
namespace L2
open PySem PySem.Spec PyProof.Rows PySem.W
/-- an object no longer tracked -/
def hide (H : Hp) (k : Addr) : Hp := fun b => if b = k then none else H b
/-- all objects of a heap but these and those of the base -/
def others (h base : Heap) (ex : List Addr) : List (Addr × Obj) := (List.range h.objs.size).filterMap fun b => if b ∈ ex then none else match base.get? b, h.get? b with
  | none, some o => some (b, o)
  | _, _ => none
theorem oth_mem {h base : Heap} {ex : List Addr} {p : Addr × Obj} (m : p ∈ others h base ex) : h.get? p.1 = some p.2 ∧ p.1 ∉ ex ∧ base.get? p.1 = none := by
  obtain ⟨b, _, e⟩ := List.mem_filterMap.mp m
  by_cases q : b ∈ ex
  · rw [if_pos q] at e; cases e
  · rw [if_neg q] at e
    cases q1 : base.get? b with
    | some _ => rw [q1] at e; cases e
    | none =>
      cases q2 : h.get? b with
      | none => rw [q1, q2] at e; cases e
      | some o =>
        rw [q1, q2] at e
        cases e
        exact ⟨q2, q, q1⟩
theorem oth_all {h base : Heap} {ex : List Addr} {b : Addr} {o : Obj} (e : h.get? b = some o) (n : b ∉ ex) (nb : base.get? b = none) : (b, o) ∈ others h base ex :=
  List.mem_filterMap.mpr ⟨b, List.mem_range.mpr (Heap.lt_size e), by rw [if_neg n, nb, e]⟩
theorem ns_one {h : Heap} {a : Addr} {m m' : Str → Option Value} (x : h.Ns a m) (y : h.Ns a m') : m = m' := by
  obtain ⟨o, es, ep, g1, d1, _, e1⟩ := x
  obtain ⟨o2, es2, ep2, g2, d2, _, e2⟩ := y
  rw [g1] at g2
  cases g2
  rw [d1] at d2
  cases d2
  funext x
  exact (e1 x).symm.trans (e2 x)
/-- the sort's end, seen from here: all that stood stands, the keys' list is gone, the list is tracked -/
theorem Inv.sorted {X : Cx} {pins : List (Addr × Obj)} {σ : St} {H : Hp} {s : Shared} {h' : Heap} {a kS : Addr} {o : HO} {m : Str → Option Value} {t' : Nat} (I : Inv X pins σ H s) (F : FpOk X pins H a) (FK : FpOk X pins (hide H kS) kS) (hns : s.heap.Ns X.env.locals m) (hns' : h'.Ns X.env.locals m)
    (ks : ∃ xs, H kS = some (.lst xs)) (keep : ∀ b u, b ≠ a → b ≠ kS → b ≠ X.env.locals → s.heap.get? b = some u → h'.get? b = some u) (new : ObjOk X.prog X.w (upd (hide H kS) a o) h' a o) : Inv X pins σ (upd (hide H kS) a o) { s with heap := h', toks := t' } := by
  obtain ⟨f0, f1, f2, f3, f4, f5⟩ := F
  obtain ⟨_, k1, k2, k3, k4, k5⟩ := FK
  obtain ⟨xs, hk⟩ := ks
  have tr : ∀ b u, H b = some u → b ≠ kS → upd (hide H kS) a o b = some u := fun b u e n => by
    rw [upd_ne fun z => by rw [z, f0] at e; cases e]
    show (if b = kS then none else H b) = _
    rw [if_neg n]; exact e
  have un : ∀ b, b ≠ a → H b = none → upd (hide H kS) a o b = none := fun b n e => by
    rw [upd_ne n]
    show (if b = kS then none else H b) = _
    by_cases q : b = kS
    · rw [if_pos q]
    · rw [if_neg q]; exact e
  have outA : ∀ b, b ∉ [a, kS] → b ≠ a ∧ b ≠ kS := fun b hb => ⟨fun z => hb (by simp [z]), fun z => hb (by simp [z])⟩
  refine I.step (g' := s.gens) (d' := s.drawn) (ch := [a, kS]) (fun b hb => ?_) (fun b u hL _ hc e _ => keep b u (outA b hc).1 (outA b hc).2 hL e) (fun b u hL _ hc e _ => ⟨u.slots, keep b u (outA b hc).1 (outA b hc).2 hL e⟩) (fun b _ hc _ n => un b (outA b hc).1 n)
    (fun b u hc e => ?_) (fun b xs e => tr b _ e fun z => by rw [z, hk] at e; cases e) (fun b u v e => tr b _ e fun z => by rw [z, hk] at e; cases e) (fun b ps e => ⟨#[], by rw [tr b _ e fun z => by rw [z, hk] at e; cases e]; simp⟩) (fun m2 hm => by rw [← ns_one hns hm]; exact hns') (fun b u e => ?_) I.bare
  · rcases List.mem_cons.mp hb with rfl | hb
    · exact ⟨f3, f1, f4, f5⟩
    · rw [List.mem_singleton.mp hb]; exact ⟨k3, k1, k4, k5⟩
  · by_cases hL : b = X.env.locals
    · obtain ⟨o', _, _, g, _⟩ := hns'
      exact ⟨o', by rw [hL]; exact g⟩
    · exact ⟨u, keep b u (outA b hc).1 (outA b hc).2 hL e⟩
  · by_cases hb : b = a
    · subst hb; rw [upd_same] at e; cases e; exact new
    · rw [upd_ne hb] at e
      have e1 : (if b = kS then none else H b) = some u := e
      by_cases q : b = kS
      · rw [if_pos q] at e1; cases e1
      · rw [if_neg q] at e1
        have nL : ∀ c v, H c = some v → c ≠ X.env.locals := fun c v z y => by rw [y, I.free] at z; cases z
        refine (I.hok b u e1).stay (fun c v hc g => ?_) (fun c g => tr c _ g fun z => by rw [z, hk] at g; cases g) fun c ys g => tr c _ g fun z => by rw [z, hk] at g; cases g
        rcases hc with z | z
        · rw [z] at g ⊢; exact keep b v hb q (nL b _ e1) g
        · exact keep c v (fun y => by rw [y, f0] at z; cases z) (fun y => by rw [y, hk] at z; cases z) (nL c _ z) g
/-- what a key def's calls want: Pv by the turn, the keys so far, the heap; the keys' list at kS -/
def rSortK (K : PySem.W.Frag) (A : Around) (sp : Sp) (E : XK) (x : V) (H : Hp) (Q : VK) : Prop := ∃ (l : Addr) (xs : List V), x = V.ref l ∧ SqL K H l xs ∧ ∀ kS, H kS = none → ∃ Pv : Nat → List V → Hp → Prop, Pv 0 [] (upd H kS (.lst [])) ∧ (∀ i ks H', Pv i ks H' → H' kS = some (.lst ks)) ∧
  (∀ i y ks H', xs[i]? = some y → Pv i ks H' → sp [y] H' (fun k H'' => H'' kS = some (.lst ks) ∧ Pv (i + 1) (ks ++ [k]) (upd H'' kS (.lst (ks ++ [k])))) E) ∧
  (∀ ks H', Pv xs.length ks H' → ∃ (β : Type) (bs : List β) (fk fv : β → V) (enc : β → PyData), ks = bs.map fk ∧ xs = bs.map fv ∧ (∀ b ∈ bs, Dp K H' (fk b) (enc b)) ∧ AllAlike (bs.map enc) ∧ SortOk (bs.map enc) ∧ (∀ b ∈ bs, A.units + 2 + (enc b).depth < cLine) ∧
    ∀ p, H' p = none → p ≠ kS → Q (.ref p) (upd (hide H' kS) p (.lst ((bs.mergeSort (dataLe false enc)).map fv))))
theorem Around.units_in2 {A : Around} : A.in1.in1.units ≤ A.units + 2 := by
  show A.units + 1 + 1 ≤ A.units + 2
  exact Nat.le_refl _
theorem run_sortK {X : Cx} {pins : List (Addr × Obj)} {σ : St} {H : Hp} {s : Shared} {CX : CXT} {k : Nat} {f : Addr} {fd : FuncData} {ps : List Str} {sp : Sp} {E : XK} {x : V} {u : Value} {Q : VK}
    (F : FnOk X.prog X.w X.K X.mg X.base CX k f fd ps sp) (hr : Room (k + 2) X.A) (hb : Binds X.K fd ps []) (hE : ∀ outer H s e s', ¬ CX outer H s E e s') (I : Inv X pins σ H s) (rx : RelV x u) (h : rSortK X.K X.A sp E x H Q) :
    wpAny (model X.prog X.w) X.A (call (.builtin "sorted") [u] [(Str.ofString "key", .ref f)]) (EP X pins σ Q) X.xe s := by
  obtain ⟨l, xs, rfl, hs, hk⟩ := h
  cases rx
  obtain ⟨its, rv, hl, hz⟩ := I.list hs
  have hzi : its.length ≤ sizeLine := by rw [← rv.length]; exact hz
  refine sorted_of_sort hl.isList hzi (ksk_s1 _ _) (fun _ => ksk_l1 _ _) fun E' => ?_
  rw [ksk_t1]
  generalize hh0 : copyHeap s.heap its = h0
  have old0 : ∀ b o, s.heap.get? b = some o → h0.get? b = some o := fun b o q => by rw [← hh0]; exact copyHeap_old q
  have a0 : h0.get? (s.heap.objs.size + 1) = some (seqObj "list" its.toArray 0) := by rw [← hh0]; exact copyHeap_at s.heap its
  generalize ha : s.heap.objs.size + 1 = a at a0 ⊢
  have hane : ∀ b o, s.heap.get? b = some o → b ≠ a := fun b o q z => by
    have h1 := Heap.lt_size q
    rw [z, ← ha] at h1
    exact absurd h1 (Nat.not_lt.mpr (Nat.le_succ _))
  obtain ⟨e1, ho1⟩ : ∃ e1, (h0.update a (Obj.mapSeq fun _ => (#[] : Array Value))).get? a = some (seqObj "list" #[] e1) := ⟨_, get?_update_seq a0 fun _ => #[]⟩
  have old1 : ∀ b o, s.heap.get? b = some o → (h0.update a (Obj.mapSeq fun _ => (#[] : Array Value))).get? b = some o := fun b o q => by
    rw [(Heap.SameBut.update h0 a _).2 b (hane b o q)]; exact old0 b o q
  unfold ksk_tree
  refine wpAny_bind (listItems_at a0 rfl ?_)
  refine wpAny_bind (listUpdate_at a0 rfl ?_ (by rw [List.size_toArray]; exact hzi) (Nat.zero_le _))
  refine wpAny_bind (seqEpoch_at ho1 rfl ?_)
  refine wpAny_bind (wpAny_newTuple ?_ (by show its.length ≤ _; exact hzi))
  refine wpAny_bind (wpAny_newList ?_ (Nat.zero_le _))
  refine wpAny_holding ?_
  generalize hh1 : h0.update a (Obj.mapSeq fun _ => (#[] : Array Value)) = h1 at ho1 old1 ⊢
  show wpAny _ _ (ksk_rest a (.ref f) false its.toArray e1 (.ref (h1.push (seqObj "tuple" its.toArray 0)).objs.size)) _ _ { s with heap := (h1.push (seqObj "tuple" its.toArray 0)).push (seqObj "list" #[] 0) }
  generalize hh2 : h1.push (seqObj "tuple" its.toArray 0) = h2
  have old2 : ∀ b o, s.heap.get? b = some o → h2.get? b = some o := fun b o q => by rw [← hh2]; exact Heap.get?_push_of_some _ (old1 b o q)
  have a2 : h2.get? a = some (seqObj "list" #[] e1) := by rw [← hh2]; exact Heap.get?_push_of_some _ ho1
  have I2 : Inv X pins σ H { s with heap := h2 } := I.kept (t' := s.toks) old2
  have nk : H h2.objs.size = none := I2.hok.fresh (Nat.le_refl _)
  have nka : h2.objs.size ≠ a := Nat.ne_of_gt (Heap.lt_size a2)
  have I3 : Inv X pins σ (upd H h2.objs.size (.lst [])) { s with heap := h2.push (seqObj "list" #[] 0) } := I2.laid (t' := s.toks) (fun b o q => Heap.get?_push_of_some _ q) (Nat.le_refl _) ⟨Nat.zero_le _, [], 0, .nil, Heap.get?_push_size _ rfl⟩
  have hna : H a = none := I.hok.fresh (by rw [← ha]; exact Nat.le_succ _)
  have fpa : FpOk X pins H a := I.fpOk (by rw [← ha]; exact Nat.le_succ _) hna
  have fk0 : FpOk X pins H h2.objs.size := I2.fpOk (Nat.le_refl _) nk
  have hbase : X.base.get? a = none := by
    cases q : X.base.get? a with
    | none => rfl
    | some o => exact absurd rfl (hane a o (I.bk a o q))
  obtain ⟨Pv, p0, pk, pstep, pdone⟩ := hk h2.objs.size nk
  generalize hkS : h2.objs.size = kS at nk nka I3 p0 pk pstep pdone fk0 ⊢
  have Ip : ∀ {H' : Hp} {s' : Shared}, Inv X pins σ H' s' → s'.heap.get? a = some (seqObj "list" #[] e1) → H' a = none → Inv X (pins ++ [(a, seqObj "list" #[] e1)]) σ H' s' := fun {H' s'} I' h1 h2 => I'.pins_of fun p hp => by
    rcases List.mem_append.mp hp with hp | hp
    · exact I'.pin p (List.mem_append_right _ hp)
    · rcases List.mem_singleton.mp hp with rfl
      exact ⟨h1, h2, fpa.2.1, fpa.2.2.1, fun v z => by cases z⟩
  have Iq : ∀ {H' : Hp} {s' : Shared}, Inv X (pins ++ [(a, seqObj "list" #[] e1)]) σ H' s' → s'.heap.get? a = some (seqObj "list" #[] e1) ∧ H' a = none := fun {H' s'} I' => by
    have z := I'.pin (a, seqObj "list" #[] e1) (List.mem_append_right _ (List.mem_append_right _ List.mem_cons_self))
    exact ⟨z.1, z.2.1⟩
  have I4 := Ip I3 (Heap.get?_push_of_some _ a2) (by rw [upd_ne (Ne.symm nka)]; exact hna)
  unfold ksk_rest
  refine wpAny_bind (wpAny_rule ?_)
  first
    | rw [List.forIn_toArray]
    | (rw [← Array.forIn_toList]; simp only [List.toList_toArray])
    | rw [← Array.forIn_toList]
  refine wpAny_bind (ksk_fold (fun i s' => ∃ H' ks, Inv X (pins ++ [(a, seqObj "list" #[] e1)]) σ H' s' ∧ Pv i ks H' ∧ ks.length = i) its 0 _ ⟨_, [], I4, p0, rfl⟩ ?step ?done)
  case step =>
    rintro j y s' hy ⟨H', ks, I', pv, hkl⟩
    simp only [Nat.zero_add] at pv hkl ⊢
    obtain ⟨yv, hyv, ryv⟩ : ∃ yv, xs[j]? = some yv ∧ RelV yv y := by
      have : ∀ {vs : List V} {us : List Value} {i : Nat} {u : Value}, Vals vs us → us[i]? = some u → ∃ v, vs[i]? = some v ∧ RelV v u := by
        intro vs us i u r
        induction r generalizing i with
        | nil => intro q; simp at q
        | cons h1 h2 ih =>
          intro q
          cases i with
          | zero => simp at q; subst q; exact ⟨_, rfl, h1⟩
          | succ i => simp at q; exact ih q
      exact this rv hy
    have hq := pstep j yv ks H' hyv pv
    have hl1 : ([yv] : List V).length = ps.length := F.len _ _ _ _ hq
    have bb := hb s' [y] I'.kIn (by rw [List.append_nil]; exact hl1)
    rw [List.append_nil] at bb
    refine wpAny_bind (wpAny_attempt (wpAny_mono (wpAny_call (E := fun _ _ => False) (Q := EP X (pins ++ [(a, seqObj "list" #[] e1)]) σ fun k H'' => H'' kS = some (.lst ks) ∧ Pv (j + 1) (ks ++ [k]) (upd H'' kS (.lst (ks ++ [k])))) (codeAny_mono (F.run X.A.in1.in1 X.stack s' H' ⟨[y], []⟩ [y] [yv] _ E hr.in1.in1 I'.env0.in1.in1 bb (.cons ryv .nil) hq) fun r s'' hr' => ?_)) (fun v s'' he => ?_) fun _ _ hF => hF.elim))
    · cases r with
      | error e => exact hE _ _ _ _ _ hr'
      | ok fl =>
        cases fl with
        | ret u => exact I'.after hr'
        | next => exact False.elim hr'
        | brk => exact False.elim hr'
        | cont => exact False.elim hr'
    · obtain ⟨kv, H2, J, rk, hks, pv2⟩ := he
      try dsimp only
      obtain ⟨kz, kits, kn, krv, kob⟩ := J.hok kS _ hks
      have kl : kits.length = j := by rw [← krv.length, hkl]
      have jlt : j < its.length := (List.getElem?_eq_some_iff.mp hy).1
      refine wpAny_bind (listUpdate_at kob rfl ?_ (by rw [List.size_toArray]; omega) (by rw [Array.size_push, List.size_toArray]; omega))
      obtain ⟨c2, hc2⟩ : ∃ c2, (s''.heap.update kS (Obj.mapSeq (·.push v))).get? kS = some (seqObj "list" (kits.toArray.push v) c2) := ⟨_, get?_update_seq kob (·.push v)⟩
      refine wpAny_pure ⟨rfl, upd H2 kS (.lst (ks ++ [kv])), ks ++ [kv], ?_, pv2, by rw [List.length_append, hkl]; rfl⟩
      refine J.write (e := kS) (t' := s''.toks) (by rw [hks]; trivial) (.inl rfl) (fun b u hb hu => by rw [(Heap.SameBut.update s''.heap kS _).2 b hb]; exact hu) ⟨_, hc2⟩ ⟨?_, kits ++ [v], c2, krv.append (.cons rk .nil), ?_⟩
      · rw [List.length_append, hkl]
        show j + 1 ≤ sizeLine
        omega
      · rw [hc2]
        simp
  case done =>
    rintro s' ⟨H', ks, I', pv, hkl⟩
    simp only [Nat.zero_add] at pv hkl
    obtain ⟨ga, na⟩ := Iq I'
    have J : Inv X pins σ H' s' := I'.unpinned
    have hks := pk _ _ _ pv
    obtain ⟨kz, kits, kn, krv, kob⟩ := J.hok kS _ hks
    rw [← rv.length] at pv hkl
    obtain ⟨β, bs, fk, fv, enc, ek, ex, hd, hal, hso, hu, q⟩ := pdone ks H' pv
    subst ek ex
    have kl : kits.length = its.length := by rw [← krv.length, hkl, rv.length]
    have hrd := each_reads J krv hd
    try dsimp only
    refine wpAny_bind (listItems_at kob rfl ?_)
    obtain ⟨m, fr⟩ := J.fr
    have nbase : ∀ b, (∃ u, H' b = some u) → X.base.get? b = none := fun b ⟨u, hu⟩ => by
      cases q : X.base.get? b with
      | none => rfl
      | some o => rw [(J.bs b o q).2] at hu; cases hu
    have kL : kS ≠ X.env.locals := fun z => by rw [z, J.free] at hks; cases hks
    have N : News X.base X.env.locals s'.heap (others s'.heap X.base [X.env.locals, kS, a] ++ [(kS, seqObj "list" kits.toArray kn), (a, seqObj "list" #[] e1)]) := fun p hp => by
      rcases List.mem_append.mp hp with hp | hp
      · obtain ⟨g, n, nb⟩ := oth_mem hp
        exact ⟨g, fun z => n (by simp [z]), nb⟩
      · rcases List.mem_cons.mp hp with rfl | hp
        · exact ⟨kob, kL, nbase kS ⟨_, hks⟩⟩
        · rw [List.mem_singleton.mp hp]; exact ⟨ga, fpa.2.1, hbase⟩
    refine key_end (vs := its) (e := kn) (e1 := e1) (κ := dataKind s'.heap (bs.map enc)) fr N nka (fun p hp z => (oth_mem hp).2.1 (by simp [z])) (fun p hp z => (oth_mem hp).2.1 (by simp [z])) ?_ (by rw [List.size_toArray]; exact kl) hzi fun h3 tk c3 fr3 N3 => ⟨rfl, ?_⟩
    · rw [List.toList_toArray]
      refine dl_sortsAt (each_map (R := fun v d => ∃ as, Reads s'.heap v d as) enc hrd) hal hso fun d hd => ?_
      obtain ⟨b, hb, rfl⟩ := List.mem_map.mp hd
      exact hu b hb
    · rw [List.toList_toArray] at N3
      have hout := keyedOut_each (rev := false) (R := fun u b => RelV (fv b) u) (bs := bs) enc ⟨s'.heap, kits, hal, rfl, each_map (R := fun v d => ∃ as, Reads s'.heap v d as) enc hrd⟩ (each_vals rv)
      generalize sortVals (dataKind s'.heap (bs.map enc)) false kits its = out at hout N3
      have ha3 := (N3 _ List.mem_cons_self).1
      have keep : ∀ b u, b ≠ a → b ≠ kS → b ≠ X.env.locals → s'.heap.get? b = some u → h3.get? b = some u := fun b u n1 n2 n3 g => by
        cases q : X.base.get? b with
        | none => exact (N3 (b, u) (List.mem_cons_of_mem _ (oth_all g (by simp [n1, n2, n3]) q))).1
        | some o =>
          have z := J.bk b o q
          rw [g] at z
          cases z
          exact fr3.keep b _ q
      have fk : FpOk X pins (hide H' kS) kS := ⟨if_pos rfl, kL, fun z => by
        have := J.stkFree
        cases q : X.base.get? kS with
        | some o => rw [nbase kS ⟨_, hks⟩] at q; cases q
        | none => exact fk0.2.2.1 z, fk0.2.2.2.1, fk0.2.2.2.2.1, fk0.2.2.2.2.2⟩
      have K2 := J.sorted (t' := tk) (o := .lst ((bs.mergeSort (dataLe false enc)).map fv)) ⟨na, fpa.2⟩ fk fr.ns fr3.ns ⟨_, hks⟩ keep ⟨by rw [List.length_map, List.length_mergeSort]; rw [List.length_map] at hz; exact hz, out, c3, vals_each hout, ha3⟩
      exact ⟨.ref a, _, K2, rfl, q a na nka.symm⟩
end L2
/-! DL8: sorted(xs, key=f), by mirrors; isinstance of an exception in its suite. -/
namespace DL
open PySem L2
def keysL (F : Mi) : List D → Sto → Option (List D × Sto)
  | [], S => some ([], S)
  | x :: xs, S => match F [x] S with
    | .ok k S1 => match keysL F xs S1 with
      | some (ks, S2) => some (k :: ks, S2)
      | none => none
    | _ => none
def sortK (ks xs : List D) : List D := (isort (PySem.W.dataLe false fun b => toPy b.1) (ks.zip xs)).map (·.2)
def mSortKW (fin : List D → Sto → Out D) (F : Mi) (m : ME) : ME := fun ρ S => (m ρ S).bind fun d S1 => match seqL S1 d with
  | some xs => match keysL F xs S1 with
    | some (ks, S2) => if okSort (ks.map toPy) then fin (sortK ks xs) S2 else .stuck
    | none => .stuck
  | none => .stuck
abbrev finL : List D → Sto → Out D := fun xs S => .ok (.lst xs) S
abbrev finO : List D → Sto → Out D := fun xs S => .ok (.obj S.length) (S ++ [.lst xs])
theorem keysL_cons {F : Mi} {x : D} {xs : List D} {S : Sto} {ks : List D} {S2 : Sto} (h : keysL F (x :: xs) S = some (ks, S2)) : ∃ k S1 r, F [x] S = .ok k S1 ∧ ks = k :: r ∧ keysL F xs S1 = some (r, S2) := by
  unfold keysL at h
  cases q : F [x] S with
  | ok k S1 =>
    rw [q] at h
    simp only at h
    cases q2 : keysL F xs S1 with
    | none => rw [q2] at h; cases h
    | some p =>
      obtain ⟨r, S3⟩ := p
      rw [q2] at h
      cases h
      exact ⟨k, S1, r, rfl, rfl, q2⟩
  | exc e S1 => rw [q] at h; cases h
  | stuck => rw [q] at h; cases h
theorem keysL_len {F : Mi} : ∀ {xs : List D} {S : Sto} {ks : List D} {S2 : Sto}, keysL F xs S = some (ks, S2) → ks.length = xs.length
  | [], _, _, _, h => by cases h; rfl
  | x :: xs, _, _, _, h => by
    obtain ⟨k, S1, r, _, rfl, h2⟩ := keysL_cons h
    rw [List.length_cons, List.length_cons, keysL_len h2]
section
variable {U : Uv} {M : Mp} {H : Hp}
theorem zip4 : ∀ {ks vs : List V} {kd xd : List D}, RepAll U M H ks kd → RepAll U M H vs xd → ks.length = vs.length →
    (((ks.zip kd).zip (vs.zip xd)).map fun b => b.1.1) = ks ∧ (((ks.zip kd).zip (vs.zip xd)).map fun b => b.2.1) = vs ∧ (((ks.zip kd).zip (vs.zip xd)).map fun b => (b.1.2, b.2.2)) = kd.zip xd ∧ (((ks.zip kd).zip (vs.zip xd)).map fun b => b.1.2) = kd ∧
      ∀ b ∈ (ks.zip kd).zip (vs.zip xd), Rep U M H b.1.1 b.1.2 ∧ Rep U M H b.2.1 b.2.2
  | _, _, _, _, .nil, .nil, _ => ⟨rfl, rfl, rfl, rfl, fun b hb => by cases hb⟩
  | _, _, _, _, .nil, .cons _ _, h => by cases h
  | _, _, _, _, .cons _ _, .nil, h => by cases h
  | _, _, _, _, .cons h1 r1, .cons h2 r2, h => by
    obtain ⟨a1, a2, a3, a4, a5⟩ := zip4 r1 r2 (by simpa using h)
    refine ⟨by simp only [List.zip_cons_cons, List.map_cons, a1], by simp only [List.zip_cons_cons, List.map_cons, a2], by simp only [List.zip_cons_cons, List.map_cons, a3], by simp only [List.zip_cons_cons, List.map_cons, a4], fun b hb => ?_⟩
    rcases List.mem_cons.mp hb with rfl | hb
    · exact ⟨h1, h2⟩
    · exact a5 b hb
theorem RepAll.ofMap {β : Type} {f : β → V} {g : β → D} : ∀ {bs : List β}, (∀ b ∈ bs, Rep U M H (f b) (g b)) → RepAll U M H (bs.map f) (bs.map g)
  | [], _ => .nil
  | b :: bs, h => .cons (h b List.mem_cons_self) (RepAll.ofMap fun b hb => h b (List.mem_cons_of_mem _ hb))
end
section
variable {X : Cx} {U : Uv} {W : WX} {k j : Nat} {F : Mi} {x : Str} {e : Expr} {m : ME} {p pos : Pos} {f : Addr} {fd : FuncData} {pn : Str}
theorem sortK_post {fin : List D → Sto → Out D} (hfin : ∀ {M : Mp} {S : Sto} {H : Hp} {σ : L2.St} {Q : VK} {vs : List V} {ds : List D} {p : Addr}, PostX U (Rep U) M H σ W (fin ds S) Q → R U M S H → RepAll U M H vs ds → H p = none → Q (.ref p) (upd H p (.lst vs)))
    (hr : Room j X.A) (hK : X.K = U.K) {σ : L2.St} {H : Hp} {Q : VK} (h : tE U W (mSortKW fin F m) σ H Q) : tE U W m σ H fun v H1 => rSortK X.K X.A (spF U 1 F) (fun _ _ _ => False) v H1 Q := by
  obtain ⟨M, S, ρ, A, p⟩ := h
  refine tX.bind A p fun d S1 M1 H1 v e1 A1 r1 p1 => ?_
  cases q : seqL S1 d with
  | none => simp only [q] at p1; exact p1.elim
  | some xs =>
    simp only [q] at p1
    cases q2 : keysL F xs S1 with
    | none => simp only [q2] at p1; exact p1.elim
    | some kk =>
      obtain ⟨kd, S2⟩ := kk
      simp only [q2] at p1
      by_cases hok : okSort (kd.map toPy) = true
      · rw [if_pos hok] at p1
        obtain ⟨k1, k2, k3, k4⟩ := okSort_of hok
        obtain ⟨a, vs, rfl, hs, rv⟩ := r1.seqL' A1.r q
        have hl : kd.length = xs.length := keysL_len q2
        refine ⟨a, vs, rfl, by rw [hK]; exact hs, fun kS hkS => ?_⟩
        have hnob : ∀ {M' : Mp} {S' : Sto} {H' : Hp}, R U (M'.priv kS) S' H' → ¬ M'.ob kS := fun r => r.prn kS List.mem_cons_self
        refine ⟨fun i ks H' => ∃ Mq S', Ext M1 H1 Mq H' ∧ R U (Mq.priv kS) S' H' ∧ H' kS = some (.lst ks) ∧ RepAll U (Mq.priv kS) H' ks (kd.take i) ∧ keysL F (xs.drop i) S' = some (kd.drop i, S2),
          ⟨M1, S1, A1.r.extNew hkS, A1.r.priv hkS, upd_same, .nil, q2⟩, fun i ks H' ⟨_, _, _, _, z, _⟩ => z, fun i y ks H' hy ⟨Mq, S', f0, R3, hHD, ra, hkl⟩ => ?_, fun ks H' ⟨Mq, S', f0, R3, hHD, ra, hkl⟩ => ?_⟩
        · obtain ⟨dy, hdy, rdy⟩ := rv.getV hy
          have hlt : i < xs.length := (List.getElem?_eq_some_iff.mp hdy).1
          have hd : xs.drop i = dy :: xs.drop (i + 1) := by
            rw [List.drop_eq_getElem_cons hlt]
            rw [List.getElem?_eq_getElem hlt] at hdy
            rw [Option.some.inj hdy]
          rw [hd] at hkl
          obtain ⟨kk, S1', rr, hF, ekk, hkl2⟩ := keysL_cons hkl
          have hlk : i < kd.length := by rw [hl]; exact hlt
          have hdk := List.drop_eq_getElem_cons hlk
          rw [hdk] at ekk
          obtain ⟨ek1, ek2⟩ := List.cons.inj ekk
          refine ⟨Mq.priv kS, S', [dy], R3, .cons (rdy.mv (mvPriv f0 hkS)) .nil, rfl, ?_⟩
          rw [hF]
          intro M4 H4 b e4 R4 rb
          obtain ⟨M5, em, f5⟩ := e4.unpriv
          subst em
          have hD4 : H4 kS = some (.lst ks) := e4.keep _ _ hHD (R3.prn kS List.mem_cons_self)
          have hpr : kS ∈ (M5.priv kS).pr := List.mem_cons_self
          have f15 := f0.trans f5
          refine ⟨hD4, M5, S1', extWrite f15 hkS (hnob R4), R4.write hpr hD4, upd_same, ?_, ?_⟩
          · have et : kd.take (i + 1) = kd.take i ++ [kk] := by
              rw [List.take_add_one, List.getElem?_eq_getElem hlk, ek1]; rfl
            rw [et]
            exact ((ra.ext e4).append (.cons rb .nil)).mv (Mv.write hpr hD4)
          · rw [hkl2, ek2]
        · have evl : vs.length = xs.length := rv.length
          rw [evl, ← hl] at ra
          rw [List.take_length] at ra
          rw [evl, List.drop_length] at hkl
          obtain ⟨_, eS⟩ := Prod.mk.inj (Option.some.inj hkl)
          subst eS
          have rv' := rv.mv (mvPriv f0 hkS)
          obtain ⟨z1, z2, z3, z4, z5⟩ := zip4 ra rv' (by rw [ra.length, evl, hl])
          have zm : ((ks.zip kd).zip (vs.zip xs)).map (fun b => toPy b.1.2) = kd.map toPy := by
            rw [show ((ks.zip kd).zip (vs.zip xs)).map (fun b => toPy b.1.2) = (((ks.zip kd).zip (vs.zip xs)).map fun b => b.1.2).map toPy from by rw [List.map_map]; rfl, z4]
          refine ⟨(V × D) × (V × D), (ks.zip kd).zip (vs.zip xs), fun b => b.1.1, fun b => b.2.1, fun b => toPy b.1.2, z1.symm, z2.symm, fun b hb => ?_, by rw [zm]; exact k1, by rw [zm]; exact k2, fun b hb => ?_, fun p hp npk => ?_⟩
          · rw [hK]
            exact (z5 b hb).1.dp (k4 _ (by rw [← zm]; exact List.mem_map.mpr ⟨b, hb, rfl⟩)).1
          · have hd := (k4 _ (by rw [← zm]; exact List.mem_map.mpr ⟨b, hb, rfl⟩)).2
            have h1 := hr.un
            have h2 : (toPy b.1.2).depth ≤ 60 := hd
            show X.A.units + 2 + (toPy b.1.2).depth < cLine
            omega
          · have mvh : Mv (Mq.priv kS) H' Mq (hide H' kS) := ⟨Nat.le_refl _, fun _ _ => rfl, fun b o g n => by
              have nk : b ≠ kS := fun z => n (priv_has.mpr (.inr (.inl z)))
              refine ⟨?_, fun z => n (priv_has.mpr (z.elim .inl fun z => .inr (.inr z)))⟩
              show (if b = kS then none else H' b) = _
              rw [if_neg nk]; exact g, fun b o u g => by
              show (if b = kS then none else H' b) = _
              rw [if_neg (fun z => by rw [z, hHD] at g; cases g)]; exact g⟩
            have kp : ∀ b o, b ≠ kS → H' b = some o → hide H' kS b = some o := fun b o n g => by
              show (if b = kS then none else H' b) = _
              rw [if_neg n]; exact g
            have R5 : R U Mq S' (hide H' kS) := ⟨R3.n, R3.inj, fun i ob h => by
                have hi : i < Mq.n := Nat.lt_of_lt_of_eq (List.getElem?_eq_some_iff.mp h).1 R3.n.symm
                exact ObAt.mv mvh (fun u hu => kp _ _ (fun z => hnob R3 ⟨i, hi, z⟩) hu) (R3.at_ i ob h),
              fun b hb => by
                have nk : b ≠ kS := fun z => by
                  rw [f0.pr] at hb
                  obtain ⟨u, hu⟩ := A1.r.prl b hb
                  rw [z, hkS] at hu; cases hu
                obtain ⟨u, hu⟩ := R3.prl b (List.mem_cons_of_mem _ hb)
                exact ⟨u, kp b u nk hu⟩,
              fun b hb z => R3.prn b (List.mem_cons_of_mem _ hb) z⟩
            have ex : Ext M1 H1 Mq (hide H' kS) := ⟨f0.le, f0.same, f0.fresh, fun b o g n => kp b o (fun z => by rw [z, hkS] at g; cases g) (f0.keep b o g n), fun i hi => by
              obtain ⟨u, hu⟩ := f0.live i hi
              exact ⟨u, kp _ u (fun z => hnob R3 ⟨i, hi, z⟩) hu⟩, f0.pr, fun b o u g => kp b _ (fun z => by rw [z, hkS] at g; cases g) (f0.frz b o u g)⟩
            refine hfin (PostX.ext ex p1) R5 ?_ (by
              show (if p = kS then none else H' p) = none
              rw [if_neg npk]; exact hp)
            have rr : RepAll U (Mq.priv kS) H' ((((ks.zip kd).zip (vs.zip xs)).mergeSort (PySem.W.dataLe false fun b => toPy b.1.2)).map fun b => b.2.1) (sortK kd xs) := by
              have z := RepAll.ofMap (U := U) (M := Mq.priv kS) (H := H') (f := fun b : (V × D) × (V × D) => b.2.1) (g := fun b => b.2.2) (bs := ((ks.zip kd).zip (vs.zip xs)).mergeSort (PySem.W.dataLe false fun b => toPy b.1.2)) fun b hb => (z5 b (List.mem_mergeSort.mp hb)).2
              have es : (((ks.zip kd).zip (vs.zip xs)).mergeSort (PySem.W.dataLe false fun b => toPy b.1.2)).map (fun b => b.2.2) = sortK kd xs := by
                unfold sortK
                rw [isort_eq (le := PySem.W.dataLe false fun b : D × D => toPy b.1) (PySem.W.sortLe_total _ _ _)]
                have zs := List.map_mergeSort (l := (ks.zip kd).zip (vs.zip xs)) (f := fun b : (V × D) × (V × D) => (b.1.2, b.2.2)) (r := PySem.W.dataLe false fun b : (V × D) × (V × D) => toPy b.1.2) (s := PySem.W.dataLe false fun b : D × D => toPy b.1) (fun _ _ _ _ => rfl)
                rw [z3] at zs
                rw [← zs, List.map_map]
                rfl
              rw [es] at z
              exact z
            exact rr.mv mvh
      · rw [if_neg hok] at p1; exact p1.elim
theorem cr_sortKD {f : Addr} {fd : FuncData} {ps : List Str} {sp : Sp} (G : FnOk X.prog X.w X.K X.mg X.base (L2N.CX X.prog X.w) k f fd ps sp) (hb : Binds X.K fd ps []) (hr : Room (k + 2) X.A) :
    CallRK X (.builtin "sorted") [Str.ofString "key"] (fun xs zs H Q => ∃ v, xs = [v] ∧ zs = [.ref f] ∧ rSortK X.K X.A sp (fun _ _ _ => False) v H Q) := by
  intro pins s σ H xs zs us ws Q I r rz ⟨v, e1, e2, h⟩
  subst e1 e2
  obtain ⟨u, rfl, ru⟩ := vals1 r
  obtain ⟨u2, rfl, ru2⟩ := vals1 rz
  obtain rfl : u2 = Value.ref f := ru2
  exact run_sortK G hr hb (fun outer H s e s' ⟨_, _, _, _, _, _, _, _, _, _, _, _, z⟩ => z) I ru h
theorem finL_ok {M : Mp} {S : Sto} {H : Hp} {σ : L2.St} {Q : VK} {vs : List V} {ds : List D} {p : Addr} (g : PostX U (Rep U) M H σ W (finL ds S) Q) (r : R U M S H) (h : RepAll U M H vs ds) (hp : H p = none) : Q (.ref p) (upd H p (.lst vs)) :=
  g M _ _ (r.extNew hp) (r.new hp) (Rep.newLst r hp h)
theorem e_sortKW {fin : List D → Sto → Out D} (hfin : ∀ {M : Mp} {S : Sto} {H : Hp} {σ : L2.St} {Q : VK} {vs : List V} {ds : List D} {p : Addr}, PostX U (Rep U) M H σ W (fin ds S) Q → R U M S H → RepAll U M H vs ds → H p = none → Q (.ref p) (upd H p (.lst vs)))
    {q2 kpos : Pos} (G : Does X.prog X.w X.K X.mg X.base U k x f fd [pn] F) (he : PE X e (tE U W m)) (hm : X.mg "sorted" = none) (hr : Room j X.A) (hk : k + 2 ≤ j := by decide) (hK : X.K = U.K := by rfl) (hg : Gl X x := by rfl) (hg2 : Gl X "sorted" := by rfl) (hdb : (x == ("__debug__" : Str)) = false := by decide)
    (hst : starEach [e] X.env = (false, eval e X.env) :: starEach [] X.env := by rfl) (hst2 : backTo pos (starEach [e] X.env) = (false, eval e X.env) :: backTo pos (starEach [] X.env) := by rfl) (hpl : (backTo pos (starEach [e] X.env)).any (·.1) = false := by rfl)
    (hall : (backToKw pos (keywordEach [⟨some "key", .Name x q2, kpos⟩] X.env)).all (·.1.isSome) = true := by rfl) (hnone : (backToKw pos (keywordEach [⟨some "key", .Name x q2, kpos⟩] X.env)).any (·.1.isNone) = false := by rfl)
    (hks : (backToKw pos (keywordEach [⟨some "key", .Name x q2, kpos⟩] X.env)).filterMap (·.1) = [Str.ofString "key"] := by rfl) : PE X (.Call (.Name "sorted" p) [e] [⟨some "key", .Name x q2, kpos⟩] pos) (tE U W (mSortKW fin F m)) :=
  pe_imp (pe_callBK (cr_sortKD G.fn G.b (hr.mono hk)) hg2 hm PyProof.Rows.boot_sorted (pa_cons he pa_nil hst) (pk_cons (pe_glob (v := .ref f) hg G.mg_ rfl hdb) pk_nil) (by decide) (by decide) hst2 hpl hall hnone hks) fun σ H Q h => by
    obtain ⟨M, S, ρ, A, p⟩ := sortK_post hfin hr hK h
    exact ⟨M, S, ρ, A, (by
      revert p
      cases m ρ S with
      | ok d S1 => exact fun p M' H' b ex r rb => ⟨b, rfl, rfl, p M' H' b ex r rb⟩
      | exc x S1 => exact fun p => p
      | stuck => exact fun p => p)⟩
theorem e_sortK {q2 kpos : Pos} (G : Does X.prog X.w X.K X.mg X.base U k x f fd [pn] F) (he : PE X e (tE U W m)) (hm : X.mg "sorted" = none) (hr : Room j X.A) (hk : k + 2 ≤ j := by decide) (hK : X.K = U.K := by rfl) (hg : Gl X x := by rfl) (hg2 : Gl X "sorted" := by rfl) (hdb : (x == ("__debug__" : Str)) = false := by decide)
    (hst : starEach [e] X.env = (false, eval e X.env) :: starEach [] X.env := by rfl) (hst2 : backTo pos (starEach [e] X.env) = (false, eval e X.env) :: backTo pos (starEach [] X.env) := by rfl) (hpl : (backTo pos (starEach [e] X.env)).any (·.1) = false := by rfl)
    (hall : (backToKw pos (keywordEach [⟨some "key", .Name x q2, kpos⟩] X.env)).all (·.1.isSome) = true := by rfl) (hnone : (backToKw pos (keywordEach [⟨some "key", .Name x q2, kpos⟩] X.env)).any (·.1.isNone) = false := by rfl)
    (hks : (backToKw pos (keywordEach [⟨some "key", .Name x q2, kpos⟩] X.env)).filterMap (·.1) = [Str.ofString "key"] := by rfl) : PE X (.Call (.Name "sorted" p) [e] [⟨some "key", .Name x q2, kpos⟩] pos) (tE U W (mSortKW finL F m)) :=
  e_sortKW finL_ok G he hm hr hk hK hg hg2 hdb hst hst2 hpl hall hnone hks
/-- .. a new list of the store -/
theorem e_sortKO {q2 kpos : Pos} (G : Does X.prog X.w X.K X.mg X.base U k x f fd [pn] F) (he : PE X e (tE U W m)) (hm : X.mg "sorted" = none) (hr : Room j X.A) (hk : k + 2 ≤ j := by decide) (hK : X.K = U.K := by rfl) (hg : Gl X x := by rfl) (hg2 : Gl X "sorted" := by rfl) (hdb : (x == ("__debug__" : Str)) = false := by decide)
    (hst : starEach [e] X.env = (false, eval e X.env) :: starEach [] X.env := by rfl) (hst2 : backTo pos (starEach [e] X.env) = (false, eval e X.env) :: backTo pos (starEach [] X.env) := by rfl) (hpl : (backTo pos (starEach [e] X.env)).any (·.1) = false := by rfl)
    (hall : (backToKw pos (keywordEach [⟨some "key", .Name x q2, kpos⟩] X.env)).all (·.1.isSome) = true := by rfl) (hnone : (backToKw pos (keywordEach [⟨some "key", .Name x q2, kpos⟩] X.env)).any (·.1.isNone) = false := by rfl)
    (hks : (backToKw pos (keywordEach [⟨some "key", .Name x q2, kpos⟩] X.env)).filterMap (·.1) = [Str.ofString "key"] := by rfl) : PE X (.Call (.Name "sorted" p) [e] [⟨some "key", .Name x q2, kpos⟩] pos) (tE U W (mSortKW finO F m)) :=
  e_sortKW (fun g r h hp => Gives.pushL g r h hp) G he hm hr hk hK hg hg2 hdb hst hst2 hpl hall hnone hks
end
/-! ### isinstance of the exception that a suite holds -/
section
variable {X : Cx} {U : Uv} {W : WX}
theorem e_isE {a : Addr} {oe : Obj} {pn : List (Addr × Obj)} (i : Nat) {n cn : Str} {q p1 p2 pos : Pos} {C C' : Addr} {b : Bool} (ec : ExcC X.K C) (hz : Zc (.ref C) none oe) (hf : ∃ vs, oe.data = .fields vs) (hm : X.mg "isinstance" = none)
    (hmc : X.mg cn = some (.ref C')) (hb : PySem.W.kitOne X.K (.ref C) (.ref C') = some b) (hU : (i, a) ∈ U.f) (hN : X.N[i]? = some n := by rfl) (hv : Vis X.env.scope n := by first | exact Or.inl rfl | exact Or.inr (Or.inl rfl) | exact Or.inr (Or.inr rfl))
    (hg : Gl X "isinstance" := by rfl) (hgc : Gl X cn := by rfl) (hd : (n == ("__debug__" : Str)) = false := by decide) (hcd : (n == ("__classdict__" : Str)) = false := by decide) (hdc : (cn == ("__debug__" : Str)) = false := by decide)
    (he : starEach [Expr.Name n p1, Expr.Name cn p2] X.env = (false, eval (Expr.Name n p1) X.env) :: starEach [Expr.Name cn p2] X.env := by rfl) (he2 : starEach [Expr.Name cn p2] X.env = (false, eval (Expr.Name cn p2) X.env) :: starEach [] X.env := by rfl)
    (hpl : (backTo pos (starEach [Expr.Name cn p2] X.env)).any (·.1) = false := by rfl) : PE (X.suite a ((a, oe) :: pn)) (.Call (.Name "isinstance" q) [.Name n p1, .Name cn p2] [] pos) (tE U W (mC (.bl b))) :=
  pe_imp (pe_callB (call_isE ec hz hf) hg hm PyProof.Rows.boot_isinstance (pa_cons (pv i hN hv hd hcd) (pa_cons (pe_glob (v := .ref C') hgc hmc rfl hdc) pa_nil he2) he) (by decide) (by decide) he hpl) fun σ H Q ⟨M, S, ρ, A, p⟩ => by
    exact ⟨_, A.fx _ hU, .ref C', .ref C', b, rfl, fun _ h => h, hb, p M H _ A.refl A.r (.bl b)⟩
end
end DL
/-! DL9: what the generated texts use. -/
namespace DL
open PySem L2
/-- a module's constant -/
def GC (K : PySem.W.Frag) (mg : Str → Option Value) (U : Uv) (x : Str) (d : D) : Prop := ∃ u v, mg x = some u ∧ RelV v u ∧ ∀ M H, Rep U M H v d
theorem GC.fix {K : PySem.W.Frag} {mg : Str → Option Value} {U : Uv} {x : Str} {d : D} {l : List (Nat × Addr)} (h : GC K mg U x d) : GC K mg (U.fix l) x d := let ⟨u, v, h1, h2, h3⟩ := h; ⟨u, v, h1, h2, fun M H => (h3 M H).fix⟩
section
variable {X : Cx} {U : Uv} {W : WX}
theorem e_gc {x : Str} {d : D} {pos : Pos} (h : GC X.K X.mg U x d) (hg : Gl X x := by rfl) (hd : (x == ("__debug__" : Str)) = false := by decide) : PE X (.Name x pos) (tE U W (mC d)) := by
  obtain ⟨u, v, hm, r, hr⟩ := h
  exact e_glob hm r hr hg hd
def sStuck : MS := fun _ _ => .stuck
theorem ss_stuck {st : List Stmt} : PSs X st (tS U W sStuck) := ⟨fun pins s σ H D I ⟨_, _, _, _, p⟩ => p.elim⟩
/-- by the class of the exception that a suite holds -/
def selX (e : Ex) (c : Nat) (m1 m2 : MS) : MS := if e.c = c ∧ e.fs = [] then m1 else m2
theorem ss_sel {U0 : Uv} {e : Ex} {st : List Stmt} {m1 m2 : MS} {d : Option Addr} {oe : Obj} (c : Nat) (hz : L2N.Zn (.ref (U0.cl e.c)) d oe) (hd : e.fs = [] → d = none) (h : L2N.Zn (.ref (U0.cl c)) none oe → PSs X st (tS U W m1)) (h2 : PSs X st (tS U W m2)) : PSs X st (tS U W (selX e c m1 m2)) := by
  unfold selX
  by_cases q : e.c = c ∧ e.fs = []
  · rw [if_pos q]
    obtain ⟨rfl, q2⟩ := q
    have := hd q2
    subst this
    exact h hz
  · rw [if_neg q]; exact h2
/-- what never answers -/
theorem does_stuck {P : Program} {w : World} {K : PySem.W.Frag} {mg : Str → Option Value} {base : Heap} {k : Nat} {x : Str} {f : Addr} {fd : FuncData} {ps : List Str} (hm : mg x = some (.ref f)) (kp : PySem.W.keepIn K (.ref f) = true) (hb : Binds K fd ps []) : Does P w K mg base U k x f fd ps (fun _ _ => .stuck) :=
  ⟨⟨fun vs H Q E ⟨_, _, _, _, _, _, p⟩ => p.elim, fun A outer s H args us vs Q E _ _ _ _ ⟨_, _, _, _, _, _, p⟩ => p.elim⟩, hm, kp, hb⟩
/-- xs[::-1] of a list -/
def mRev (m : ME) : ME := fun ρ S => (m ρ S).bind fun d S1 => match seqL S1 d with
  | some xs => .ok (.lst xs.reverse) S1
  | none => .stuck
theorem RepAll.rev {M : Mp} {H : Hp} : ∀ {vs : List V} {ds : List D}, RepAll U M H vs ds → RepAll U M H vs.reverse ds.reverse
  | _, _, .nil => .nil
  | v :: vs, d :: ds, .cons h r => by
    rw [List.reverse_cons, List.reverse_cons]
    exact (RepAll.rev r).append (.cons h .nil)
theorem e_rev {e : Expr} {m : ME} {k : Nat} {p1 p2 p3 pos : Pos} (he : PE X e (tE U W m)) (hK : X.K = U.K := by rfl) : PE X (.Subscript e (.Slice none none (some (.UnaryOp .USub (.Constant (.int 1) k p1) p2)) p3) pos) (tE U W (mRev m)) :=
  pe_imp (pe_revL he) fun σ H Q ⟨M, S, ρ, A, p⟩ => tX.bind A p fun d S1 M1 H1 v e1 A1 r1 p1 => by
    cases q : seqL S1 d with
    | none => simp only [q] at p1; exact p1.elim
    | some xs =>
      simp only [q] at p1
      obtain ⟨a, vs, rfl, hs, rv⟩ := r1.seqL' A1.r q
      rw [hK]
      exact ⟨a, vs, rfl, hs, fun p hp => Gives.lst p1 A1.r rv.rev hp⟩
theorem e_dct0 {pos : Pos} : PE X (.Dict [] [] pos) (tE U W (mC (.dct []))) :=
  pe_imp pe_dnewK fun σ H Q ⟨M, S, ρ, A, p⟩ => fun d hd => p M _ _ (A.r.extNew hd) (A.r.new hd) (.dct0 upd_same (A.r.nhas hd))
end
end DL
/-! DL10: the law's own head. -/
namespace DL
open PySem L2
theorem kwb_of {K : PySem.W.Frag} {x qual : Str} {st : Stmt} {f : Addr} {fd : FuncData} {ps ks : List Str} {n : Nat} {is : List Nat} (F : L2.Fun K x qual st f fd)
    (h : ∀ (kV doc pm : Value) (an : Option Addr) (cdv ct : Value) (us ws zs : List Value), us.length = n → ws.length = ks.length → pick is (us ++ ws) = some zs → bindArgs (PySem.W.fnOf x qual (defArgs st) (defBody st) (defScope st) .none kV doc pm an cdv ct) ⟨us, ks.zip ws⟩ = pure (ps.zip zs)) : KwB K fd ps ks n is := by
  obtain ⟨oc, od, kV, doc, pm, an, cdv, ct, osl, rfl, lk, hcd⟩ := F.ex
  exact fun s us ws zs _ h1 h2 h3 => .of_eq (h kV doc pm an cdv ct us ws zs h1 h2 h3)
theorem kit_of {K : PySem.W.Frag} {C C' : Addr} {b : Bool} (h : PySem.W.subIn K (.ref C) (.ref C') = some b) (hs : PySem.W.subIn K (.ref C) (.ref C) = some true) (hd : PySem.W.hasDictIn K C' = true) (ht : PySem.W.typeIn K (.ref C') = some (.type "type")) : PySem.W.kitOne K (.ref C) (.ref C') = some b := by
  unfold PySem.W.kitOne
  by_cases e : ((Value.ref C) == (Value.ref C')) = true
  · rw [if_pos e]
    have e' : Value.ref C = Value.ref C' := beq_iff_eq.mp e
    rw [e'] at hs h
    rw [hs] at h
    exact h
  · rw [if_neg e]
    obtain ⟨cd, hc, _⟩ := PySem.W.any_some hd
    have e2 : ((PySem.W.clsIn K C').isSome && PySem.W.typeIn K (.ref C') == some (.type "type")) = true := by rw [hc, ht] <;> rfl
    show (if ((PySem.W.clsIn K C').isSome && PySem.W.typeIn K (.ref C') == some (.type "type")) = true then PySem.W.subIn K (.ref C) (.ref C') else none) = some b
    rw [if_pos e2]
    exact h
section
variable {K : PySem.W.Frag} {h : Heap} {mg : Str → Option Value} {U : Uv} {x : Str}
theorem gc_str {s : Str} {t : Tok} (X : K.In h) (G : h.Ns mainGlobals mg) (a : PySem.W.nsIn K mainGlobals x = some (some (.str s t))) : GC K mg U x (.str s) := ⟨_, .str s, PySem.W.mg_of X G a, ⟨t, rfl⟩, fun _ _ => .str s⟩
theorem gc_int {i : Int} {t : Tok} (X : K.In h) (G : h.Ns mainGlobals mg) (a : PySem.W.nsIn K mainGlobals x = some (some (.int i t))) : GC K mg U x (.int i) := ⟨_, .int i, PySem.W.mg_of X G a, ⟨t, rfl⟩, fun _ _ => .int i⟩
theorem gc_tup {a : Addr} {vs : List V} {ds : List D} {dd : Option Addr} {its : Array Value} {n : Nat} {sl : Array (Option Value)} (X : K.In h) (G : h.Ns mainGlobals mg) (hK : U.K = K) (e : PySem.W.nsIn K mainGlobals x = some (some (.ref a)))
    (l : K.lookup a = some ⟨.type "tuple", dd, .seq its n, sl⟩) (hv : Vals vs its.toList) (hz : vs.length ≤ lim) (hr : ∀ M H, RepAll U M H vs ds) : GC K mg U x (.tup ds) :=
  ⟨_, .ref a, PySem.W.mg_of X G e, rfl, fun M H => .tup (.inr ⟨_, its, n, by rw [hK]; exact l, rfl, rfl, by
    have z : vs.length = its.toList.length := hv.length
    rw [← Array.length_toList, ← z]
    exact lim_line hz, hv⟩) (hr M H)⟩
end
theorem vals_strs : ∀ {xs : List (Str × Tok)}, Vals (xs.map fun p => V.str p.1) (xs.map fun p => Value.str p.1 p.2)
  | [] => .nil
  | p :: r => .cons ⟨p.2, rfl⟩ vals_strs
theorem rep_strs {U : Uv} {M : Mp} {H : Hp} : ∀ {xs : List Str}, RepAll U M H (xs.map V.str) (xs.map D.str)
  | [] => .nil
  | x :: r => .cons (.str x) rep_strs
/-- the law's promise: of the written part alone -/
def spLaw (K : PySem.W.Frag) : Sp := fun vs H Q _ => ∃ (a : Addr) (ns : List Int), vs = [.ref a] ∧ SqL K H a (ns.map V.int) ∧ ns.length ≤ 63 ∧ (∀ z ∈ ns, Builtin.Int.intBits z ≤ 1048576) ∧ ∀ H', Q (.bl true) H'
abbrev scr (ns : List Int) : D := .fz (ns.map D.int)
theorem rep_ints {U : Uv} {M : Mp} {H : Hp} : ∀ {xs : List Int}, RepAll U M H (xs.map V.int) (xs.map D.int)
  | [] => .nil
  | x :: r => .cons (.int x) rep_ints
theorem law_imp {K : PySem.W.Frag} {U : Uv} {F : Mi} (hK : U.K = K) (law : ∀ ns : List Int, ns.length ≤ 63 → (∀ z ∈ ns, Builtin.Int.intBits z ≤ 1048576) → ∃ S, F [scr ns] [] = .ok (.bl true) S) : ∀ vs H Q E, spLaw K vs H Q E → spF U 1 F vs H Q E := by
  rintro vs H Q E ⟨a, ns, rfl, hs, hl, hb, q⟩
  obtain ⟨S, e⟩ := law ns hl hb
  refine ⟨⟨fun _ => 0, 0, []⟩, [], [scr ns], ⟨rfl, fun i j hi => absurd hi (Nat.not_lt_zero _), fun i o h => (by simp at h), fun a ha => (by cases ha), fun a ha => (by cases ha)⟩, .cons (.fz ?_ rep_ints) .nil, rfl, ?_⟩
  · have nh : ¬ (⟨fun _ => 0, 0, []⟩ : Mp).has a := fun z => z.elim (fun ⟨i, hi, _⟩ => absurd hi (Nat.not_lt_zero _)) fun z => (by cases z)
    rcases hs with (h | ⟨o, h⟩) | h
    · exact .inl ⟨_, h, .inl rfl, nh⟩
    · exact .inl ⟨_, h, .inr ⟨o, rfl⟩, nh⟩
    · rw [hK]; exact .inr h
  · rw [e]
    intro M' H' b ex r rb
    cases rb
    exact q H'
theorem walk {l : PySem.W.OpenLaw} {q : Program} {loose : List Str} {XP : (Str → Option Value) → Heap → Prop} {YP : World → Heap → Prop} {d : DefRec} {K : Params → PySem.W.Frag} (k : Nat) (hn : l.most = some 63) (hdf : d.params.defaults = []) (hr : Room k callerA)
    (hY : ∀ (w : World) (h : Heap), YP w h → (K w.params).In h)
    (F : ∀ (w : World) (mg : Str → Option Value) (fa : Addr) (h : Heap), (K w.params).In h → h.Ns mainGlobals mg → mg d.name = some (.ref fa) →
      ∃ fd : FuncData, (∀ (s : Shared) (u : Value), BindsTo s fd ⟨[u], []⟩ [("script", u)]) ∧ ∀ base : Heap, (K w.params).In base → base.Ns mainGlobals mg → FnOk l.prog w (K w.params) mg base (L2N.CX l.prog w) k fa fd ["script"] (spLaw (K w.params))) :
    PySem.W.WalkO q loose XP YP l.row.toRowW d [] (fun f vs => PySem.call f vs) :=
  L2.walk_ofB (n := 63) (k := k) (x := "script") (CX := fun w => L2N.CX l.prog w) (sp := fun w => spLaw (K w.params)) hn (by decide) hdf hr hY F (fun _ _ a ns hl hb _ hS => ⟨a, ns, rfl, hS, hl, hb, fun _ => rfl⟩) fun _ _ _ _ _ ⟨_, _, _, _, _, _, _, _, _, _, _, _, z⟩ => z
end DL
/-! DL11: plain tools over mirrors: equality of data, loops, the cask and its tap. -/
namespace DL
open PySem L2
mutual
def eqD : D → D → Bool
  | .non, .non => true
  | .bl a, .bl b => a == b
  | .int a, .int b => a == b
  | .str a, .str b => decide (a = b)
  | .tup a, .tup b => eqDs a b
  | .lst a, .lst b => eqDs a b
  | .fz a, .fz b => eqDs a b
  | .dct [], .dct [] => true
  | .obj a, .obj b => a == b
  | .ty a, .ty b => a == b
  | .cls a, .cls b => a == b
  | .fn a, .fn b => a == b
  | _, _ => false
def eqDs : List D → List D → Bool
  | [], [] => true
  | a :: r, b :: t => eqD a b && eqDs r t
  | _, _ => false
end
mutual
theorem eqD_ok : ∀ (a b : D), eqD a b = true → a = b
  | .non, b, h => by cases b <;> simp [eqD] at h; rfl
  | .bl a, b, h => by cases b <;> simp [eqD] at h; rw [h]
  | .int a, b, h => by cases b <;> simp [eqD] at h; rw [h]
  | .str a, b, h => by cases b <;> simp [eqD] at h; rw [h]
  | .tup a, b, h => by
    cases b <;> simp [eqD] at h
    rw [eqDs_ok a _ h]
  | .lst a, b, h => by
    cases b <;> simp [eqD] at h
    rw [eqDs_ok a _ h]
  | .fz a, b, h => by
    cases b <;> simp [eqD] at h
    rw [eqDs_ok a _ h]
  | .dct a, b, h => by
    cases b with
    | dct k =>
      cases a with
      | nil => cases k with
        | nil => rfl
        | cons _ _ => simp [eqD] at h
      | cons _ _ => simp [eqD] at h
    | _ => cases a <;> simp [eqD] at h
  | .obj a, b, h => by cases b <;> simp [eqD] at h; rw [h]
  | .ty a, b, h => by cases b <;> simp [eqD] at h; rw [h]
  | .cls a, b, h => by cases b <;> simp [eqD] at h; rw [h]
  | .fn a, b, h => by cases b <;> simp [eqD] at h; rw [h]
theorem eqDs_ok : ∀ (a b : List D), eqDs a b = true → a = b
  | [], [], _ => rfl
  | [], _ :: _, h => by simp [eqDs] at h
  | _ :: _, [], h => by simp [eqDs] at h
  | a :: r, b :: t, h => by
    simp only [eqDs, Bool.and_eq_true] at h
    rw [eqD_ok a b h.1, eqDs_ok r t h.2]
end
/-- a loop's invariant, no break, no return -/
theorem forL_inv {b : Bd} {body : MS} (I : Env → Sto → Prop) : ∀ (ds : List D), (∀ d ∈ ds, ∀ ρ S, I ρ S → ∃ ρ1, b d ρ = some ρ1 ∧ ∃ ρ2 S2, body ρ1 S = .nx ρ2 S2 ∧ I ρ2 S2) → ∀ ρ S, I ρ S → ∃ ρ' S', forL b body ds ρ S = .nx ρ' S' ∧ I ρ' S'
  | [], _, ρ, S, h => ⟨ρ, S, rfl, h⟩
  | d :: ds, hs, ρ, S, h => by
    obtain ⟨ρ1, e1, ρ2, S2, e2, h2⟩ := hs d List.mem_cons_self ρ S h
    obtain ⟨ρ3, S3, e3, h3⟩ := forL_inv I ds (fun d hd => hs d (List.mem_cons_of_mem _ hd)) ρ2 S2 h2
    exact ⟨ρ3, S3, by simp only [forL, e1, e2, e3], h3⟩
theorem seq_nx {a b : MS} {ρ ρ1 : Env} {S S1 : Sto} (h : a ρ S = .nx ρ1 S1) : sSeq a b ρ S = b ρ1 S1 := by
  show (a ρ S).seq b = _
  rw [h]; rfl
theorem seq_rt {a b : MS} {ρ : Env} {S S1 : Sto} {d : D} (h : a ρ S = .rt d S1) : sSeq a b ρ S = .rt d S1 := by
  show (a ρ S).seq b = _
  rw [h]; rfl
theorem seq_exc {a b : MS} {ρ ρ1 : Env} {S S1 : Sto} {e : Ex} (h : a ρ S = .exc e ρ1 S1) : sSeq a b ρ S = .exc e ρ1 S1 := by
  show (a ρ S).seq b = _
  rw [h]; rfl
theorem set_ok {i : Nat} {m : ME} {ρ : Env} {S S1 : Sto} {d : D} (h : m ρ S = .ok d S1) : sSet i m ρ S = .nx (ρ.set i (some d)) S1 := by
  show OS.of (m ρ S) ρ _ = _
  rw [h]; rfl
theorem ret_ok {m : ME} {ρ : Env} {S S1 : Sto} {d : D} (h : m ρ S = .ok d S1) : sRet m ρ S = .rt d S1 := by
  show OS.of (m ρ S) ρ _ = _
  rw [h]; rfl
theorem if_t {t : MT} {a b : MS} {ρ : Env} {S S1 : Sto} (h : t ρ S = .ok true S1) : sIf t a b ρ S = a ρ S1 := by
  show OS.of (t ρ S) ρ _ = _
  rw [h]; rfl
theorem if_f {t : MT} {a b : MS} {ρ : Env} {S S1 : Sto} (h : t ρ S = .ok false S1) : sIf t a b ρ S = b ρ S1 := by
  show OS.of (t ρ S) ρ _ = _
  rw [h]; rfl
theorem mem_rangeD {lo : Int} {n : Nat} {d : D} (h : d ∈ rangeD lo n) : ∃ i : Nat, i < n ∧ d = .int (lo + i) := by
  unfold rangeD at h
  obtain ⟨i, hi, rfl⟩ := List.mem_map.mp h
  exact ⟨i, List.mem_range.mp hi, rfl⟩
/-! ### the cask -/
/-- the cask's object at c -/
structure Cask (S : Sto) (c : Nat) (k : Int) : Prop where
  ex : ∃ a b : Int, S[c]? = some (.lst [.int a, .int b, .int k]) ∧ 0 ≤ a ∧ 0 ≤ b ∧ b < 10 ^ 60 ∧ 0 ≤ k
def tapM : MS := (sSeq (sIf (mTst (m2 gtO (m2 ixO (mVar 0) (mC (.int 0))) (mC (.int 0))))
  (sSeq (sSet 2 (m2 modO (mN intG (aCons (m2 ixO (mVar 0) (mC (.int 0))) aNil)) (mVar 1)))
  (sSeq (sSub (m2 fdivO (m2 ixO (mVar 0) (mC (.int 0))) (mVar 1)) (mVar 0) (mC (.int 0)))
  (sRet (mVar 2))))
  sNil)
  (sSeq (sSub (m2 addO (m2 ixO (mVar 0) (mC (.int 2))) (mC (.int 1))) (mVar 0) (mC (.int 2)))
  (sSeq (sSet 3 (m2 modO (m2 powO (mN intG (aCons (m2 addO (m2 ixO (mVar 0) (mC (.int 1))) (m2 mulO (mC (.int 30011)) (m2 ixO (mVar 0) (mC (.int 2))))) aNil)) (mC (.int 2))) (m2 addO (m2 powO (mC (.int 10)) (mC (.int 39))) (mC (.int 3)))))
  (sSeq (sSet 3 (m2 modO (m2 powO (mN intG (aCons (m2 addO (mVar 3) (m2 mulO (mC (.int 500009)) (m2 ixO (mVar 0) (mC (.int 2))))) aNil)) (mC (.int 3))) (m2 addO (m2 powO (mC (.int 10)) (mC (.int 40))) (mC (.int 121)))))
  (sRet (m2 modO (m2 fdivO (mVar 3) (mC (.int 131072))) (mVar 1)))))))
def tapF : Mi := runD 4 tapM
theorem log2_lt {n m : Nat} (hm : 0 < m) (h : n < 2 ^ m) : n.log2 < m := by
  by_cases z : n = 0
  · subst z; simpa using hm
  · exact (Nat.log2_lt z).mpr h
theorem intBits_lt {i : Int} {m : Nat} (h0 : 0 ≤ i) (h : i < 2 ^ m) : Builtin.Int.intBits i ≤ m := PyProof.Rows.intBits_le (by
  have : ((i.natAbs : Nat) : Int) < ((2 ^ m : Nat) : Int) := by
    rw [Int.natAbs_of_nonneg h0]; push_cast; exact h
  exact Int.ofNat_lt.mp this)
section
variable {S : Sto} {i j : Int}
theorem gtO_int : gtO S (.int i) (.int j) = some (.bl (decide (j < i))) := by
  show (if okLt (.int i) (.int j) then some (D.bl (dlt (.int j) (.int i))) else none) = _
  rw [if_pos (show okLt (.int i) (.int j) = true from rfl)]
  show some (D.bl (PySem.W.dataLt (.int j) (.int i))) = _
  rw [PySem.W.dataLt_int]
theorem ltO_int : ltO S (.int i) (.int j) = some (.bl (decide (i < j))) := by
  show (if okLt (.int i) (.int j) then some (D.bl (dlt (.int i) (.int j))) else none) = _
  rw [if_pos (show okLt (.int i) (.int j) = true from rfl)]
  show some (D.bl (PySem.W.dataLt (.int i) (.int j))) = _
  rw [PySem.W.dataLt_int]
theorem eqO_int : eqO S (.int i) (.int j) = some (.bl (i == j)) := by
  show (if okEq (.int i) (.int j) then some (D.bl (deq (.int i) (.int j))) else none) = _
  rw [if_pos (show okEq (.int i) (.int j) = true from rfl)]
  rfl
end
/-- the tap: a draw under span, the cask goes on -/
theorem tap_ok {S : Sto} {c : Nat} {k span : Int} (h : Cask S c k) (hk : k < 10 ^ 9) (h0 : 0 < span) (h1 : span < 10 ^ 9) : ∃ d : Int, ∃ S' : Sto, ∃ k' : Int, tapF [.obj c, .int span] S = .ok (.int d) S' ∧ 0 ≤ d ∧ d < span ∧ k' ≤ k + 1 ∧ Cask S' c k' ∧ ∃ o, S' = S.set c o := by
  obtain ⟨a, b, hS, ha, hb, hb2, hk0⟩ := h.ex
  have hc : c < S.length := (List.getElem?_eq_some_iff.mp hS).1
  have x0 : ixO S (.obj c) (.int 0) = some (.int a) := by
    show (seqD S (.obj c)).bind _ = _
    simp only [seqD, hS]; rfl
  have x1 : ∀ k, S[c]? = some (.lst [.int a, .int b, .int k]) → ixO S (.obj c) (.int 1) = some (.int b) := fun k h => by
    show (seqD S (.obj c)).bind _ = _
    simp only [seqD, h]; rfl
  have x2 : ixO S (.obj c) (.int 2) = some (.int k) := by
    show (seqD S (.obj c)).bind _ = _
    simp only [seqD, hS]; rfl
  have hsp : span.natAbs.log2 < 9000 := log2_lt (by decide) (by
    have : ((span.natAbs : Nat) : Int) < ((2 ^ 9000 : Nat) : Int) := by
      rw [Int.natAbs_of_nonneg (by omega)]
      exact Int.lt_trans h1 (by decide +kernel)
    exact Int.ofNat_lt.mp this)
  by_cases hp : 0 < a
  · refine ⟨a % span, S.set c (.lst [.int (a / span), .int b, .int k]), k, ?_, Int.emod_nonneg _ (by omega), Int.emod_lt_of_pos _ h0, by omega, ⟨a / span, b, List.getElem?_set_self hc, Int.ediv_nonneg ha (by omega), hb, hb2, hk0⟩, _, rfl⟩
    simp only [tapF, runD, tapM, List.map_cons, List.map_nil, List.length_cons, List.length_nil]
    show (match tapM [some (.obj c), some (.int span), none, none] S with | .nx _ S' => Out.ok D.non S' | .rt d S' => .ok d S' | .exc e _ S' => .exc e S' | _ => .stuck) = _
    have t1 : (mTst (m2 gtO (m2 ixO (mVar 0) (mC (.int 0))) (mC (.int 0)))) [some (.obj c), some (.int span), none, none] S = .ok true S := by
      simp only [mTst, m2, mVar, mC, Out.bind, ofO, List.getElem?_cons_zero, x0, gtO_int, decide_eq_true hp]
    have e : tapM [some (.obj c), some (.int span), none, none] S = .rt (.int (a % span)) (S.set c (.lst [.int (a / span), .int b, .int k])) := by
      unfold tapM
      apply seq_rt
      rw [if_t t1]
      rw [seq_nx (set_ok (i := 2) (d := .int (a % span)) (S1 := S) (by simp only [m2, mN, aCons, aNil, mVar, mC, Out.bind, ofO, List.getElem?_cons_zero, List.getElem?_cons_succ, x0, intG, modO, if_pos h0]))]
      simp only [List.set_cons_zero, List.set_cons_succ]
      rw [seq_nx (ρ1 := [some (.obj c), some (.int span), some (.int (a % span)), none]) (S1 := S.set c (.lst [.int (a / span), .int b, .int k]))]
      · rfl
      · simp only [sSub, OS.of, m2, mVar, mC, Out.bind, ofO, List.getElem?_cons_zero, List.getElem?_cons_succ, x0, fdivO, if_pos (And.intro h0 hsp), hS]
        rfl
    rw [e]
  · have ha0 : a = 0 := by omega
    subst ha0
    let S1 := S.set c (.lst [.int 0, .int b, .int (k + 1)])
    have hS1 : S1[c]? = some (.lst [.int 0, .int b, .int (k + 1)]) := List.getElem?_set_self hc
    have y1 : ixO S1 (.obj c) (.int 1) = some (.int b) := by
      show (seqD S1 (.obj c)).bind _ = _
      simp only [seqD, hS1]; rfl
    have y2 : ixO S1 (.obj c) (.int 2) = some (.int (k + 1)) := by
      show (seqD S1 (.obj c)).bind _ = _
      simp only [seqD, hS1]; rfl
    have l0 : ∀ {i : Int} {m : Nat}, 0 < m → 0 ≤ i → i < 2 ^ m → i.natAbs.log2 < m := fun {i m} hm h0 h => log2_lt hm (by
      have : ((i.natAbs : Nat) : Int) < ((2 ^ m : Nat) : Int) := by
        rw [Int.natAbs_of_nonneg h0]; push_cast; exact h
      exact Int.ofNat_lt.mp this)
    let u1 := (b + 30011 * (k + 1)) ^ 2 % (10 ^ 39 + 3)
    let u2 := (u1 + 500009 * (k + 1)) ^ 3 % (10 ^ 40 + 121)
    have hu1 : 0 ≤ u1 ∧ u1 < 10 ^ 39 + 3 := ⟨Int.emod_nonneg _ (by decide), Int.emod_lt_of_pos _ (by decide)⟩
    have hu2 : 0 ≤ u2 ∧ u2 < 10 ^ 40 + 121 := ⟨Int.emod_nonneg _ (by decide), Int.emod_lt_of_pos _ (by decide)⟩
    refine ⟨u2 / 131072 % span, S1, k + 1, ?_, Int.emod_nonneg _ (by omega), Int.emod_lt_of_pos _ h0, by omega, ⟨0, b, hS1, by omega, hb, hb2, by omega⟩, _, rfl⟩
    show (match tapM [some (.obj c), some (.int span), none, none] S with | .nx _ S' => Out.ok D.non S' | .rt d S' => .ok d S' | .exc e _ S' => .exc e S' | _ => .stuck) = _
    have t1 : (mTst (m2 gtO (m2 ixO (mVar 0) (mC (.int 0))) (mC (.int 0)))) [some (.obj c), some (.int span), none, none] S = .ok false S := by
      simp only [mTst, m2, mVar, mC, Out.bind, ofO, List.getElem?_cons_zero, x0, gtO_int, decide_eq_false hp]
    have m1' : ((30011 : Int)).natAbs.log2 + (k + 1).natAbs.log2 < 1000000 := by
      have h1 : ((30011 : Int)).natAbs.log2 < 100 := by decide +kernel
      have h2 : (k + 1).natAbs.log2 < 100 := l0 (by decide) (by omega) (by omega)
      omega
    have m2' : ((500009 : Int)).natAbs.log2 + (k + 1).natAbs.log2 < 1000000 := by
      have h1 : ((500009 : Int)).natAbs.log2 < 100 := by decide +kernel
      have h2 : (k + 1).natAbs.log2 < 100 := l0 (by decide) (by omega) (by omega)
      omega
    have p1 : (Builtin.Int.intBits (b + 30011 * (k + 1)) : Int) * 2 ≤ 2 ^ 27 := by
      have := intBits_lt (i := b + 30011 * (k + 1)) (m := 250) (by omega) (by omega)
      omega
    have p2 : (Builtin.Int.intBits (u1 + 500009 * (k + 1)) : Int) * 3 ≤ 2 ^ 27 := by
      have := intBits_lt (i := u1 + 500009 * (k + 1)) (m := 250) (by omega) (by omega)
      omega
    have q39 : powO S1 (.int 10) (.int 39) = some (.int (10 ^ 39)) := by rfl
    have q40 : powO S1 (.int 10) (.int 40) = some (.int (10 ^ 40)) := by rfl
    have e : tapM [some (.obj c), some (.int span), none, none] S = .rt (.int (u2 / 131072 % span)) S1 := by
      unfold tapM
      rw [seq_nx (ρ1 := [some (.obj c), some (.int span), none, none]) (S1 := S) (by rw [if_f t1]; rfl)]
      rw [seq_nx (ρ1 := [some (.obj c), some (.int span), none, none]) (S1 := S1) (by
        simp only [sSub, OS.of, m2, mVar, mC, Out.bind, ofO, List.getElem?_cons_zero, List.getElem?_cons_succ, x2, addO, hS]
        rfl)]
      rw [seq_nx (set_ok (i := 3) (d := .int u1) (S1 := S1) (by
        simp only [m2, mN, aCons, aNil, mVar, mC, Out.bind, ofO, List.getElem?_cons_zero, List.getElem?_cons_succ, y1, y2, intG, mulO, addO, if_pos m1']
        simp only [powO, if_pos (And.intro (by decide : (0 : Int) ≤ 2) p1)]
        rfl))]
      simp only [List.set_cons_zero, List.set_cons_succ]
      rw [seq_nx (set_ok (i := 3) (d := .int u2) (S1 := S1) (by
        simp only [m2, mN, aCons, aNil, mVar, mC, Out.bind, ofO, List.getElem?_cons_zero, List.getElem?_cons_succ, y1, y2, intG, mulO, addO, if_pos m2']
        simp only [powO, if_pos (And.intro (by decide : (0 : Int) ≤ 3) p2)]
        rfl))]
      simp only [List.set_cons_zero, List.set_cons_succ]
      apply ret_ok
      have d1 : (0 : Int) < 131072 ∧ (Int.natAbs 131072).log2 < 9000 := by decide +kernel
      simp only [m2, mVar, mC, Out.bind, ofO, List.getElem?_cons_zero, List.getElem?_cons_succ, fdivO, modO, if_pos d1, if_pos h0]
    rw [e]
end DL
namespace DL
open PySem L2
def caskM : MS := (sSeq (sSet 2 (mIf (mTst (m2 ltO (mVar 1) (mN lenG (aCons (mVar 0) aNil)))) (m2 ixO (mVar 0) (mVar 1)) (mC (.int 0))))
  (sRet (mLstO (aCons (mN maxG (aCons (mC (.int 0)) (aCons (m2 subO (mN absG (aCons (mVar 2) aNil)) (m2 powO (mC (.int 10)) (mC (.int 18)))) aNil))) (aCons (m2 addO (m2 addO (m2 mulO (m2 modO (mN intG (aCons (mVar 2) aNil)) (m2 addO (m2 powO (mC (.int 10)) (mC (.int 38))) (mC (.int 133)))) (mC (.int 59))) (m2 mulO (mC (.int 61)) (mVar 1))) (mC (.int 23))) (aCons (mC (.int 0)) aNil))))))
def caskF : Mi := runD 3 caskM
theorem cask_ok (ns : List Int) (at_ : Nat) (ha : at_ < 64) (S : Sto) : ∃ o, caskF [scr ns, .int at_] S = .ok (.obj S.length) (S ++ [o]) ∧ Cask (S ++ [o]) S.length 0 := by
  have key : ∀ cell : Int, (mIf (mTst (m2 ltO (mVar 1) (mN lenG (aCons (mVar 0) aNil)))) (m2 ixO (mVar 0) (mVar 1)) (mC (.int 0))) [some (scr ns), some (.int at_), none] S = .ok (.int cell) S →
      ∃ o, caskF [scr ns, .int at_] S = .ok (.obj S.length) (S ++ [o]) ∧ Cask (S ++ [o]) S.length 0 := fun cell hcell => by
    let a := if (if cell < 0 then -cell else cell) - 10 ^ 18 > 0 then (if cell < 0 then -cell else cell) - 10 ^ 18 else 0
    let b := cell % (10 ^ 38 + 133) * 59 + 61 * at_ + 23
    have hm : 0 ≤ cell % (10 ^ 38 + 133) ∧ cell % (10 ^ 38 + 133) < 10 ^ 38 + 133 := ⟨Int.emod_nonneg _ (by decide), Int.emod_lt_of_pos _ (by decide)⟩
    have l0 : ∀ {i : Int} {m : Nat}, 0 < m → 0 ≤ i → i < 2 ^ m → i.natAbs.log2 < m := fun {i m} hm h0 h => log2_lt hm (by
      have : ((i.natAbs : Nat) : Int) < ((2 ^ m : Nat) : Int) := by
        rw [Int.natAbs_of_nonneg h0]; push_cast; exact h
      exact Int.ofNat_lt.mp this)
    have m1' : (cell % (10 ^ 38 + 133)).natAbs.log2 + ((59 : Int)).natAbs.log2 < 1000000 := by
      have h1 : ((59 : Int)).natAbs.log2 < 100 := by decide +kernel
      have h2 : (cell % (10 ^ 38 + 133)).natAbs.log2 < 200 := l0 (by decide) hm.1 (by omega)
      omega
    have m2' : ((61 : Int)).natAbs.log2 + ((at_ : Int)).natAbs.log2 < 1000000 := by
      have h1 : ((61 : Int)).natAbs.log2 < 100 := by decide +kernel
      have h2 : ((at_ : Int)).natAbs.log2 < 100 := l0 (by decide) (by omega) (by omega)
      omega
    have q18 : powO S (.int 10) (.int 18) = some (.int (10 ^ 18)) := by rfl
    have q38 : powO S (.int 10) (.int 38) = some (.int (10 ^ 38)) := by rfl
    have d38 : (0 : Int) < 10 ^ 38 + 133 := by decide
    refine ⟨.lst [.int a, .int b, .int 0], ?_, ⟨a, b, by rw [List.getElem?_append_right (Nat.le_refl _), Nat.sub_self]; rfl, ?_, by omega, by omega, by omega⟩⟩
    · show (match caskM [some (scr ns), some (.int at_), none] S with | .nx _ S' => Out.ok D.non S' | .rt d S' => .ok d S' | .exc e _ S' => .exc e S' | _ => .stuck) = _
      have e : caskM [some (scr ns), some (.int at_), none] S = .rt (.obj S.length) (S ++ [.lst [.int a, .int b, .int 0]]) := by
        unfold caskM
        rw [seq_nx (set_ok hcell)]
        simp only [List.set_cons_zero, List.set_cons_succ]
        apply ret_ok
        simp only [mLstO, m2, mN, aCons, aNil, mVar, mC, Out.bind, ofO, List.getElem?_cons_zero, List.getElem?_cons_succ, absG, q18, q38, subO, maxG, intG, addO, modO, if_pos d38, mulO, if_pos m1', if_pos m2', List.length_cons, List.length_nil]
        rw [if_pos (by show 3 ≤ 1000000; decide)]
      rw [e]
    · show 0 ≤ (if (if cell < 0 then -cell else cell) - 10 ^ 18 > 0 then (if cell < 0 then -cell else cell) - 10 ^ 18 else 0)
      split <;> omega
  have hlen : lenG S [scr ns] = some (.int ns.length) := by
    have e : lenG S [scr ns] = some (D.int ((ns.map D.int).length : Nat)) := rfl
    rw [e, List.length_map]
  by_cases h : at_ < ns.length
  · refine key ns[at_] ?_
    have hi : ixO S (scr ns) (.int at_) = some (.int ns[at_]) := by
      have e : ixO S (scr ns) (.int at_) = L2.atI (ns.map D.int) at_ := rfl
      rw [e]
      exact L2.atI_nat (by rw [List.getElem?_map, List.getElem?_eq_getElem h]; rfl)
    simp only [mIf, mTst, m2, mN, aCons, aNil, mVar, mC, Out.bind, ofO, List.getElem?_cons_zero, List.getElem?_cons_succ, hlen, ltO_int, decide_eq_true (Int.ofNat_lt.mpr h), if_true, hi]
  · refine key 0 ?_
    simp only [mIf, mTst, m2, mN, aCons, aNil, mVar, mC, Out.bind, ofO, List.getElem?_cons_zero, List.getElem?_cons_succ, hlen, ltO_int, decide_eq_false (fun z => h (Int.ofNat_lt.mp z)), Bool.false_eq_true, if_false]
end DL
/-! ### small steps -/
namespace DL
open PySem L2
section
variable {F : Mi} {n : Nat} {m m1 m2 : ME} {t u : MT} {ms : MS} {ds : List D} {ρ ρ1 : Env} {S S1 S2 : Sto} {d x y : D} {b : Bool} {e : Ex}
theorem runD_rt (hρ : ds.map some ++ List.replicate (n - ds.length) none = ρ) (h : ms ρ S = .rt d S1) : runD n ms ds S = .ok d S1 := by
  unfold runD; rw [hρ, h]
theorem runD_nx (hρ : ds.map some ++ List.replicate (n - ds.length) none = ρ) (h : ms ρ S = .nx ρ1 S1) : runD n ms ds S = .ok .non S1 := by
  unfold runD; rw [hρ, h]
theorem runD_exc (hρ : ds.map some ++ List.replicate (n - ds.length) none = ρ) (h : ms ρ S = .exc e ρ1 S1) : runD n ms ds S = .exc e S1 := by
  unfold runD; rw [hρ, h]
theorem or_ff (h : t ρ S = .ok false S1) (h2 : u ρ S1 = .ok b S2) : tOr' t u ρ S = .ok b S2 := by
  unfold tOr'; rw [h]; exact h2
theorem or_tt (h : t ρ S = .ok true S1) : tOr' t u ρ S = .ok true S1 := by
  unfold tOr'; rw [h]; rfl
theorem and_tt (h : t ρ S = .ok true S1) (h2 : u ρ S1 = .ok b S2) : tAnd' t u ρ S = .ok b S2 := by
  unfold tAnd'; rw [h]; exact h2
theorem and_ff (h : t ρ S = .ok false S1) : tAnd' t u ρ S = .ok false S1 := by
  unfold tAnd'; rw [h]; rfl
theorem not_ok (h : t ρ S = .ok b S1) : tNot' t ρ S = .ok (!b) S1 := by
  unfold tNot'; rw [h]; rfl
theorem tru_bl (h : m ρ S = .ok (.bl b) S1) : mTru m ρ S = .ok b S1 := by
  unfold mTru; rw [h]; rfl
theorem tst_bl (h : m ρ S = .ok (.bl b) S1) : mTst m ρ S = .ok b S1 := by
  unfold mTst; rw [h]; rfl
theorem for_ok {src : MI} {bd : Bd} {body : MS} (h : src ρ S = .ok ds S1) : sFor src bd body ρ S = forL bd body ds ρ S1 := by
  unfold sFor; rw [h]; rfl
theorem call_0 : mCall F aNil ρ S = F [] S := rfl
theorem call_1 (h1 : m1 ρ S = .ok x S1) : mCall F (aCons m1 aNil) ρ S = F [x] S1 := by
  unfold mCall aCons; rw [h1]; rfl
theorem call_2 (h1 : m1 ρ S = .ok x S1) (h2 : m2 ρ S1 = .ok y S2) : mCall F (aCons m1 (aCons m2 aNil)) ρ S = F [x, y] S2 := by
  unfold mCall aCons
  rw [h1]
  simp only [Out.bind, h2]
  rfl
end
end DL
/-! DL12: try with several except clauses. -/
namespace DL
open PySem PySem.Spec PyProof.Rows L2
/-- an exception of this class (its own dict d) lies caught at a: noted, no longer in flight -/
structure Caught (X : Cx) (pins : List (Addr × Obj)) (σ : L2.St) (H : Hp) (a : Addr) (cls : Value) (d : Option Addr) (s : Shared) : Prop where
  ex : ∃ (B : Heap) (s0 : Shared), Inv X pins σ H s0 ∧ (∀ b o, s0.heap.get? b = some o → b ∉ frs X.stack → B.get? b = some o) ∧ s0.heap.UpToSlots s.heap ∧ HandSPX.FlyingZ B (X.env :: X.outer) a (L2N.Zn cls d) s.heap ∧ s.os = s0.os ∧ AllBare s.gens
  na : H a = none
section
variable {X : Cx} {pins : List (Addr × Obj)} {σ : L2.St} {H : Hp} {a : Addr} {cls : Value} {d : Option Addr} {s : Shared}
theorem Caught.inv (c : Caught X pins σ H a cls d s) : Inv X pins σ H s := let ⟨_, _, J, nb, up, fl, os, ag⟩ := c.ex; J.landed nb fl.1 up os ag
theorem Caught.obj (c : Caught X pins σ H a cls d s) : ∃ oe vs, s.heap.get? a = some oe ∧ L2N.Zn cls d oe ∧ oe.data = .fields vs := let ⟨_, _, _, _, _, fl, _, _⟩ := c.ex; fl.there
/-- it is no frame's object -/
theorem Caught.off (c : Caught X pins σ H a cls d s) : a ∉ frs (X.env :: X.outer) := fun m => by
  obtain ⟨_, _, _, _, _, fl, _, _⟩ := c.ex
  obtain ⟨oe, vs, g, _, dt⟩ := fl.there
  obtain ⟨_, o2, g2, nf⟩ := fl.2.2.1.mem m
  rw [g] at g2
  cases g2
  exact nf vs dt
theorem Caught.offL (c : Caught X pins σ H a cls d s) (hf : X.env.frame = some X.env.locals) : a ≠ X.env.locals := fun z => c.off (List.mem_filterMap.mpr ⟨X.env, List.mem_cons_self, hf.trans (by rw [z])⟩)
theorem Caught.offF (c : Caught X pins σ H a cls d s) : a ∉ X.fs := fun m => by
  obtain ⟨e, he, q⟩ := List.mem_filterMap.mp m
  exact c.off (List.mem_filterMap.mpr ⟨e, List.mem_cons_of_mem _ he, q⟩)
/-- as the suite sees it -/
theorem Caught.toSuite (c : Caught X pins σ H a cls d s) (hf : X.env.frame = some X.env.locals) : ∃ oe, L2N.Zn cls d oe ∧ (∃ vs, oe.data = .fields vs) ∧ Inv (X.suite a ((a, oe) :: (X.pn ++ pins))) [] σ H s := by
  obtain ⟨oe, vs, g, z, dt⟩ := c.obj
  exact ⟨oe, z, ⟨vs, dt⟩, c.inv.suite g dt c.na (c.offL hf) c.offF⟩
/-- its flight is ended once more -/
theorem Caught.again (c : Caught X pins σ H a cls d s) {Q : Unit → Shared → Prop} {E : Value → Shared → Prop} {A : Around} (q : ∀ h', Caught X pins σ H a cls d { s with heap := h' } → Q () { s with heap := h' }) : wpAny (model X.prog X.w) A (setFlight (.ref a) none) Q E s := by
  obtain ⟨B, s0, J, nb, up, fl, os, ag⟩ := c.ex
  exact HandSPX.lands_againZ fl fun h' fl' up' => q h' ⟨⟨B, s0, J, nb, up.trans up', fl', os, ag⟩, c.na⟩
/-- no clause is left: it flies on -/
theorem Caught.on {W : WX} {Q : Flow → Shared → Prop} (c : Caught X pins σ H a cls d s) (hst : X.stack = X.env :: X.outer) (hf : X.env.frame = some X.env.locals) (tk : L2N.Takes X W) (w : W cls d σ H) : wpAny (model X.prog X.w) X.A (handleBy (.ref a) X.env []) Q X.xe s := by
  obtain ⟨B, s0, J, nb, up, fl, os, ag⟩ := c.ex
  obtain ⟨oe, vs, tb, _, _, g, z, dt, v1, _⟩ := id fl.2.2.2
  have out : wpAny (model X.prog X.w) X.A (setFlight (.ref a) X.env.frame) (fun _ s4 => wpAny (model X.prog X.w) X.A (throw (.ref a) : Sem Flow) Q X.xe s4) X.xe s := by
    rw [hf]
    exact HandSPX.setFlight_upZ fl fun h' held up' => wpAny_throw (tk _ _ ⟨a, B, s0, pins, σ, H, cls, d, rfl, J, nb, up.trans up', .inr (.inr (by rw [hst]; exact held)), c.na, os, ag, w⟩)
  refine wpAny_handleBy_nil ?_
  unfold PySem.passOn
  refine wpAny_bind (wpAny_field g dt v1 ?_)
  rw [if_neg (by simp)]
  first
    | exact wpAny_bind (wpAny_pure (wpAny_bind out))
    | exact wpAny_bind out
/-- the name that a clause bears is looked up -/
theorem Caught.name {x : Str} {np : Pos} {t : Value} {Q E : Value → Shared → Prop} (c : Caught X pins σ H a cls d s) (hf : X.env.frame = some X.env.locals) (hc : Names X x t) (q : Q t s) : wpAny (model X.prog X.w) (X.A.mark (some (.ref a))) (eval (.Name x np) X.env) Q E s := by
  obtain ⟨oe, _, _, J⟩ := c.toSuite hf
  obtain ⟨g, nd, m | ⟨m, v, nn⟩⟩ := hc
  · exact ld_glob J g m q nd
  · exact ld_blt J g m v q nn nd
/-- does the clause fit? -/
theorem Caught.fits {b : Bool} {t : Value} {A : Around} {E : Value → Shared → Prop} {Q : Bool → Shared → Prop} (c : Caught X pins σ H a cls d s) (e : PySem.W.exmOne X.K cls t = some b) (q : Q b s) : wpAny (model X.prog X.w) A (excMatches (.ref a) t) Q E s := by
  obtain ⟨oe, vs, g, z, dt⟩ := c.obj
  have ty : PySem.W.Looks (model X.prog X.w) s.heap (typeOf (.ref a)) cls := fun A Q E s' k q => wpAny_typeOf_ref (k _ _ g) (by rw [z.1]; exact q)
  exact (PySem.W.exm_one (M := model X.prog X.w) c.inv.kIn ty e).here q
variable {x n : Str} {np pos' : Pos} {nm : Option Str} {b₀ : Stmt} {suite : List Stmt} {more : List ExceptHandler} {t : Value}
theorem Caught.no {Q : Flow → Shared → Prop} (c : Caught X pins σ H a cls d s) (hf : X.env.frame = some X.env.locals) (hc : Names X x t) (e : PySem.W.exmOne X.K cls t = some false) (k : wpAny (model X.prog X.w) X.A (handleBy (.ref a) X.env more) Q X.xe s) :
    wpAny (model X.prog X.w) X.A (handleBy (.ref a) X.env (.ExceptHandler (some (.Name x np)) nm (b₀ :: suite) pos' :: more)) Q X.xe s :=
  wpAny_handleBy_cons (codeAny_handlers_test (c.name hf hc (c.fits e k))) (fun z => nomatch z)
/-- a suite's ends, its slot given up -/
def endU (i : Nat) (D : Ends) : Ends := ⟨fun σ H => D.nx (σ.set i none) H, D.rt, fun σ H => D.bk (σ.set i none) H, fun σ H => D.ct (σ.set i none) H⟩
theorem Caught.yesAs {i : Nat} {D : Ends} {ts : TS} (c : Caught X pins σ H a cls d s) (hf : X.env.frame = some X.env.locals) (nd : X.N.Nodup) (hi : X.N[i]? = some n) (ln : X.env.kindOf n = some .local) (hc : Names X x t) (e : PySem.W.exmOne X.K cls t = some true)
    (hs : ∀ oe, L2N.Zn cls d oe → (∃ vs, oe.data = .fields vs) → PSs (X.suite a ((a, oe) :: (X.pn ++ pins))) (b₀ :: suite) ts) (w : ts (endU i D) (σ.set i (some (.ref a))) H) :
    wpAny (model X.prog X.w) X.A (handleBy (.ref a) X.env (.ExceptHandler (some (.Name x np)) (some n) (b₀ :: suite) pos' :: more)) (SP X pins D) X.xe s := by
  refine wpAny_handleBy_cons (codeAny_handlers_test (c.name hf hc (c.fits e ?_))) (fun z => nomatch z)
  refine codeAny_handlers_suite_as (c.again fun h' c' => ?_)
  obtain ⟨oe, z, dt, J⟩ := c'.toSuite hf
  refine store_ok (X := X.suite a ((a, oe) :: (X.pn ++ pins))) (v := .ref a) J nd hi (.inl ln) rfl (fun s5 J5 => ?_) (.inr ln)
  refine wpAny_mono ((hs oe z dt).run [] s5 _ H _ J5 w) (fun f s6 ends => ?_) fun _ _ z => z.elim
  have gone : ∀ {σ6 : L2.St} {H6 : Hp} {Q : Shared → Prop}, Inv (X.suite a ((a, oe) :: (X.pn ++ pins))) [] σ6 H6 s6 → (∀ s7, Inv X pins (σ6.set i none) H6 s7 → Q s7) → wpAny (model X.prog X.w) X.A (do bindName X.env n .none; unbindBehindTheSuite X.env n pos') (fun _ s7 => Q s7) X.xe s6 :=
    fun J6 k => gone_ok (J6.unsuite c.inv.ok) nd hi ln k
  match f, ends with
  | .next, ⟨_, _, J6, q⟩ => exact gone J6 fun _ J7 => ⟨_, _, J7, q⟩
  | .brk, ⟨_, _, J6, q⟩ => exact gone J6 fun _ J7 => ⟨_, _, J7, q⟩
  | .cont, ⟨_, _, J6, q⟩ => exact gone J6 fun _ J7 => ⟨_, _, J7, q⟩
  | .ret _, ⟨_, _, _, J6, r, q⟩ => exact gone J6 fun _ J7 => ⟨_, _, _, J7, r, q⟩
theorem Caught.yes {D : Ends} {ts : TS} (c : Caught X pins σ H a cls d s) (hf : X.env.frame = some X.env.locals) (hc : Names X x t) (e : PySem.W.exmOne X.K cls t = some true)
    (hs : ∀ oe, L2N.Zn cls d oe → (∃ vs, oe.data = .fields vs) → PSs (X.suite a ((a, oe) :: (X.pn ++ pins))) (b₀ :: suite) ts) (w : ts D σ H) :
    wpAny (model X.prog X.w) X.A (handleBy (.ref a) X.env (.ExceptHandler (some (.Name x np)) none (b₀ :: suite) pos' :: more)) (SP X pins D) X.xe s := by
  refine wpAny_handleBy_cons (codeAny_handlers_test (c.name hf hc (c.fits e ?_))) (fun z => nomatch z)
  refine codeAny_handlers_suite (c.again fun h' c' => ?_)
  obtain ⟨oe, z, dt, J⟩ := c'.toSuite hf
  refine wpAny_mono ((hs oe z dt).run [] _ σ H _ J w) (fun f s6 ends => ?_) fun _ _ z => z.elim
  match f, ends with
  | .next, ⟨_, _, J6, q⟩ => exact ⟨_, _, J6.unsuite c.inv.ok, q⟩
  | .brk, ⟨_, _, J6, q⟩ => exact ⟨_, _, J6.unsuite c.inv.ok, q⟩
  | .cont, ⟨_, _, J6, q⟩ => exact ⟨_, _, J6.unsuite c.inv.ok, q⟩
  | .ret _, ⟨_, _, _, J6, r, q⟩ => exact ⟨_, _, _, J6.unsuite c.inv.ok, r, q⟩
end
/-! ### by mirrors -/
/-- what a suite starts from where the exception that it holds is in sight -/
def tSx (U : Uv) (W : WX) (x : Ex) (d : Option Addr) (m : MS) : TS := fun Dn σ H => ∃ M S ρ, At U M S ρ σ H ∧ ExAt U M H x (.ref (U.cl x.c)) d ∧ PostS U M H W (m ρ S) Dn
/-- the clauses of a try, one by one -/
inductive Clauses (U : Uv) (X : Cx) : List ExceptHandler → List Hd → Prop
  | nil : Clauses U X [] []
  | one {x : Str} {t : Value} {b₀ : Stmt} {suite : List Stmt} {np pos' : Pos} {hds : List ExceptHandler} {hs : List Hd} {ca : Nat → Option Bool} {su : Ex → MS} (hc : Names X x t) (hm : ∀ k b, ca k = some b → PySem.W.exmOne X.K (.ref (U.cl k)) t = some b)
      (hsu : ∀ (a : Addr) (oe : Obj) (e : Ex) (d : Option Addr) (pn : List (Addr × Obj)), L2N.Zn (.ref (U.cl e.c)) d oe → (∃ vs, oe.data = .fields vs) → (e.fs = [] → d = none) → PSs (X.suite a ((a, oe) :: pn)) (b₀ :: suite) (tS U W0 (su e))) (r : Clauses U X hds hs) :
      Clauses U X (.ExceptHandler (some (.Name x np)) none (b₀ :: suite) pos' :: hds) (⟨ca, none, su⟩ :: hs)
  | as_ {x n : Str} (i : Nat) {t : Value} {b₀ : Stmt} {suite : List Stmt} {np pos' : Pos} {hds : List ExceptHandler} {hs : List Hd} {ca : Nat → Option Bool} {su : Ex → MS} (hi : X.N[i]? = some n) (ln : X.env.kindOf n = some .local) (hc : Names X x t)
      (hm : ∀ k b, ca k = some b → PySem.W.exmOne X.K (.ref (U.cl k)) t = some b)
      (hsu : ∀ (a : Addr) (oe : Obj) (e : Ex) (d : Option Addr) (pn : List (Addr × Obj)), L2N.Zn (.ref (U.cl e.c)) d oe → (∃ vs, oe.data = .fields vs) → (e.fs = [] → d = none) → PSs (X.suite a ((a, oe) :: pn)) (b₀ :: suite) (tS (U.fix [(i, a)]) W0 (su e))) (r : Clauses U X hds hs) :
      Clauses U X (.ExceptHandler (some (.Name x np)) (some n) (b₀ :: suite) pos' :: hds) (⟨ca, some i, su⟩ :: hs)
  | asx {x n : Str} (i : Nat) {t : Value} {b₀ : Stmt} {suite : List Stmt} {np pos' : Pos} {hds : List ExceptHandler} {hs : List Hd} {ca : Nat → Option Bool} {su : Ex → MS} (hi : X.N[i]? = some n) (ln : X.env.kindOf n = some .local) (hc : Names X x t)
      (hm : ∀ k b, ca k = some b → PySem.W.exmOne X.K (.ref (U.cl k)) t = some b)
      (hsu : ∀ (a : Addr) (oe : Obj) (e : Ex) (d : Option Addr) (pn : List (Addr × Obj)), L2N.Zn (.ref (U.cl e.c)) d oe → (∃ vs, oe.data = .fields vs) → (e.fs = [] → d = none) → PSs (X.suite a ((a, oe) :: pn)) (b₀ :: suite) (tSx (U.fix [(i, a)]) W0 e d (su e))) (r : Clauses U X hds hs) :
      Clauses U X (.ExceptHandler (some (.Name x np)) (some n) (b₀ :: suite) pos' :: hds) (⟨ca, some i, su⟩ :: hs)
theorem clauses_run {U : Uv} {X : Cx} {W : WX} {hds : List ExceptHandler} {hs : List Hd} (cl : Clauses U X hds hs) (hf : U.f = []) (nd : X.N.Nodup) (hst : X.stack = X.env :: X.outer) (hfr : X.env.frame = some X.env.locals) (tk : L2N.Takes X W) {pins : List (Addr × Obj)} {σ : L2.St} {H : Hp} {a : Addr} {e : Ex} {d : Option Addr} {s : Shared}
    {M : Mp} {S : Sto} {ρ : Env} {Dn : Ends} (c : Caught X pins σ H a (.ref (U.cl e.c)) d s) (A : At U M S ρ σ H) (xa : ExAt U M H e (.ref (U.cl e.c)) d) (p : PostS U M H W (tryH hs e ρ S) Dn) : wpAny (model X.prog X.w) X.A (handleBy (.ref a) X.env hds) (SP X pins Dn) X.xe s := by
  have hd0 : e.fs = [] → d = none := fun z => xa.2.elim (fun q => q.2) fun ⟨_, _, n, _⟩ => absurd z n
  induction cl with
  | nil => exact c.on hst hfr tk (p M H σ _ d A.refl A xa)
  | @one x t b₀ suite np pos' hds hs ca su hc hm hsu r ih =>
    unfold tryH at p
    match q : ca e.c, p with
    | none, p => simp only [q] at p; exact p.elim
    | some false, p => simp only [q] at p; exact c.no hfr hc (hm _ _ q) (ih p)
    | some true, p =>
      simp only [q] at p
      refine c.yes hfr hc (hm _ _ q) (fun oe z dt => hsu a oe e d _ z dt hd0) ⟨M, S, ρ, A, ?_⟩
      revert p
      cases su e ρ S with
      | exc e2 ρ2 S2 => exact fun p => p.elim
      | _ => exact fun p => p
  | @as_ x n i t b₀ suite np pos' hds hs ca su hi ln hc hm hsu r ih =>
    unfold tryH at p
    match q : ca e.c, p with
    | none, p => simp only [q] at p; exact p.elim
    | some false, p => simp only [q] at p; exact c.no hfr hc (hm _ _ q) (ih p)
    | some true, p =>
      simp only [q] at p
      by_cases hl : i < ρ.length
      · rw [if_pos hl] at p
        refine c.yesAs hfr nd hi ln hc (hm _ _ q) (fun oe z dt => hsu a oe e d _ z dt hd0) ⟨M, S, ρ.set i none, A.fixed hf hl, ?_⟩
        revert p
        cases su e (ρ.set i none) S with
        | nx ρ2 S2 => exact fun p M' H' σ' ex A' => p M' H' _ ex (A'.unfixed hf)
        | bk ρ2 S2 => exact fun p M' H' σ' ex A' => p M' H' _ ex (A'.unfixed hf)
        | ct ρ2 S2 => exact fun p M' H' σ' ex A' => p M' H' _ ex (A'.unfixed hf)
        | rt d S2 => exact fun p M' H' v ex r rd => p M' H' v ex (R.fix (U := U.fix [(i, a)]) (l := U.f) r) (Rep.fix (U := U.fix [(i, a)]) (l := U.f) rd)
        | exc e2 ρ2 S2 => exact fun p => p.elim
        | stuck => exact fun p => p.elim
      · rw [if_neg hl] at p; exact p.elim
  | @asx x n i t b₀ suite np pos' hds hs ca su hi ln hc hm hsu r ih =>
    unfold tryH at p
    match q : ca e.c, p with
    | none, p => simp only [q] at p; exact p.elim
    | some false, p => simp only [q] at p; exact c.no hfr hc (hm _ _ q) (ih p)
    | some true, p =>
      simp only [q] at p
      by_cases hl : i < ρ.length
      · rw [if_pos hl] at p
        refine c.yesAs hfr nd hi ln hc (hm _ _ q) (fun oe z dt => hsu a oe e d _ z dt hd0) ⟨M, S, ρ.set i none, A.fixed hf hl, xa.fix, ?_⟩
        revert p
        cases su e (ρ.set i none) S with
        | nx ρ2 S2 => exact fun p M' H' σ' ex A' => p M' H' _ ex (A'.unfixed hf)
        | bk ρ2 S2 => exact fun p M' H' σ' ex A' => p M' H' _ ex (A'.unfixed hf)
        | ct ρ2 S2 => exact fun p M' H' σ' ex A' => p M' H' _ ex (A'.unfixed hf)
        | rt d S2 => exact fun p M' H' v ex r rd => p M' H' v ex (R.fix (U := U.fix [(i, a)]) (l := U.f) r) (Rep.fix (U := U.fix [(i, a)]) (l := U.f) rd)
        | exc e2 ρ2 S2 => exact fun p => p.elim
        | stuck => exact fun p => p.elim
      · rw [if_neg hl] at p; exact p.elim
section
variable {X : Cx} {U : Uv} {W : WX} {body : List Stmt} {h₀ : ExceptHandler} {hds : List ExceptHandler} {hs : List Hd} {pos : Pos} {mb : MS}
theorem s_tryN (nd : X.N.Nodup) (tk : L2N.Takes X W) (hb : ∀ (W : WX) (pn : List (Addr × Obj)) (xe : Value → Shared → Prop), L2N.Takes (X.tr pn xe) W → PassesOwn (model X.prog X.w) X.A X.env xe → PSs (X.tr pn xe) body (tS U W mb)) (cl : Clauses U X (h₀ :: hds) hs) (hf : U.f = [])
    (hst : X.stack = X.env :: X.outer := by rfl) (hfr : X.env.frame = some X.env.locals := by rfl) : PS X (.Try body (h₀ :: hds) [] [] pos) (tS U W (sTry mb hs)) := ⟨fun pins s σ H Dn I ⟨M, S, ρ, A, p⟩ => by
  have ok := I.ok
  refine wpAny_Try_except ?_
  -- what the body's exceptions are wished to be: the clauses' outcome
  let Wt : WX := fun cls d σ' H' => ∃ e M' S' ρ', cls = .ref (U.cl e.c) ∧ At U M' S' ρ' σ' H' ∧ ExAt U M' H' e cls d ∧ PostS U M' H' W (tryH hs e ρ' S') Dn
  have start : tS U Wt mb Dn σ H := by
    refine ⟨M, S, ρ, A, ?_⟩
    unfold sTry at p
    cases q : mb ρ S with
    | exc e ρ2 S2 =>
      rw [q] at p
      exact fun M' H' σ' cv dd ex A' xa => ⟨e, M', S2, ρ2, xa.1, A', xa, PostS.ext ex p⟩
    | nx ρ2 S2 => rw [q] at p; exact p
    | bk ρ2 S2 => rw [q] at p; exact p
    | ct ρ2 S2 => rw [q] at p; exact p
    | rt d S2 => rw [q] at p; exact p
    | stuck => rw [q] at p; exact p
  refine wpAny_mono ((hb Wt (X.pn ++ pins) _ (fun u s' fly => ?_) PassesOwn.looking).run [] s σ H Dn (I.toTry _) start) (fun f s1 ends => ?_) fun _ _ z => z
  · obtain ⟨a, B, s0, pins', σ', H', cls, d, rfl, J', nb, up, sky, na, os, ag, e, M', S', ρ', rfl, A', xa, p'⟩ := fly
    have sky' : Sky B (X.env :: X.outer) a (L2N.Zn (.ref (U.cl e.c)) d) X.env.locals s'.heap := by rw [← hst]; exact sky
    exact L2N.Sky.land L2N.Zn.steady (by rw [ok.frames, hst]) hfr sky' fun h3 fl3 up3 => clauses_run cl hf nd hst hfr tk (pins := pins) ⟨⟨B, s0, J'.ofTry ok, nb, up.trans up3, fl3, os, ag⟩, na⟩ A' xa p'
  · match f, ends with
    | .next, ⟨_, _, J, q⟩ => exact wpAny_execs_nil ⟨_, _, J.ofTry ok, q⟩
    | .brk, ⟨_, _, J, q⟩ => exact ⟨_, _, J.ofTry ok, q⟩
    | .cont, ⟨_, _, J, q⟩ => exact ⟨_, _, J.ofTry ok, q⟩
    | .ret _, ⟨_, _, _, J, r, q⟩ => exact ⟨_, _, _, J.ofTry ok, r, q⟩⟩
end
end DL
/-! DL13: isinstance(e, (C, D)) of a caught error. -/
namespace DL
open PySem PySem.Spec PyProof.Rows L2
theorem call_isE2 {X : Cx} {a D C1 C2 : Addr} {oe : Obj} {pn : List (Addr × Obj)} (ec : ExcC X.K D) (hz : Zc (.ref D) none oe) (hf : ∃ vs, oe.data = .fields vs) :
    CallR (X.suite a ((a, oe) :: pn)) (.builtin "isinstance") (fun xs H Q => ∃ tp b, xs = [.ref a, .ref tp] ∧ H tp = some (.tup [.ref C1, .ref C2]) ∧ PySem.W.kitAny X.K (.ref D) [.ref C1, .ref C2] = some b ∧ Q (.bl b) H) := by
  intro pins s σ H xs us Q I r ⟨tp, b, ex, ht, e, q⟩
  subst ex
  obtain ⟨u1, u2, rfl, r1, r2⟩ := vals2 r
  obtain rfl : u1 = Value.ref a := r1
  obtain rfl : u2 = Value.ref tp := r2
  obtain ⟨g, _⟩ := I.pin (a, oe) (List.mem_append_left _ List.mem_cons_self)
  obtain ⟨vs, dt⟩ := hf
  have J : PySem.W.InstAt s.heap a oe D none := by
    cases oe with
    | mk c o dd sl =>
      obtain ⟨z1, z2⟩ := hz
      have z1' : c = _ := z1
      have z2' : o = _ := z2
      have z3 : dd = _ := dt
      subst z1' z2' z3
      exact ⟨g, rfl, rfl, trivial⟩
  obtain ⟨_, its, rv, o, h1, h2, n, h3⟩ := (show ObjOk X.prog X.w H s.heap tp (.tup [.ref C1, .ref C2]) from I.hok tp _ ht)
  obtain ⟨w1, w2, ew, q1, q2⟩ := vals2 rv
  obtain rfl : w1 = Value.ref C1 := q1
  obtain rfl : w2 = Value.ref C2 := q2
  subst ew
  cases o with
  | mk c dd da sl =>
    have z1 : c = _ := h2
    have z2 : da = _ := h3
    subst z1 z2
    exact PySem.W.kia_tup (PySem.W.handS_kitx_exc ec.hg ec.hk ec.hs ec.hd ec.ha ec.hn ec.ht ec.hm) I.kIn J h1 e (fun z => nomatch z) fun tk => ⟨.bl b, H, I.tok tk, rfl, q⟩
theorem kit_any2 {K : PySem.W.Frag} {t c1 c2 : Value} {b1 b2 : Bool} (h1 : PySem.W.kitOne K t c1 = some b1) (h2 : PySem.W.kitOne K t c2 = some b2) : PySem.W.kitAny K t [c1, c2] = some (b1 || b2) := by
  simp only [PySem.W.kitAny, h1, h2]
  cases b1 <;> cases b2 <;> rfl
section
variable {X : Cx} {U : Uv} {W : WX}
theorem e_isE2 {a : Addr} {oe : Obj} {pn : List (Addr × Obj)} (i : Nat) {n x1 x2 : Str} {k : Nat} {q p0 p1 p2 pt pos : Pos} {C C1 C2 : Addr} {b1 b2 : Bool} (ec : ExcC X.K C) (hz : Zc (.ref C) none oe) (hf : ∃ vs, oe.data = .fields vs) (hm : X.mg "isinstance" = none)
    (m1 : X.mg x1 = some (.ref C1)) (m2 : X.mg x2 = some (.ref C2)) (k1 : PySem.W.kitOne X.K (.ref C) (.ref C1) = some b1) (k2 : PySem.W.kitOne X.K (.ref C) (.ref C2) = some b2) (hU : (i, a) ∈ U.f) (hN : X.N[i]? = some n := by rfl) (hv : Vis X.env.scope n := by first | exact Or.inl rfl | exact Or.inr (Or.inl rfl) | exact Or.inr (Or.inr rfl))
    (hg : Gl X "isinstance" := by rfl) (g1 : Gl X x1 := by rfl) (g2 : Gl X x2 := by rfl) (hd : (n == ("__debug__" : Str)) = false := by decide) (hcd : (n == ("__classdict__" : Str)) = false := by decide) (d1 : (x1 == ("__debug__" : Str)) = false := by decide) (d2 : (x2 == ("__debug__" : Str)) = false := by decide)
    (he : starEach [Expr.Name n p0, .Tuple [Expr.Name x1 p1, Expr.Name x2 p2] k pt] X.env = (false, eval (Expr.Name n p0) X.env) :: starEach [.Tuple [Expr.Name x1 p1, Expr.Name x2 p2] k pt] X.env := by rfl)
    (he2 : starEach [.Tuple [Expr.Name x1 p1, Expr.Name x2 p2] k pt] X.env = (false, eval (.Tuple [Expr.Name x1 p1, Expr.Name x2 p2] k pt) X.env) :: starEach [] X.env := by rfl)
    (he3 : starEach [Expr.Name x1 p1, Expr.Name x2 p2] X.env = (false, eval (Expr.Name x1 p1) X.env) :: starEach [Expr.Name x2 p2] X.env := by rfl) (he4 : starEach [Expr.Name x2 p2] X.env = (false, eval (Expr.Name x2 p2) X.env) :: starEach [] X.env := by rfl)
    (hpl : (backTo pos (starEach [.Tuple [Expr.Name x1 p1, Expr.Name x2 p2] k pt] X.env)).any (·.1) = false := by rfl) :
    PE (X.suite a ((a, oe) :: pn)) (.Call (.Name "isinstance" q) [.Name n p0, .Tuple [.Name x1 p1, .Name x2 p2] k pt] [] pos) (tE U W (mC (.bl (b1 || b2)))) :=
  pe_imp (pe_callB (call_isE2 (C1 := C1) (C2 := C2) ec hz hf) hg hm PyProof.Rows.boot_isinstance (pa_cons (pv i hN hv hd hcd) (pa_cons (pe_tup (pa_cons (pe_glob (v := .ref C1) g1 m1 rfl d1) (pa_cons (pe_glob (v := .ref C2) g2 m2 rfl d2) pa_nil he4) he3)) pa_nil he2) he) (by decide) (by decide) he hpl) fun σ H Q ⟨M, S, ρ, A, p⟩ =>
    ⟨_, A.fx _ hU, by show 2 ≤ sizeLine; decide, fun t ht => ⟨t, _, rfl, upd_same, kit_any2 k1 k2, p M _ _ (A.r.extNew ht) (A.r.new ht) (.bl _)⟩⟩
end
end DL
/-! DL14: zip and enumerate as sources. -/
namespace DL
open PySem L2
/-- a list that is none of the store's -/
def seqF : D → Option (List D)
  | .lst xs => some xs
  | .fz xs => some xs
  | _ => none
section
variable {U : Uv} {M : Mp} {S : Sto} {H : Hp}
theorem Rep.seqF' {v : V} {d : D} {ds : List D} (h : Rep U M H v d) (e : seqF d = some ds) : ∃ a xs, v = .ref a ∧ (∀ M' H', Mv M H M' H' → SqL U.K H' a xs) ∧ RepAll U M H xs ds := by
  cases h with
  | lst ht ra => cases e; exact ⟨_, _, rfl, fun M' H' f => (ht.mv f).sq, ra⟩
  | fz ht ra => cases e; exact ⟨_, _, rfl, fun M' H' f => (ht.mv f).sq, ra⟩
  | _ => cases e
def pairsD (ds es : List D) : List D := (ds.zip es).map fun p => .tup [p.1, p.2]
theorem pairsD_get {ds es : List D} {k : Nat} (h : k < (pairsD ds es).length) : ∃ d e, ds[k]? = some d ∧ es[k]? = some e ∧ (pairsD ds es)[k]? = some (.tup [d, e]) := by
  unfold pairsD at h
  rw [List.length_map, List.length_zip] at h
  have h1 : k < ds.length := by omega
  have h2 : k < es.length := by omega
  refine ⟨ds[k], es[k], List.getElem?_eq_getElem h1, List.getElem?_eq_getElem h2, ?_⟩
  unfold pairsD
  have z : (ds.zip es)[k]? = some (ds[k], es[k]) := List.getElem?_zip_eq_some.mpr ⟨List.getElem?_eq_getElem h1, List.getElem?_eq_getElem h2⟩
  rw [List.getElem?_map, z]
  rfl
theorem yields_zip {a b : Addr} {xs ys : List V} {ds es : List D} (ha : ∀ M' H', Mv M H M' H' → SqL U.K H' a xs) (hb : ∀ M' H', Mv M H M' H' → SqL U.K H' b ys) (ra : RepAll U M H xs ds) (rb : RepAll U M H ys es) : Yields U M H (Itz U.K a b) (pairsD ds es) where
  go := fun M' S' H' k f _ hk => by
    obtain ⟨d, e, h1, h2, _⟩ := pairsD_get hk
    obtain ⟨x, hx, _⟩ := ra.get h1
    obtain ⟨y, hy, _⟩ := rb.get h2
    exact ⟨xs, ys, x, y, ha _ _ f, hb _ _ f, hx, hy⟩
  yld := fun M' S' H' k v H'' f r hk ⟨T, x, y, ev, hT, eH, hx, hy⟩ => by
    obtain ⟨d, e, h1, h2, h3⟩ := pairsD_get hk
    obtain ⟨x', hx', rx⟩ := ra.get h1
    obtain ⟨y', hy', ry⟩ := rb.get h2
    have ex := hx xs (ha _ _ f)
    have ey := hy ys (hb _ _ f)
    rw [hx'] at ex
    rw [hy'] at ey
    cases ex; cases ey
    subst ev eH
    exact ⟨_, h3, r.extNew hT, r.new hT, Rep.newTup r hT (.cons (rx.mv f) (.cons (ry.mv f) .nil))⟩
  stop := fun M' S' H' f _ => ⟨xs, ys, ha _ _ f, hb _ _ f, by
    have h1 := ra.length
    have h2 := rb.length
    unfold pairsD
    rw [List.length_map, List.length_zip]
    omega⟩
/-- enumerate -/
def numsD (ds : List D) : List D := (List.range ds.length).zipWith (fun (i : Nat) d => .tup [.int (i : Int), d]) ds
theorem numsD_len (ds : List D) : (numsD ds).length = ds.length := by
  unfold numsD
  rw [List.length_zipWith, List.length_range, Nat.min_self]
theorem numsD_get {ds : List D} {k : Nat} {d : D} (h : ds[k]? = some d) : (numsD ds)[k]? = some (.tup [.int (k : Int), d]) := by
  have hk := (List.getElem?_eq_some_iff.mp h).1
  unfold numsD
  rw [List.getElem?_zipWith, List.getElem?_range hk, h]
theorem yields_enum {a : Addr} {xs : List V} {ds : List D} (ha : ∀ M' H', Mv M H M' H' → SqL U.K H' a xs) (ra : RepAll U M H xs ds) : Yields U M H (Ite U.K a) (numsD ds) where
  go := fun M' S' H' k f _ hk => by
    rw [numsD_len] at hk
    obtain ⟨x, hx, _⟩ := ra.get (List.getElem?_eq_getElem hk)
    exact ⟨xs, x, ha _ _ f, hx⟩
  yld := fun M' S' H' k v H'' f r hk ⟨T, x, ev, hT, eH, hx⟩ => by
    rw [numsD_len] at hk
    obtain ⟨x', hx', rx⟩ := ra.get (List.getElem?_eq_getElem hk)
    have ex := hx xs (ha _ _ f)
    rw [hx'] at ex
    cases ex
    subst ev eH
    exact ⟨_, numsD_get (List.getElem?_eq_getElem hk), r.extNew hT, r.new hT, Rep.newTup r hT (.cons (.int _) (.cons (rx.mv f) .nil))⟩
  stop := fun M' S' H' f _ => ⟨xs, ha _ _ f, by rw [ra.length, numsD_len]; exact Nat.le_refl _⟩
end
def iZipM (ma mb : ME) : MI := fun ρ S => (ma ρ S).bind fun x S1 => (mb ρ S1).bind fun y S2 => match seqF x, seqF y with
  | some ds, some es => .ok (pairsD ds es) S2
  | _, _ => .stuck
def iEnumM (m : ME) : MI := fun ρ S => (m ρ S).bind fun x S1 => match seqF x with
  | some ds => .ok (numsD ds) S1
  | none => .stuck
section
variable {X : Cx} {U : Uv} {W : WX} {a b : Expr} {ma mb : ME} {elts : List Expr} {kk : Nat} {q pos tpos : Pos}
theorem i_zip (hm : X.mg "zip" = none) (ha : PE X a (tE U W ma)) (hb : PE X b (tE U W mb)) (hK : X.K = U.K := by rfl) (hg : Gl X "zip" := by rfl) (hs : starEach [a, b] X.env = (false, eval a X.env) :: starEach [b] X.env := by rfl) (hs2 : starEach [b] X.env = (false, eval b X.env) :: starEach [] X.env := by rfl)
    (hpl : (backTo pos (starEach [b] X.env)).any (·.1) = false := by rfl) : PI X (.Tuple elts kk tpos) (.Call (.Name "zip" q) [a, b] [] pos) (tI U W (iZipM ma mb)) :=
  pi_imp (pi_zip hg hm (pa_cons ha (pa_cons hb pa_nil hs2) hs) hs hpl) fun σ H R' ⟨M, S, ρ, A, p⟩ => tX.bind A p fun x S1 M1 H1 v e1 A1 r1 p1 => tX.bind A1 p1 fun y S2 M2 H2 w e2 A2 r2 p2 => by
    cases q1 : seqF x with
    | none => simp only [q1] at p2; exact p2.elim
    | some ds =>
      cases q2 : seqF y with
      | none => simp only [q1, q2] at p2; exact p2.elim
      | some es =>
        simp only [q1, q2] at p2
        obtain ⟨l1, xs, rfl, s1, ra⟩ := (r1.ext e2).seqF' q1
        obtain ⟨l2, ys, rfl, s2, rb⟩ := r2.seqF' q2
        rw [hK]
        exact ⟨l1, l2, xs, ys, rfl, s1 _ _ Mv.refl, s2 _ _ Mv.refl, p2 M2 H2 _ A2.refl A2.r (yields_zip s1 s2 ra rb)⟩
theorem i_enum (hm : X.mg "enumerate" = none) (ha : PE X a (tE U W ma)) (hK : X.K = U.K := by rfl) (hg : Gl X "enumerate" := by rfl) (hs : starEach [a] X.env = [(false, eval a X.env)] := by rfl) (hs1 : starEach [a] X.env = (false, eval a X.env) :: starEach [] X.env := by rfl) :
    PI X (.Tuple elts kk tpos) (.Call (.Name "enumerate" q) [a] [] pos) (tI U W (iEnumM ma)) :=
  pi_imp (pi_enum hg hm (pa_cons ha pa_nil hs1) hs) fun σ H R' ⟨M, S, ρ, A, p⟩ => tX.bind A p fun x S1 M1 H1 v e1 A1 r1 p1 => by
    cases q1 : seqF x with
    | none => simp only [q1] at p1; exact p1.elim
    | some ds =>
      simp only [q1] at p1
      obtain ⟨l1, xs, rfl, s1, ra⟩ := r1.seqF' q1
      rw [hK]
      exact ⟨l1, xs, rfl, s1 _ _ Mv.refl, p1 M1 H1 _ A1.refl A1.r (yields_enum s1 ra)⟩
end
end DL
/-! DL15: instances: attributes read and set, methods, new instances. -/
namespace DL
open PySem L2
section
variable {U : Uv} {M M' : Mp} {H H' : Hp} {fv : List (Str × V)} {fs : List (Str × D)} {f : Str} {d : D} {v : V}
theorem FsRep.look : ∀ {fv : List (Str × V)} {fs : List (Str × D)}, FsRep U M H fv fs → fs.lookup f = some d → ∃ v, fv.lookup f = some v ∧ Rep U M H v d
  | _, _, .nil, h => by cases h
  | (k, v) :: _, (k', d') :: _, .cons h r, hl => by
    obtain ⟨ek, hr⟩ := h
    have ek : k = k' := ek
    subst ek
    rw [List.lookup] at hl ⊢
    cases q : f == k with
    | true => rw [q] at hl; cases hl; exact ⟨v, rfl, hr⟩
    | false => rw [q] at hl; exact FsRep.look r hl
theorem FsRep.lookN : ∀ {fv : List (Str × V)} {fs : List (Str × D)}, FsRep U M H fv fs → fs.lookup f = none → fv.lookup f = none
  | _, _, .nil, _ => rfl
  | (k, v) :: _, (k', d') :: _, .cons h r, hl => by
    obtain ⟨ek, hr⟩ := h
    have ek : k = k' := ek
    subst ek
    rw [List.lookup] at hl ⊢
    cases q : f == k with
    | true => rw [q] at hl; cases hl
    | false => rw [q] at hl; exact FsRep.lookN r hl
theorem FsRep.len : ∀ {fv : List (Str × V)} {fs : List (Str × D)}, FsRep U M H fv fs → fv.length = fs.length
  | _, _, .nil => rfl
  | _ :: _, _ :: _, .cons _ r => congrArg (· + 1) (FsRep.len r)
def putD (f : Str) (d : D) : List (Str × D) → List (Str × D)
  | [] => [(f, d)]
  | (g, x) :: r => if g = f then (g, d) :: r else (g, x) :: putD f d r
theorem FsRep.put (hv : Rep U M H v d) : ∀ {fv : List (Str × V)} {fs : List (Str × D)}, FsRep U M H fv fs → FsRep U M H (putF f v fv) (putD f d fs)
  | _, _, .nil => .cons ⟨rfl, hv⟩ .nil
  | (k, w) :: _, (k', d') :: _, .cons h r => by
    obtain ⟨ek, hr⟩ := h
    have ek : k = k' := ek
    subst ek
    unfold putF putD
    by_cases q : k = f
    · rw [if_pos q, if_pos q]; exact .cons ⟨rfl, hv⟩ r
    · rw [if_neg q, if_neg q]; exact .cons ⟨rfl, hr⟩ (FsRep.put hv r)
/-- an instance of the store -/
theorem Rep.objI {S : Sto} {i c : Nat} (h : Rep U M H v (.obj i)) (r : R U M S H) (q : S[i]? = some (.ins c fs)) : ∃ dx fv, v = .ref (M.at_ i) ∧ i < M.n ∧ H (M.at_ i) = some (.ins (U.cl c) dx fv) ∧ FsRep U M H fv fs := by
  cases h with
  | obj hi =>
    obtain ⟨dx, fv, a, b⟩ := r.at_ i _ q
    exact ⟨dx, fv, rfl, hi, a, b⟩
end
/-! ### o.f and o.f = e -/
/-- an instance of one of these classes: its number, its fields -/
def insG (cs : List Nat) (S : Sto) (d : D) : Option (Nat × Nat × List (Str × D)) := match d with
  | .obj i => match S[i]? with
    | some (.ins c fs) => if cs.contains c = true then some (i, c, fs) else none
    | _ => none
  | _ => none
theorem insG_some {cs : List Nat} {S : Sto} {d : D} {z : Nat × Nat × List (Str × D)} (h : insG cs S d = some z) : d = .obj z.1 ∧ S[z.1]? = some (.ins z.2.1 z.2.2) ∧ z.2.1 ∈ cs := by
  cases d with
  | obj i =>
    unfold insG at h
    simp only at h
    cases q : S[i]? with
    | none => rw [q] at h; cases h
    | some ob =>
      rw [q] at h
      cases ob with
      | lst xs => cases h
      | dK _ => cases h
      | dN _ => cases h
      | dF _ => cases h
      | xc _ _ => cases h
      | ins c fs =>
        simp only at h
        by_cases g : cs.contains c = true
        · rw [if_pos g] at h; cases h; exact ⟨rfl, q, List.contains_iff_mem.mp g⟩
        · rw [if_neg g] at h; cases h
  | _ => cases h
def mFld (cs : List Nat) (f : Str) (m : ME) : ME := fun ρ S => (m ρ S).bind fun d S1 => match insG cs S1 d with
  | some z => match z.2.2.lookup f with
    | some x => .ok x S1
    | none => .stuck
  | none => .stuck
def sFldD (cs : List Nat) (f : Str) (m mo : ME) : MS := fun ρ S => .of (m ρ S) ρ fun d S1 => .of (mo ρ S1) ρ fun o S2 => match insG cs S2 o with
  | some z => if z.2.2.length < 1000 then .nx ρ (S2.set z.1 (.ins z.2.1 (putD f d z.2.2))) else .stuck
  | none => .stuck
section
variable {X : Cx} {U : Uv} {W : WX} {e o : Expr} {m mo : ME} {f : Str} {cs : List Nat} {pos pos' : Pos}
theorem e_fld (he : PE X e (tE U W m)) (hc : ∀ c ∈ cs, Cls X.K (U.cl c) ∧ NoAttr X.K (U.cl c) f) (hb : attributeBase e f X.env (eval e X.env) = eval e X.env := by rfl) : PE X (.Attribute e f pos) (tE U W (mFld cs f m)) :=
  pe_imp (pe_fld he hb) fun σ H Q ⟨M, S, ρ, A, q⟩ => tX.bind A q fun d S1 M1 H1 v e1 A1 rv q1 => by
    cases g : insG cs S1 d with
    | none => rw [g] at q1; exact q1.elim
    | some z =>
      rw [g] at q1
      obtain ⟨rfl, hS, hm⟩ := insG_some g
      obtain ⟨dx, fv, rfl, hi, hH, fr⟩ := rv.objI A1.r hS
      simp only at q1
      cases g2 : z.2.2.lookup f with
      | none => rw [g2] at q1; exact q1.elim
      | some x =>
        rw [g2] at q1
        obtain ⟨w, hl, rw'⟩ := fr.look g2
        exact ⟨_, _, dx, fv, w, rfl, hH, (hc _ hm).1, (hc _ hm).2, hl, q1 M1 H1 w A1.refl A1.r rw'⟩
theorem s_fld (ho : PE X o (tE U W mo)) (he : PE X e (tE U W m)) (hc : ∀ c ∈ cs, Cls X.K (U.cl c) ∧ NoAttr X.K (U.cl c) f) (hs : swapsWith e (some (.Attribute o f pos')) pos.line X.env = pure false := by rfl) : PS X (.Assign [.Attribute o f pos'] e pos) (tS U W (sFldD cs f m mo)) :=
  ps_imp (ps_fld ho he hs) fun Dn σ H ⟨M, S, ρ, A, p⟩ => tX.ofS A p fun d S1 M1 H1 v e1 A1 r1 p1 => tX.ofS A1 p1 fun dO S2 M2 H2 ov e2 A2 r2 p2 => by
    cases g : insG cs S2 dO with
    | none => rw [g] at p2; exact p2.elim
    | some z =>
      rw [g] at p2
      obtain ⟨rfl, hS, hm⟩ := insG_some g
      obtain ⟨dx, fv, rfl, hi, hH, fr⟩ := r2.objI A2.r hS
      simp only at p2
      by_cases hl : z.2.2.length < 1000
      · rw [if_pos hl] at p2
        have ex := A2.r.extSet (o := .ins (U.cl z.2.1) dx (putF f v fv)) hi (nofrz hH fun _ _ z => nomatch z)
        have R3 := A2.r.set (o := .ins (U.cl z.2.1) dx (putF f v fv)) (ob := .ins z.2.1 (putD f d z.2.2)) hi (nofrz hH fun _ _ z => nomatch z) ⟨dx, _, upd_same, ((fr.put (r1.ext e2)).ext ex)⟩
        exact ⟨_, _, dx, fv, rfl, hH, (hc _ hm).1, (hc _ hm).2, by rw [fr.len]; exact hl, p2 M2 _ _ ex (A2.ext ex R3)⟩
      · rw [if_neg hl] at p2; exact p2.elim
end
end DL
/-! DL16: methods called, new instances made. -/
namespace DL
open PySem L2
section
variable {U : Uv} {W : WX} {M : Mp} {S : Sto} {H : Hp} {σ : L2.St} {ρ : Env}
/-- the arguments' reading, then what is done with them -/
theorem args_post {α : Type} {g : List D → Sto → Out α} {rel : Mp → Hp → V → α → Prop} {ms : MA} {Q : VK} {Q1 : List V → Hp → Prop} (A : At U M S ρ σ H) (q : PostX U rel M H σ W ((ms ρ S).bind g) Q)
    (h : ∀ ds S1 M1 H1 vs, ms ρ S = .ok ds S1 → Ext M H M1 H1 → R U M1 S1 H1 → RepAll U M1 H1 vs ds → PostX U rel M1 H1 σ W (g ds S1) Q → Q1 vs H1) : tA U W ms σ H Q1 := by
  refine ⟨M, S, ρ, A, ?_⟩
  cases e1 : ms ρ S with
  | ok ds S1 =>
    rw [e1] at q
    exact fun M1 H1 vs ex r ra => h ds S1 M1 H1 vs e1 ex r ra (PostX.ext ex q)
  | exc x S1 => rw [e1] at q; exact q
  | stuck => rw [e1] at q; exact q
end
/-- a method that does what F does -/
structure DoesM (P : Program) (w : World) (K : PySem.W.Frag) (mg : Str → Option Value) (base : Heap) (U : Uv) (k c : Nat) (m : Str) (f : Addr) (fd : FuncData) (ps : List Str) (F : Mi) : Prop where
  fn : FnOk P w K mg base (L2N.CX P w) k f fd ps (spF U ps.length F)
  cl : Cls K (U.cl c)
  me : Meth K (U.cl c) m f
  b : Binds K fd ps []
/-- o.m(e, ..) -/
def mMeth (c : Nat) (m : Str) (F : Mi) (mo : ME) (ms : MA) : ME := fun ρ S => (mo ρ S).bind fun o S1 => match insG [c] S1 o with
  | some z => match z.2.2.lookup m with
    | none => (ms ρ S1).bind fun ds S2 => F (o :: ds) S2
    | some _ => .stuck
  | none => .stuck
/-- o.m(k = e, ..) -/
def mMethK (c : Nat) (m : Str) (F : Mi) (is : List Nat) (mo : ME) (mk : MA) : ME := fun ρ S => (mo ρ S).bind fun o S1 => match insG [c] S1 o with
  | some z => match z.2.2.lookup m with
    | none => (mk ρ S1).bind fun es S2 => match pick is (o :: es) with
      | some zs => F zs S2
      | none => .stuck
    | some _ => .stuck
  | none => .stuck
section
variable {X : Cx} {U : Uv} {W : WX} {k j c : Nat} {F : Mi} {m : Str} {o e : Expr} {es : List Expr} {mo : ME} {ms mk : MA} {pos apos : Pos} {f : Addr} {fd : FuncData} {ps ks : List Str}
/-- the receiver -/
theorem recv_post {M : Mp} {S : Sto} {H : Hp} {σ : L2.St} {ρ : Env} {Q : VK} {g : D → Sto → Out D} (A : At U M S ρ σ H)
    (q : PostX U (Rep U) M H σ W ((mo ρ S).bind fun o S1 => match insG [c] S1 o with
      | some z => match z.2.2.lookup m with
        | none => g o S1
        | some _ => .stuck
      | none => .stuck) Q) : tE U W mo σ H fun x H1 => ∃ M1 S1 d a dx fv, x = .ref a ∧ H1 a = some (.ins (U.cl c) dx fv) ∧ fv.lookup m = none ∧ At U M1 S1 ρ σ H1 ∧ Rep U M1 H1 (.ref a) d ∧ PostX U (Rep U) M1 H1 σ W (g d S1) Q :=
  tX.bind A q fun d S1 M1 H1 v e1 A1 rv q1 => by
    cases g1 : insG [c] S1 d with
    | none => rw [g1] at q1; exact q1.elim
    | some z =>
      rw [g1] at q1
      obtain ⟨rfl, hS, hm⟩ := insG_some g1
      obtain ⟨dx, fv, rfl, hi, hH, fr⟩ := rv.objI A1.r hS
      have hc := List.mem_singleton.mp hm
      rw [hc] at hH
      simp only at q1
      cases g2 : z.2.2.lookup m with
      | none =>
        rw [g2] at q1
        exact ⟨M1, S1, _, _, dx, fv, rfl, hH, fr.lookN g2, A1, rv, q1⟩
      | some x => rw [g2] at q1; exact q1.elim
theorem e_meth {pl : Sem Bool} (G : DoesM X.prog X.w X.K X.mg X.base U k c m f fd ps F) (tk : L2N.Takes X W) (hr : Room j X.A) (ho : PE X o (tE U W mo)) (ha : PA X (e :: es) (tA U W ms)) (hn : ∀ ρ S ds S1, ms ρ S = .ok ds S1 → ds.length + 1 = ps.length) (hk : k ≤ j := by decide) (hst : starEach (e :: es) X.env = (false, eval e X.env) :: starEach es X.env := by rfl)
    (hpl : (backTo pos (starEach es X.env)).any (·.1) = false := by rfl)
    (ht : eval (.Call (.Attribute o m apos) (e :: es) [] pos) X.env = (do let ov ← eval o X.env; standAt apos.atName; let (gf, g1) ← holding [ov] (getMethod ov m pl); callWith pos gf g1 (backTo pos (starEach (e :: es) X.env)) (backToKw pos (keywordEach [] X.env))) := by rfl) : PE X (.Call (.Attribute o m apos) (e :: es) [] pos) (tE U W (mMeth c m F mo ms)) := by
  refine ⟨fun pins s σ H Q I ⟨M, S, ρ, A, q⟩ => ?_⟩
  refine PySem.W.methodCall_KW (pl := pl) (thn (ho.run pins s σ H _ I (recv_post A q)) fun u s1 ⟨x, H1, I1, rx, M1, S1, d, a, dx, fv, ex, ea, l, A1, rd, q1⟩ => ?_) ht
  subst ex
  have eu : u = Value.ref a := rx; subst eu
  refine getmeth_ok I1 ea G.cl G.me l ?_
  have z := args_post (Q1 := fun vs H2 => spF U ps.length F (.ref a :: vs) H2 Q (WE W σ)) A1 q1 fun ds S2 M2 H2 vs e1 ex r ra p => sp_in r (.cons (rd.ext ex) ra) (hn _ _ _ _ e1) p
  refine PySem.W.callWith_K (first := [.ref a]) (h₀ := X.base) I.ok.mod.kin G.me.kp (thn (ha.run pos pins s1 σ H1 _ I1 z) fun us s2 ⟨vs, H2, I2, r, q2⟩ => ⟨I2.kIn, ?_⟩) hst hpl
  exact run_fnS (E := WE W) (us := .ref a :: us) (vs := .ref a :: vs) G.fn (hr.mono hk) G.b (L2N.passAt tk σ) I2 (.cons rfl r) q2
theorem e_meth0 {pl : Sem Bool} (G : DoesM X.prog X.w X.K X.mg X.base U k c m f fd ps F) (tk : L2N.Takes X W) (hr : Room j X.A) (ho : PE X o (tE U W mo)) (hk : k ≤ j := by decide) (hp : ps.length = 1 := by rfl)
    (ht : eval (.Call (.Attribute o m apos) [] [] pos) X.env = (do let ov ← eval o X.env; standAt apos.atName; let (gf, g1) ← holding [ov] (getMethod ov m pl); callWith pos gf g1 (backTo pos (starEach [] X.env)) (backToKw pos (keywordEach [] X.env))) := by rfl) : PE X (.Call (.Attribute o m apos) [] [] pos) (tE U W (mMeth c m F mo aNil)) := by
  refine ⟨fun pins s σ H Q I ⟨M, S, ρ, A, q⟩ => ?_⟩
  refine PySem.W.methodCall_KW (pl := pl) (thn (ho.run pins s σ H _ I (recv_post A q)) fun u s1 ⟨x, H1, I1, rx, M1, S1, d, a, dx, fv, ex, ea, l, A1, rd, q1⟩ => ?_) ht
  subst ex
  have eu : u = Value.ref a := rx; subst eu
  refine getmeth_ok I1 ea G.cl G.me l ?_
  exact PySem.W.callWith_K0 (first := [.ref a]) I1.kIn G.me.kp (run_fnS (E := WE W) (us := [.ref a]) (vs := [.ref a]) G.fn (hr.mono hk) G.b (L2N.passAt tk σ) I1 (.cons rfl .nil) (sp_in A1.r (.cons rd .nil) hp.symm q1))
theorem e_methK {pl : Sem Bool} {kws : List Keyword} (is : List Nat) (G : DoesM X.prog X.w X.K X.mg X.base U k c m f fd ps F) (hb : KwB X.K fd ps ks 1 is) (tk : L2N.Takes X W) (hr : Room j X.A) (ho : PE X o (tE U W mo)) (hkw : PK X kws (tA U W mk)) (hm : ∀ ρ S ds S1, mk ρ S = .ok ds S1 → ds.length = ks.length) (hk : k ≤ j := by decide)
    (hi : is.length = ps.length := by rfl) (hall : (backToKw pos (keywordEach kws X.env)).all (·.1.isSome) = true := by rfl) (hks : (backToKw pos (keywordEach kws X.env)).filterMap (·.1) = ks := by rfl)
    (hpl : ((backTo pos (starEach [] X.env)).any (·.1) || (backToKw pos (keywordEach kws X.env)).any (·.1.isNone)) = false := by rfl)
    (ht : eval (.Call (.Attribute o m apos) [] kws pos) X.env = (do let ov ← eval o X.env; standAt apos.atName; let (gf, g1) ← holding [ov] (getMethod ov m pl); callWith pos gf g1 (backTo pos (starEach [] X.env)) (backToKw pos (keywordEach kws X.env))) := by rfl) : PE X (.Call (.Attribute o m apos) [] kws pos) (tE U W (mMethK c m F is mo mk)) := by
  refine ⟨fun pins s σ H Q I ⟨M, S, ρ, A, q⟩ => ?_⟩
  refine PySem.W.methodCall_KW (pl := pl) (thn (ho.run pins s σ H _ I (recv_post A q)) fun u s1 ⟨x, H1, I1, rx, M1, S1, d, a, dx, fv, ex, ea, l, A1, rd, q1⟩ => ?_) ht
  subst ex
  have eu : u = Value.ref a := rx; subst eu
  refine getmeth_ok I1 ea G.cl G.me l ?_
  have z := args_post (Q1 := fun zs H2 => zs.length = ks.length ∧ ∃ es, pick is ([V.ref a] ++ zs) = some es ∧ spF U ps.length F es H2 Q (WE W σ)) A1 q1 fun ds S2 M2 H2 vs e1 ex r ra p => by
    cases g : pick is (d :: ds) with
    | none => rw [g] at p; exact p.elim
    | some ys =>
      rw [g] at p
      obtain ⟨ws, h1, h2⟩ := pick_repA (RepAll.cons (rd.ext ex) ra) g
      exact ⟨ra.length.trans (hm _ _ _ _ e1), ws, h1, sp_in r h2 ((pick_len g).trans hi) p⟩
  refine PySem.W.callWith_KW0 (first := [.ref a]) (h₀ := X.base) I.ok.mod.kin G.me.kp hall (thn (hkw.run pos pins s1 σ H1 _ I1 z) fun ws s2 ⟨zs, H2, I2, rz, l2, es, h3, h4⟩ => ⟨I2.kIn, ?_⟩) hpl
  rw [hks]
  exact run_fnKS (E := WE W) (us := [.ref a]) (vs := [.ref a]) G.fn (hr.mono hk) hb (L2N.passAt tk σ) I2 (.cons rfl .nil) rz rfl (rz.length.symm.trans l2) h3 h4
end
/-! ### a new instance -/
def mMake (c : Nat) (F : Mi) (ms : MA) : ME := fun ρ S => (ms ρ S).bind fun ds S1 => (F (.obj S1.length :: ds) (S1 ++ [.ins c []])).bind fun d S2 => match d with
  | .non => .ok (.obj S1.length) S2
  | _ => .stuck
def mMakeK (c : Nat) (F : Mi) (is : List Nat) (mk : MA) : ME := fun ρ S => (mk ρ S).bind fun es S1 => match pick is (D.obj S1.length :: es) with
  | some zs => (F zs (S1 ++ [.ins c []])).bind fun d S2 => match d with
    | .non => .ok (.obj S1.length) S2
    | _ => .stuck
  | none => .stuck
/-- a class whose __init__ does what F does -/
structure DoesI (P : Program) (w : World) (K : PySem.W.Frag) (mg : Str → Option Value) (base : Heap) (U : Uv) (k c : Nat) (x : Str) (f : Addr) (fd : FuncData) (ps : List Str) (F : Mi) : Prop where
  fn : FnOk P w K mg base (L2N.CX P w) k f fd ps (spF U ps.length F)
  mke : Mk K (U.cl c) f
  mg_ : mg x = some (.ref (U.cl c))
  b : Binds K fd ps []
section
variable {X : Cx} {U : Uv} {W : WX} {k j c : Nat} {F : Mi} {x : Str} {e : Expr} {es : List Expr} {ms mk : MA} {pos p : Pos} {f C : Addr} {fd : FuncData} {ps ks : List Str}
theorem run_mk {pins : List (Addr × Obj)} {σ : L2.St} {H : Hp} {s : Shared} {Q : VK} {us : List Value} {kw : List (Str × Value)} {sp : Sp} {E : L2.St → XK} (Y : Mk X.K C f) (G : FnOk X.prog X.w X.K X.mg X.base (L2N.CX X.prog X.w) k f fd ps sp) (hr : Room (k + 1) X.A) (hx : PassesAt (L2N.CX X.prog X.w) X σ (E σ)) (I : Inv X pins σ H s)
    (h : ∀ a dx, H a = none → H dx = none → dx ≠ a → ∃ es ys, (∀ s' : Shared, X.K.In s'.heap → BindsTo s' fd ⟨.ref a :: us, kw⟩ (ps.zip ys)) ∧ Vals es ys ∧ sp es (upd (upd H dx (.own a)) a (.ins C dx [])) (fun v H2 => v = .non ∧ Q (.ref a) H2) (E σ)) :
    wpAny (model X.prog X.w) X.A (call (.ref C) us kw) (EP X pins σ Q) X.xe s := by
  obtain ⟨es, ys, hb, r2, hq⟩ := h (s.heap.objs.size + 1) s.heap.objs.size (I.hok.fresh (Nat.le_succ _)) (I.hok.fresh (Nat.le_refl _)) (Nat.ne_of_lt (Nat.lt_succ_self _))
  have J := Inv.made (C := C) I
  have g := G.run _ X.stack _ _ ⟨Value.ref (s.heap.objs.size + 1) :: us, kw⟩ ys es _ (E σ) (hr.make C us kw) (J.env0.make C us kw) (hb _ J.kIn) r2 hq
  refine wpAny_call (make_map (f := f) I.kIn Y.makes Y.init (beq_iff_eq.mp Y.fn) (codeAny_mono g fun r s' z => ?_))
  cases r with
  | error e => exact hx pins _ _ e s' J z
  | ok fl =>
    cases fl with
    | ret u =>
      obtain ⟨v, H', J', rv, ev, q3⟩ := J.after z
      subst ev
      exact ⟨rv, ⟨V.ref (s.heap.objs.size + 1), H', J', rfl, q3⟩⟩
    | next => exact z.elim
    | brk => exact z.elim
    | cont => exact z.elim
/-- the new instance stands in the store -/
theorem mk_in {M : Mp} {S : Sto} {H : Hp} {σ : L2.St} {Q : VK} {a dx : Addr} {es : List D} {np : Nat} {ws : List V} (r : R U M S H) (ha : H a = none) (hd : H dx = none) (hne : dx ≠ a)
    (hes : ∀ M' H', Ext M H M' H' → Rep U M' H' (.ref a) (.obj S.length) → RepAll U M' H' ws es) (hl : es.length = np)
    (q : PostX U (Rep U) M H σ W ((F es (S ++ [.ins c []])).bind fun d S2 => match d with
      | .non => .ok (.obj S.length) S2
      | _ => .stuck) Q) : spF U np F ws (upd (upd H dx (.own a)) a (.ins (U.cl c) dx [])) (fun v H2 => v = .non ∧ Q (.ref a) H2) (WE W σ) := by
  have hk : ∀ b u, H b = some u → (upd (upd H dx (.own a)) a (.ins (U.cl c) dx [])) b = some u := fun b u hb => by
    rw [upd_ne (ne_of_none hb ha), upd_ne (ne_of_none hb hd)]; exact hb
  have hO : ObAt U (M.push a) (upd (upd H dx (.own a)) a (.ins (U.cl c) dx [])) a (.ins c []) := ⟨dx, [], upd_same, .nil⟩
  have ex := r.extPush ha hk upd_same
  have r' := r.push ha hk hO
  have self : Rep U (M.push a) (upd (upd H dx (.own a)) a (.ins (U.cl c) dx [])) (.ref a) (.obj S.length) := by
    have z : Rep U (M.push a) (upd (upd H dx (.own a)) a (.ins (U.cl c) dx [])) (.ref ((M.push a).at_ M.n)) (.obj M.n) := .obj (Nat.lt_succ_self _)
    have e1 : (M.push a).at_ M.n = a := if_pos rfl
    rw [e1, r.n] at z
    exact z
  refine sp_in r' (hes _ _ ex self) hl ((PostX.ext ex q).bind fun d S2 M2 H2 b e2 r2 rb p => ?_)
  cases d with
  | non =>
    cases rb
    exact ⟨rfl, p M2 H2 _ r2.refl r2 (self.ext e2)⟩
  | _ => exact p.elim
theorem binds_at (hb : Binds X.K fd ps []) {us : List Value} (hl : us.length = ps.length) : ∀ s' : Shared, X.K.In s'.heap → BindsTo s' fd ⟨us, []⟩ (ps.zip us) := fun s' hK => by
  have b := hb s' us hK (by rw [List.append_nil]; exact hl)
  rw [List.append_nil] at b
  exact b
/-- C(e, ..) -/
theorem e_make (G : DoesI X.prog X.w X.K X.mg X.base U k c x f fd ps F) (tk : L2N.Takes X W) (hr : Room j X.A) (ha : PA X (e :: es) (tA U W ms)) (hn : ∀ ρ S ds S1, ms ρ S = .ok ds S1 → ds.length + 1 = ps.length) (hk : k + 1 ≤ j := by decide) (hg : Gl X x := by rfl) (hdb : (x == ("__debug__" : Str)) = false := by decide)
    (he : starEach (e :: es) X.env = (false, eval e X.env) :: starEach es X.env := by rfl) (hpl : (backTo pos (starEach es X.env)).any (·.1) = false := by rfl) : PE X (.Call (.Name x p) (e :: es) [] pos) (tE U W (mMake c F ms)) := by
  refine ⟨fun pins s σ H Q I ⟨M, S, ρ, A, q⟩ => ?_⟩
  refine wpAny_Call_Name_kw (ld_glob I hg G.mg_ ?_ hdb)
  have z := args_post (Q1 := fun vs H1 => vs.length + 1 = ps.length ∧ ∀ a dx, H1 a = none → H1 dx = none → dx ≠ a → spF U ps.length F (.ref a :: vs) (upd (upd H1 dx (.own a)) a (.ins (U.cl c) dx [])) (fun v H2 => v = .non ∧ Q (.ref a) H2) (WE W σ)) A q fun ds S1 M1 H1 vs e1 ex r ra p =>
    ⟨by rw [ra.length]; exact hn _ _ _ _ e1, fun a dx h1 h2 h3 => mk_in r h1 h2 h3 (fun M' H' e' s' => .cons s' (ra.ext e')) (hn _ _ _ _ e1) p⟩
  refine PySem.W.callWith_K (h₀ := X.base) I.ok.mod.kin G.mke.kp (thn (ha.run pos pins s σ H _ I z) fun us s1 ⟨vs, H1, I1, r, l, q1⟩ => ⟨I1.kIn, ?_⟩) he hpl
  refine run_mk (E := WE W) G.mke G.fn (hr.mono hk) (L2N.passAt tk σ) I1 fun a dx h1 h2 h3 => ⟨.ref a :: vs, .ref a :: us, binds_at G.b ?_, .cons rfl r, q1 a dx h1 h2 h3⟩
  exact (congrArg (· + 1) r.length.symm).trans l
/-- C() -/
theorem e_make0 (G : DoesI X.prog X.w X.K X.mg X.base U k c x f fd ps F) (tk : L2N.Takes X W) (hr : Room j X.A) (hk : k + 1 ≤ j := by decide) (hp : ps.length = 1 := by rfl) (hg : Gl X x := by rfl) (hdb : (x == ("__debug__" : Str)) = false := by decide) : PE X (.Call (.Name x p) [] [] pos) (tE U W (mMake c F aNil)) := by
  refine ⟨fun pins s σ H Q I ⟨M, S, ρ, A, q⟩ => ?_⟩
  refine wpAny_Call_Name_kw (ld_glob I hg G.mg_ ?_ hdb)
  refine PySem.W.callWith_K0 I.kIn G.mke.kp (run_mk (E := WE W) (us := []) G.mke G.fn (hr.mono hk) (L2N.passAt tk σ) I fun a dx h1 h2 h3 => ⟨[.ref a], [.ref a], binds_at G.b hp.symm, .cons rfl .nil, ?_⟩)
  exact mk_in A.r h1 h2 h3 (fun M' H' e' s' => .cons s' .nil) hp.symm q
/-- C(k = e, ..) -/
theorem e_makeK {kws : List Keyword} (is : List Nat) (G : DoesI X.prog X.w X.K X.mg X.base U k c x f fd ps F) (hb : KwB X.K fd ps ks 1 is) (tk : L2N.Takes X W) (hr : Room j X.A) (hkw : PK X kws (tA U W mk)) (hm : ∀ ρ S ds S1, mk ρ S = .ok ds S1 → ds.length = ks.length) (hk : k + 1 ≤ j := by decide)
    (hi : is.length = ps.length := by rfl) (hg : Gl X x := by rfl) (hall : (backToKw pos (keywordEach kws X.env)).all (·.1.isSome) = true := by rfl) (hks : (backToKw pos (keywordEach kws X.env)).filterMap (·.1) = ks := by rfl) (hdb : (x == ("__debug__" : Str)) = false := by decide)
    (hpl : ((backTo pos (starEach [] X.env)).any (·.1) || (backToKw pos (keywordEach kws X.env)).any (·.1.isNone)) = false := by rfl) : PE X (.Call (.Name x p) [] kws pos) (tE U W (mMakeK c F is mk)) := by
  refine ⟨fun pins s σ H Q I ⟨M, S, ρ, A, q⟩ => ?_⟩
  refine wpAny_Call_Name_kw (ld_glob I hg G.mg_ ?_ hdb)
  have z := args_post (Q1 := fun zs H1 => zs.length = ks.length ∧ ∀ a dx, H1 a = none → H1 dx = none → dx ≠ a → ∃ es, pick is ([V.ref a] ++ zs) = some es ∧ spF U ps.length F es (upd (upd H1 dx (.own a)) a (.ins (U.cl c) dx [])) (fun v H2 => v = .non ∧ Q (.ref a) H2) (WE W σ)) A q fun ds S1 M1 H1 vs e1 ex r ra p => by
    refine ⟨ra.length.trans (hm _ _ _ _ e1), fun a dx h1 h2 h3 => ?_⟩
    cases g : pick is (D.obj S1.length :: ds) with
    | none => rw [g] at p; exact p.elim
    | some ys =>
      rw [g] at p
      cases g2 : pick is (V.ref a :: vs) with
      | none =>
        have hk' : ∀ b u, H1 b = some u → (upd (upd H1 dx (.own a)) a (.ins (U.cl c) dx [])) b = some u := fun b u hb => by
          rw [upd_ne (ne_of_none hb h1), upd_ne (ne_of_none hb h2)]; exact hb
        have ex := r.extPush h1 hk' upd_same
        have z : Rep U (M1.push a) (upd (upd H1 dx (.own a)) a (.ins (U.cl c) dx [])) (.ref ((M1.push a).at_ M1.n)) (.obj M1.n) := .obj (Nat.lt_succ_self _)
        have e1 : (M1.push a).at_ M1.n = a := if_pos rfl
        rw [e1, r.n] at z
        obtain ⟨ws, h4, _⟩ := pick_repA (RepAll.cons z (ra.ext ex)) g
        rw [g2] at h4; cases h4
      | some ws =>
        refine ⟨ws, g2, mk_in r h1 h2 h3 (fun M' H' e' s' => ?_) ((pick_len g).trans hi) p⟩
        obtain ⟨ws', h4, h5⟩ := pick_repA (RepAll.cons s' (ra.ext e')) g
        rw [g2] at h4; cases h4
        exact h5
  refine PySem.W.callWith_KW0 (h₀ := X.base) I.ok.mod.kin G.mke.kp hall (thn (hkw.run pos pins s σ H _ I z) fun ws s1 ⟨zs, H1, I1, rz, l2, q1⟩ => ⟨I1.kIn, ?_⟩) hpl
  rw [hks]
  refine run_mk (E := WE W) (us := []) G.mke G.fn (hr.mono hk) (L2N.passAt tk σ) I1 fun a dx h1 h2 h3 => ?_
  obtain ⟨es, h4, h5⟩ := q1 a dx h1 h2 h3
  obtain ⟨ys, h6, h7⟩ := pick_rel ((show Vals [V.ref a] [Value.ref a] from .cons rfl .nil).append rz) h4
  exact ⟨es, ys, fun s' hK => hb s' [.ref a] ws ys hK rfl (rz.length.symm.trans l2) h6, h7, h5⟩
end
end DL
/-! DL17: o[i] by an own __getitem__; the same call within a built-in. -/
namespace DL
open PySem L2
section
variable {X : Cx} {U : Uv} {W : WX} {k j c : Nat} {F : Mi} {o i : Expr} {mo mi : ME} {pos : Pos} {f : Addr} {fd : FuncData} {ps : List Str}
/-- a def called from elsewhere in the same frame -/
theorem run_sub {A : Around} {pins : List (Addr × Obj)} {σ : L2.St} {H : Hp} {s : Shared} {Q : VK} {us : List Value} {vs : List V} {sp : Sp} {E : L2.St → XK} {XE : Value → Shared → Prop} (G : FnOk X.prog X.w X.K X.mg X.base (L2N.CX X.prog X.w) k f fd ps sp) (hr : Room k A) (hA : A.frames = X.A.frames) (hb : Binds X.K fd ps []) (hx : ∀ e s', L2N.CX X.prog X.w X.stack H s (E σ) e s' → XE e s')
    (I : Inv X pins σ H s) (r : Vals vs us) (h : sp vs H Q (E σ)) : wpAny (model X.prog X.w) A (call (.ref f) us) (EP X pins σ Q) XE s := by
  have e0 : Env0 X.prog X.w X.K X.mg X.base A X.stack s H := let e := I.env0
    ⟨hA.symm ▸ e.frames, e.mod, e.bs, e.bsz, e.funs, e.frf, e.hok, e.bare⟩
  have hl : us.length = ps.length := r.length.symm.trans (G.len _ _ _ _ h)
  refine wpAny_call (codeAny_mono (G.run A X.stack s H ⟨us, []⟩ us vs Q (E σ) hr e0 (binds_at hb hl s I.kIn) r h) fun z s' hq => ?_)
  cases z with
  | error e => exact hx e s' hq
  | ok fl =>
    cases fl with
    | ret u => exact I.after hq
    | next => exact hq.elim
    | brk => exact hq.elim
    | cont => exact hq.elim
def mSubI (c : Nat) (F : Mi) (mo mi : ME) : ME := fun ρ S => (mo ρ S).bind fun o S1 => (mi ρ S1).bind fun i S2 => match insG [c] S2 o with
  | some _ => F [o, i] S2
  | none => .stuck
theorem e_subI (G : DoesM X.prog X.w X.K X.mg X.base U k c "__getitem__" f fd ps F) (hfn : PySem.W.fnIn X.K f = true) (tk : L2N.Takes X W) (hr : Room j X.A) (ho : PE X o (tE U W mo)) (hi : PE X i (tE U W mi)) (hk : k + 1 ≤ j := by decide) (hp : ps.length = 2 := by rfl)
    (hsl : ∀ x v, subscripted i true (.ref x) v = runValue (.builtin "lifetime.subscript" ⟨[.ref x, v], []⟩) := by intro _ _; with_unfolding_all rfl) : PE X (.Subscript o i pos) (tE U W (mSubI c F mo mi)) := by
  refine ⟨fun pins s σ H Q I ⟨M, S, ρ, A, q⟩ => ?_⟩
  refine PyProof.Rows.Subscript_ (binT (R := fun x y H2 => ∃ a dx fv, x = .ref a ∧ H2 a = some (.ins (U.cl c) dx fv) ∧ spF U ps.length F [x, y] H2 Q (WE W σ)) ho hi I (tX.bind A q fun d S1 M1 H1 v e1 A1 rv q1 => tX.bind A1 q1 fun e S2 M2 H2 u e2 A2 ru q2 => ?_) fun v u s2 x y H2 I2 rx ry ⟨a, dx, fv, ex, ea, q2⟩ => ?_)
  · cases g : insG [c] S2 d with
    | none => rw [g] at q2; exact q2.elim
    | some z =>
      rw [g] at q2
      obtain ⟨rfl, hS, hm⟩ := insG_some g
      have rv2 := rv.ext e2
      obtain ⟨dx, fv, rfl, hi, hH, fr⟩ := rv2.objI A2.r hS
      have hc := List.mem_singleton.mp hm
      rw [hc] at hH
      exact ⟨_, dx, fv, rfl, hH, sp_in A2.r (.cons rv2 (.cons ru .nil)) hp.symm q2⟩
  · subst ex
    have ev : v = Value.ref a := rx; subst ev
    obtain ⟨mA, J, _⟩ := ins_get I2.hok ea
    obtain ⟨od, J, _⟩ := J.look
    obtain ⟨m, hF⟩ := I2.fr
    refine PySem.W.sub_K hF I2.ok.mod.kin J G.me.at_ hfn G.me.fn ?_ (hsl _ _)
    exact run_sub (E := WE W) (us := [.ref a, u]) (vs := [.ref a, y]) G.fn (hr.mono hk).in1 rfl G.b (fun e s' z => L2N.passAt tk σ pins H2 s2 e s' I2 z) I2 (.cons rfl (.cons ry .nil)) q2
end
end DL
/-! DL18: len(o) by an own __len__. -/
namespace DL
open PySem L2
section
variable {X : Cx} {U : Uv} {W : WX} {k j c : Nat} {F : Mi} {f : Addr} {fd : FuncData} {ps : List Str}
/-- the length that an own __len__ gives -/
def lenI (F : Mi) (d : D) (S : Sto) : Out D := (F [d] S).bind fun r S1 => match r with
  | .int n => if 0 ≤ n ∧ n < 2 ^ 63 then .ok (.int n) S1 else .stuck
  | _ => .stuck
def mLenI (c : Nat) (F : Mi) (ms : MA) : ME := fun ρ S => (ms ρ S).bind fun ds S1 => match ds with
  | [d] => match insG [c] S1 d with
    | some _ => lenI F d S1
    | none => .stuck
  | _ => .stuck
theorem run_lenI {pins : List (Addr × Obj)} {σ : L2.St} {H : Hp} {s : Shared} {Q : VK} {a dx : Addr} {fv : List (Str × V)} (G : DoesM X.prog X.w X.K X.mg X.base U k c "__len__" f fd ps F) (tk : L2N.Takes X W) (hr : Room (k + 1) X.A) (I : Inv X pins σ H s) (ea : H a = some (.ins (U.cl c) dx fv))
    (q : spF U ps.length F [.ref a] H (fun v H' => ∃ n : Int, v = .int n ∧ 0 ≤ n ∧ n < 2 ^ 63 ∧ Q (.int n) H') (WE W σ)) : wpAny (model X.prog X.w) X.A (call (.builtin "len") [.ref a]) (EP X pins σ Q) X.xe s := by
  refine Calls.call_function_entry kind_len plain_len entry_len (args_len1 (.ref a)) ?_
  obtain ⟨mA, J, _⟩ := ins_get I.hok ea
  obtain ⟨od, J, _⟩ := J.look
  unfold Builtin.«len»
  refine wpAny_bind (m := oneArg "len" _) <| wpAny_pure <| wpAny_bind (m := callSpecial? (.ref a) (Str.ofString "__len__")) (PySem.W.special_fn I.kIn J G.me.at_ (beq_iff_eq.mp G.me.fn) ?_)
  refine wpAny_mono (run_sub (E := WE W) (XE := X.xe) (us := [.ref a]) (vs := [.ref a]) G.fn (by first | exact hr.in1 | exact hr.mono (Nat.le_succ _)) rfl G.b (fun e s' z => L2N.passAt tk σ pins H s e s' I z) I (.cons rfl .nil) q) (fun u s1 z => ?_) fun _ _ e => e
  obtain ⟨v, H', I', rv, n, ev, h0, h1, q'⟩ := z
  subst ev
  obtain ⟨t, rfl⟩ := rv
  refine wpAny_bind (wpAny_holding <| wpAny_pure <| wpAny_bind <| wpAny_letGo ?_)
  have g0 : ¬ n < 0 := by omega
  have g1 : ¬ n ≥ 2 ^ 63 := by omega
  show wpAny _ _ (if n < 0 then _ else if n ≥ 2 ^ 63 then _ else _) _ _ _
  rw [if_neg g0, if_neg g1]
  exact wpAny_bind (wpAny_mkInt (wpAny_pure ⟨_, rfl, .int n, H', I'.tok _, ⟨_, rfl⟩, q'⟩))
theorem e_lenI {o : Expr} {ms : MA} {q pos : Pos} (G : DoesM X.prog X.w X.K X.mg X.base U k c "__len__" f fd ps F) (tk : L2N.Takes X W) (hr : Room j X.A) (ha : PA X [o] (tA U W ms)) (hm : X.mg "len" = none) (hk : k + 1 ≤ j := by decide) (hp : ps.length = 1 := by rfl) (hg : Gl X "len" := by rfl)
    (he : starEach [o] X.env = (false, eval o X.env) :: starEach [] X.env := by rfl) (hpl : (backTo pos (starEach [] X.env)).any (·.1) = false := by rfl) : PE X (.Call (.Name "len" q) [o] [] pos) (tE U W (mLenI c F ms)) := by
  refine ⟨fun pins s σ H Q I ⟨M, S, ρ, A, q⟩ => ?_⟩
  refine wpAny_Call_Name_kw (ld_blt I hg hm boot_len ?_ (by decide) (by decide))
  have z := args_post (Q1 := fun vs H1 => ∃ a dx fv, vs = [.ref a] ∧ H1 a = some (.ins (U.cl c) dx fv) ∧ spF U ps.length F [.ref a] H1 (fun v H' => ∃ n : Int, v = .int n ∧ 0 ≤ n ∧ n < 2 ^ 63 ∧ Q (.int n) H') (WE W σ)) A q fun ds S1 M1 H1 vs e1 ex r ra p => by
    cases ra with
    | nil => exact p.elim
    | @cons v vs d ds rd rs =>
      cases rs with
      | cons _ _ => exact p.elim
      | nil =>
        simp only at p
        cases g : insG [c] S1 d with
        | none => rw [g] at p; exact p.elim
        | some z =>
          rw [g] at p
          obtain ⟨rfl, hS, hm⟩ := insG_some g
          obtain ⟨dx, fv, rfl, hi, hH, fr⟩ := rd.objI r hS
          have hc := List.mem_singleton.mp hm
          rw [hc] at hH
          refine ⟨_, dx, fv, rfl, hH, sp_in r (.cons rd .nil) hp.symm ?_⟩
          have p' : PostX U (Rep U) M1 H1 σ W (lenI F (.obj z.1) S1) Q := p
          unfold lenI at p'
          refine p'.bind fun d' S2 M2 H2 b e2 r2 rb p2 => ?_
          cases d' with
          | int n =>
            cases rb
            simp only at p2
            by_cases hn : 0 ≤ n ∧ n < 2 ^ 63
            · rw [if_pos hn] at p2
              exact ⟨n, rfl, hn.1, hn.2, p2 M2 H2 _ r2.refl r2 (.int n)⟩
            · rw [if_neg hn] at p2; exact p2.elim
          | _ => exact p2.elim
  refine PyProof.Rows.callWith_builtin1 (thn (ha.run pos pins s σ H _ I z) fun us s1 ⟨vs, H1, I1, r1, a, dx, fv, ev, ea, q1⟩ => ?_) he hpl
  subst ev
  obtain ⟨u, rfl, rx⟩ := vals1 r1
  have eu : u = Value.ref a := rx; subst eu
  exact run_lenI G tk (hr.mono hk) I1 ea q1
end
end DL
/-! DL19: a == b where a may be an instance with an own __eq__. -/
namespace DL
open PySem L2
/-- the right side of an own ==: an instance of the same class, or a list of the store -/
def okR (c : Nat) (S : Sto) (y : D) : Bool := match y with
  | .obj i => match S[i]? with
    | some (.ins c' _) => c' == c
    | some (.lst _) => true
    | _ => false
  | .lst _ => true
  | _ => false
def mEqI (c : Nat) (F : Mi) (ma mb : ME) : ME := fun ρ S => (ma ρ S).bind fun x S1 => (mb ρ S1).bind fun y S2 => match insG [c] S2 x with
  | some _ => if okR c S2 y = true then (F [x, y] S2).bind fun r S3 => match r with
      | .bl z => .ok (.bl z) S3
      | _ => .stuck
    else .stuck
  | none => ofO (eqO S2 x y) S2
section
variable {X : Cx} {U : Uv} {W : WX} {k j c : Nat} {F : Mi} {f : Addr} {fd : FuncData} {ps : List Str} {a b : Expr} {ma mb : ME} {pos : Pos}
theorem okR_at {M : Mp} {S : Sto} {H : Hp} {v : V} {y : D} (h : okR c S y = true) (r : R U M S H) (rv : Rep U M H v y) : ∃ bb, v = .ref bb ∧ ((∃ dy gv, H bb = some (.ins (U.cl c) dy gv)) ∨ ∃ ys, H bb = some (.lst ys)) := by
  cases y with
  | obj i =>
    unfold okR at h
    simp only at h
    cases q : S[i]? with
    | none => rw [q] at h; cases h
    | some ob =>
      rw [q] at h
      cases ob with
      | dK _ => cases h
      | dN _ => cases h
      | dF _ => cases h
      | xc _ _ => cases h
      | lst xs =>
        obtain ⟨bb, ys, e, hH, _⟩ := rv.objL r q
        exact ⟨bb, e, .inr ⟨ys, hH⟩⟩
      | ins c' fs =>
        have ec : c' = c := beq_iff_eq.mp h
        subst ec
        obtain ⟨dy, gv, e, _, hH, _⟩ := rv.objI r q
        exact ⟨_, e, .inl ⟨dy, gv, hH⟩⟩
  | lst xs =>
    obtain ⟨bb, ys, e, hH, _⟩ := rv.lstV
    exact ⟨bb, e, .inr ⟨ys, hH⟩⟩
  | _ => cases h
theorem e_eqI (G : DoesM X.prog X.w X.K X.mg X.base U k c "__eq__" f fd ps F) (hnl : PySem.W.notFirst X.K (U.cl c) (.type "list") = true) (tk : L2N.Takes X W) (hr : Room j X.A) (ha : PE X a (tE U W ma)) (hb : PE X b (tE U W mb)) (hm : behindInMarks .Eq b = false := by first | exact nomark _ | rfl | with_unfolding_all rfl)
    (hk : k ≤ j := by decide) (hp : ps.length = 2 := by rfl) (hK : X.K = U.K := by rfl) : PE X (.Compare a [.Eq] [b] pos) (tE U W (mEqI c F ma mb)) := by
  refine pe_cmp (t := tE U W (mEqI c F ma mb)) ⟨fun pins s σ H Q I ⟨M, S, ρ, A, q⟩ => ?_⟩ hm
  obtain ⟨r, h1, h2⟩ := (o_eq (X := X) (U := U) hr hK).ex
  refine binT (f := compareOp .Eq) (R := fun x y H2 => (∃ ad dx fv bb, x = .ref ad ∧ H2 ad = some (.ins (U.cl c) dx fv) ∧ y = .ref bb ∧ ((∃ dy gv, H2 bb = some (.ins (U.cl c) dy gv)) ∨ ∃ ys, H2 bb = some (.lst ys)) ∧ spF U ps.length F [x, y] H2 (fun v H' => ∃ z, v = .bl z ∧ Q (.bl z) H') (WE W σ)) ∨ r x y H2 Q) ha hb I
    (tX.bind A q fun d S1 M1 H1 v e1 A1 rv q1 => tX.bind A1 q1 fun e S2 M2 H2 u e2 A2 ru q2 => ?_) fun v u s2 x y H2 I2 rx ry z => ?_
  · have rv2 := rv.ext e2
    cases g : insG [c] S2 d with
    | none =>
      rw [g] at q2
      obtain ⟨dd, ed, qd⟩ := ofO_post q2
      exact .inr (h2 M2 S2 H2 v u d e dd Q A2.r rv2 ru ed qd)
    | some z =>
      rw [g] at q2
      simp only at q2
      obtain ⟨rfl, hS, hm⟩ := insG_some g
      obtain ⟨dx, fv, rfl, hi, hH, fr⟩ := rv2.objI A2.r hS
      have hc := List.mem_singleton.mp hm
      rw [hc] at hH
      by_cases ok : okR c S2 e = true
      · rw [if_pos ok] at q2
        obtain ⟨bb, eb, hB⟩ := okR_at ok A2.r ru
        refine .inl ⟨_, dx, fv, bb, rfl, hH, eb, hB, sp_in A2.r (.cons rv2 (.cons ru .nil)) hp.symm (q2.bind fun d' S3 M3 H3 b3 e3 r3 rb p3 => ?_)⟩
        cases d' with
        | bl z =>
          cases rb
          exact ⟨z, rfl, p3 M3 H3 _ r3.refl r3 (.bl z)⟩
        | _ => exact p3.elim
      · rw [if_neg ok] at q2; exact q2.elim
  · rcases z with ⟨ad, dx, fv, bb, ex, ea, ey, eB, q2⟩ | z
    · subst ex; subst ey
      have ev : v = Value.ref ad := rx; subst ev
      have eu : u = Value.ref bb := ry; subst eu
      obtain ⟨mA, J, _⟩ := ins_get I2.hok ea
      obtain ⟨od, J, _⟩ := J.look
      obtain ⟨m, hF⟩ := I2.fr
      have hT : ∃ tb, PySem.W.Looks (model X.prog X.w) s2.heap (typeOf (.ref bb)) tb ∧ PySem.W.notFirst X.K (U.cl c) tb = true := by
        rcases eB with ⟨dy, gv, hB⟩ | ⟨ys, hB⟩
        · obtain ⟨mB, J', _⟩ := ins_get I2.hok hB
          obtain ⟨od', J2, _⟩ := J'.look
          exact ⟨_, J2.type, by simp [PySem.W.notFirst]⟩
        · obtain ⟨_, its, n, _, _, e⟩ := I2.lstM hB
          exact ⟨.type "list", (PySem.W.Looks.ld e).andThen .now, hnl⟩
      obtain ⟨tb, hT1, hT2⟩ := hT
      refine PySem.W.cmp_K (op := .Eq) hr.units0 hF I2.ok.mod.kin J hT1 hT2 G.me.at_ G.me.fn ?_
      refine wpAny_mono (run_sub (E := WE W) (XE := X.xe) (us := [.ref ad, .ref bb]) (vs := [.ref ad, .ref bb]) G.fn (hr.mono hk) rfl G.b (fun e s' z => L2N.passAt tk σ pins H2 s2 e s' I2 z) I2 (.cons rfl (.cons rfl .nil)) q2) (fun w s3 z => ?_) fun _ _ e => e
      obtain ⟨vv, H', I', rw', t, et, q'⟩ := z
      subst et
      have ew : w = Value.bool t := rw'; subst ew
      exact ⟨.bl t, H', I', rfl, q'⟩
    · exact h1 pins s2 σ H2 x y v u Q I2 rx ry z
end
end DL
/-! DL20: isinstance of data and instances, against built-in types and own classes. -/
namespace DL
open PySem L2
abbrev Ts := Sum Tc Nat
def valT (U : Uv) : Ts → Value
  | .inl t => .type t.nm
  | .inr c => .ref (U.cl c)
def subI : Ts → Ts → Bool
  | .inl a, .inl b => a.sub b
  | .inr c, .inr c' => c == c'
  | _, _ => false
/-- what the text must show of these classes -/
structure IsC (K : PySem.W.Frag) (U : Uv) (cs : List Nat) : Prop where
  cl : ∀ c ∈ cs, Cls K (U.cl c)
  ha : ∀ c ∈ cs, PySem.W.findIn K (.ref (U.cl c)) "__class__" = some (some (.builtin "object.__class__"))
  hw : PySem.W.specialIn K (.builtin "object.__class__") "__get__" = some (some (.builtin "getset_descriptor.__get__")) ∧ PySem.W.takesIn K (.builtin "object.__class__") = some true
  hm : ∀ c ∈ cs, PySem.W.mroIn K (U.cl c) (.type "object") = some true
  cc : ∀ c ∈ cs, ∀ c' ∈ cs, PySem.W.kitOne K (.ref (U.cl c)) (.ref (U.cl c')) = some (c == c')
  tc : ∀ c ∈ cs, ∀ t : Tc, PySem.W.kitOne K (.type t.nm) (.ref (U.cl c)) = some false
  ct : ∀ c ∈ cs, ∀ t : Tc, t.nm ≠ "NoneType" → PySem.W.kitOne K (.ref (U.cl c)) (.type t.nm) = some false
def tcI (cs : List Nat) (S : Sto) (d : D) : Option Ts := match insG cs S d with
  | some z => some (.inr z.2.1)
  | none => (tcD S d).map .inl
def clI (cs : List Nat) : D → Option Ts
  | .ty n => (tcOf n).map .inl
  | .cls c => if cs.contains c = true then some (.inr c) else none
  | _ => none
def anyI (cs : List Nat) (t : Ts) : List D → Option Bool
  | [] => some false
  | d :: r => match clI cs d with
    | some c => (anyI cs t r).map fun b => subI t c || b
    | none => none
def isiI (cs : List Nat) (S : Sto) (ds : List D) : Option D := match ds with
  | [x, .tup ks] => (tcI cs S x).bind fun t => (anyI cs t ks).map .bl
  | [x, c] => (tcI cs S x).bind fun t => (clI cs c).map fun k => .bl (subI t k)
  | _ => none
section
variable {X : Cx} {U : Uv} {M : Mp} {S : Sto} {H : Hp} {cs : List Nat}
/-- a type that stands for a value -/
def okT (cs : List Nat) : Ts → Prop
  | .inl _ => True
  | .inr c => c ∈ cs
theorem tcI_ok (F : IsC U.K U cs) {v : V} {d : D} {t : Ts} (r : R U M S H) (h : Rep U M H v d) (e : tcI cs S d = some t) : TyX U.K H v (valT U t) ∧ okT cs t := by
  unfold tcI at e
  cases g : insG cs S d with
  | some z =>
    rw [g] at e
    cases e
    obtain ⟨rfl, hS, hm⟩ := insG_some g
    obtain ⟨dx, fv, rfl, hi, hH, fr⟩ := h.objI r hS
    exact ⟨.base (.ins hH (F.cl _ hm) (F.ha _ hm) F.hw.1 F.hw.2 (F.hm _ hm)), hm⟩
  | none =>
    rw [g] at e
    cases qt : tcD S d with
    | none => rw [qt] at e; cases e
    | some t' => rw [qt] at e; cases e; exact ⟨h.tyx r qt, True.intro⟩
theorem clI_ok (F : IsC U.K U cs) {v : V} {d : D} {t k : Ts} (h : Rep U M H v d) (ht : okT cs t) (e : clI cs d = some k) : ClsV v (valT U k) ∧ PySem.W.kitOne U.K (valT U t) (valT U k) = some (subI t k) := by
  cases h with
  | ty n =>
    unfold clI at e
    simp only at e
    cases qt : tcOf n with
    | none => rw [qt] at e; cases e
    | some c =>
      rw [qt] at e
      cases e
      obtain ⟨e1, e2⟩ := tcOf_ok qt
      subst e1
      refine ⟨.ty _, ?_⟩
      cases t with
      | inl t => exact kit_ty (tc_ok t c e2)
      | inr c' => exact F.ct _ ht _ e2
  | cls c =>
    unfold clI at e
    simp only at e
    by_cases g : cs.contains c = true
    · rw [if_pos g] at e
      cases e
      have hc := List.contains_iff_mem.mp g
      refine ⟨.own _, ?_⟩
      cases t with
      | inl t => exact F.tc _ hc t
      | inr c' => exact F.cc _ ht _ hc
    · rw [if_neg g] at e; cases e
  | _ => cases e
theorem anyI_ok (F : IsC U.K U cs) {t : Ts} (ht : okT cs t) : ∀ {ds : List D} {vs : List V} {b : Bool}, RepAll U M H vs ds → anyI cs t ds = some b → ∃ us, Paired ClsV vs us ∧ PySem.W.kitAny U.K (valT U t) us = some b
  | _, _, _, .nil, e => by cases e; exact ⟨[], .nil, kitAny_nil⟩
  | d :: ds, _, b, .cons (v := v) (vs := vs) h r, e => by
    unfold anyI at e
    cases qt : clI cs d with
    | none => rw [qt] at e; cases e
    | some k =>
      rw [qt] at e
      simp only at e
      cases q2 : anyI cs t ds with
      | none => rw [q2] at e; cases e
      | some b2 =>
        rw [q2] at e
        cases e
        obtain ⟨h1, h2⟩ := clI_ok F h ht qt
        obtain ⟨us, p, hu⟩ := anyI_ok F ht r q2
        exact ⟨_ :: us, .cons h1 p, kitAny_cons h2 (fun z => by rw [z]; exact hu) fun z => by rw [z]; rfl⟩
theorem c_isiI (F : IsC U.K U cs) (hK : X.K = U.K := by rfl) : CallD U X (.builtin "isinstance") (isiI cs) := ofC _ (call_isi.or (call_isiT.or call_isiK)) fun M S H xs ds d Q r hx e g => by
  unfold isiI at e
  split at e
  · rename_i x ks
    cases q1 : tcI cs S x with
    | none => rw [q1] at e; cases e
    | some t =>
      rw [q1] at e
      have e' : (anyI cs t ks).map D.bl = some d := e
      cases q2 : anyI cs t ks with
      | none => rw [q2] at e'; cases e'
      | some b =>
        rw [q2] at e'
        cases e'
        obtain ⟨v, w, rfl, hv, hw⟩ := hx.two
        obtain ⟨ty, ht⟩ := tcI_ok F r hv q1
        rw [hK]
        cases hw with
        | tup hT ra =>
          obtain ⟨us, p, hu⟩ := anyI_ok F ht ra q2
          rcases hT with hT | ⟨⟨cls, dd, data, sl⟩, its, n, hl, hc, hd, _, hv2⟩
          · exact .inr (.inl ⟨v, _, _, _, us, b, rfl, hT.1, p, ty, hu, g.here r (.bl _)⟩)
          · have eu : its.toList = us := ClsV.all p hv2
            simp only at hc hd
            subst hc hd
            have ei : its = us.toArray := by rw [← eu]
            subst ei
            exact .inr (.inr ⟨v, _, _, us, n, sl, _, b, rfl, hl, ty, hu, g.here r (.bl _)⟩)
  · rename_i x c _
    cases q1 : tcI cs S x with
    | none => rw [q1] at e; cases e
    | some t =>
      rw [q1] at e
      have e' : (clI cs c).map (fun k => D.bl (subI t k)) = some d := e
      cases q2 : clI cs c with
      | none => rw [q2] at e'; cases e'
      | some k =>
        rw [q2] at e'
        cases e'
        obtain ⟨v, w, rfl, hv, hw⟩ := hx.two
        obtain ⟨ty, ht⟩ := tcI_ok F r hv q1
        obtain ⟨h1, h2⟩ := clI_ok F hw ht q2
        rw [hK]
        exact .inl ⟨v, _, _, _, _, rfl, h1, ty, h2, g.here r (.bl _)⟩
  · cases e
end
end DL
/-! DL21: n & 1. -/
namespace DL
open PySem L2
/-- n & 1 of a number that is not negative -/
def oddO (_ : Sto) (x y : D) : Option D := match x, y with
  | .int i, .int j => if 0 ≤ i ∧ j = 1 then some (.int (i % 2)) else none
  | _, _ => none
section
variable {X : Cx} {U : Uv}
theorem o_odd : OpD U X (binaryOp .BitAnd) oddO := ofR _ op_odd fun M S H x y dx dy d Q r hx hy e g => by
  unfold oddO at e
  split at e
  · rename_i i j
    by_cases hc : 0 ≤ i ∧ j = 1
    · rw [if_pos hc] at e
      cases e
      obtain ⟨h0, rfl⟩ := hc
      obtain ⟨n, rfl⟩ : ∃ n : Nat, i = (n : Int) := ⟨i.toNat, (Int.toNat_of_nonneg h0).symm⟩
      refine ⟨n, hx.intV, hy.intV, ?_⟩
      have en : ((n % 2 : Nat) : Int) = (n : Int) % 2 := by omega
      rw [en]
      exact g.here r (.int _)
    · rw [if_neg hc] at e; cases e
  · cases e
end
end DL
/-! DL22: a != b where a may be an instance with an own __eq__ and object's __ne__. -/
namespace DL
open PySem L2
theorem ne_slot : Slot "object" "__ne__" "object.__ne__" :=
  Slot.of (T := "object") (name := "__ne__") (owner := "object") (n := "__ne__") (by rw [typeLookup_type]; rw [builtinLookup_eq_fast]; kernel_rfl) (by decide +kernel) (by decide +kernel) (by decide +kernel) (.inl (by decide +kernel)) (by rw [isSubtype_type]; kernel_rfl)
section
variable {prog : Program} {w : World} {A : Around} {E : Value → Shared → Prop} {s : Shared} {K : PySem.W.Frag} {x C f : Addr} {ox : Obj} {od : Option Obj} {b tb : Value}
theorem rc_ne {Q : Value → Shared → Prop} (hu : A.units + 1 < cLine) (Y : K.In s.heap) (J : PySem.W.InstAt s.heap x ox C od) (hb : PySem.W.Looks (model prog w) s.heap (typeOf b) tb) (hn : PySem.W.notFirst K C tb = true)
    (hne : PySem.W.findIn K (.ref C) "__ne__" = some (some (.builtin "object.__ne__"))) (hob : PySem.W.mroIn K C (.type "object") = some true) (hs : PySem.W.findIn K (.ref C) "__eq__" = some (some (.ref f))) (hf : PySem.W.isFn K (.ref f) = true)
    (h : wpAny (model prog w) A.in1 (call (.ref f) [.ref x, b]) (fun v s' => ∃ z, v = .bool z ∧ Q (.bool (!z)) s') E s) : wpAny (model prog w) A (richCompare .NotEq (.ref x) b) Q E s := by
  have one : wpAny (model prog w) A (tryCompare (.ref x) "__ne__" b) (fun r s' => ∃ v, r = some v ∧ Q v s') E s := by
    unfold tryCompare
    have sp : PySem.W.Looks (model prog w) s.heap (specialOf (.ref x) "__ne__") (some (.builtin "object.__ne__")) := J.type.andThen (PySem.W.looks_findIn Y hne)
    have iv : PySem.W.Looks (model prog w) s.heap (isInstance (.ref x) (.type "object")) true := J.type.andThen (PySem.W.looks_mroIn Y hob)
    refine wpAny_bind (NtL.csib sp (ne_slot.bind (.ref x)) (wpAny_call (codeAny_call_builtin ne_slot.plain F.cmpEntry_ne (@PySem.W.check_slot (model prog w) _ _ _ "object.__ne__" "object" "__ne__" (.ref x) [b] [] _ F.cmpKind_ne F.cmpSplit_ne iv (F.cmpArgs_ne _ _) ?_))))
    unfold Builtin.«object.__ne__»; refine wpAny_bind (m := slotArgs "__ne__" 1 _) (wpAny_pure ?_)
    refine wpAny_bind <| wpAny_cRoomFor hu <| wpAny_bind (PySem.W.ifBound_K Y J hs hf (wpAny_mono h (fun v s' z => ?_) fun _ _ e => e))
    obtain ⟨z, rfl, q⟩ := z
    refine wpAny_bind (m := truthy (.bool z)) (wpAny_truthy_bool ?_)
    exact wpAny_pure (wpAny_pure ⟨_, rfl, q⟩)
  unfold richCompare
  simp only [oneThing_ref]
  refine wpAny_holding (wpAny_bind (wpAny_cRoomFor (Nat.lt_of_succ_lt hu) (wpAny_bind (J.type.here (wpAny_bind (hb.here ?_))))))
  split
  · rename_i q
    have e : PySem.W.subIn K tb (.ref C) = some false := by
      unfold PySem.W.notFirst at hn
      cases g : (tb == Value.ref C) with
      | true => rw [beq_iff_eq.mp g] at q; simp at q
      | false => rw [g, Bool.false_or] at hn; exact beq_iff_eq.mp hn
    refine wpAny_bind ((PySem.W.looks_subIn Y e).here ?_)
    simp only [Bool.false_eq_true, if_false]; exact wpAny_bind (wpAny_mono one (fun r s' ⟨v, er, hq⟩ => by subst er; exact wpAny_pure hq) fun _ _ e => e)
  · exact wpAny_bind (wpAny_pure (by simp only [Bool.false_eq_true, if_false]; exact wpAny_bind (wpAny_mono one (fun r s' ⟨v, er, hq⟩ => by subst er; exact wpAny_pure hq) fun _ _ e => e)))
end
def mNeI (c : Nat) (F : Mi) (ma mb : ME) : ME := fun ρ S => (ma ρ S).bind fun x S1 => (mb ρ S1).bind fun y S2 => match insG [c] S2 x with
  | some _ => if okR c S2 y = true then (F [x, y] S2).bind fun r S3 => match r with
      | .bl z => .ok (.bl (!z)) S3
      | _ => .stuck
    else .stuck
  | none => ofO (neO S2 x y) S2
section
variable {X : Cx} {U : Uv} {W : WX} {k j c : Nat} {F : Mi} {f : Addr} {fd : FuncData} {ps : List Str} {a b : Expr} {ma mb : ME} {pos : Pos}
theorem e_neI (G : DoesM X.prog X.w X.K X.mg X.base U k c "__eq__" f fd ps F) (hnl : PySem.W.notFirst X.K (U.cl c) (.type "list") = true) (hne : PySem.W.findIn X.K (.ref (U.cl c)) "__ne__" = some (some (.builtin "object.__ne__"))) (hob : PySem.W.mroIn X.K (U.cl c) (.type "object") = some true) (tk : L2N.Takes X W) (hr : Room j X.A) (ha : PE X a (tE U W ma)) (hb : PE X b (tE U W mb)) (hm : behindInMarks .NotEq b = false := by first | exact nomark _ | rfl | with_unfolding_all rfl)
    (hk : k + 1 ≤ j := by decide) (hp : ps.length = 2 := by rfl) (hK : X.K = U.K := by rfl) : PE X (.Compare a [.NotEq] [b] pos) (tE U W (mNeI c F ma mb)) := by
  refine pe_cmp (t := tE U W (mNeI c F ma mb)) ⟨fun pins s σ H Q I ⟨M, S, ρ, A, q⟩ => ?_⟩ hm
  obtain ⟨r, h1, h2⟩ := (o_ne (X := X) (U := U) hr hK).ex
  refine binT (f := compareOp .NotEq) (R := fun x y H2 => (∃ ad dx fv bb, x = .ref ad ∧ H2 ad = some (.ins (U.cl c) dx fv) ∧ y = .ref bb ∧ ((∃ dy gv, H2 bb = some (.ins (U.cl c) dy gv)) ∨ ∃ ys, H2 bb = some (.lst ys)) ∧ spF U ps.length F [x, y] H2 (fun v H' => ∃ z, v = .bl z ∧ Q (.bl (!z)) H') (WE W σ)) ∨ r x y H2 Q) ha hb I
    (tX.bind A q fun d S1 M1 H1 v e1 A1 rv q1 => tX.bind A1 q1 fun e S2 M2 H2 u e2 A2 ru q2 => ?_) fun v u s2 x y H2 I2 rx ry z => ?_
  · have rv2 := rv.ext e2
    cases g : insG [c] S2 d with
    | none =>
      rw [g] at q2
      obtain ⟨dd, ed, qd⟩ := ofO_post q2
      exact .inr (h2 M2 S2 H2 v u d e dd Q A2.r rv2 ru ed qd)
    | some z =>
      rw [g] at q2
      simp only at q2
      obtain ⟨rfl, hS, hm⟩ := insG_some g
      obtain ⟨dx, fv, rfl, hi, hH, fr⟩ := rv2.objI A2.r hS
      have hc := List.mem_singleton.mp hm
      rw [hc] at hH
      by_cases ok : okR c S2 e = true
      · rw [if_pos ok] at q2
        obtain ⟨bb, eb, hB⟩ := okR_at ok A2.r ru
        refine .inl ⟨_, dx, fv, bb, rfl, hH, eb, hB, sp_in A2.r (.cons rv2 (.cons ru .nil)) hp.symm (q2.bind fun d' S3 M3 H3 b3 e3 r3 rb p3 => ?_)⟩
        cases d' with
        | bl z =>
          cases rb
          exact ⟨z, rfl, p3 M3 H3 _ r3.refl r3 (.bl (!z))⟩
        | _ => exact p3.elim
      · rw [if_neg ok] at q2; exact q2.elim
  · rcases z with ⟨ad, dx, fv, bb, ex, ea, ey, eB, q2⟩ | z
    · subst ex; subst ey
      have ev : v = Value.ref ad := rx; subst ev
      have eu : u = Value.ref bb := ry; subst eu
      obtain ⟨mA, J, _⟩ := ins_get I2.hok ea
      obtain ⟨od, J, _⟩ := J.look
      have hT : ∃ tb, PySem.W.Looks (model X.prog X.w) s2.heap (typeOf (.ref bb)) tb ∧ PySem.W.notFirst X.K (U.cl c) tb = true := by
        rcases eB with ⟨dy, gv, hB⟩ | ⟨ys, hB⟩
        · obtain ⟨mB, J', _⟩ := ins_get I2.hok hB
          obtain ⟨od', J2, _⟩ := J'.look
          exact ⟨_, J2.type, by simp [PySem.W.notFirst]⟩
        · obtain ⟨_, its, n, _, _, e⟩ := I2.lstM hB
          exact ⟨.type "list", (PySem.W.Looks.ld e).andThen .now, hnl⟩
      obtain ⟨tb, hT1, hT2⟩ := hT
      refine rc_ne (by have := hr.units; omega) I2.kIn J hT1 hT2 hne hob G.me.at_ G.me.fn ?_
      refine wpAny_mono (run_sub (E := WE W) (XE := X.xe) (us := [.ref ad, .ref bb]) (vs := [.ref ad, .ref bb]) G.fn (hr.mono hk).in1 rfl G.b (fun e s' z => L2N.passAt tk σ pins H2 s2 e s' I2 z) I2 (.cons rfl (.cons rfl .nil)) q2) (fun w s3 z => ?_) fun _ _ e => e
      obtain ⟨vv, H', I', rw', t, et, q'⟩ := z
      subst et
      have ew : w = Value.bool t := rw'; subst ew
      exact ⟨t, rfl, .bl (!t), H', I', rfl, q'⟩
    · exact h1 pins s2 σ H2 x y v u Q I2 rx ry z
end
end DL
/-! DL23: a def's call at one state. -/
namespace DL
open PySem L2
section
variable {P : Program} {w : World} {K : PySem.W.Frag} {mg : Str → Option Value} {base : Heap} {CX : CXT} {k : Nat} {f : Addr} {name qual : Str} {params : Arguments} {body : List Stmt} {scope : Scope}
  {dV kV doc pm cdv ct oc : Value} {an od : Option Addr} {osl : Array (Option Value)} {N ps : List Str} {A : Around} {outer : List PySem.Env} {s : Shared} {H : Hp} {args : Args} {us : List Value} {vs : List V} {Q : VK} {E : XK} {t : TS}
/-- the body's reading is wanted at this state alone -/
theorem run_at (lk : K.lookup f = some ⟨oc, od, .func (PySem.W.fnOf name qual params body scope dV kV doc pm an cdv ct), osl⟩) (hcd : PySem.W.codeIn K cdv qual = true) (S : FnScope N ps scope) (hr : Room (k + 1) A) (e0 : Env0 P w K mg base A outer s H)
    (hb : BindsTo s (PySem.W.fnOf name qual params body scope dV kV doc pm an cdv ct) args (ps.zip us)) (r : Vals vs us) (hl : vs.length = ps.length) (ht : PSs (cxOf CX P w K mg base N qual scope f cdv A outer s H E) body t)
    (hq : t { nx := fun _ H' => Q .non H', rt := Q } (start N vs) H) : codeAny (model P w) A (.call (.ref f) args) (CR CX outer P w H s Q E) s := by
  have kept : ∀ b o, base.get? b = some o → s.heap.get? b = some o := fun b o e => (e0.bs b o e).1
  have where_ : ∀ y ∈ ps.zip us, scope.names.lookup y.1 = some .local ∨ (scope.names.lookup y.1 = some .cell ∧ ((cellsFrom (s.heap.objs.size + 1) scope.names []).lookup y.1).isSome = true) := by
    intro y hy
    cases S.par y.1 (List.of_mem_zip hy).1 with
    | inl q => exact .inl q
    | inr q => exact .inr ⟨q, PySem.W.cellsFrom_some _ _ _ (.inl q)⟩
  refine codeAny_call_function hr.depth ((e0.mod.kin.keeps kept) _ _ lk) rfl S.co S.gen rfl (PySem.W.codeRec_of (e0.mod.kin.keeps kept) hcd) (hb _ _ _ _ (wpAny_newFunctionEnv_cells S.kind where_ fun env he s1 x => ?_))
  subst he
  refine ⟨(e0.mod.nolimit.keeps kept).keeps x.toInCall.keep, codeAny_func (wpAny_mono (ht.run [] s1 (start N vs) H _ (inv_start S hr.hd e0 hl r x) hq) (fun fl s' hs => ?_) fun e s' hs => hs)⟩
  cases fl with
  | ret u => obtain ⟨v, σ', H', J, rv, q⟩ := hs; exact ⟨v, H', J.os, J.bare, J.base, J.hok, rv, q⟩
  | next => obtain ⟨σ', H', J, q⟩ := hs; exact ⟨.non, H', J.os, J.bare, J.base, J.hok, rfl, q⟩
  | brk => obtain ⟨_, _, _, q⟩ := hs; exact q.elim
  | cont => obtain ⟨_, _, _, q⟩ := hs; exact q.elim
end
end DL
/-! DL24: iter(tuple) as a value. -/
namespace DL
open PySem L2
def titObj (tp : Addr) : Obj := { cls := .type "tuple_iterator", data := .fields #[.ref tp, .int 0 0] }
/-- a tuple's iterator that has not begun -/
def TitO (tp it : Addr) : HO := .ext fun h => h.get? it = some (titObj tp)
section
variable {X : Cx}
theorem tit_ok {P : Program} {w : World} {H : Hp} {h : Heap} {it tp : Addr} (e : h.get? it = some (titObj tp)) : ObjOk P w H h it (TitO tp it) := ⟨e, ⟨_, e⟩, fun _ _ q k => k _ q⟩
theorem call_iterT : CallR X (.builtin "iter") (fun xs H Q => ∃ (tp : Addr) (zs : List V), xs = [.ref tp] ∧ SqT X.K H tp zs ∧ ∀ it, H it = Option.none → X.s_0.heap.objs.size ≤ it → Q (.ref it) (upd H it (TitO tp it))) := by
  rintro pins s σ H _ us Q I r ⟨tp, zs, rfl, hq, q⟩
  obtain ⟨u, rfl, hu⟩ := vals1 r; have eu : u = Value.ref tp := hu; subst eu
  obtain ⟨its, rv, pl, hz⟩ := I.tuple hq
  refine Calls.call_function_entry (by decide +kernel) (by decide +kernel) PySem.W.kdk_entry_iter (PySem.W.kdk_args_iter (.ref tp)) ?_
  unfold Builtin.«iter»; refine wpAny_bind (m := someArgs "iter" 1 2 _) (wpAny_of_eq (a := [Value.ref tp]) (by first | rfl | kernel_rfl!) ?_)
  show wpAny _ _ (pyIter (.ref tp) >>= _) _ _ _
  refine wpAny_bind (wpAny_pyIter_tuple (show s.heap.IsTuple tp its.toArray from pl) (wpAny_pure ⟨_, rfl, .ref s.heap.objs.size, _, I.laid (t' := s.toks) (fun b u e => Heap.get?_push_of_some _ e) (Nat.le_refl _) (tit_ok (tp := tp) (Heap.get?_push_size _ rfl)), rfl, q _ (I.hok.fresh (Nat.le_refl _)) I.sz⟩))
end
end DL
/-! DL25: pyIter of an instance whose own __iter__ gives a tuple's iterator. -/
namespace DL
open PySem L2
section
variable {prog : Program} {w : World} {A : Around} {E : Value → Shared → Prop} {s : Shared} {K : PySem.W.Frag} {a C f : Addr} {ox : Obj} {od : Option Obj}
theorem pyIter_inst {Q : Value → Shared → Prop} (Y : K.In s.heap) (J : PySem.W.InstAt s.heap a ox C od) (hs : PySem.W.findIn K (.ref C) "__iter__" = some (some (.ref f))) (hf : PySem.W.isFn K (.ref f) = true)
    (h : wpAny (model prog w) A (call (.ref f) [.ref a]) (fun v s' => ∃ it tp, v = .ref it ∧ s'.heap.get? it = some (titObj tp) ∧ Q v s') E s) : wpAny (model prog w) A (pyIter (.ref a)) Q E s := by
  have sp : PySem.W.Looks (model prog w) s.heap (specialOf (.ref a) "__iter__") (some (.ref f)) := J.type.andThen (PySem.W.looks_findIn Y hs)
  have bd := PySem.W.bind_fn (M := model prog w) Y (.ref a) (beq_iff_eq.mp hf)
  unfold pyIter; refine wpAny_bind (sp.here ?_)
  show wpAny _ _ (callSpecialIfBoundUnlessNone? (.ref a) "__iter__" _ >>= _) _ _ s
  have last : wpAny (model prog w) A (call (.ref f) ([.ref a] ++ []) >>= fun v => pure (some v)) (fun r s' => ∃ it tp, r = some (.ref it) ∧ s'.heap.get? it = some (titObj tp) ∧ Q (.ref it) s') E s :=
    wpAny_bind (wpAny_mono h (fun v s' ⟨it, tp, ev, g, q⟩ => by subst ev; exact wpAny_pure ⟨it, tp, rfl, g, q⟩) fun _ _ e => e)
  refine wpAny_bind (wpAny_mono (Q := fun r s' => ∃ it tp, r = some (.ref it) ∧ s'.heap.get? it = some (titObj tp) ∧ Q (.ref it) s') ?_ (fun r s' ⟨it, tp, er, g, q⟩ => ?_) fun _ _ e => e)
  · simp only [callSpecialIfBoundUnlessNone?, bindSpecialIfBound?]
    refine wpAny_holding (wpAny_bind (wpAny_bind (sp.here (wpAny_bind (wpAny_askSetting (wpAny_ite ?_))))))
    split
    · exact wpAny_bind (bd.here (wpAny_pure (by exact last)))
    · exact wpAny_tryCatch (wpAny_bind (bd.here (wpAny_pure (by exact last))))
  · subst er
    have hT : Shared.TypeIs s' (.ref it) "tuple_iterator" := ⟨_, g, rfl⟩
    exact wpAny_bind (wpAny_specialOf hT F.slot_tuple_iterator_next.lookup (wpAny_pure q))
end
end DL
/-! DL26: a walk over an instance whose own __iter__ is `return iter(self.fld)`, fld a tuple. -/
namespace DL
open PySem L2
/-- what the body of such an __iter__ asks -/
def tItR (K : PySem.W.Frag) (n : Nat) (fld : Str) : TS := fun Dn σ H => ∃ (a C dx tp : Addr) (fv : List (Str × V)) (zs : List V), σ[0]? = some (some (.ref a)) ∧ H a = some (.ins C dx fv) ∧ Cls K C ∧ NoAttr K C fld ∧ fv.lookup fld = some (.ref tp) ∧ SqT K H tp zs ∧
  ∀ it, H it = none → n ≤ it → Dn.rt (.ref it) (upd H it (TitO tp it))
section
variable {X : Cx} {fld : Str} {p1 p2 p3 p4 p5 : Pos}
theorem s_itR (hm : X.mg "iter" = none) (hN : X.N[0]? = some (Str.ofString "self") := by rfl) (hg : Gl X "iter" := by rfl) (hv : Vis X.env.scope "self" := by first | exact Or.inl rfl | exact Or.inr (Or.inl rfl) | exact Or.inr (Or.inr rfl))
    (hb : attributeBase (.Name "self" p2) fld X.env (eval (.Name "self" p2) X.env) = eval (.Name "self" p2) X.env := by rfl)
    (he : starEach [.Attribute (.Name "self" p2) fld p3] X.env = (false, eval (.Attribute (.Name "self" p2) fld p3) X.env) :: starEach [] X.env := by rfl) (hpl : (backTo p4 (starEach [] X.env)).any (·.1) = false := by rfl) :
    PS X (.Return (some (.Call (.Name "iter" p1) [.Attribute (.Name "self" p2) fld p3] [] p4)) p5) (tItR X.K X.s_0.heap.objs.size fld) :=
  ps_imp (ps_ret (pe_callB call_iterT hg hm (by rfl) (pa_cons (pe_fld (pe_var hN hv) hb) pa_nil he) (by decide) (by decide) he hpl)) fun Dn σ H ⟨a, C, dx, tp, fv, zs, h1, h2, h3, h4, h5, h6, q⟩ =>
    ⟨_, h1, a, C, dx, fv, _, rfl, h2, h3, h4, h5, tp, zs, rfl, h6, q⟩
end
/-- a class whose __iter__ gives its tuple's iterator -/
structure DoesIt (P : Program) (w : World) (K : PySem.W.Frag) (mg : Str → Option Value) (base : Heap) (U : Uv) (c : Nat) (fld : Str) (f : Addr) : Prop where
  cl : Cls K (U.cl c)
  me : Meth K (U.cl c) "__iter__" f
  run : ∀ (A : Around) (outer : List PySem.Env) (s : Shared) (H : Hp) (a dx tp : Addr) (fv : List (Str × V)) (zs : List V), Room 1 A → Env0 P w K mg base A outer s H → H a = some (.ins (U.cl c) dx fv) → fv.lookup fld = some (.ref tp) → SqT K H tp zs →
    codeAny (model P w) A (.call (.ref f) ⟨[.ref a], []⟩) (CR (L2N.CX P w) outer P w H s (fun v H' => ∃ it, v = .ref it ∧ H it = none ∧ s.heap.objs.size ≤ it ∧ H' = upd H it (TitO tp it)) (fun _ _ _ => False)) s
theorem doesIt_of {P : Program} {w : World} {K : PySem.W.Frag} {mg : Str → Option Value} {base : Heap} {U : Uv} {c : Nat} {fld qual : Str} {st : Stmt} {f : Addr} {fd : FuncData} (F : L2.Fun K "__iter__" qual st f fd) (S : FnScope ["self"] ["self"] (defScope st)) (hb : Binds K fd ["self"] [])
    (cl : Cls K (U.cl c)) (me : Meth K (U.cl c) "__iter__" f) (na : NoAttr K (U.cl c) fld)
    (body : ∀ (cdv : Value) (A : Around) (outer : List PySem.Env) (s : Shared) (H : Hp) (E : XK), PSs (cxOf (L2N.CX P w) P w K mg base ["self"] qual (defScope st) f cdv A outer s H E) (defBody st) (tItR K s.heap.objs.size fld)) : DoesIt P w K mg base U c fld f := by
  refine ⟨cl, me, fun A outer s H a dx tp fv zs hr e0 ha hl hs => ?_⟩
  obtain ⟨oc, od, kV, doc, pm, an, cdv, ct, osl, rfl, lk, hcd⟩ := F.ex
  have bt := hb s [Value.ref a] (e0.mod.kin.keeps fun b o e => (e0.bs b o e).1) rfl
  rw [List.append_nil] at bt
  refine run_at (us := [.ref a]) (vs := [.ref a]) lk hcd S hr e0 bt (.cons rfl .nil) rfl (body cdv A outer s H _) ?_
  exact ⟨a, U.cl c, dx, tp, fv, zs, rfl, ha, cl, na, hl, hs, fun it h1 h2 => ⟨it, rfl, h1, h2, rfl⟩⟩
/-- the source -/
def iOwn (c : Nat) (fld : Str) (m : ME) : MI := fun ρ S => (m ρ S).bind fun d S1 => match insG [c] S1 d with
  | some z => match z.2.2.lookup fld with
    | some (.tup ds) => .ok ds S1
    | _ => .stuck
  | none => .stuck
section
variable {X : Cx} {U : Uv} {W : WX} {tg e : Expr} {m : ME} {c j : Nat} {fld : Str} {f : Addr}
theorem i_own (G : DoesIt X.prog X.w X.K X.mg X.base U c fld f) (hr : Room j X.A) (he : PE X e (tE U W m)) (hk : 1 ≤ j := by decide) (hK : X.K = U.K := by rfl) : PI X tg e (tI U W (iOwn c fld m)) := by
  refine ⟨fun pins s σ H R I ⟨M, S, ρ, A, p⟩ => ?_⟩
  have z : tE U W m σ H fun x H1 => ∃ a dx tp fv zs, x = .ref a ∧ H1 a = some (.ins (U.cl c) dx fv) ∧ fv.lookup fld = some (.ref tp) ∧ SqT X.K H1 tp zs ∧ R (Itt X.K tp) H1 := tX.bind A p fun d S1 M1 H1 v e1 A1 rv p1 => by
    cases g1 : insG [c] S1 d with
    | none => rw [g1] at p1; exact p1.elim
    | some z =>
      rw [g1] at p1
      obtain ⟨rfl, hS, hm⟩ := insG_some g1
      obtain ⟨dx, fv, rfl, hi, hH, fr⟩ := rv.objI A1.r hS
      have hc := List.mem_singleton.mp hm
      rw [hc] at hH
      simp only at p1
      cases g2 : z.2.2.lookup fld with
      | none => rw [g2] at p1; exact p1.elim
      | some x =>
        rw [g2] at p1
        obtain ⟨w, hl, rw'⟩ := fr.look g2
        cases x with
        | tup ds =>
          obtain ⟨tp, xs, rfl, ht, ra⟩ := rw'.tupV
          rw [hK]
          exact ⟨_, dx, tp, fv, xs, rfl, hH, hl, ht.sq, p1 M1 H1 _ A1.refl A1.r (yields_tup ht ra)⟩
        | _ => exact p1.elim
  refine thn (he.run pins s σ H _ I z) fun v s1 ⟨x, H1, I1, r1, a, dx, tp, fv, zs, ex, ea, el, hs, q⟩ => ?_
  subst ex
  have ev : v = Value.ref a := r1; subst ev
  obtain ⟨mA, J, _⟩ := ins_get I1.hok ea
  obtain ⟨od, J, _⟩ := J.look
  refine pyIter_inst I1.kIn J G.me.at_ G.me.fn ?_
  refine wpAny_call (codeAny_mono (G.run X.A X.stack s1 H1 a dx tp fv zs (hr.mono hk) I1.env0 ea el hs) fun r s' hq => ?_)
  cases r with
  | error e =>
    obtain ⟨_, _, _, _, _, _, _, _, _, _, _, _, z⟩ := hq
    exact z.elim
  | ok fl =>
    cases fl with
    | ret u =>
      obtain ⟨v', H', I', rv, it, ev, hn, hle, eH⟩ := I1.after hq
      subst ev
      have eu : u = Value.ref it := rv; subst eu
      have hi : H' it = some (TitO tp it) := by rw [eH, upd_same]
      have hg : s'.heap.get? it = some (titObj tp) := (show ObjOk X.prog X.w H' s'.heap it (TitO tp it) from I'.hok it _ hi).1
      refine ⟨it, tp, rfl, hg, it, [it], _, Itt X.K tp, ItX.dropH H' it, rfl, ItX.inv_drop I' hi, turn_tuple tp it, ⟨_, hg, rfl, rfl⟩, fun b hb => ?_, ?_⟩
      · have e : b = it := by simpa using hb
        subst e
        exact ItX.inv_fp I' hi (Nat.le_trans I1.sz hle)
      · rw [eH, ItX.dropH_upd hn]; exact q
    | next => exact hq.elim
    | brk => exact hq.elim
    | cont => exact hq.elim
end
end DL
/-! DL27: comprehensions and list(..) whose list the store holds; a list made and at once appended to. -/
namespace DL
open PySem L2
def mLcO (src : MI) (b : Bd) (t : MT) (m : ME) (vs : List Nat) : ME := fun ρ S => (mLcL src b t m vs ρ S).bind finO
section
variable {U : Uv} {M1 Mq : Mp} {S' : Sto} {H1 H3 : Hp} {σ : L2.St} {W : WX} {D : Addr} {acc : List V} {accD : List DL.D} {Q : VK}
/-- a private list becomes the store's -/
theorem pubPriv (f : Ext M1 H1 Mq H3) (R3 : R U (Mq.priv D) S' H3) (hHD : H3 D = some (.lst acc)) (ra : RepAll U (Mq.priv D) H3 acc accD) (hD : H1 D = none) (hnh : ¬ Mq.has D) (g : PostX U (Rep U) M1 H1 σ W (.ok (.obj S'.length) (S' ++ [.lst accD])) Q) : Q (.ref D) H3 := by
  have hn : Mq.n = S'.length := R3.n
  have at_n : (Mq.push D).at_ Mq.n = D := if_pos rfl
  have at_o : ∀ {i}, i < Mq.n → (Mq.push D).at_ i = Mq.at_ i := fun {i} hi => if_neg (Nat.ne_of_lt hi)
  have obs : ∀ {a}, (Mq.push D).ob a → Mq.ob a ∨ a = D := fun {a} ⟨i, hi, e⟩ => by
    by_cases z : i = Mq.n
    · subst z; rw [at_n] at e; exact .inr e.symm
    · have hi' : i < Mq.n := Nat.lt_of_le_of_ne (Nat.le_of_lt_succ hi) z
      rw [at_o hi'] at e; exact .inl ⟨i, hi', e⟩
  have mv : Mv (Mq.priv D) H3 (Mq.push D) H3 := ⟨Nat.le_succ _, fun i hi => at_o hi, fun a o h n => ⟨h, fun z => n (priv_has.mpr (z.elim (fun z => (obs z).elim .inl fun z => .inr (.inl z)) fun z => .inr (.inr z)))⟩, fun _ _ _ h => h⟩
  have nob : ∀ {i}, i < Mq.n → Mq.at_ i ≠ D := fun {i} hi z => hnh (.inl ⟨i, hi, z⟩)
  have ex : Ext M1 H1 (Mq.push D) H3 := ⟨Nat.le_succ_of_le f.le, fun i hi => (at_o (Nat.lt_of_lt_of_le hi f.le)).trans (f.same i hi), fun i h1 h2 => by
      by_cases z : i = Mq.n
      · subst z; rw [at_n]; exact hD
      · have hi' : i < Mq.n := Nat.lt_of_le_of_ne (Nat.le_of_lt_succ h2) z
        rw [at_o hi']; exact f.fresh i h1 hi', f.keep, fun i hi => by
      by_cases z : i = Mq.n
      · subst z; rw [at_n]; exact ⟨_, hHD⟩
      · have hi' : i < Mq.n := Nat.lt_of_le_of_ne (Nat.le_of_lt_succ hi) z
        rw [at_o hi']; exact f.live i hi', f.pr, f.frz⟩
  have r : R U (Mq.push D) (S' ++ [.lst accD]) H3 := by
    refine ⟨by show Mq.n + 1 = _; rw [List.length_append, hn]; rfl, fun i j hi hj he => ?_, fun i o ho => ?_, fun a ha => R3.prl a (List.mem_cons_of_mem _ ha), fun a ha z => ?_⟩
    · by_cases zi : i = Mq.n <;> by_cases zj : j = Mq.n
      · rw [zi, zj]
      · have hj' : j < Mq.n := Nat.lt_of_le_of_ne (Nat.le_of_lt_succ hj) zj
        subst zi; rw [at_n, at_o hj'] at he; exact absurd he.symm (nob hj')
      · have hi' : i < Mq.n := Nat.lt_of_le_of_ne (Nat.le_of_lt_succ hi) zi
        subst zj; rw [at_n, at_o hi'] at he; exact absurd he (nob hi')
      · have hi' : i < Mq.n := Nat.lt_of_le_of_ne (Nat.le_of_lt_succ hi) zi
        have hj' : j < Mq.n := Nat.lt_of_le_of_ne (Nat.le_of_lt_succ hj) zj
        rw [at_o hi', at_o hj'] at he; exact R3.inj i j hi' hj' he
    · by_cases hi : i < S'.length
      · rw [List.getElem?_append_left hi] at ho
        rw [at_o (by rw [hn]; exact hi)]
        exact ObAt.mv mv (fun u hu => hu) (R3.at_ i o ho)
      · have hi' : S'.length ≤ i := Nat.le_of_not_lt hi
        rw [List.getElem?_append_right hi'] at ho
        have e0 : i - S'.length = 0 := by
          cases q : i - S'.length with
          | zero => rfl
          | succ k => rw [q] at ho; simp at ho
        rw [e0] at ho
        have eo : Ob.lst accD = o := Option.some.inj ho
        subst eo
        have ei : i = Mq.n := by omega
        subst ei
        rw [at_n]
        exact ⟨acc, hHD, ra.mv mv⟩
    · rcases obs z with z | z
      · exact R3.prn a (List.mem_cons_of_mem _ ha) z
      · subst z; exact hnh (.inr ha)
  refine g (Mq.push D) H3 _ ex r ?_
  have z : Rep U (Mq.push D) H3 (.ref ((Mq.push D).at_ S'.length)) (.obj S'.length) := .obj (by show _ < Mq.n + 1; rw [hn]; exact Nat.lt_succ_self _)
  rw [← hn, at_n] at z
  rw [hn] at z
  exact z
end
section
variable {X : Cx} {U : Uv} {W : WX} {src : MI} {bd : Bd} {mt : MT} {me : ME} {vs l : List Nat}
theorem lc_postO (hl : ∀ i ∈ l, i ∈ vs) (hn : ∀ i ∈ vs, Nf U i) {σ : L2.St} {H : Hp} {Q : VK} (h : tE U W (mLcO src bd mt me vs) σ H Q) : tLc (tI U W src) (tG U l bd) (tT U W0 mt) (tE U W0 me) vs σ H Q := by
  obtain ⟨M, S, ρ, A, p⟩ := h
  have p' : PostX U (Rep U) M H σ W ((src ρ S).bind fun ds S1 => (lcL bd mt me (wipeE ρ vs) ds [] S1).bind finO) Q := by
    unfold mLcO mLcL at p
    cases q : src ρ S with
    | ok a S1 => rw [q] at p; exact p
    | exc x S1 => rw [q] at p; exact p
    | stuck => rw [q] at p; exact p
  refine tX.bind A p' fun ds S1 M1 H1 J e1 A1 y p1 => fun D hD => ?_
  refine ⟨fun k m H => m = ds.length - k ∧ k ≤ ds.length ∧ ∃ Mq S' acc accD, Ext M1 H1 Mq H ∧ R U (Mq.priv D) S' H ∧ H D = some (.lst acc) ∧ RepAll U (Mq.priv D) H acc accD ∧ SlotRep U (Mq.priv D) H (wipe σ vs) (wipeE ρ vs) ∧
      PostX U (Rep U) M1 H1 σ W ((lcL bd mt me (wipeE ρ vs) (ds.drop k) accD S').bind finO) Q,
    ⟨_, rfl, Nat.zero_le _, M1, S1, [], [], A1.r.extNew hD, A1.r.priv hD, upd_same, .nil, fun i d h => ?_, p1⟩, fun k m H3 ⟨em, hk, Mq, S', acc, accD, f, R3, hHD, ra, sl, p3⟩ => ?_⟩
  · obtain ⟨v, h1, h2⟩ := (A1.wipe vs hn).sl i d h
    exact ⟨v, h1, h2.mv (Mv.priv hD)⟩
  have hnob : ∀ {M' : Mp} {S' : Sto} {H' : Hp}, R U (M'.priv D) S' H' → ¬ M'.ob D := fun r => r.prn D List.mem_cons_self
  by_cases hlt : k < ds.length
  · have hd : ds.drop k = ds[k] :: ds.drop (k + 1) := List.drop_eq_getElem_cons hlt
    rw [hd] at p3
    have mv3 : Mv M1 H1 (Mq.priv D) H3 := mvPriv f hD
    refine .inr ⟨y.go _ S' H3 k mv3 R3 hlt, fun H4 => ds.length - (k + 1) < m ∧ k + 1 ≤ ds.length ∧ ∃ Mq S' acc accD, Ext M1 H1 Mq H4 ∧ R U (Mq.priv D) S' H4 ∧ H4 D = some (.lst acc) ∧ RepAll U (Mq.priv D) H4 acc accD ∧ SlotRep U (Mq.priv D) H4 (wipe σ vs) (wipeE ρ vs) ∧
      PostX U (Rep U) M1 H1 σ W ((lcL bd mt me (wipeE ρ vs) (ds.drop (k + 1)) accD S').bind finO) Q,
      fun H4 ⟨h1, h2, h3⟩ => ⟨_, h1, rfl, h2, h3⟩, fun x H4 hy => ?_⟩
    have hm : ds.length - (k + 1) < m := by omega
    obtain ⟨d, hd2, g, R4, rd⟩ := y.yld _ S' H3 k x H4 mv3 R3 hlt hy
    have ed : ds[k] = d := by
      rw [List.getElem?_eq_getElem hlt] at hd2
      exact Option.some.inj hd2
    rw [ed] at p3
    obtain ⟨Mx, ex, g'⟩ := g.unpriv
    have eMx : Mx = Mq := by
      obtain ⟨a1, n1, q1⟩ := Mx
      obtain ⟨a2, n2, q2⟩ := Mq
      unfold Mp.priv at ex
      injection ex with e1 e2 e3
      injection e3 with _ e3
      subst e1 e2 e3; rfl
    subst eMx
    have A4 : At U (Mx.priv D) S' (wipeE ρ vs) (wipe σ vs) H4 := ⟨R4, sl.ext g, (A1.wipe vs hn).len, (A1.wipe vs hn).fx⟩
    cases q : bd d (wipeE ρ vs) with
    | none =>
      simp only [lcL, q] at p3
      exact p3.elim
    | some ρ1 =>
      simp only [lcL, q] at p3
      refine ⟨Mx.priv D, S', wipeE ρ vs, d, ρ1, A4, rd, q, fun σ5 A5 b5 => ⟨wipe_but b5 hl, ?_⟩⟩
      refine ⟨Mx.priv D, S', ρ1, A5, ?_⟩
      cases q2 : mt ρ1 S' with
      | exc e S6 => rw [q2] at p3; exact p3.elim
      | stuck => rw [q2] at p3; exact p3.elim
      | ok kk S6 =>
        rw [q2] at p3
        intro M6 H6 b e6 R6 eb
        have eb' : b = kk := eb
        subst eb'
        obtain ⟨Mq6, em6, f6⟩ := e6.unpriv
        subst em6
        have f16 := (f.trans g').trans f6
        have e36 := g.trans e6
        have hD6 : H6 D = some (.lst acc) := e36.keep _ _ hHD (R3.prn D List.mem_cons_self)
        have p6 := p3
        cases b with
        | false =>
          rw [if_neg (by decide)]
          exact ⟨hm, hlt, Mq6, S6, acc, accD, f16, R6, hD6, ra.ext e36, sl.ext e36, p6⟩
        | true =>
          rw [if_pos rfl]
          refine ⟨Mq6.priv D, S6, ρ1, A5.ext e6 R6, ?_⟩
          change PostX U (Rep U) M1 H1 σ W (((me ρ1 S6).bindN fun x S2 => if accD.length < lim then lcL bd mt me (wipeE ρ vs) (ds.drop (k + 1)) (accD ++ [x]) S2 else .stuck).bind finO) Q at p6
          cases q7 : me ρ1 S6 with
          | exc e S7 => rw [q7] at p6; exact p6.elim
          | stuck => rw [q7] at p6; exact p6.elim
          | ok z S7 =>
            rw [q7] at p6
            intro M7 H7 v7 e7 R7 r7
            obtain ⟨Mq7, em7, f7⟩ := e7.unpriv
            subst em7
            have hD7 : H7 D = some (.lst acc) := e7.keep _ _ hD6 (R6.prn D List.mem_cons_self)
            have e37 := e36.trans e7
            by_cases hlim : accD.length < lim
            · have p7 : PostX U (Rep U) M1 H1 σ W ((lcL bd mt me (wipeE ρ vs) (ds.drop (k + 1)) (accD ++ [z]) S7).bind finO) Q := by
                change PostX U (Rep U) M1 H1 σ W ((if accD.length < lim then lcL bd mt me (wipeE ρ vs) (ds.drop (k + 1)) (accD ++ [z]) S7 else .stuck).bind _) Q at p6
                rw [if_pos hlim] at p6; exact p6
              have hpr : D ∈ (Mq7.priv D).pr := List.mem_cons_self
              have f17 := f16.trans f7
              refine ⟨acc, hD7, ?_, hm, hlt, Mq7, S7, acc ++ [v7], accD ++ [z], extWrite f17 hD (hnob R7), R7.write hpr hD7, upd_same, ((ra.ext e37).append (.cons r7 .nil)).mv (Mv.write hpr hD7), fun i d h => ?_, p7⟩
              · rw [(ra.ext e37).length]
                exact Nat.lt_of_lt_of_le hlim (lim_line (Nat.le_refl _))
              · obtain ⟨v, h1, h2⟩ := sl i d h
                exact ⟨v, h1, (h2.ext e37).mv (Mv.write hpr hD7)⟩
            · change PostX U (Rep U) M1 H1 σ W ((if accD.length < lim then lcL bd mt me (wipeE ρ vs) (ds.drop (k + 1)) (accD ++ [z]) S7 else .stuck).bind _) Q at p6
              rw [if_neg hlim] at p6; exact p6.elim
  · have ek : k = ds.length := Nat.le_antisymm hk (Nat.le_of_not_lt hlt)
    subst ek
    rw [List.drop_length] at p3
    refine .inl ⟨y.stop _ S' H3 (mvPriv f hD) R3, ?_⟩
    have hnh : ¬ Mq.has D := fun z => z.elim (hnob R3) fun z => by
      rw [f.pr] at z
      obtain ⟨u, hu⟩ := A1.r.prl D z
      rw [hD] at hu; cases hu
    exact pubPriv f R3 hHD ra hD hnh p3

theorem e_lcO {elt tg iter : Expr} {ifs : List Expr} {scope : Scope} (own : List (Str × Nat)) {pos : Pos} (hN : X.N.Nodup) (hi : PI X tg iter (tI U W src)) (ok : BlkOk X.N X.env.scope scope own)
    (hg : ∀ (s : Shared) (H : Hp) (C : Addr) (cl : List (Str × Addr)) (fp : List Addr), PG (X.blk s H scope (compEnvC scope cl C X.env) fp) tg (tG U l bd)) (ht : ∀ (s : Shared) (H : Hp) (C : Addr) (cl : List (Str × Addr)) (fp : List Addr), PTs (X.blk s H scope (compEnvC scope cl C X.env) fp) ifs (tT U W0 mt))
    (he : ∀ (s : Shared) (H : Hp) (C : Addr) (cl : List (Str × Addr)) (fp : List Addr), PE (X.blk s H scope (compEnvC scope cl C X.env) fp) elt (tE U W0 me)) (hc : X.calm = true := by rfl) (hl : ∀ i ∈ l, i ∈ own.map (·.2) := by decide) (hn : ∀ i ∈ own.map (·.2), Nf U i := by exact fun _ _ _ h => absurd h List.not_mem_nil)
    (hs : ∀ x, foldedSetIterable iter X.env x = pure x := by intro _; rfl) : PE X (.ListComp elt [⟨tg, iter, ifs, 0⟩] scope pos) (tE U W (mLcO src bd mt me (own.map (·.2)))) :=
  pe_imp (pe_lc hc hN hi ok hg ht he hs) fun σ H Q h => lc_postO hl hn h
/-- y = [..], on one line -/
theorem s_setLcO (i : Nat) {y : Str} {py : Pos} {elt tg iter : Expr} {ifs : List Expr} {scope : Scope} (own : List (Str × Nat)) {pos spos : Pos} (hN : X.N.Nodup) (hi : PI X tg iter (tI U W src)) (ok : BlkOk X.N X.env.scope scope own)
    (hg : ∀ (s : Shared) (H : Hp) (C : Addr) (cl : List (Str × Addr)) (fp : List Addr), PG (X.blk s H scope (compEnvC scope cl C X.env) fp) tg (tG U l bd)) (ht : ∀ (s : Shared) (H : Hp) (C : Addr) (cl : List (Str × Addr)) (fp : List Addr), PTs (X.blk s H scope (compEnvC scope cl C X.env) fp) ifs (tT U W0 mt))
    (he : ∀ (s : Shared) (H : Hp) (C : Addr) (cl : List (Str × Addr)) (fp : List Addr), PE (X.blk s H scope (compEnvC scope cl C X.env) fp) elt (tE U W0 me)) (hc : X.calm = true := by rfl) (hy : X.N[i]? = some y := by rfl) (hyl : X.env.scope.names.lookup y = some .local := by rfl)
    (hk : X.env.scope.kind = .function := by rfl) (hln : (py.line == pos.line) = true := by rfl) (ha : (scope.names.any fun (n, k) => n == y && (k == .local || k == .cell)) = false := by rfl)
    (hl : ∀ i ∈ l, i ∈ own.map (·.2) := by decide) (hn : ∀ i ∈ own.map (·.2), Nf U i := by exact fun _ _ _ h => absurd h List.not_mem_nil) (hn2 : Nf U i := by exact fun _ h => absurd h List.not_mem_nil)
    (hs : ∀ x, foldedSetIterable iter X.env x = pure x := by intro _; rfl) : PS X (.Assign [.Name y py] (.ListComp elt [⟨tg, iter, ifs, 0⟩] scope pos) spos) (tS U W (sSet i (mLcO src bd mt me (own.map (·.2))))) :=
  ps_imp (ps_setLc hc hN hy hyl (sw_true hk hyl hln ha) hi ok hg ht he hs) fun Dn σ H ⟨M, S, ρ, A, p⟩ => by
    refine lc_postO (U := U) (W := W) hl hn (tX.ofS A p fun x S1 M1 H1 v e1 A1 r1 p1 => ?_)
    exact p1 M1 H1 _ A1.refl (A1.set r1 hn2)
/-- list(x), the store's -/
def mListO (ms : MA) : ME := fun ρ S => (ms ρ S).bind fun ds S1 => match ds with
  | [d] => match seqD S1 d with
    | some xs => .ok (.obj S1.length) (S1 ++ [.lst xs])
    | none => .stuck
  | _ => .stuck
theorem e_listO {e : Expr} {es : List Expr} {ms : MA} {q pos : Pos} (hm : X.mg "list" = none) (ha : PA X (e :: es) (tA U W ms)) (hg : Gl X "list" := by rfl) (he : starEach (e :: es) X.env = (false, eval e X.env) :: starEach es X.env := by rfl) (hpl : (backTo pos (starEach es X.env)).any (·.1) = false := by rfl) (hK : X.K = U.K := by rfl) :
    PE X (.Call (.Name "list" q) (e :: es) [] pos) (tE U W (mListO ms)) :=
  pe_imp (pe_callTy call_list_of hg hm (by rfl) ha (by decide) (by decide) he hpl) fun σ H Q ⟨M, S, ρ, A, p⟩ => tX.bind A p fun ds S1 M1 H1 vs e1 A1 ra p1 => by
    cases ds with
    | nil => exact p1.elim
    | cons d ds => cases ds with
      | cons _ _ => exact p1.elim
      | nil =>
        simp only at p1
        cases q : seqD S1 d with
        | none => rw [q] at p1; exact p1.elim
        | some xs =>
          rw [q] at p1
          obtain ⟨v, rfl, hv⟩ := ra.one
          obtain ⟨a, us, rfl, hs, rr⟩ := hv.seq A1.r q
          rw [hK]
          exact ⟨a, us, rfl, hs.symm, fun l hl => Gives.pushL p1 A1.r rr hl⟩
end
end DL
/-! DL28: x = [..]; x.append(e): a list of no store; classes as constants. -/
namespace DL
open PySem L2
def sBuild (i : Nat) (ma : MA) (mb : ME) : MS := fun ρ S => .of (ma ρ S) ρ fun xs S1 => if i < ρ.length ∧ xs.length < lim then .of (mb (ρ.set i none) S1) (ρ.set i none) fun d S2 => .nx (ρ.set i (some (.lst (xs ++ [d])))) S2 else .stuck
section
variable {U : Uv} {M M2 : Mp} {S : Sto} {H H' : Hp} {σ : L2.St} {ρ : Env} {p : Addr} {i : Nat} {o : Option V}
theorem At.unpriv (a : At U (M.priv p) S ρ σ H) : At U M S ρ σ H := ⟨a.r.unpriv, fun i d h => let ⟨v, h1, h2⟩ := a.sl i d h; ⟨v, h1, h2.mv Mv.unpriv⟩, a.len, a.fx⟩
theorem At.priv {u : HO} (a : At U M S ρ σ H) (hp : H p = none) : At U (M.priv p) S ρ σ (upd H p u) := ⟨a.r.priv hp, fun i d h => let ⟨v, h1, h2⟩ := a.sl i d h; ⟨v, h1, h2.mv (Mv.priv hp)⟩, a.len, a.fx⟩
theorem ExAt.unpriv {e : Ex} {cv : Value} {dd : Option Addr} (x : ExAt U (M.priv p) H e cv dd) : ExAt U M H e cv dd := ⟨x.1, x.2.elim .inl fun ⟨d, fv, h0, h1, h2, h3⟩ => .inr ⟨d, fv, h0, h1, h2, h3.mv Mv.unpriv⟩⟩
end
section
variable {X : Cx} {U : Uv} {W : WX} {e : Expr} {es : List Expr} {ma : MA} {mb : ME} {mu : MS} {rest : List Stmt} {x : Str} {p1 p2 p3 p4 p5 apos cpos : Pos}
theorem ss_build (i : Nat) (hN : X.N.Nodup) (ha : PA X es (tA U W ma)) (he : PE X e (tE U W mb)) (hr : PSs X rest (tS U W mu)) (hi : X.N[i]? = some x := by rfl) (hx : Loc X.env.scope x := by first | exact Or.inl rfl | exact Or.inr rfl) (hv : Vis X.env.scope x := by first | exact Or.inl rfl | exact Or.inr (Or.inl rfl) | exact Or.inr (Or.inr rfl))
    (hs : swapsWith (.List es p2) (some (.Name x p1)) p3.line X.env = pure false := by rfl) (hf : X.fn x = true ∨ X.env.scope.names.lookup x = some .local := by first | exact .inl rfl | exact .inr rfl | assumption)
    (hd : (x == ("__debug__" : Str)) = false := by decide) (hcd : (x == ("__classdict__" : Str)) = false := by decide)
    (hbase : attributeBase (.Name x p4) "append" X.env (eval (.Name x p4) X.env) = eval (.Name x p4) X.env := by rfl) (hfew : ((backTo cpos (starEach [e] X.env)).all (fun x => !x.1) && (backToKw cpos (keywordEach [] X.env)).all (fun x => x.1.isSome)
      && decide ([e].length + ([] : List Keyword).length + (if ([] : List Keyword).isEmpty then 0 else 1) < 30)) = true := by rfl)
    (hline : (apos.endLine == cpos.line) = true := by rfl) (hst : starEach [e] X.env = (false, eval e X.env) :: starEach [] X.env := by rfl) (hpl : (backTo cpos (starEach [] X.env)).any (·.1) = false := by rfl)
    (hs2 : swapsWith (.Call (.Attribute (.Name x p4) "append" apos) [e] [] cpos) none p5.line X.env = pure false := by rfl) (hn : Nf U i := by exact fun _ h => absurd h List.not_mem_nil) :
    PSs X (.Assign [.Name x p1] (.List es p2) p3 :: .Expr (.Call (.Attribute (.Name x p4) "append" apos) [e] [] cpos) p5 :: rest) (tS U W (sSeq (sBuild i ma mb) mu)) :=
  pss_imp (pss_cons (ps_set hN hi hx (pe_lst ha) hs hf) (pss_cons (ps_expr (pe_bm PySem.F.plainAttrs_list PySem.F.slot_list_append PySem.F.type_list_append mt_append (pe_var (i := i) hi hv hd hcd) (pa_cons he pa_nil hst) hbase hfew hline hst hpl) hs2) hr)) fun Dn σ H ⟨M, S, ρ, A, p⟩ => by
    have p' := PostS.seq (k := mu) p
    refine tX.ofS A p' fun xs S1 M1 H1 vs e1 A1 r1 q1 => ?_
    by_cases hc : i < ρ.length ∧ xs.length < lim
    · rw [if_pos hc] at q1
      obtain ⟨hi', hlen⟩ := hc
      have hl : vs.length < sizeLine := by
        rw [r1.length]
        exact Nat.lt_of_lt_of_le hlen (lim_line (Nat.le_refl _))
      refine ⟨Nat.le_of_lt hl, fun l hl0 => ?_⟩
      have A2 : At U (M1.priv l) S1 (ρ.set i none) (σ.set i (some (.ref l))) (upd H1 l (.lst vs)) := (A1.priv hl0).unset hn
      have hex : Ext M1 H1 M1 (upd H1 l (.lst vs)) := A1.r.extNew hl0
      refine ⟨.ref l, List.getElem?_set_self (by rw [← A1.len]; exact hi'), .inl ⟨rfl, vs, .inl (.inl upd_same)⟩, ?_⟩
      refine ⟨M1.priv l, S1, ρ.set i none, A2, ?_⟩
      show PostX U (Rep U) _ _ _ W (mb (ρ.set i none) S1) _
      cases q2 : mb (ρ.set i none) S1 with
      | stuck => rw [q2] at q1; exact q1
      | exc ex S2 =>
        rw [q2] at q1
        intro M' H' cv dd g R' xa
        obtain ⟨M2, eM, g2⟩ := g.unpriv
        subst eM
        exact q1 M2 H' _ cv dd (hex.trans g2) (A2.ext g R').unpriv xa.unpriv
      | ok d S2 =>
        rw [q2] at q1
        intro M' H' v g R' rv
        obtain ⟨M2, eM, g2⟩ := g.unpriv
        subst eM
        have hK : H' l = some (.lst vs) := g.keep _ _ upd_same (fun z => A2.r.prn l List.mem_cons_self z)
        refine ⟨l, vs, v, rfl, rfl, hK, hl, ?_⟩
        have hpr : l ∈ (M2.priv l).pr := List.mem_cons_self
        have nob2 : ¬ M2.ob l := R'.prn l List.mem_cons_self
        have hnh : ¬ M2.has l := fun z => z.elim nob2 fun z => by
          rw [g2.pr] at z
          obtain ⟨u, hu⟩ := A1.r.prl l z
          rw [hl0] at hu; cases hu
        have A3 := A2.ext g R'
        have R4 : R U (M2.priv l) S2 (upd H' l (.lst (vs ++ [v]))) := R'.write hpr hK
        have mvw : Mv (M2.priv l) H' (M2.priv l) (upd H' l (.lst (vs ++ [v]))) := Mv.write hpr hK
        have A4 : At U M2 S2 (ρ.set i none) (σ.set i (some (.ref l))) (upd H' l (.lst (vs ++ [v]))) := At.unpriv ⟨R4, fun j dj hj => let ⟨w, h1, h2⟩ := A3.sl j dj hj; ⟨w, h1, h2.mv mvw⟩, A3.len, A3.fx⟩
        have rnew : Rep U M2 (upd H' l (.lst (vs ++ [v]))) (.ref l) (.lst (xs ++ [d])) := .lst ⟨upd_same, hnh⟩ (((((r1.mv (Mv.priv hl0)).mv g.mv).append (.cons rv .nil)).mv mvw).mv Mv.unpriv)
        have A5 := A4.set (i := i) rnew hn
        rw [List.set_set, List.set_set] at A5
        exact q1 M2 _ _ (extWrite (hex.trans g2) hl0 nob2) A5
    · rw [if_neg hc] at q1; exact q1.elim
end
end DL
/-! DL29: what the head shows of own classes. -/
namespace DL
open PySem L2
/-- the j-th statement of the class that stands i-th at the top -/
def methOf : Stmt → Nat → Stmt
  | .ClassDef (body := b) .., j => b.getD j (.Pass ⟨0, 0, 0, 0⟩)
  | s, _ => s
theorem one_c {P : Nat → Prop} {k : Nat} (h : P k) : ∀ c ∈ [k], P c := fun c hc => by
  rcases List.mem_singleton.mp hc with rfl
  exact h
section
variable {K : PySem.W.Frag} {U : Uv} {C : Addr} {c : Nat} {h : Heap} {mg : Str → Option Value} {x : Str}
theorem gc_cls (X : K.In h) (G : h.Ns mainGlobals mg) (hc : U.cl c = C) (a : PySem.W.nsIn K mainGlobals x = some (some (.ref C))) : GC K mg U x (.cls c) := ⟨_, .ref C, PySem.W.mg_of X G a, rfl, fun _ _ => by rw [← hc]; exact .cls c⟩
theorem kit_tc (t : Tc) (hcl : PySem.W.isClsIn K C = true) (ht : PySem.W.typeIn K (.ref C) = some (.type "type")) : PySem.W.kitOne K (.type t.nm) (.ref C) = some false := by
  unfold PySem.W.kitOne PySem.W.kitCls
  have e2 : ((PySem.W.clsIn K C).isSome && PySem.W.typeIn K (.ref C) == some (.type "type")) = true := by
    have h1 : (PySem.W.clsIn K C).isSome = true := hcl
    rw [h1, ht]; rfl
  rw [if_neg (by simp)]
  show (if ((PySem.W.clsIn K C).isSome && PySem.W.typeIn K (.ref C) == some (.type "type")) = true then PySem.W.subIn K (.type t.nm) (.ref C) else none) = some false
  rw [if_pos e2]
  cases t <;> rfl
theorem kit_ct (t : Tc) (hn : t.nm ≠ "NoneType") (hs : ∀ t : Tc, t.nm ≠ "NoneType" → PySem.W.subIn K (.ref C) (.type t.nm) = some false) : PySem.W.kitOne K (.ref C) (.type t.nm) = some false := by
  have := hs t hn
  cases t with
  | non => exact absurd rfl hn
  | _ => exact this
theorem nf_lst : PySem.W.notFirst K C (.type "list") = true := by
  unfold PySem.W.notFirst
  have : PySem.W.subIn K (.type "list") (.ref C) = some false := rfl
  rw [this]; simp
end
end DL
/-! DL30: comprehensions over a list that the store may hold. -/
namespace DL
open PySem L2
/-- the list at i is read at each turn -/
def lcLS (i : Nat) (b : Bd) (t : MT) (m : ME) (ρ : Env) : Nat → Nat → List D → Sto → Out (List D)
  | 0, _, _, _ => .stuck
  | n + 1, k, acc, S => match S[i]? with
    | some (.lst ys) => match ys[k]? with
      | none => .ok acc S
      | some d => match b d ρ with
        | none => .stuck
        | some ρ1 => (t ρ1 S).bindN fun kk S1 => if kk = true then (m ρ1 S1).bindN fun x S2 => if acc.length < lim then lcLS i b t m ρ n (k + 1) (acc ++ [x]) S2 else .stuck else lcLS i b t m ρ n (k + 1) acc S1
    | _ => .stuck
def mLcU (mi : ME) (b : Bd) (t : MT) (m : ME) (vs : List Nat) : ME := fun ρ S => (mi ρ S).bind fun x S1 => match x with
  | .obj i => (lcLS i b t m (wipeE ρ vs) (lim + 2) 0 [] S1).bind finL
  | x => (ofO (seqI x) S1).bind fun ds S2 => (lcL b t m (wipeE ρ vs) ds [] S2).bind fun xs S3 => .ok (.lst xs) S3
section
variable {X : Cx} {U : Uv} {W : WX} {bd : Bd} {mt : MT} {me mi : ME} {vs l : List Nat}
theorem lcS_core (hl : ∀ i ∈ l, i ∈ vs) (hn : ∀ i ∈ vs, Nf U i) {σ : L2.St} {ρ : Env} {M1 : Mp} {S1 : Sto} {H1 : Hp} {Q : VK} {i n0 : Nat} {D : Addr} (A1 : At U M1 S1 ρ σ H1) (hi : i < M1.n) (p1 : PostX U (Rep U) M1 H1 σ W ((lcLS i bd mt me (wipeE ρ vs) n0 0 [] S1).bind finL) Q) (hD : H1 D = none) :
    ∃ Wf : Nat → Nat → Hp → Prop, (∃ m, Wf 0 m (upd H1 D (.lst []))) ∧ ∀ i' m H, Wf i' m H → ((Itl U.K (M1.at_ i)).stop i' H ∧ Q (.ref D) H) ∨ ((Itl U.K (M1.at_ i)).go i' H ∧ ∃ Nx : Hp → Prop, (∀ H', Nx H' → ∃ m', m' < m ∧ Wf (i' + 1) m' H') ∧ ∀ x H', (Itl U.K (M1.at_ i)).yld i' H x H' → (tG U l bd) x (wipe σ vs) H' fun σ2 H2 => wipe σ2 vs = wipe σ vs ∧ (tT U W0 mt) σ2 H2 fun b H3 =>
      if b = true then (tE U W0 me) σ2 H3 fun y H4 => ∃ acc, H4 D = some (.lst acc) ∧ acc.length < sizeLine ∧ Nx (upd H4 D (.lst (acc ++ [y]))) else Nx H3) := by
  refine ⟨fun k m H => ∃ Mq S' acc accD, Ext M1 H1 Mq H ∧ R U (Mq.priv D) S' H ∧ H D = some (.lst acc) ∧ RepAll U (Mq.priv D) H acc accD ∧ SlotRep U (Mq.priv D) H (wipe σ vs) (wipeE ρ vs) ∧
      PostX U (Rep U) M1 H1 σ W ((lcLS i bd mt me (wipeE ρ vs) m k accD S').bind finL) Q,
    ⟨n0, M1, S1, [], [], A1.r.extNew hD, A1.r.priv hD, upd_same, .nil, fun i d h => ?_, p1⟩, fun k m H3 ⟨Mq, S', acc, accD, f, R3, hHD, ra, sl, p3⟩ => ?_⟩
  · obtain ⟨v, h1, h2⟩ := (A1.wipe vs hn).sl i d h
    exact ⟨v, h1, h2.mv (Mv.priv hD)⟩
  have hnob : ∀ {M' : Mp} {S' : Sto} {H' : Hp}, R U (M'.priv D) S' H' → ¬ M'.ob D := fun r => r.prn D List.mem_cons_self
  cases m with
  | zero => exact p3.elim
  | succ n =>
    unfold lcLS at p3
    cases qi : S'[i]? with
    | none => rw [qi] at p3; exact p3.elim
    | some ob =>
      rw [qi] at p3
      cases ob with
      | ins c fs => exact p3.elim
      | dK _ => exact p3.elim
      | dN _ => exact p3.elim
      | dF _ => exact p3.elim
      | xc _ _ => exact p3.elim
      | lst ys =>
        obtain ⟨ws, hH, rw'⟩ := R3.at_ i _ qi
        have eat : (Mq.priv D).at_ i = M1.at_ i := f.same i hi
        rw [eat] at hH
        have sq : SqL U.K H3 (M1.at_ i) ws := .inl (.inl hH)
        simp only at p3
        cases qk : ys[k]? with
        | none =>
          rw [qk] at p3
          have hlen : ws.length ≤ k := by rw [rw'.length]; exact List.getElem?_eq_none_iff.mp qk
          refine .inl ⟨⟨ws, sq, hlen⟩, ?_⟩
          have hnh : ¬ Mq.has D := fun z => z.elim (hnob R3) fun z => by
            rw [f.pr] at z
            obtain ⟨u, hu⟩ := A1.r.prl D z
            rw [hD] at hu; cases hu
          exact p3 Mq H3 _ f R3.unpriv (.lst ⟨hHD, hnh⟩ (ra.mv Mv.unpriv))
        | some d =>
          rw [qk] at p3
          obtain ⟨x0, hx0, rx0⟩ := rw'.get qk
          refine .inr ⟨⟨ws, x0, sq, hx0⟩, fun H4 => ∃ Mq S' acc accD, Ext M1 H1 Mq H4 ∧ R U (Mq.priv D) S' H4 ∧ H4 D = some (.lst acc) ∧ RepAll U (Mq.priv D) H4 acc accD ∧ SlotRep U (Mq.priv D) H4 (wipe σ vs) (wipeE ρ vs) ∧
            PostX U (Rep U) M1 H1 σ W ((lcLS i bd mt me (wipeE ρ vs) n (k + 1) accD S').bind finL) Q, fun H4 h => ⟨n, Nat.lt_succ_self _, h⟩, fun x H4 hy => ?_⟩
          obtain ⟨rfl, hy⟩ := hy
          have ex : x0 = x := by
            have := hy ws sq
            rw [hx0] at this
            exact Option.some.inj this
          subst ex
          have A4 : At U (Mq.priv D) S' (wipeE ρ vs) (wipe σ vs) H4 := ⟨R3, sl, (A1.wipe vs hn).len, (A1.wipe vs hn).fx⟩
          cases q : bd d (wipeE ρ vs) with
          | none =>
            simp only [q] at p3
            exact p3.elim
          | some ρ1 =>
            simp only [q] at p3
            refine ⟨Mq.priv D, S', wipeE ρ vs, d, ρ1, A4, rx0, q, fun σ5 A5 b5 => ⟨wipe_but b5 hl, ?_⟩⟩
            refine ⟨Mq.priv D, S', ρ1, A5, ?_⟩
            cases q2 : mt ρ1 S' with
            | exc e S6 => rw [q2] at p3; exact p3.elim
            | stuck => rw [q2] at p3; exact p3.elim
            | ok kk S6 =>
              rw [q2] at p3
              intro M6 H6 b e6 R6 eb
              have eb' : b = kk := eb
              subst eb'
              obtain ⟨Mq6, em6, f6⟩ := e6.unpriv
              subst em6
              have f16 := f.trans f6
              have hD6 : H6 D = some (.lst acc) := e6.keep _ _ hHD (R3.prn D List.mem_cons_self)
              have p6 := p3
              cases b with
              | false =>
                rw [if_neg (by decide)]
                exact ⟨Mq6, S6, acc, accD, f16, R6, hD6, ra.ext e6, sl.ext e6, p6⟩
              | true =>
                rw [if_pos rfl]
                refine ⟨Mq6.priv D, S6, ρ1, A5.ext e6 R6, ?_⟩
                change PostX U (Rep U) M1 H1 σ W (((me ρ1 S6).bindN fun x S2 => if accD.length < lim then lcLS i bd mt me (wipeE ρ vs) n (k + 1) (accD ++ [x]) S2 else .stuck).bind finL) Q at p6
                cases q7 : me ρ1 S6 with
                | exc e S7 => rw [q7] at p6; exact p6.elim
                | stuck => rw [q7] at p6; exact p6.elim
                | ok z S7 =>
                  rw [q7] at p6
                  intro M7 H7 v7 e7 R7 r7
                  obtain ⟨Mq7, em7, f7⟩ := e7.unpriv
                  subst em7
                  have hD7 : H7 D = some (.lst acc) := e7.keep _ _ hD6 (R6.prn D List.mem_cons_self)
                  have e37 := e6.trans e7
                  by_cases hlim : accD.length < lim
                  · have p7 : PostX U (Rep U) M1 H1 σ W ((lcLS i bd mt me (wipeE ρ vs) n (k + 1) (accD ++ [z]) S7).bind finL) Q := by
                      change PostX U (Rep U) M1 H1 σ W ((if accD.length < lim then lcLS i bd mt me (wipeE ρ vs) n (k + 1) (accD ++ [z]) S7 else .stuck).bind _) Q at p6
                      rw [if_pos hlim] at p6; exact p6
                    have hpr : D ∈ (Mq7.priv D).pr := List.mem_cons_self
                    have f17 := f16.trans f7
                    refine ⟨acc, hD7, ?_, Mq7, S7, acc ++ [v7], accD ++ [z], extWrite f17 hD (hnob R7), R7.write hpr hD7, upd_same, ((ra.ext e37).append (.cons r7 .nil)).mv (Mv.write hpr hD7), fun i d h => ?_, p7⟩
                    · rw [(ra.ext e37).length]
                      exact Nat.lt_of_lt_of_le hlim (lim_line (Nat.le_refl _))
                    · obtain ⟨v, h1, h2⟩ := sl i d h
                      exact ⟨v, h1, (h2.ext e37).mv (Mv.write hpr hD7)⟩
                  · change PostX U (Rep U) M1 H1 σ W ((if accD.length < lim then lcLS i bd mt me (wipeE ρ vs) n (k + 1) (accD ++ [z]) S7 else .stuck).bind _) Q at p6
                    rw [if_neg hlim] at p6; exact p6.elim
/-- what the reading wants: by what is walked -/
theorem lcU_post (hl : ∀ i ∈ l, i ∈ vs) (hn : ∀ i ∈ vs, Nf U i) {σ : L2.St} {H : Hp} {Q : VK} (h : tE U W (mLcU mi bd mt me vs) σ H Q) :
    tE U W (mLc (iSeq mi) bd mt me vs) σ H Q ∨ tLc (iList U.K (tE U W mi)) (tG U l bd) (tT U W0 mt) (tE U W0 me) vs σ H Q := by
  obtain ⟨M, S, ρ, A, p⟩ := h
  unfold mLcU at p
  cases q : mi ρ S with
  | stuck => rw [q] at p; exact p.elim
  | exc x S1 =>
    refine .inl ⟨M, S, ρ, A, ?_⟩
    show PostX U (Rep U) M H σ W ((mLcL (iSeq mi) bd mt me vs ρ S).bind _) Q
    unfold mLcL iSeq
    rw [q] at p ⊢
    exact p
  | ok x S1 =>
    rw [q] at p
    have other : PostX U (Rep U) M H σ W ((ofO (seqI x) S1).bind fun ds S2 => (lcL bd mt me (wipeE ρ vs) ds [] S2).bind fun xs S3 => .ok (.lst xs) S3) Q → tE U W (mLc (iSeq mi) bd mt me vs) σ H Q := fun p => ⟨M, S, ρ, A, by
      show PostX U (Rep U) M H σ W ((mLcL (iSeq mi) bd mt me vs ρ S).bind _) Q
      unfold mLcL iSeq
      rw [q]
      change PostX U (Rep U) M H σ W (((ofO (seqI x) S1).bind fun ds S1 => lcL bd mt me (wipeE ρ vs) ds [] S1).bind _) Q
      cases q2 : seqI x with
      | none => rw [q2] at p; exact p.elim
      | some ds => rw [q2] at p; exact p⟩
    cases x with
    | obj i =>
      refine .inr ⟨M, S, ρ, A, ?_⟩
      rw [q]
      intro M1 H1 v e1 r1 rv
      cases rv with
      | obj hi =>
        have p1 : PostX U (Rep U) M1 H1 σ W ((lcLS i bd mt me (wipeE ρ vs) (lim + 2) 0 [] S1).bind finL) Q := PostX.ext e1 p
        have hsq : ∃ xs, SqL U.K H1 (M1.at_ i) xs := by
          unfold lcLS at p1
          cases qi : S1[i]? with
          | none => rw [qi] at p1; exact p1.elim
          | some ob =>
            rw [qi] at p1
            cases ob with
            | ins c fs => exact p1.elim
            | dK _ => exact p1.elim
            | dN _ => exact p1.elim
            | dF _ => exact p1.elim
            | xc _ _ => exact p1.elim
            | lst ys =>
              obtain ⟨ws, hH, _⟩ := r1.at_ i _ qi
              exact ⟨ws, .inl (.inl hH)⟩
        exact ⟨_, rfl, hsq, fun D hD => lcS_core hl hn (A.ext e1 r1) hi p1 hD⟩
    | _ => exact .inl (other p)
theorem e_lcU {elt tg iter : Expr} {ifs : List Expr} {scope : Scope} (own : List (Str × Nat)) {pos : Pos} (hN : X.N.Nodup) (hi : PE X iter (tE U W mi)) (ok : BlkOk X.N X.env.scope scope own)
    (hg : ∀ (s : Shared) (H : Hp) (C : Addr) (cl : List (Str × Addr)) (fp : List Addr), PG (X.blk s H scope (compEnvC scope cl C X.env) fp) tg (tG U l bd)) (ht : ∀ (s : Shared) (H : Hp) (C : Addr) (cl : List (Str × Addr)) (fp : List Addr), PTs (X.blk s H scope (compEnvC scope cl C X.env) fp) ifs (tT U W0 mt))
    (he : ∀ (s : Shared) (H : Hp) (C : Addr) (cl : List (Str × Addr)) (fp : List Addr), PE (X.blk s H scope (compEnvC scope cl C X.env) fp) elt (tE U W0 me)) (hc : X.calm = true := by rfl) (hl : ∀ i ∈ l, i ∈ own.map (·.2) := by decide) (hn : ∀ i ∈ own.map (·.2), Nf U i := by exact fun _ _ _ h => absurd h List.not_mem_nil)
    (hs : ∀ x, foldedSetIterable iter X.env x = pure x := by intro _; rfl) (hK : X.K = U.K := by rfl) : PE X (.ListComp elt [⟨tg, iter, ifs, 0⟩] scope pos) (tE U W (mLcU mi bd mt me (own.map (·.2)))) :=
  ⟨fun pins s σ H Q I h => by
    rcases lcU_post hl hn h with h | h
    · exact (e_lc own hN (i_seq hi hK) ok hg ht he hc hl hn hs).run pins s σ H Q I h
    · rw [← hK] at h
      exact (pe_lc hc hN (pi_list hi) ok hg ht he hs).run pins s σ H Q I h⟩
theorem s_setLcU (i : Nat) {y : Str} {py : Pos} {elt tg iter : Expr} {ifs : List Expr} {scope : Scope} (own : List (Str × Nat)) {pos spos : Pos} (hN : X.N.Nodup) (hi : PE X iter (tE U W mi)) (ok : BlkOk X.N X.env.scope scope own)
    (hg : ∀ (s : Shared) (H : Hp) (C : Addr) (cl : List (Str × Addr)) (fp : List Addr), PG (X.blk s H scope (compEnvC scope cl C X.env) fp) tg (tG U l bd)) (ht : ∀ (s : Shared) (H : Hp) (C : Addr) (cl : List (Str × Addr)) (fp : List Addr), PTs (X.blk s H scope (compEnvC scope cl C X.env) fp) ifs (tT U W0 mt))
    (he : ∀ (s : Shared) (H : Hp) (C : Addr) (cl : List (Str × Addr)) (fp : List Addr), PE (X.blk s H scope (compEnvC scope cl C X.env) fp) elt (tE U W0 me)) (hc : X.calm = true := by rfl) (hy : X.N[i]? = some y := by rfl) (hyl : X.env.scope.names.lookup y = some .local := by rfl)
    (hk : X.env.scope.kind = .function := by rfl) (hln : (py.line == pos.line) = true := by rfl) (ha : (scope.names.any fun (n, k) => n == y && (k == .local || k == .cell)) = false := by rfl)
    (hl : ∀ i ∈ l, i ∈ own.map (·.2) := by decide) (hn : ∀ i ∈ own.map (·.2), Nf U i := by exact fun _ _ _ h => absurd h List.not_mem_nil) (hn2 : Nf U i := by exact fun _ h => absurd h List.not_mem_nil)
    (hs : ∀ x, foldedSetIterable iter X.env x = pure x := by intro _; rfl) (hK : X.K = U.K := by rfl) : PS X (.Assign [.Name y py] (.ListComp elt [⟨tg, iter, ifs, 0⟩] scope pos) spos) (tS U W (sSet i (mLcU mi bd mt me (own.map (·.2))))) :=
  ⟨fun pins s σ H Dn I ⟨M, S, ρ, A, p⟩ => by
    have h : tE U W (mLcU mi bd mt me (own.map (·.2))) σ H (fun v H' => Dn.nx (σ.set i (some v)) H') := tX.ofS A p fun x S1 M1 H1 v e1 A1 r1 p1 => p1 M1 H1 _ A1.refl (A1.set r1 hn2)
    rcases lcU_post hl hn h with h | h
    · exact (ps_setLc hc hN hy hyl (sw_true hk hyl hln ha) (i_seq hi hK) ok hg ht he hs).run pins s σ H Dn I (lc_post hl hn h)
    · rw [← hK] at h
      exact (ps_setLc hc hN hy hyl (sw_true hk hyl hln ha) (pi_list hi) ok hg ht he hs).run pins s σ H Dn I h⟩
end
end DL
/-! DL31: mirrors evaluated by simp; loops; the cask. -/
namespace DL
open PySem L2
def OS.fin : OS → Out D
  | .nx _ S => .ok .non S
  | .rt d S => .ok d S
  | .exc e _ S => .exc e S
  | _ => .stuck
def selT {α : Type} : Bool → α → α → α
  | true, a, _ => a
  | false, _, b => b
def selB {α : Type} : Option Bool → Out α → Out α → Out α
  | some true, a, _ => a
  | some false, _, b => b
  | none, _, _ => .stuck
section
variable {α β : Type} {a : α} {S S1 : Sto} {e : Ex} {f : α → Sto → Out β} {k : α → Sto → OS} {ρ : Env} {d x y : D} {i j n : Nat} {m ma mb mc mo mi : ME} {ms mk : MA} {t u : MT} {sa sb : MS} {o : Option D} {g g' : Sto → D → D → Option D} {g1 : Sto → D → Option D} {gn : Sto → List D → Option D} {F : Mi} {ds xs : List D} {bd : Bd} {bs : Bds} {src : MI} {kk : MS} {c : Nat} {nm : Str} {fs : List (Str × D)} {cs is : List Nat}
@[simp] theorem fin_nx : OS.fin (.nx ρ S) = .ok .non S := id rfl
@[simp] theorem fin_rt : OS.fin (.rt d S) = .ok d S := id rfl
@[simp] theorem fin_exc : OS.fin (.exc e ρ S) = .exc e S := id rfl
@[simp] theorem bind_ok : (Out.ok a S).bind f = f a S := id rfl
@[simp] theorem bind_exc : (Out.exc e S : Out α).bind f = .exc e S := id rfl
@[simp] theorem bind_stuck : (Out.stuck : Out α).bind f = .stuck := id rfl
@[simp] theorem bindN_ok : (Out.ok a S).bindN f = f a S := id rfl
@[simp] theorem of_ok : OS.of (.ok a S) ρ k = k a S := id rfl
@[simp] theorem of_exc : OS.of (.exc e S : Out α) ρ k = .exc e ρ S := id rfl
@[simp] theorem seq_nx' : (OS.nx ρ S).seq kk = kk ρ S := id rfl
@[simp] theorem seq_rt' : (OS.rt d S).seq kk = .rt d S := id rfl
@[simp] theorem seq_exc' : (OS.exc e ρ S).seq kk = .exc e ρ S := id rfl
@[simp] theorem ofO_some {z : α} : ofO (some z) S = .ok z S := id rfl
@[simp] theorem mVar_z : mVar 0 (some d :: ρ) S = .ok d S := id rfl
@[simp] theorem mVar_s : mVar (i + 1) (o :: ρ) S = mVar i ρ S := id rfl
@[simp] theorem mC_ev : mC d ρ S = .ok d S := id rfl
@[simp] theorem m1_ev : m1 g1 ma ρ S = (ma ρ S).bind fun x S1 => ofO (g1 S1 x) S1 := id rfl
@[simp] theorem m2_ev : m2 g ma mb ρ S = (ma ρ S).bind fun x S1 => (mb ρ S1).bind fun y S2 => ofO (g S2 x y) S2 := id rfl
@[simp] theorem mN_ev : mN gn ms ρ S = (ms ρ S).bind fun xs S1 => ofO (gn S1 xs) S1 := id rfl
@[simp] theorem mTst_ev : mTst m ρ S = (m ρ S).bind fun x S1 => match x with
  | .bl b => .ok b S1
  | _ => .stuck := id rfl
@[simp] theorem aNil_ev : aNil ρ S = .ok [] S := id rfl
@[simp] theorem aCons_ev : aCons m ms ρ S = (m ρ S).bind fun x S1 => (ms ρ S1).bind fun xs S2 => .ok (x :: xs) S2 := id rfl
@[simp] theorem aStar_ev : aStar m ms ρ S = (m ρ S).bind fun x S1 => match seqD S1 x with
  | some ys => (ms ρ S1).bind fun xs S2 => .ok (ys ++ xs) S2
  | none => .stuck := id rfl
@[simp] theorem mTup_ev : mTup ms ρ S = (ms ρ S).bind fun xs S1 => if xs.length ≤ lim then .ok (.tup xs) S1 else .stuck := id rfl
@[simp] theorem mLst_ev : mLst ms ρ S = (ms ρ S).bind fun xs S1 => if xs.length ≤ lim then .ok (.lst xs) S1 else .stuck := id rfl
@[simp] theorem mLstO_ev : mLstO ms ρ S = (ms ρ S).bind fun xs S1 => if xs.length ≤ lim then .ok (.obj S1.length) (S1 ++ [.lst xs]) else .stuck := id rfl
@[simp] theorem mTru_ev : mTru m ρ S = (m ρ S).bind fun x S1 => ofO (truD S1 x) S1 := id rfl
@[simp] theorem and_ev : tAnd' t u ρ S = (t ρ S).bind fun b S1 => selT b (u ρ S1) (.ok false S1) := by
  show (t ρ S).bind _ = _
  cases (t ρ S) with
  | ok b S1 => cases b <;> rfl
  | _ => rfl
@[simp] theorem or_ev : tOr' t u ρ S = (t ρ S).bind fun b S1 => selT b (.ok true S1) (u ρ S1) := by
  show (t ρ S).bind _ = _
  cases (t ρ S) with
  | ok b S1 => cases b <;> rfl
  | _ => rfl
@[simp] theorem not_ev : tNot' t ρ S = (t ρ S).bind fun b S1 => .ok (!b) S1 := id rfl
@[simp] theorem mAnd_ev : mAnd ma mb ρ S = (ma ρ S).bind fun x S1 => selB (truD S1 x) (mb ρ S1) (.ok x S1) := by
  show (ma ρ S).bind _ = _
  cases ma ρ S with
  | ok x S1 =>
    simp only [Out.bind]
    cases truD S1 x with
    | none => rfl
    | some p => cases p <;> rfl
  | _ => rfl
@[simp] theorem mOr_ev : mOr ma mb ρ S = (ma ρ S).bind fun x S1 => selB (truD S1 x) (.ok x S1) (mb ρ S1) := by
  show (ma ρ S).bind _ = _
  cases ma ρ S with
  | ok x S1 =>
    simp only [Out.bind]
    cases truD S1 x with
    | none => rfl
    | some p => cases p <;> rfl
  | _ => rfl
@[simp] theorem selB_t {α : Type} {x y : Out α} : selB (some true) x y = x := id rfl
@[simp] theorem selB_f {α : Type} {x y : Out α} : selB (some false) x y = y := id rfl
@[simp] theorem selB_and {p q : Bool} : selB (some p) (Out.ok (D.bl q) S) (.ok (.bl p) S) = .ok (.bl (p && q)) S := by cases p <;> rfl
@[simp] theorem selB_or {p q : Bool} : selB (some p) (Out.ok (D.bl p) S) (.ok (.bl q) S) = .ok (.bl (p || q)) S := by cases p <;> rfl
@[simp] theorem selT_t {α : Type} {x y : α} : selT true x y = x := id rfl
@[simp] theorem selT_f {α : Type} {x y : α} : selT false x y = y := id rfl
@[simp] theorem selT_and {p q : Bool} : selT p (Out.ok q S) (.ok false S) = .ok (p && q) S := by cases p <;> rfl
@[simp] theorem selT_or {p q : Bool} : selT p (Out.ok true S) (.ok q S) = .ok (p || q) S := by cases p <;> rfl
@[simp] theorem mNot_ev : mNot ma ρ S = (ma ρ S).bind fun x S1 => match truD S1 x with
  | some b => .ok (.bl (!b)) S1
  | none => .stuck := id rfl
@[simp] theorem mIf_ev : mIf t ma mb ρ S = (t ρ S).bind fun k S1 => selT k (ma ρ S1) (mb ρ S1) := by
  show (t ρ S).bind _ = _
  cases (t ρ S) with
  | ok b S1 => cases b <;> rfl
  | _ => rfl
@[simp] theorem mCall_ev : mCall F ms ρ S = (ms ρ S).bind F := id rfl
@[simp] theorem mCallK_ev : mCallK F is ms mk ρ S = (ms ρ S).bind fun ds S1 => (mk ρ S1).bind fun es S2 => match pick is (ds ++ es) with
  | some zs => F zs S2
  | none => .stuck := id rfl
@[simp] theorem sNil_ev : sNil ρ S = .nx ρ S := id rfl
@[simp] theorem sSeq_ev : sSeq sa sb ρ S = (sa ρ S).seq sb := id rfl
@[simp] theorem sRet_ev : sRet m ρ S = .of (m ρ S) ρ fun d S1 => .rt d S1 := id rfl
@[simp] theorem sDrop_ev : sDrop m ρ S = .of (m ρ S) ρ fun _ S1 => .nx ρ S1 := id rfl
@[simp] theorem sIf_ev : sIf t sa sb ρ S = .of (t ρ S) ρ fun k S1 => selT k (sa ρ S1) (sb ρ S1) := by
  show OS.of (t ρ S) ρ _ = _
  cases t ρ S with
  | ok b S1 => cases b <;> rfl
  | _ => rfl
@[simp] theorem sSet_ev : sSet i m ρ S = .of (m ρ S) ρ fun d S1 => .nx (ρ.set i (some d)) S1 := id rfl
@[simp] theorem sPar_ev : sPar i j ms ρ S = .of (ms ρ S) ρ fun ds S1 => match ds with
  | [d, e] => .nx ((ρ.set i (some d)).set j (some e)) S1
  | _ => .stuck := id rfl
@[simp] theorem sAsg_ev : sAsg m bd ρ S = .of (m ρ S) ρ fun d S1 => match bd d ρ with
  | some ρ' => .nx ρ' S1
  | none => .stuck := id rfl
@[simp] theorem bName_ev : bName i d ρ = some (ρ.set i (some d)) := id rfl
@[simp] theorem bNil_ev : bNil [] ρ = some ρ := id rfl
@[simp] theorem bCons_ev : bCons bd bs (d :: ds) ρ = (bd d ρ).bind fun ρ' => bs ds ρ' := id rfl
theorem bTup_ev : bTup n bs (.tup ds) ρ = if ds.length = n then bs ds ρ else none := id rfl
@[simp] theorem sRaise_ev : sRaise c ρ S = .exc ⟨c, []⟩ ρ S := id rfl
@[simp] theorem sFor_ev : sFor src bd sa ρ S = .of (src ρ S) ρ fun ds S1 => forL bd sa ds ρ S1 := id rfl
@[simp] theorem iSeq_ev : iSeq m ρ S = (m ρ S).bind fun x S1 => ofO (seqI x) S1 := id rfl
@[simp] theorem seqI_tup : seqI (.tup xs) = some xs := id rfl
@[simp] theorem seqI_lst : seqI (.lst xs) = some xs := id rfl
@[simp] theorem seqI_fz : seqI (.fz xs) = some xs := id rfl
@[simp] theorem seqD_tup : seqD S (.tup xs) = some xs := id rfl
@[simp] theorem seqD_lst : seqD S (.lst xs) = some xs := id rfl
@[simp] theorem seqD_fz : seqD S (.fz xs) = some xs := id rfl
@[simp] theorem mLc_ev {vs : List Nat} : mLc src bd t m vs ρ S = (src ρ S).bind fun ds S1 => (lcL bd t m (wipeE ρ vs) ds [] S1).bind fun xs S2 => .ok (.lst xs) S2 := by
  show ((src ρ S).bind _).bind _ = _
  cases src ρ S <;> rfl
@[simp] theorem mLcO_ev {vs : List Nat} : mLcO src bd t m vs ρ S = (src ρ S).bind fun ds S1 => (lcL bd t m (wipeE ρ vs) ds [] S1).bind finO := by
  show ((src ρ S).bind _).bind _ = _
  cases src ρ S <;> rfl
@[simp] theorem mYes_ev : mYes ρ S = .ok true S := id rfl
@[simp] theorem wipe_nil : wipeE ρ [] = ρ := id rfl
@[simp] theorem wipe_cons {v : Nat} {vs : List Nat} : wipeE ρ (v :: vs) = (wipeE ρ vs).set v none := id rfl
@[simp] theorem mFld_ev : mFld cs nm m ρ S = (m ρ S).bind fun d S1 => match insG cs S1 d with
  | some z => match z.2.2.lookup nm with
    | some x => .ok x S1
    | none => .stuck
  | none => .stuck := id rfl
@[simp] theorem sFldD_ev : sFldD cs nm m mo ρ S = .of (m ρ S) ρ fun d S1 => .of (mo ρ S1) ρ fun o S2 => match insG cs S2 o with
  | some z => if z.2.2.length < 1000 then .nx ρ (S2.set z.1 (.ins z.2.1 (putD nm d z.2.2))) else .stuck
  | none => .stuck := id rfl
@[simp] theorem mMeth_ev : mMeth c nm F mo ms ρ S = (mo ρ S).bind fun o S1 => match insG [c] S1 o with
  | some z => match z.2.2.lookup nm with
    | none => (ms ρ S1).bind fun ds S2 => F (o :: ds) S2
    | some _ => .stuck
  | none => .stuck := id rfl
@[simp] theorem mMethK_ev : mMethK c nm F is mo mk ρ S = (mo ρ S).bind fun o S1 => match insG [c] S1 o with
  | some z => match z.2.2.lookup nm with
    | none => (mk ρ S1).bind fun es S2 => match pick is (o :: es) with
      | some zs => F zs S2
      | none => .stuck
    | some _ => .stuck
  | none => .stuck := id rfl
@[simp] theorem mMake_ev : mMake c F ms ρ S = (ms ρ S).bind fun ds S1 => (F (.obj S1.length :: ds) (S1 ++ [.ins c []])).bind fun d S2 => match d with
  | .non => .ok (.obj S1.length) S2
  | _ => .stuck := id rfl
@[simp] theorem mMakeK_ev : mMakeK c F is mk ρ S = (mk ρ S).bind fun es S1 => match pick is (D.obj S1.length :: es) with
  | some zs => (F zs (S1 ++ [.ins c []])).bind fun d S2 => match d with
    | .non => .ok (.obj S1.length) S2
    | _ => .stuck
  | none => .stuck := id rfl
@[simp] theorem mSubI_ev : mSubI c F mo mi ρ S = (mo ρ S).bind fun o S1 => (mi ρ S1).bind fun i S2 => match insG [c] S2 o with
  | some _ => F [o, i] S2
  | none => .stuck := id rfl
@[simp] theorem forL_nil : forL bd sa [] ρ S = .nx ρ S := id rfl
theorem forL_cons : forL bd sa (d :: ds) ρ S = match bd d ρ with
    | none => .stuck
    | some ρ1 => match sa ρ1 S with
      | .nx ρ2 S2 => forL bd sa ds ρ2 S2
      | .ct ρ2 S2 => forL bd sa ds ρ2 S2
      | .bk ρ2 S2 => .nx ρ2 S2
      | .rt d S2 => .rt d S2
      | .exc e ρ2 S2 => .exc e ρ2 S2
      | .stuck => .stuck := id rfl
@[simp] theorem insG_ok : insG cs S (.obj i) = match S[i]? with
    | some (.ins c fs) => if cs.contains c = true then some (i, c, fs) else none
    | _ => none := id rfl
end
theorem runD_fin {n : Nat} {ms : MS} {ds : List D} {S : Sto} {ρ : Env} (hρ : ds.map some ++ List.replicate (n - ds.length) none = ρ) : runD n ms ds S = (ms ρ S).fin := by
  unfold runD
  rw [hρ]
  cases ms ρ S <;> rfl
theorem rng_h1 (n : Nat) : -(2 ^ 62) ≤ (n : Int) := Int.le_trans (by decide +kernel) (Int.natCast_nonneg n)
theorem rng_h2 (n : Nat) (hn : n ≤ lim) : (n : Int) < 2 ^ 62 := by
  have : n ≤ 1000000 := hn
  omega
theorem rng_int {m : ME} {ρ : Env} {S S1 : Sto} {n : Int} (h : m ρ S = .ok (.int n) S1) (hb : -(2 ^ 62) ≤ n ∧ n < 2 ^ 62) : iRange1 m ρ S = .ok (rangeD 0 n.toNat) S1 := by
  unfold iRange1
  rw [h, bind_ok]
  dsimp only
  rw [if_pos hb]
theorem rng_ok {m : ME} {ρ : Env} {S S1 : Sto} {n : Nat} (h : m ρ S = .ok (.int n) S1) (hn : n ≤ lim) : iRange1 m ρ S = .ok (rangeD 0 n) S1 := by
  have e := rng_int h ⟨rng_h1 n, rng_h2 n hn⟩
  rw [Int.toNat_natCast] at e
  exact e
/-- a return ends a block -/
theorem seq_of {o : Out D} {ρ : Env} {k : MS} : (OS.of o ρ fun d S1 => OS.rt d S1).seq k = OS.of o ρ fun d S1 => OS.rt d S1 := by cases o <;> rfl
/-! ### comprehensions -/
section
variable {bd : Bd} {t : MT} {m : ME} {ρ : Env} {S : Sto}
theorem lcL_map (p : D → Bool) (f : D → D) : ∀ (ds acc : List D), (∀ d ∈ ds, ∃ ρ1, bd d ρ = some ρ1 ∧ t ρ1 S = .ok (p d) S ∧ (p d = true → m ρ1 S = .ok (f d) S)) → acc.length + ds.length ≤ lim → lcL bd t m ρ ds acc S = .ok (acc ++ (ds.filter p).map f) S
  | [], acc, _, _ => by simp [lcL]
  | d :: ds, acc, h, hl => by
    obtain ⟨ρ1, e1, e2, e3⟩ := h d List.mem_cons_self
    rw [List.length_cons] at hl
    cases q : p d with
    | false =>
      rw [q] at e2
      simp only [lcL, e1, e2, bindN_ok, Bool.false_eq_true, if_false]
      rw [lcL_map p f ds acc (fun x hx => h x (List.mem_cons_of_mem _ hx)) (by omega), List.filter_cons, q]
      simp
    | true =>
      rw [q] at e2
      have hlt : acc.length < lim := by omega
      simp only [lcL, e1, e2, e3 q, bindN_ok, if_true, if_pos hlt]
      rw [lcL_map p f ds (acc ++ [f d]) (fun x hx => h x (List.mem_cons_of_mem _ hx)) (by rw [List.length_append, List.length_singleton]; omega), List.filter_cons, q]
      simp
theorem lcL_all (f : D → D) {ds acc : List D} (h : ∀ d ∈ ds, ∃ ρ1, bd d ρ = some ρ1 ∧ t ρ1 S = .ok true S ∧ m ρ1 S = .ok (f d) S) (hl : acc.length + ds.length ≤ lim) : lcL bd t m ρ ds acc S = .ok (acc ++ ds.map f) S := by
  rw [lcL_map (fun _ => true) f ds acc (fun d hd => let ⟨ρ1, a, b, c⟩ := h d hd; ⟨ρ1, a, b, fun _ => c⟩) hl, List.filter_eq_self.mpr (fun _ _ => rfl)]
theorem lcL_none {ds acc : List D} (h : ∀ d ∈ ds, ∃ ρ1, bd d ρ = some ρ1 ∧ t ρ1 S = .ok false S) (hl : acc.length + ds.length ≤ lim) : lcL bd t m ρ ds acc S = .ok acc S := by
  rw [lcL_map (fun _ => false) id ds acc (fun d hd => let ⟨ρ1, a, b⟩ := h d hd; ⟨ρ1, a, b, fun z => by cases z⟩) hl]
  simp
/-- the store's list, while the store stays -/
theorem lcLS_eq {i : Nat} {ys : List D} (hS : S[i]? = some (.lst ys)) (p : D → Bool) (f : D → D) (h : ∀ d ∈ ys, ∃ ρ1, bd d ρ = some ρ1 ∧ t ρ1 S = .ok (p d) S ∧ (p d = true → m ρ1 S = .ok (f d) S)) :
    ∀ (n k : Nat) (acc : List D), ys.length - k < n → acc.length + (ys.length - k) ≤ lim → lcLS i bd t m ρ n k acc S = .ok (acc ++ ((ys.drop k).filter p).map f) S
  | 0, k, acc, hn, _ => absurd hn (Nat.not_lt_zero _)
  | n + 1, k, acc, hn, hl => by
    unfold lcLS
    rw [hS]
    simp only
    cases qk : ys[k]? with
    | none =>
      have : ys.length ≤ k := List.getElem?_eq_none_iff.mp qk
      rw [List.drop_eq_nil_of_le this]
      simp
    | some d =>
      obtain ⟨hk, ek⟩ := List.getElem?_eq_some_iff.mp qk
      have hd : ys.drop k = d :: ys.drop (k + 1) := by rw [List.drop_eq_getElem_cons hk, ek]
      obtain ⟨ρ1, e1, e2, e3⟩ := h d (by rw [← ek]; exact List.getElem_mem hk)
      cases q : p d with
      | false =>
        rw [q] at e2
        simp only [e1, e2, bindN_ok, Bool.false_eq_true, if_false]
        rw [lcLS_eq hS p f h n (k + 1) acc (by omega) (by omega), hd, List.filter_cons, q]
        simp
      | true =>
        rw [q] at e2
        have hlt : acc.length < lim := by omega
        simp only [e1, e2, e3 q, bindN_ok, if_true, if_pos hlt]
        rw [lcLS_eq hS p f h n (k + 1) (acc ++ [f d]) (by omega) (by rw [List.length_append, List.length_singleton]; omega), hd, List.filter_cons, q]
        simp
/-- a loop that goes on, or returns at the first item that fits -/
theorem forL_first {body : MS} (I : Env → Prop) (p : D → Bool) (f : D → D) : ∀ (ds : List D) (ρ : Env), (∀ d ∈ ds, ∀ ρ, I ρ → ∃ ρ1, bd d ρ = some ρ1 ∧ (p d = true → body ρ1 S = .rt (f d) S) ∧ (p d = false → ∃ ρ2, body ρ1 S = .nx ρ2 S ∧ I ρ2)) → I ρ →
    (∃ d, ds.find? p = some d ∧ forL bd body ds ρ S = .rt (f d) S) ∨ (ds.find? p = none ∧ ∃ ρ', forL bd body ds ρ S = .nx ρ' S ∧ I ρ')
  | [], ρ, _, hI => .inr ⟨rfl, ρ, rfl, hI⟩
  | d :: ds, ρ, h, hI => by
    obtain ⟨ρ1, e1, e2, e3⟩ := h d List.mem_cons_self ρ hI
    cases q : p d with
    | true => exact .inl ⟨d, by rw [List.find?_cons, q], by simp only [forL, e1, e2 q]⟩
    | false =>
      obtain ⟨ρ2, e4, I2⟩ := e3 q
      rcases forL_first I p f ds ρ2 (fun x hx => h x (List.mem_cons_of_mem _ hx)) I2 with ⟨x, h1, h2⟩ | ⟨h1, ρ', h2, h3⟩
      · exact .inl ⟨x, by rw [List.find?_cons, q]; exact h1, by simp only [forL, e1, e4]; exact h2⟩
      · exact .inr ⟨by rw [List.find?_cons, q]; exact h1, ρ', by simp only [forL, e1, e4]; exact h2, h3⟩
end
theorem forL_ix {b : Bd} {body : MS} (I : Nat → Env → Sto → Prop) : ∀ (ds : List D) (n : Nat), (∀ i d, ds[i]? = some d → ∀ ρ S, I (n + i) ρ S → ∃ ρ1, b d ρ = some ρ1 ∧ ∃ ρ2 S2, body ρ1 S = .nx ρ2 S2 ∧ I (n + i + 1) ρ2 S2) → ∀ ρ S, I n ρ S → ∃ ρ' S', forL b body ds ρ S = .nx ρ' S' ∧ I (n + ds.length) ρ' S'
  | [], n, _, ρ, S, h => ⟨ρ, S, rfl, h⟩
  | d :: ds, n, hs, ρ, S, h => by
    obtain ⟨ρ1, e1, ρ2, S2, e2, h2⟩ := hs 0 d rfl ρ S h
    obtain ⟨ρ3, S3, e3, h3⟩ := forL_ix I ds (n + 1) (fun i d hd ρ S hI => by
      have e : n + 1 + i = n + (i + 1) := by omega
      rw [e] at hI ⊢
      exact hs (i + 1) d (by simpa using hd) ρ S hI) ρ2 S2 h2
    refine ⟨ρ3, S3, by simp only [forL, e1, e2, e3], ?_⟩
    have e : n + (d :: ds).length = n + 1 + ds.length := by rw [List.length_cons]; omega
    rw [e]; exact h3
theorem sApp_ok {mo m : ME} {ρ : Env} {S S1 S2 : Sto} {n : Nat} {zs xs : List D} {d : D} (h1 : mo ρ S = .ok (.obj n) S1) (h2 : S1[n]? = some (.lst zs)) (h3 : m ρ S1 = .ok d S2) (h4 : S2[n]? = some (.lst xs)) (hl : xs.length < lim) : sApp mo m ρ S = .nx ρ (S2.set n (.lst (xs ++ [d]))) := by
  unfold sApp
  simp only [h1, of_ok, h2, h3, h4, if_pos hl]
/-! ### what comes, and what holds then -/
def Out.wp {α : Type} (o : Out α) (Q : α → Sto → Prop) : Prop := match o with
  | .ok a S => Q a S
  | _ => False
@[simp] theorem wp_ok {α : Type} {a : α} {S : Sto} {Q : α → Sto → Prop} : (Out.ok a S).wp Q = Q a S := id rfl
theorem wp_elim {α : Type} {o : Out α} {Q : α → Sto → Prop} (h : o.wp Q) : ∃ a S, o = .ok a S ∧ Q a S := by
  cases o with
  | ok a S => exact ⟨a, S, rfl, h⟩
  | exc e S => exact False.elim h
  | stuck => exact False.elim h
/-- but for the object at c nothing of the store has changed; it may have grown -/
structure Gr (c : Nat) (S S' : Sto) : Prop where
  le : S.length ≤ S'.length
  eq : ∀ i, i ≠ c → i < S.length → S'[i]? = S[i]?
theorem Gr.refl {c : Nat} {S : Sto} : Gr c S S := ⟨Nat.le_refl _, fun _ _ _ => rfl⟩
theorem Gr.trans {c : Nat} {S S1 S2 : Sto} (a : Gr c S S1) (b : Gr c S1 S2) : Gr c S S2 := ⟨Nat.le_trans a.le b.le, fun i h1 h2 => (b.eq i h1 (Nat.lt_of_lt_of_le h2 a.le)).trans (a.eq i h1 h2)⟩
theorem Gr.at_ {c i : Nat} {S S' : Sto} {o : Ob} (a : Gr c S S') (hi : i ≠ c) (h : S[i]? = some o) : S'[i]? = some o := (a.eq i hi (List.getElem?_eq_some_iff.mp h).1).trans h
theorem Gr.app {c : Nat} {S l : Sto} : Gr c S (S ++ l) := ⟨by rw [List.length_append]; omega, fun i _ h => List.getElem?_append_left h⟩
theorem Gr.set {c : Nat} {S : Sto} {o : Ob} : Gr c S (S.set c o) := ⟨by rw [List.length_set]; exact Nat.le_refl _, fun i h _ => List.getElem?_set_ne (Ne.symm h)⟩
theorem Cask.lt {S : Sto} {c : Nat} {k : Int} (h : Cask S c k) : c < S.length := let ⟨_, _, h, _⟩ := h.ex; (List.getElem?_eq_some_iff.mp h).1
theorem Cask.app {S l : Sto} {c : Nat} {k : Int} (h : Cask S c k) : Cask (S ++ l) c k := let ⟨a, b, e, r⟩ := h.ex; ⟨a, b, (List.getElem?_append_left h.lt).trans e, r⟩
theorem Cask.nn {S : Sto} {c : Nat} {k : Int} (h : Cask S c k) : 0 ≤ k := let ⟨_, _, _, _, _, _, r⟩ := h.ex; r
/-- a draw -/
theorem tap_n {S : Sto} {c : Nat} {k : Int} {span : Nat} (h : Cask S c k) (hk : k < 10 ^ 9) (h0 : 0 < span) (h1 : span < 10 ^ 9) : ∃ (d : Nat) (S' : Sto) (k' : Int), tapF [.obj c, .int span] S = .ok (.int d) S' ∧ d < span ∧ k' ≤ k + 1 ∧ Cask S' c k' ∧ S'.length = S.length ∧ Gr c S S' := by
  obtain ⟨d, S', k', e, a, b, hk', hc, o, rfl⟩ := tap_ok h hk (span := span) (by omega) (by omega)
  obtain ⟨n, rfl⟩ := Int.eq_ofNat_of_zero_le a
  exact ⟨n, _, k', e, by omega, hk', hc, List.length_set, .set⟩
theorem ix_nat {S : Sto} {xs : List D} {n : Nat} (h : n < xs.length) : ∃ x ∈ xs, ixO S (.lst xs) (.int n) = some x ∧ ixO S (.tup xs) (.int n) = some x ∧ xs[n]? = some x := by
  have e : ixO S (.lst xs) (.int (n : Int)) = L2.atI xs n := id rfl
  have e2 : ixO S (.tup xs) (.int (n : Int)) = L2.atI xs n := id rfl
  rw [e, e2]
  exact ⟨xs[n], List.getElem_mem h, L2.atI_nat (List.getElem?_eq_getElem h), L2.atI_nat (List.getElem?_eq_getElem h), List.getElem?_eq_getElem h⟩
end DL
/-! DL32: operators on data, by simp. -/
namespace DL
open PySem L2
section
variable {S : Sto} {cs : List Nat} {a b c s : Str} {i j : Int} {p q : Bool} {xs ys l : List D} {x y z u v w : D}
@[simp] theorem lim_0 : 0 ≤ lim := by decide
@[simp] theorem lim_1 : 1 ≤ lim := by decide
@[simp] theorem lim_2 : 2 ≤ lim := by decide
@[simp] theorem lim_3 : 3 ≤ lim := by decide
@[simp] theorem lim_4 : 4 ≤ lim := by decide
@[simp] theorem lim_5 : 5 ≤ lim := by decide
@[simp] theorem lim_6 : 6 ≤ lim := by decide
@[simp] theorem lim_7 : 7 ≤ lim := by decide
@[simp] theorem lim_8 : 8 ≤ lim := by decide
@[simp] theorem lim_9 : 9 ≤ lim := by decide
@[simp] theorem lim_10 : 10 ≤ lim := by decide
@[simp] theorem lim_11 : 11 ≤ lim := by decide
@[simp] theorem lim_12 : 12 ≤ lim := by decide
@[simp] theorem lim_13 : 13 ≤ lim := by decide
@[simp] theorem lim_14 : 14 ≤ lim := by decide
@[simp] theorem lim_15 : 15 ≤ lim := by decide
@[simp] theorem lim_16 : 16 ≤ lim := by decide
@[simp] theorem lim_17 : 17 ≤ lim := by decide
@[simp] theorem lim_18 : 18 ≤ lim := by decide
@[simp] theorem lim_19 : 19 ≤ lim := by decide
@[simp] theorem lim_20 : 20 ≤ lim := by decide
@[simp] theorem lim_21 : 21 ≤ lim := by decide
@[simp] theorem lim_22 : 22 ≤ lim := by decide
@[simp] theorem lim_23 : 23 ≤ lim := by decide
@[simp] theorem lim_24 : 24 ≤ lim := by decide
@[simp] theorem lim_25 : 25 ≤ lim := by decide
@[simp] theorem lim_26 : 26 ≤ lim := by decide
@[simp] theorem lim_27 : 27 ≤ lim := by decide
@[simp] theorem lim_28 : 28 ≤ lim := by decide
@[simp] theorem lim_29 : 29 ≤ lim := by decide
@[simp] theorem lim_30 : 30 ≤ lim := by decide
@[simp] theorem liml_0 : 0 < lim := by decide
@[simp] theorem liml_1 : 1 < lim := by decide
@[simp] theorem liml_2 : 2 < lim := by decide
@[simp] theorem liml_3 : 3 < lim := by decide
@[simp] theorem liml_4 : 4 < lim := by decide
@[simp] theorem liml_5 : 5 < lim := by decide
@[simp] theorem liml_6 : 6 < lim := by decide
@[simp] theorem liml_7 : 7 < lim := by decide
@[simp] theorem liml_8 : 8 < lim := by decide
@[simp] theorem liml_9 : 9 < lim := by decide
@[simp] theorem liml_10 : 10 < lim := by decide
@[simp] theorem liml_11 : 11 < lim := by decide
@[simp] theorem liml_12 : 12 < lim := by decide
@[simp] theorem liml_13 : 13 < lim := by decide
@[simp] theorem liml_14 : 14 < lim := by decide
@[simp] theorem liml_15 : 15 < lim := by decide
@[simp] theorem liml_16 : 16 < lim := by decide
@[simp] theorem liml_17 : 17 < lim := by decide
@[simp] theorem liml_18 : 18 < lim := by decide
@[simp] theorem liml_19 : 19 < lim := by decide
@[simp] theorem liml_20 : 20 < lim := by decide
@[simp] theorem liml_21 : 21 < lim := by decide
@[simp] theorem liml_22 : 22 < lim := by decide
@[simp] theorem liml_23 : 23 < lim := by decide
@[simp] theorem liml_24 : 24 < lim := by decide
@[simp] theorem liml_25 : 25 < lim := by decide
@[simp] theorem liml_26 : 26 < lim := by decide
@[simp] theorem liml_27 : 27 < lim := by decide
@[simp] theorem liml_28 : 28 < lim := by decide
@[simp] theorem liml_29 : 29 < lim := by decide
@[simp] theorem liml_30 : 30 < lim := by decide
theorem eqv_str : PyData.eqv (.str a) (.str b) = decide (a = b) := by
  by_cases h : a = b
  · subst h; simp [PyData.eqv]
  · have : (a == b) = false := beq_eq_false_iff_ne.mpr h
    simp [PyData.eqv, this, h]
@[simp] theorem eqO_str : eqO S (.str a) (.str b) = some (.bl (decide (a = b))) := by
  show (if _ then some (D.bl (PyData.eqv (.str a) (.str b))) else none) = _
  rw [eqv_str, if_pos (by rfl)]
@[simp] theorem neO_str : neO S (.str a) (.str b) = some (.bl (!decide (a = b))) := by
  show (if _ then some (D.bl (!PyData.eqv (.str a) (.str b))) else none) = _
  rw [eqv_str, if_pos (by rfl)]
@[simp] theorem eqO_i : eqO S (.int i) (.int j) = some (.bl (decide (i = j))) := by
  rw [eqO_int]
  by_cases h : i = j
  · subst h; simp
  · simp [h]
@[simp] theorem neO_i : neO S (.int i) (.int j) = some (.bl (!decide (i = j))) := by
  have e : (i == j) = decide (i = j) := by
    by_cases h : i = j
    · subst h; simp
    · simp [h]
  show (if _ then some (D.bl (!(i == j))) else none) = _
  rw [if_pos (by rfl), e]
@[simp] theorem eqO_b : eqO S (.bl p) (.bl q) = some (.bl (decide (p = q))) := by cases p <;> cases q <;> rfl
@[simp] theorem neO_b : neO S (.bl p) (.bl q) = some (.bl (!decide (p = q))) := by cases p <;> cases q <;> rfl
@[simp] theorem ltO_i : ltO S (.int i) (.int j) = some (.bl (decide (i < j))) := ltO_int
@[simp] theorem gtO_i : gtO S (.int i) (.int j) = some (.bl (decide (j < i))) := gtO_int
theorem deq_str : deq (.str a) (.str b) = decide (a = b) := eqv_str
/-- a text among texts -/
theorem pl_strs : ∀ ws : List Str, PyData.plainAll (toPyAll (ws.map D.str)) = true
  | [] => rfl
  | w :: ws => by show (PyData.plain (.str w) && PyData.plainAll (toPyAll (ws.map D.str))) = true; rw [pl_strs ws]; rfl
theorem dp_strs : ∀ ws : List Str, PyData.depthAll (toPyAll (ws.map D.str)) ≤ 1
  | [] => by show PyData.depthAll [] ≤ 1; simp [PyData.depthAll]
  | w :: ws => by
    have := dp_strs ws
    show PyData.depthAll (.str w :: toPyAll (ws.map D.str)) ≤ 1
    simp [PyData.depthAll, PyData.depth] at this ⊢
    omega
theorem any_strs (s : Str) : ∀ ws : List Str, ((ws.map D.str).any fun y => deq y (.str s)) = decide (s ∈ ws)
  | [] => by simp
  | w :: ws => by
    have e : decide (w = s) = decide (s = w) := by by_cases h : w = s; · subst h; rfl
                                                   · simp [h, Ne.symm h]
    simp only [List.map_cons, List.any_cons, any_strs s ws, deq_str, e, List.mem_cons, Bool.decide_or]
theorem inD_strs (ws : List Str) : inD S (.str s) (.tup (ws.map D.str)) = some (.bl (decide (s ∈ ws))) := by
  show ((if okIn (ws.map D.str) (.str s) then some ((ws.map D.str).any fun y => deq y (.str s)) else none).map D.bl) = _
  have : okIn (ws.map D.str) (.str s) = true := by
    unfold okIn
    have h2 : (min (PyData.depthAll (toPyAll (ws.map D.str))) (dep (.str s)) ≤ 60) := Nat.le_trans (Nat.min_le_left _ _) (Nat.le_trans (dp_strs ws) (by decide))
    rw [pl_strs, decide_eq_true h2]; rfl
  rw [if_pos this, any_strs]; rfl
theorem inD_lstrs (ws : List Str) : inD S (.str s) (.lst (ws.map D.str)) = some (.bl (decide (s ∈ ws))) := inD_strs (S := S) ws
@[simp] theorem inD_s1 : inD S (.str s) (.tup [.str a]) = some (.bl (decide (s = a))) := (inD_strs [a]).trans (by simp)
@[simp] theorem inD_s2 : inD S (.str s) (.tup [.str a, .str b]) = some (.bl (decide (s = a) || decide (s = b))) := (inD_strs [a, b]).trans (by simp)
@[simp] theorem ix_t0 : ixO S (.tup (x :: l)) (.int 0) = some x := L2.atI_nat (j := 0) rfl
@[simp] theorem ix_t1 : ixO S (.tup (x :: y :: l)) (.int 1) = some y := L2.atI_nat (j := 1) rfl
@[simp] theorem ix_t2 : ixO S (.tup (x :: y :: z :: l)) (.int 2) = some z := L2.atI_nat (j := 2) rfl
@[simp] theorem ix_t3 : ixO S (.tup (x :: y :: z :: u :: l)) (.int 3) = some u := L2.atI_nat (j := 3) rfl
@[simp] theorem ix_t4 : ixO S (.tup (x :: y :: z :: u :: v :: l)) (.int 4) = some v := L2.atI_nat (j := 4) rfl
@[simp] theorem ix_l0 : ixO S (.lst (x :: l)) (.int 0) = some x := L2.atI_nat (j := 0) rfl
@[simp] theorem ix_l1 : ixO S (.lst (x :: y :: l)) (.int 1) = some y := L2.atI_nat (j := 1) rfl
theorem len_of (xs : List D) (h : seqD S x = some xs) (hs : ∀ z, x ≠ .str z) : lenG S [x] = some (.int xs.length) := by
  unfold lenG
  split
  · rename_i z e
    cases e
    exact absurd rfl (hs z)
  · rename_i d _ e
    cases e
    rw [h]; rfl
  · rename_i h1 h2; exact absurd rfl (h2 x)
@[simp] theorem len_tup : lenG S [.tup xs] = some (.int xs.length) := id rfl
@[simp] theorem len_lst : lenG S [.lst xs] = some (.int xs.length) := id rfl
@[simp] theorem len_fz : lenG S [.fz xs] = some (.int xs.length) := id rfl
@[simp] theorem tupleG_lst : tupleG S [.lst xs] = some (.tup xs) := id rfl
@[simp] theorem listG_tup : listG S [.tup xs] = some (.lst xs) := id rfl
@[simp] theorem listG_lst : listG S [.lst xs] = some (.lst xs) := id rfl
@[simp] theorem tru_b : truD S (.bl p) = some p := id rfl
@[simp] theorem tru_non : truD S .non = some false := id rfl
@[simp] theorem add_ii : addO S (.int i) (.int j) = some (.int (i + j)) := id rfl
theorem add_tt : addO S (.tup xs) (.tup ys) = if xs.length + ys.length ≤ lim then some (.tup (xs ++ ys)) else none := id rfl
theorem add_ll : addO S (.lst xs) (.lst ys) = if xs.length + ys.length ≤ lim then some (.lst (xs ++ ys)) else none := id rfl
@[simp] theorem is_non : isNO S .non .non = some (.bl true) := id rfl
@[simp] theorem isn_non : notNO S .non .non = some (.bl false) := id rfl
@[simp] theorem is_str : isNO S (.str s) .non = some (.bl false) := id rfl
@[simp] theorem isn_str : notNO S (.str s) .non = some (.bl true) := id rfl
@[simp] theorem is_int : isNO S (.int i) .non = some (.bl false) := id rfl
@[simp] theorem isn_int : notNO S (.int i) .non = some (.bl true) := id rfl
@[simp] theorem is_bl : isNO S (.bl p) .non = some (.bl false) := id rfl
@[simp] theorem isn_bl : notNO S (.bl p) .non = some (.bl true) := id rfl
@[simp] theorem is_tup : isNO S (.tup xs) .non = some (.bl false) := id rfl
@[simp] theorem isn_tup : notNO S (.tup xs) .non = some (.bl true) := id rfl
@[simp] theorem is_lst : isNO S (.lst xs) .non = some (.bl false) := id rfl
@[simp] theorem isn_lst : notNO S (.lst xs) .non = some (.bl true) := id rfl
@[simp] theorem is_obj {n : Nat} : isNO S (.obj n) .non = some (.bl false) := id rfl
@[simp] theorem isn_obj {n : Nat} : notNO S (.obj n) .non = some (.bl true) := id rfl
@[simp] theorem mul_ii (h : i.natAbs.log2 + j.natAbs.log2 < 1000000) : mulO S (.int i) (.int j) = some (.int (i * j)) := if_pos h
@[simp] theorem isiI_non_str : isiI cs S [.non, .ty "str"] = some (.bl false) := by kernel_rfl
@[simp] theorem isiG_non_str : isiG S [.non, .ty "str"] = some (.bl false) := by kernel_rfl
@[simp] theorem isiI_non_tuple : isiI cs S [.non, .ty "tuple"] = some (.bl false) := by kernel_rfl
@[simp] theorem isiG_non_tuple : isiG S [.non, .ty "tuple"] = some (.bl false) := by kernel_rfl
@[simp] theorem isiI_non_list : isiI cs S [.non, .ty "list"] = some (.bl false) := by kernel_rfl
@[simp] theorem isiG_non_list : isiG S [.non, .ty "list"] = some (.bl false) := by kernel_rfl
@[simp] theorem isiI_non_int : isiI cs S [.non, .ty "int"] = some (.bl false) := by kernel_rfl
@[simp] theorem isiG_non_int : isiG S [.non, .ty "int"] = some (.bl false) := by kernel_rfl
@[simp] theorem isiI_non_bool : isiI cs S [.non, .ty "bool"] = some (.bl false) := by kernel_rfl
@[simp] theorem isiG_non_bool : isiG S [.non, .ty "bool"] = some (.bl false) := by kernel_rfl
@[simp] theorem isiI_non_dict : isiI cs S [.non, .ty "dict"] = some (.bl false) := by kernel_rfl
@[simp] theorem isiG_non_dict : isiG S [.non, .ty "dict"] = some (.bl false) := by kernel_rfl
@[simp] theorem isiI_non_lt : isiI cs S [.non, .tup [.ty "list", .ty "tuple"]] = some (.bl false) := by kernel_rfl
@[simp] theorem isiG_non_lt : isiG S [.non, .tup [.ty "list", .ty "tuple"]] = some (.bl false) := by kernel_rfl
@[simp] theorem isiI_bl_str : isiI cs S [(.bl p), .ty "str"] = some (.bl false) := by kernel_rfl
@[simp] theorem isiG_bl_str : isiG S [(.bl p), .ty "str"] = some (.bl false) := by kernel_rfl
@[simp] theorem isiI_bl_tuple : isiI cs S [(.bl p), .ty "tuple"] = some (.bl false) := by kernel_rfl
@[simp] theorem isiG_bl_tuple : isiG S [(.bl p), .ty "tuple"] = some (.bl false) := by kernel_rfl
@[simp] theorem isiI_bl_list : isiI cs S [(.bl p), .ty "list"] = some (.bl false) := by kernel_rfl
@[simp] theorem isiG_bl_list : isiG S [(.bl p), .ty "list"] = some (.bl false) := by kernel_rfl
@[simp] theorem isiI_bl_int : isiI cs S [(.bl p), .ty "int"] = some (.bl true) := by kernel_rfl
@[simp] theorem isiG_bl_int : isiG S [(.bl p), .ty "int"] = some (.bl true) := by kernel_rfl
@[simp] theorem isiI_bl_bool : isiI cs S [(.bl p), .ty "bool"] = some (.bl true) := by kernel_rfl
@[simp] theorem isiG_bl_bool : isiG S [(.bl p), .ty "bool"] = some (.bl true) := by kernel_rfl
@[simp] theorem isiI_bl_dict : isiI cs S [(.bl p), .ty "dict"] = some (.bl false) := by kernel_rfl
@[simp] theorem isiG_bl_dict : isiG S [(.bl p), .ty "dict"] = some (.bl false) := by kernel_rfl
@[simp] theorem isiI_bl_lt : isiI cs S [(.bl p), .tup [.ty "list", .ty "tuple"]] = some (.bl false) := by kernel_rfl
@[simp] theorem isiG_bl_lt : isiG S [(.bl p), .tup [.ty "list", .ty "tuple"]] = some (.bl false) := by kernel_rfl
@[simp] theorem isiI_int_str : isiI cs S [(.int i), .ty "str"] = some (.bl false) := by kernel_rfl
@[simp] theorem isiG_int_str : isiG S [(.int i), .ty "str"] = some (.bl false) := by kernel_rfl
@[simp] theorem isiI_int_tuple : isiI cs S [(.int i), .ty "tuple"] = some (.bl false) := by kernel_rfl
@[simp] theorem isiG_int_tuple : isiG S [(.int i), .ty "tuple"] = some (.bl false) := by kernel_rfl
@[simp] theorem isiI_int_list : isiI cs S [(.int i), .ty "list"] = some (.bl false) := by kernel_rfl
@[simp] theorem isiG_int_list : isiG S [(.int i), .ty "list"] = some (.bl false) := by kernel_rfl
@[simp] theorem isiI_int_int : isiI cs S [(.int i), .ty "int"] = some (.bl true) := by kernel_rfl
@[simp] theorem isiG_int_int : isiG S [(.int i), .ty "int"] = some (.bl true) := by kernel_rfl
@[simp] theorem isiI_int_bool : isiI cs S [(.int i), .ty "bool"] = some (.bl false) := by kernel_rfl
@[simp] theorem isiG_int_bool : isiG S [(.int i), .ty "bool"] = some (.bl false) := by kernel_rfl
@[simp] theorem isiI_int_dict : isiI cs S [(.int i), .ty "dict"] = some (.bl false) := by kernel_rfl
@[simp] theorem isiG_int_dict : isiG S [(.int i), .ty "dict"] = some (.bl false) := by kernel_rfl
@[simp] theorem isiI_int_lt : isiI cs S [(.int i), .tup [.ty "list", .ty "tuple"]] = some (.bl false) := by kernel_rfl
@[simp] theorem isiG_int_lt : isiG S [(.int i), .tup [.ty "list", .ty "tuple"]] = some (.bl false) := by kernel_rfl
@[simp] theorem isiI_str_str : isiI cs S [(.str s), .ty "str"] = some (.bl true) := by kernel_rfl
@[simp] theorem isiG_str_str : isiG S [(.str s), .ty "str"] = some (.bl true) := by kernel_rfl
@[simp] theorem isiI_str_tuple : isiI cs S [(.str s), .ty "tuple"] = some (.bl false) := by kernel_rfl
@[simp] theorem isiG_str_tuple : isiG S [(.str s), .ty "tuple"] = some (.bl false) := by kernel_rfl
@[simp] theorem isiI_str_list : isiI cs S [(.str s), .ty "list"] = some (.bl false) := by kernel_rfl
@[simp] theorem isiG_str_list : isiG S [(.str s), .ty "list"] = some (.bl false) := by kernel_rfl
@[simp] theorem isiI_str_int : isiI cs S [(.str s), .ty "int"] = some (.bl false) := by kernel_rfl
@[simp] theorem isiG_str_int : isiG S [(.str s), .ty "int"] = some (.bl false) := by kernel_rfl
@[simp] theorem isiI_str_bool : isiI cs S [(.str s), .ty "bool"] = some (.bl false) := by kernel_rfl
@[simp] theorem isiG_str_bool : isiG S [(.str s), .ty "bool"] = some (.bl false) := by kernel_rfl
@[simp] theorem isiI_str_dict : isiI cs S [(.str s), .ty "dict"] = some (.bl false) := by kernel_rfl
@[simp] theorem isiG_str_dict : isiG S [(.str s), .ty "dict"] = some (.bl false) := by kernel_rfl
@[simp] theorem isiI_str_lt : isiI cs S [(.str s), .tup [.ty "list", .ty "tuple"]] = some (.bl false) := by kernel_rfl
@[simp] theorem isiG_str_lt : isiG S [(.str s), .tup [.ty "list", .ty "tuple"]] = some (.bl false) := by kernel_rfl
@[simp] theorem isiI_tup_str : isiI cs S [(.tup xs), .ty "str"] = some (.bl false) := by kernel_rfl
@[simp] theorem isiG_tup_str : isiG S [(.tup xs), .ty "str"] = some (.bl false) := by kernel_rfl
@[simp] theorem isiI_tup_tuple : isiI cs S [(.tup xs), .ty "tuple"] = some (.bl true) := by kernel_rfl
@[simp] theorem isiG_tup_tuple : isiG S [(.tup xs), .ty "tuple"] = some (.bl true) := by kernel_rfl
@[simp] theorem isiI_tup_list : isiI cs S [(.tup xs), .ty "list"] = some (.bl false) := by kernel_rfl
@[simp] theorem isiG_tup_list : isiG S [(.tup xs), .ty "list"] = some (.bl false) := by kernel_rfl
@[simp] theorem isiI_tup_int : isiI cs S [(.tup xs), .ty "int"] = some (.bl false) := by kernel_rfl
@[simp] theorem isiG_tup_int : isiG S [(.tup xs), .ty "int"] = some (.bl false) := by kernel_rfl
@[simp] theorem isiI_tup_bool : isiI cs S [(.tup xs), .ty "bool"] = some (.bl false) := by kernel_rfl
@[simp] theorem isiG_tup_bool : isiG S [(.tup xs), .ty "bool"] = some (.bl false) := by kernel_rfl
@[simp] theorem isiI_tup_dict : isiI cs S [(.tup xs), .ty "dict"] = some (.bl false) := by kernel_rfl
@[simp] theorem isiG_tup_dict : isiG S [(.tup xs), .ty "dict"] = some (.bl false) := by kernel_rfl
@[simp] theorem isiI_tup_lt : isiI cs S [(.tup xs), .tup [.ty "list", .ty "tuple"]] = some (.bl true) := by kernel_rfl
@[simp] theorem isiG_tup_lt : isiG S [(.tup xs), .tup [.ty "list", .ty "tuple"]] = some (.bl true) := by kernel_rfl
@[simp] theorem isiI_lst_str : isiI cs S [(.lst xs), .ty "str"] = some (.bl false) := by kernel_rfl
@[simp] theorem isiG_lst_str : isiG S [(.lst xs), .ty "str"] = some (.bl false) := by kernel_rfl
@[simp] theorem isiI_lst_tuple : isiI cs S [(.lst xs), .ty "tuple"] = some (.bl false) := by kernel_rfl
@[simp] theorem isiG_lst_tuple : isiG S [(.lst xs), .ty "tuple"] = some (.bl false) := by kernel_rfl
@[simp] theorem isiI_lst_list : isiI cs S [(.lst xs), .ty "list"] = some (.bl true) := by kernel_rfl
@[simp] theorem isiG_lst_list : isiG S [(.lst xs), .ty "list"] = some (.bl true) := by kernel_rfl
@[simp] theorem isiI_lst_int : isiI cs S [(.lst xs), .ty "int"] = some (.bl false) := by kernel_rfl
@[simp] theorem isiG_lst_int : isiG S [(.lst xs), .ty "int"] = some (.bl false) := by kernel_rfl
@[simp] theorem isiI_lst_bool : isiI cs S [(.lst xs), .ty "bool"] = some (.bl false) := by kernel_rfl
@[simp] theorem isiG_lst_bool : isiG S [(.lst xs), .ty "bool"] = some (.bl false) := by kernel_rfl
@[simp] theorem isiI_lst_dict : isiI cs S [(.lst xs), .ty "dict"] = some (.bl false) := by kernel_rfl
@[simp] theorem isiG_lst_dict : isiG S [(.lst xs), .ty "dict"] = some (.bl false) := by kernel_rfl
@[simp] theorem isiI_lst_lt : isiI cs S [(.lst xs), .tup [.ty "list", .ty "tuple"]] = some (.bl true) := by kernel_rfl
@[simp] theorem isiG_lst_lt : isiG S [(.lst xs), .tup [.ty "list", .ty "tuple"]] = some (.bl true) := by kernel_rfl
@[simp] theorem isiI_fz_str : isiI cs S [(.fz xs), .ty "str"] = some (.bl false) := by kernel_rfl
@[simp] theorem isiG_fz_str : isiG S [(.fz xs), .ty "str"] = some (.bl false) := by kernel_rfl
@[simp] theorem isiI_fz_tuple : isiI cs S [(.fz xs), .ty "tuple"] = some (.bl false) := by kernel_rfl
@[simp] theorem isiG_fz_tuple : isiG S [(.fz xs), .ty "tuple"] = some (.bl false) := by kernel_rfl
@[simp] theorem isiI_fz_list : isiI cs S [(.fz xs), .ty "list"] = some (.bl true) := by kernel_rfl
@[simp] theorem isiG_fz_list : isiG S [(.fz xs), .ty "list"] = some (.bl true) := by kernel_rfl
@[simp] theorem isiI_fz_int : isiI cs S [(.fz xs), .ty "int"] = some (.bl false) := by kernel_rfl
@[simp] theorem isiG_fz_int : isiG S [(.fz xs), .ty "int"] = some (.bl false) := by kernel_rfl
@[simp] theorem isiI_fz_bool : isiI cs S [(.fz xs), .ty "bool"] = some (.bl false) := by kernel_rfl
@[simp] theorem isiG_fz_bool : isiG S [(.fz xs), .ty "bool"] = some (.bl false) := by kernel_rfl
@[simp] theorem isiI_fz_dict : isiI cs S [(.fz xs), .ty "dict"] = some (.bl false) := by kernel_rfl
@[simp] theorem isiG_fz_dict : isiG S [(.fz xs), .ty "dict"] = some (.bl false) := by kernel_rfl
@[simp] theorem isiI_fz_lt : isiI cs S [(.fz xs), .tup [.ty "list", .ty "tuple"]] = some (.bl true) := by kernel_rfl
@[simp] theorem isiG_fz_lt : isiG S [(.fz xs), .tup [.ty "list", .ty "tuple"]] = some (.bl true) := by kernel_rfl
@[simp] theorem isiI_dct0_str : isiI cs S [(.dct []), .ty "str"] = some (.bl false) := by kernel_rfl
@[simp] theorem isiG_dct0_str : isiG S [(.dct []), .ty "str"] = some (.bl false) := by kernel_rfl
@[simp] theorem isiI_dct0_tuple : isiI cs S [(.dct []), .ty "tuple"] = some (.bl false) := by kernel_rfl
@[simp] theorem isiG_dct0_tuple : isiG S [(.dct []), .ty "tuple"] = some (.bl false) := by kernel_rfl
@[simp] theorem isiI_dct0_list : isiI cs S [(.dct []), .ty "list"] = some (.bl false) := by kernel_rfl
@[simp] theorem isiG_dct0_list : isiG S [(.dct []), .ty "list"] = some (.bl false) := by kernel_rfl
@[simp] theorem isiI_dct0_int : isiI cs S [(.dct []), .ty "int"] = some (.bl false) := by kernel_rfl
@[simp] theorem isiG_dct0_int : isiG S [(.dct []), .ty "int"] = some (.bl false) := by kernel_rfl
@[simp] theorem isiI_dct0_bool : isiI cs S [(.dct []), .ty "bool"] = some (.bl false) := by kernel_rfl
@[simp] theorem isiG_dct0_bool : isiG S [(.dct []), .ty "bool"] = some (.bl false) := by kernel_rfl
@[simp] theorem isiI_dct0_dict : isiI cs S [(.dct []), .ty "dict"] = some (.bl true) := by kernel_rfl
@[simp] theorem isiG_dct0_dict : isiG S [(.dct []), .ty "dict"] = some (.bl true) := by kernel_rfl
@[simp] theorem isiI_dct0_lt : isiI cs S [(.dct []), .tup [.ty "list", .ty "tuple"]] = some (.bl false) := by kernel_rfl
@[simp] theorem isiG_dct0_lt : isiG S [(.dct []), .tup [.ty "list", .ty "tuple"]] = some (.bl false) := by kernel_rfl
end
end DL
/-! DL33: methods of texts (split, join, upper), f-strings. -/
namespace DL
open PySem L2
structure MthD (U : Uv) (X : Cx) (id : String) (g : Sto → Str → List D → Option D) : Prop where
  ex : ∃ r, MtR X id r ∧ ∀ M S H z xs ds d Q, R U M S H → RepAll U M H xs ds → g S z ds = some d → Gives U M S H d Q → r (.str z) xs H Q
def mStrM (g : Sto → Str → List D → Option D) (mo : ME) (ms : MA) : ME := fun ρ S => (mo ρ S).bind fun x S1 => match x with
  | .str z => (ms ρ S1).bind fun xs S2 => ofO (g S2 z xs) S2
  | _ => .stuck
def strsD : List D → Option (List Str)
  | [] => some []
  | .str b :: r => (strsD r).map (b :: ·)
  | _ => none
def splitG (_ : Sto) (z : Str) (ds : List D) : Option D := match ds with
  | [.str b] => if (b.length == 0) = false ∧ z.length + 2 ≤ lim then some (.lst ((Txt.split z b).map .str)) else none
  | _ => none
def joinG (S : Sto) (z : Str) (ds : List D) : Option D := match ds with
  | [d] => (seqD S d).bind fun xs => (strsD xs).bind fun ys => if (ys.map (·.length)).sum + ys.length * z.length ≤ 16777216 then some (.str (Txt.join z ys)) else none
  | _ => none
section
variable {U : Uv} {M : Mp} {H : Hp} {S : Sto}
theorem RepAll.strs : ∀ {vs : List V} {ds : List D} {bs : List Str}, RepAll U M H vs ds → strsD ds = some bs → vs = bs.map V.str
  | _, _, _, .nil, e => by cases e; rfl
  | _, d :: ds, bs, .cons h r, e => by
    cases h with
    | str b =>
      simp only [strsD] at e
      cases q : strsD ds with
      | none => rw [q] at e; cases e
      | some cs =>
        rw [q] at e
        cases e
        rw [RepAll.strs r q]
        rfl
    | _ => simp [strsD] at e
theorem RepAll.ofStrs : ∀ ys : List Str, RepAll U M H (ys.map V.str) (ys.map D.str)
  | [] => .nil
  | y :: ys => .cons (.str y) (RepAll.ofStrs ys)
end
section
variable {X : Cx} {U : Uv} {W : WX} {o e : Expr} {es : List Expr} {mo : ME} {ms : MA} {name : Str} {id : String} {g : Sto → Str → List D → Option D} {apos cpos : Pos}
theorem m_split : MthD U X "str.split" splitG := ⟨_, mt_split, fun M S H z xs ds d Q r ra e gv => by
  unfold splitG at e
  split at e
  · rename_i b
    by_cases h : (b.length == 0) = false ∧ z.length + 2 ≤ lim
    · rw [if_pos h] at e
      cases e
      obtain ⟨v, rfl, hv⟩ := ra.one
      cases hv
      exact ⟨z, b, rfl, rfl, h.1, lim_line h.2, fun p hp => gv.lst r (RepAll.ofStrs _) hp⟩
    · rw [if_neg h] at e; cases e
  · cases e⟩
theorem join_post (hK : X.K = U.K) {M : Mp} {S : Sto} {H : Hp} {z : Str} {xs : List V} {ds : List D} {d : D} {Q : VK} (r : R U M S H) (ra : RepAll U M H xs ds) (e : joinG S z ds = some d) (gv : Gives U M S H d Q) :
    ∃ a p, ∃ ys : List Str, V.str z = .str a ∧ xs = [.ref p] ∧ (SqL X.K H p (ys.map V.str) ∨ SqT X.K H p (ys.map V.str)) ∧ (ys.map (·.length)).sum + ys.length * a.length ≤ 16777216 ∧ Q (.str (Txt.join a ys)) H := by
  unfold joinG at e
  split at e
  · rename_i d0
    cases q : seqD S d0 with
    | none => rw [q] at e; cases e
    | some xs0 =>
      rw [q] at e
      simp only [Option.bind_some] at e
      cases q2 : strsD xs0 with
      | none => rw [q2] at e; cases e
      | some ys =>
        rw [q2] at e
        simp only [Option.bind_some] at e
        by_cases h : (ys.map (·.length)).sum + ys.length * z.length ≤ 16777216
        · rw [if_pos h] at e
          cases e
          obtain ⟨v, rfl, hv⟩ := ra.one
          obtain ⟨a, us, rfl, hs, rb⟩ := hv.seq r q
          have eu := rb.strs q2
          subst eu
          exact ⟨z, a, ys, rfl, rfl, by rw [hK]; exact hs.symm, h, gv.here r (.str _)⟩
        · rw [if_neg h] at e; cases e
  · cases e
theorem m_join (hK : X.K = U.K := by rfl) : MthD U X "str.join" joinG := ⟨_, mt_join, fun M S H z xs ds d Q r ra e gv => join_post hK r ra e gv⟩
theorem e_strM (hm : MthD U X id g) (slot : Slot "str" name id) (hty : typeOf (.builtin id) = pure (.type "method_descriptor")) (ho : PE X o (tE U W mo)) (ha : PA X (e :: es) (tA U W ms))
    (hbase : attributeBase o name X.env (eval o X.env) = eval o X.env := by rfl)
    (hfew : ((backTo cpos (starEach (e :: es) X.env)).all (fun x => !x.1) && (backToKw cpos (keywordEach [] X.env)).all (fun x => x.1.isSome)
      && decide ((e :: es).length + ([] : List Keyword).length + (if ([] : List Keyword).isEmpty then 0 else 1) < 30)) = true := by rfl)
    (hline : (apos.endLine == cpos.line) = true := by rfl) (hs : starEach (e :: es) X.env = (false, eval e X.env) :: starEach es X.env := by rfl) (hplain : (backTo cpos (starEach es X.env)).any (·.1) = false := by rfl) :
    PE X (.Call (.Attribute o name apos) (e :: es) [] cpos) (tE U W (mStrM g mo ms)) := by
  obtain ⟨r, h1, h2⟩ := hm.ex
  exact pe_imp (pe_bm F.plainAttrs_str slot hty h1 ho ha hbase hfew hline hs hplain) fun σ H Q ⟨M, S, ρ, A, p⟩ => tX.bind A p fun x S1 M1 H1 v e1 A1 r1 p1 => by
    cases x with
    | str z =>
      cases r1
      exact ⟨rfl, tX.bind A1 p1 fun ds S2 M2 H2 vs e2 A2 ra p2 => by
        obtain ⟨d, ed, q⟩ := ofO_post p2
        exact h2 M2 S2 H2 z vs ds d Q A2.r ra ed q⟩
    | _ => exact p1.elim
theorem e_split (ho : PE X o (tE U W mo)) (ha : PA X (e :: es) (tA U W ms))
    (hbase : attributeBase o "split" X.env (eval o X.env) = eval o X.env := by rfl)
    (hfew : ((backTo cpos (starEach (e :: es) X.env)).all (fun x => !x.1) && (backToKw cpos (keywordEach [] X.env)).all (fun x => x.1.isSome)
      && decide ((e :: es).length + ([] : List Keyword).length + (if ([] : List Keyword).isEmpty then 0 else 1) < 30)) = true := by rfl)
    (hline : (apos.endLine == cpos.line) = true := by rfl) (hs : starEach (e :: es) X.env = (false, eval e X.env) :: starEach es X.env := by rfl) (hplain : (backTo cpos (starEach es X.env)).any (·.1) = false := by rfl) :
    PE X (.Call (.Attribute o "split" apos) (e :: es) [] cpos) (tE U W (mStrM splitG mo ms)) := e_strM m_split F.slot_str_split F.type_str_split ho ha hbase hfew hline hs hplain
theorem e_join (ho : PE X o (tE U W mo)) (ha : PA X (e :: es) (tA U W ms)) (hK : X.K = U.K := by rfl)
    (hbase : attributeBase o "join" X.env (eval o X.env) = eval o X.env := by rfl)
    (hfew : ((backTo cpos (starEach (e :: es) X.env)).all (fun x => !x.1) && (backToKw cpos (keywordEach [] X.env)).all (fun x => x.1.isSome)
      && decide ((e :: es).length + ([] : List Keyword).length + (if ([] : List Keyword).isEmpty then 0 else 1) < 30)) = true := by rfl)
    (hline : (apos.endLine == cpos.line) = true := by rfl) (hs : starEach (e :: es) X.env = (false, eval e X.env) :: starEach es X.env := by rfl) (hplain : (backTo cpos (starEach es X.env)).any (·.1) = false := by rfl) :
    PE X (.Call (.Attribute o "join" apos) (e :: es) [] cpos) (tE U W (mStrM joinG mo ms)) := e_strM (m_join hK) F.slot_str_join F.type_str_join ho ha hbase hfew hline hs hplain
end
/-! ### f-strings -/
def fmtD : D → Option Str
  | .str y => if y.length ≤ lim then some y else none
  | .int i => if i.natAbs.log2 < 1920 then some (toString i) else none
  | _ => none
def mFmt (m : ME) : ME := fun ρ S => (m ρ S).bind fun x S1 => ofO ((fmtD x).map D.str) S1
def fsL : List ME → Str → ME
  | [], acc => fun _ S => .ok (.str acc) S
  | m :: ms, acc => fun ρ S => (m ρ S).bind fun x S1 => match x with
    | .str y => if (acc ++ y).length ≤ lim then fsL ms (acc ++ y) ρ S1 else .stuck
    | _ => .stuck
def mFs (ms : List ME) : ME := fsL ms Str.empty
section
variable {X : Cx} {U : Uv} {W : WX} {e v1 v2 : Expr} {rest : List Expr} {m : ME} {pos : Pos}
theorem e_fmt (he : PE X e (tE U W m)) : PE X (.FormattedValue e (-1) none pos) (tE U W (mFmt m)) :=
  pe_imp (pe_fmt he) fun σ H Q ⟨M, S, ρ, A, p⟩ => tX.bind A p fun x S1 M1 H1 v e1 A1 r1 p1 => by
    obtain ⟨d, ed, q⟩ := ofO_post p1
    cases r1 with
    | str y =>
      simp only [fmtD] at ed
      by_cases h : y.length ≤ lim
      · rw [if_pos h] at ed
        cases ed
        exact .inl ⟨y, rfl, lim_line h, Gives.here q A1.r (.str _)⟩
      · rw [if_neg h] at ed; cases ed
    | int i =>
      simp only [fmtD] at ed
      by_cases h : i.natAbs.log2 < 1920
      · rw [if_pos h] at ed
        cases ed
        exact .inr ⟨i, rfl, h, Gives.here q A1.r (.str _)⟩
      · rw [if_neg h] at ed; cases ed
    | _ => cases ed
/-- the parts' judgements -/
def PJs (X : Cx) (U : Uv) (W : WX) (es : List Expr) (ms : List ME) : Prop := PJ X es (ms.map (tE U W))
theorem PJs.nil : PJs X U W [] [] := PJ.nil
theorem PJs.cons {es : List Expr} {ms : List ME} (h : PE X e (tE U W m)) (r : PJs X U W es ms) : PJs X U W (e :: es) (m :: ms) := PJ.cons h r
theorem fs_post : ∀ (ms : List ME) (acc : Str) {σ : St} {H : Hp} {Q : VK}, tE U W (fsL ms acc) σ H Q → tJs (ms.map (tE U W)) acc σ H fun out H1 => Q (.str out) H1
  | [], acc, σ, H, Q, ⟨M, S, ρ, A, p⟩ => p M H (.str acc) A.r.refl A.r (.str acc)
  | m :: ms, acc, σ, H, Q, ⟨M, S, ρ, A, p⟩ => tX.bind A p fun x S1 M1 H1 v e1 A1 r1 p1 => by
    cases x with
    | str y =>
      cases r1
      change PostX U (Rep U) M1 H1 σ W (if (acc ++ y).length ≤ lim then fsL ms (acc ++ y) ρ S1 else .stuck) _ at p1
      by_cases h : (acc ++ y).length ≤ lim
      · rw [if_pos h] at p1
        exact ⟨y, rfl, lim_line h, fs_post ms (acc ++ y) ⟨M1, S1, ρ, A1, p1⟩⟩
      · rw [if_neg h] at p1; exact p1.elim
    | _ => exact p1.elim
theorem e_joined {ms : List ME} (h : PJs X U W (v1 :: v2 :: rest) ms) : PE X (.JoinedStr (v1 :: v2 :: rest) pos) (tE U W (mFs ms)) :=
  pe_imp (pe_joined h) fun σ H Q p => fs_post ms Str.empty p
end
end DL
/-! DL34: first, *others = a list. -/
namespace DL
open PySem L2 PyProof.Rows
section
variable {prog : Program} {w : World} {A : Around} {E : Value → Shared → Prop} {s : Shared}
theorem walks_listiter {it l : Addr} {items : Array Value} {i0 : Nat} (hh : A.handled = none) (hne : it ≠ l) :
    WalksS prog w A it [it, l] [it] (fun a b => a = b) (items.size - i0) (fun i v => items[i0 + i]? = some v) (fun i s => i ≤ items.size - i0 ∧ s.heap.IsListIter it l (i0 + i) ∧ s.heap.IsList l items ∧ i0 ≤ items.size) where
  sub := by simp
  grefl := fun _ => rfl
  gtrans := fun _ _ _ => Eq.trans
  frame := fun i s h' tk ⟨hi, a, ⟨o, ho, r⟩, z⟩ _ k => ⟨hi, a.at (k it (by simp)), ⟨o, k l (by simp) o ho, r⟩, z⟩
  item := fun i s Q E hi ⟨_, a, b, z⟩ hQ => by
    have hx : items[i0 + i]? = some items[i0 + i] := Array.getElem?_eq_getElem (by omega)
    refine wpAny_pyNext_list_item a b hx fun h' a' sb => hQ _ _ hx ⟨hi, by rw [← Nat.add_assoc]; exact a', b.extBut sb.extBut (Ne.symm hne), z⟩ ⟨fun b o hb e => sb.extBut b o (by simpa using hb) e, rfl, rfl, rfl, Nat.le_refl _⟩
  done := fun s Q E ⟨_, a, b, z⟩ hQ => by
    have hx : items[i0 + (items.size - i0)]? = none := Array.getElem?_eq_none (by omega)
    exact wpAny_pyNext_list_end hh a b hx fun h' eb => hQ _ ⟨fun b o hb e => eb b o (by simpa using hb) e, rfl, rfl, rfl, Nat.le_refl _⟩
  self := fun i s Q E ⟨_, a, _⟩ h => wpAny_pyIter_listiter a h
theorem items_drop {P : Nat → Value → Prop} {acc items : Array Value} {i0 : Nat} (hP : ∀ i v, P i v → items[i0 + i]? = some v) (h : ItemsOf P acc (items.size - i0)) : acc.toList = items.toList.drop i0 := by
  obtain ⟨h1, h2⟩ := h
  refine List.ext_getElem? fun j => ?_
  rw [List.getElem?_drop, Array.getElem?_toList, Array.getElem?_toList]
  cases q : acc[j]? with
  | some v => exact (hP _ _ (h2 j v q)).symm
  | none =>
    have := Array.getElem?_eq_none_iff.mp q
    exact (Array.getElem?_eq_none (by omega)).symm
theorem unpack_star1 {l : Addr} {items : Array Value} {x0 : Value} {rest : List Value} {Q : List Value → Shared → Prop} (hh : A.handled = none) (hl : s.heap.IsList l items) (h0 : items.toList = x0 :: rest) (hsz : items.size ≤ sizeLine)
    (hQ : ∀ s' : Shared, (∀ b o, s.heap.get? b = some o → s'.heap.get? b = some o) → s'.gens = s.gens → s'.drawn = s.drawn → s'.os = s.os →
      Q [x0, .ref s'.heap.objs.size] { s' with heap := s'.heap.push { cls := .type "list", data := .seq rest.toArray } }) :
    wpAny (model prog w) A (unpackItems (.ref l) 2 (some 1)) Q E s := by
  have hlt : l ≠ s.heap.objs.size := by obtain ⟨o, ho, _⟩ := hl; exact Nat.ne_of_lt (Heap.lt_size ho)
  have hx0 : items[0]? = some x0 := by rw [← Array.getElem?_toList, h0]; rfl
  have hsize : items.size = rest.length + 1 := by rw [← Array.length_toList, h0]; rfl
  unfold unpackItems
  refine wpAny_bind ?_
  unfold notIterableAtAll
  refine wpAny_bind (wpAny_specialOf hl.typeIs slot_list_iter.lookup ?_)
  refine wpAny_pure ?_
  simp only [Bool.false_eq_true, if_false]
  refine wpAny_bind (wpAny_holding (wpAny_pyIter_list hl ?_))
  have hl1 : (s.heap.push { cls := .type "list_iterator", data := .fields #[.ref l, .int 0 0] }).IsList l items := by
    obtain ⟨o, ho, r⟩ := hl
    exact ⟨o, Heap.get?_push_of_some _ ho, r⟩
  refine wpAny_bind (wpAny_holding ?_)
  show wpAny _ _ (pyNext (.ref s.heap.objs.size) >>= _) _ _ _
  refine wpAny_bind (wpAny_pyNext_list_item (i := 0) ⟨_, Heap.get?_push_size _ rfl, rfl, rfl⟩ hl1 hx0 fun h1 it1 sb1 => ?_)
  refine wpAny_bind (wpAny_holding ?_)
  refine wpAny_pure (wpAny_pure ?_)
  rw [if_neg (by simp)]
  have hl2 : h1.IsList l items := hl1.extBut sb1.extBut hlt
  refine wpAny_bind (wpAny_holding (wpAny_collect_iter (n := items.size - 1) (.inr (.inr (.inl rfl))) (walks_listiter (A := A.in1) (items := items) (i0 := 1) hh hlt.symm) (fun i s ⟨_, a, _⟩ => a.typeIs) ⟨Nat.zero_le _, it1, hl2, by omega⟩ ?_ (by simp) (fun s' acc mv ia => ?_) (by omega)))
  · intro b hb
    simp only [List.mem_cons, List.not_mem_nil, or_false] at hb
    rcases hb with rfl | rfl
    · obtain ⟨o, ho, _⟩ := it1
      exact Heap.lt_size ho
    · obtain ⟨o, ho, _⟩ := hl2
      exact Heap.lt_size ho
  · have ea : acc.toList = rest := by
      rw [items_drop (i0 := 1) (fun _ _ h => h) ia, h0]; rfl
    have k : ∀ b o, s.heap.get? b = some o → s'.heap.get? b = some o := fun b o hb => by
      have hb2 : b ≠ s.heap.objs.size := Nat.ne_of_lt (Heap.lt_size hb)
      exact mv.heap b o (by simpa using hb2) (sb1.extBut b o hb2 (Heap.get?_push_of_some _ hb))
    have := hQ s' k mv.gens.symm mv.drawn mv.os
    rw [ea]
    simp only [Nat.sub_self, Nat.reduceSub, Nat.not_lt_zero, if_false, Nat.sub_zero, List.take_length, List.drop_length]
    refine wpAny_bind (wpAny_newList ?_ (by omega))
    exact wpAny_pure (by simpa using this)
end
section
variable {X : Cx} {pos : Pos}
/-- (a, *b) = a list -/
def gStar (K : PySem.W.Frag) (t : TGs) : TG := fun v σ H Q => ∃ a x xs, v = .ref a ∧ SqL K H a (x :: xs) ∧ ∀ p, H p = none → t [x, .ref p] σ (upd H p (.lst xs)) Q
theorem pgs_star {t2 : Expr} {p : Pos} {g : TG} (h : PG X t2 g) (hs : (assignEach [.Starred t2 p] X.env).map (·.2) = [assign t2 X.env] := by rfl) : PGs X [.Starred t2 p] (gCons g gNil) := by
  refine ⟨fun pins s σ H vs us Q I r hw => ?_⟩
  obtain ⟨v, vr, e1, hw⟩ := hw
  subst e1
  cases r with
  | cons r rr =>
    rw [hs]
    refine assignInOrder_cons (thn (h.run pins s σ H _ _ _ I r hw) fun _ s1 ⟨σ1, H1, I1, e2, q1⟩ => ?_)
    subst e2
    cases rr
    exact assignInOrder_nil ⟨σ1, H1, I1, q1⟩
theorem pg_star {es : List Expr} {k : Nat} {t : TGs} (hc : X.calm = true) (h : PGs X es t)
    (hn : (assignEach es X.env).length = 2 := by rfl) (hst : (assignEach es X.env).findIdx? (·.1) = some 1 := by rfl) : PG X (.Tuple es k pos) (gStar X.K t) := by
  refine ⟨fun pins s σ H v u Q I r hw => ?_⟩
  obtain ⟨a, x, xs, e1, hq, hw⟩ := hw
  subst e1
  cases r
  obtain ⟨its, rv, pl, hz⟩ := I.list hq
  cases rv with
  | @cons _ u0 _ us rx rr =>
  have hl : s.heap.IsList a (u0 :: us).toArray := by
    obtain ⟨o, n, ho, hcl, _, hd⟩ := pl
    exact ⟨o, ho, hcl, n, hd⟩
  have hlen := rr.length
  rw [List.length_cons] at hz
  rw [assign_Tuple]
  refine wpAny_bind (wpAny_standAt ?_)
  unfold unpack
  rw [hn, hst]
  refine wpAny_bind (wpAny_holding (unpack_star1 (I.ok.hd hc) hl rfl (by simp only [List.size_toArray, List.length_cons]; omega) fun s' kk g d oo => ?_))
  have es' : s' = { s with heap := s'.heap, toks := s'.toks } := by
    cases s'
    cases s
    simp only at g d oo
    subst g d oo
    rfl
  have I0 : Inv X pins σ H s' := by
    rw [es']
    exact I.kept kk
  have I1 : Inv X pins σ (upd H s'.heap.objs.size (.lst xs)) { s' with heap := s'.heap.push { cls := .type "list", data := .seq us.toArray } } :=
    I0.laid (t' := s'.toks) (fun b u q => Heap.get?_push_of_some _ q) (Nat.le_refl _) ⟨by omega, us, _, rr, Heap.get?_push_size _ rfl⟩
  have rp : RelV (V.ref s'.heap.objs.size) (Value.ref s'.heap.objs.size) := rfl
  exact h.run pins _ σ _ _ _ Q I1 (.cons rx (.cons rp .nil)) (hw _ (I0.hok.fresh (Nat.le_refl _)))
end
/-- x, *y = a list -/
def sStar (i j : Nat) (m : ME) : MS := fun ρ S => .of (m ρ S) ρ fun d S1 => match d with
  | .lst (x :: xs) => .nx ((ρ.set i (some x)).set j (some (.lst xs))) S1
  | _ => .stuck
section
variable {X : Cx} {U : Uv} {W : WX} {e : Expr} {m : ME} {pos : Pos}
theorem s_star (i j : Nat) {x y : Str} {px py pz pt : Pos} {kt : Nat} (hN : X.N.Nodup) (he : PE X e (tE U W m)) (hc : X.calm = true := by rfl) (hi : X.N[i]? = some x := by rfl) (hj : X.N[j]? = some y := by rfl)
    (hx : Loc X.env.scope x := by first | exact Or.inl rfl | exact Or.inr rfl) (hy : Loc X.env.scope y := by first | exact Or.inl rfl | exact Or.inr rfl)
    (hfx : X.fn x = true ∨ X.env.scope.names.lookup x = some .local := by first | exact .inl rfl | exact .inr rfl | assumption) (hfy : X.fn y = true ∨ X.env.scope.names.lookup y = some .local := by first | exact .inl rfl | exact .inr rfl | assumption)
    (hs : swapsWithSole [.Tuple [.Name x px, .Starred (.Name y py) pz] kt pt] e pos.line X.env = pure false := by rfl) (hw : swappedStores [.Tuple [.Name x px, .Starred (.Name y py) pz] kt pt] e X.env = pure none := by rfl)
    (h1 : (assignEach [.Tuple [.Name x px, .Starred (.Name y py) pz] kt pt] X.env).map (·.2) = [assign (.Tuple [.Name x px, .Starred (.Name y py) pz] kt pt) X.env] := by rfl)
    (hn : Nf U i := by exact fun _ h => absurd h List.not_mem_nil) (hn2 : Nf U j := by exact fun _ h => absurd h List.not_mem_nil) (hK : X.K = U.K := by rfl) :
    PS X (.Assign [.Tuple [.Name x px, .Starred (.Name y py) pz] kt pt] e pos) (tS U W (sStar i j m)) :=
  ps_imp (ps_asg he (pg_star hc (pgs_cons (pg_name hN hi hx hfx) (pgs_star (pg_name hN hj hy hfy)))) hs hw h1) fun Dn σ H ⟨M, S, ρ, A, p⟩ => tX.ofS A p fun d S1 M1 H1 v e1 A1 r1 p1 => by
    cases r1 with
    | lst ht ra =>
      cases ra with
      | nil => exact p1.elim
      | cons rx rr =>
        rw [← hK] at *
        refine ⟨_, _, _, rfl, ht.sq, fun p hp => ⟨_, _, rfl, _, _, rfl, rfl, ?_⟩⟩
        have hE : ∀ {o : HO}, Ext M1 H1 M1 (upd H1 p o) := fun {o} => A1.r.extNew hp
        have hR : ∀ {o : HO}, R U M1 S1 (upd H1 p o) := fun {o} => A1.r.new hp
        exact p1 M1 _ _ hE (((A1.ext hE hR).set (rx.ext hE) hn).set (Rep.newLst A1.r hp rr) hn2)
    | _ => exact p1.elim
end
end DL
/-! DL35: exceptions with a field: raised, read in their suite. -/
namespace DL
open PySem PySem.Spec PyProof.Rows L2
section
variable {X : Cx} {e : Expr} {es : List Expr} {ta : TA} {p1 p2 p pos : Pos}
/-- Base.__init__(self, ..), Base an own class over ValueError without own __init__ -/
theorem pe_seinit {pl : Sem Bool} {x : Str} {B : Addr} (hg : Gl X x) (hm : X.mg x = some (.ref B)) (rd : PySem.W.readsIn X.K B (.type "type") = true) (ga : PySem.W.specialIn X.K (.ref B) "__getattribute__" = some (some (.builtin "type.__getattribute__")))
    (fc : PySem.W.findCls X.K (.ref B) (.type "type") "__init__" = some (.val (.builtin "ValueError.__init__"))) (ha : PA X (e :: es) ta) (hdb : (x == ("__debug__" : Str)) = false := by decide)
    (hc : eval (.Call (.Attribute (.Name x p1) "__init__" p2) (e :: es) [] pos) X.env = (do let ov ← eval (.Name x p1) X.env; standAt p2.atName; let (f, first) ← holding [ov] (getMethod ov "__init__" pl); callWith pos f first (backTo pos (starEach (e :: es) X.env)) (backToKw pos (keywordEach [] X.env))) := by rfl)
    (hs : starEach (e :: es) X.env = (false, eval e X.env) :: starEach es X.env := by rfl) (hp : (backTo pos (starEach es X.env)).any (·.1) = false := by rfl) :
    PE X (.Call (.Attribute (.Name x p1) "__init__" p2) (e :: es) [] pos) (tVeI X.K ta) := ⟨fun pins s σ H Q I h => by
  refine PySem.W.methodCall_KW (ld_glob I hg hm ?_ hdb) hc
  refine PySem.W.method_cls I.kIn ga (PySem.W.cls_value I.kIn rd fc (by rfl) ?_)
  refine PyProof.Rows.callWith_method1 (thn (ha.run pos pins _ σ H _ (I.tok _) h) fun us s1 ⟨vs, H1, I1, r1, a, C, ws, ev, hl, T, ea, q⟩ => ?_) hs hp
  cases ev
  cases r1 with
  | @cons _ u9 _ ur ra rb =>
    have e9 : u9 = Value.ref a := ra
    rw [e9]
    refine oinit_ok T I1 ea ?_ fun s2 J => ⟨.non, H1, J, rfl, q⟩
    have := Paired.length rb
    rw [sizeLine_eq]
    omega⟩
theorem mkN_end {pins : List (Addr × Obj)} {σ : L2.St} {H1 H2 : Hp} {Q : XK} {ha hb h2 : Heap} {g1 g2 : Array GenState} {d1 d2 : Drawn} {t1 t2 : Nat} {o1 o2 : OsState} {a C d : Addr} {fs : List (Str × V)} (T : Raises X (.ref C)) (I1 : Inv X pins σ H1 ⟨ha, g1, d1, t1, o1⟩)
    (z : ha.objs.size ≤ a) (k : ∀ b o, ha.get? b = some o → hb.get? b = some o) (un : Un (frs X.stack) [] (upd H1 a (exo a C none)) H2 hb h2) (ok : HOk X.prog X.w H2 h2) (ho : o2 = o1) (bare : AllBare g2)
    (ea : H2 a = some (exo a C (some d))) (ed : H2 d = some (exd d fs)) (hd1 : H1 d = none) (q : Q (.ref C) (some d) (upd (del H2 a) d (.xd fs))) : L2N.MkP X pins σ Q (.ref a) ⟨h2, g2, d2, t2, o2⟩ := by
  obtain ⟨t9, G9, J9, k9, e9, z9, n9⟩ := mk_end0 (d2 := d2) (t2 := t2) I1 z k un ok ho bare ea ed hd1
  exact ⟨a, _, _, ⟨G9, g2, d2, t2, o2⟩, _, .ref C, some d, rfl, J9, k9, e9, z9, ⟨rfl, rfl, fun vs e => by cases e; rfl⟩, rfl, rfl, n9, rfl, bare, T, q⟩
/-- C(e, ..), C's own __init__ keeping sp -/
theorem pmkN {x : Str} {C fI : Addr} {k : Nat} {fd : FuncData} {ps : List Str} {sp : Sp} (T : OexC X.K C) (iC : PySem.W.findIn X.K (.ref C) "__init__" = some (some (.ref fI))) (tI : PySem.W.typeIn X.K (.ref fI) = some (.type "function"))
    (F1 : FnOk X.prog X.w X.K X.mg X.base (L2N.CX X.prog X.w) k fI fd ps sp) (hr : Room (k + 1) X.A) (hb : Binds X.K fd ps []) (hx : Passes (L2N.CX X.prog X.w) X (fun _ _ _ => False)) (hg : Gl X x) (hm : X.mg x = some (.ref C)) (ha : PA X (e :: es) ta)
    (hdb : (x == ("__debug__" : Str)) = false := by decide) (hs : starEach (e :: es) X.env = (false, eval e X.env) :: starEach es X.env := by rfl) (hp : (backTo pos (starEach es X.env)).any (·.1) = false := by rfl) :
    L2N.PMk X (.Call (.Name x p) (e :: es) [] pos) (tMkO C sp [] ta) := fun pins s σ H Q I h => by
  obtain ⟨nm, q, N, bs, bm, sn, sub, ab, col, dd, k0, k1, k2, k3, k5, hC, hbm⟩ := T.cls
  refine wpAny_Call_Name_kw (ld_glob I hg hm (PySem.W.callWith_K (h₀ := X.base) I.ok.mod.kin T.kC (thn (ha.run pos pins s σ H _ I h) fun us s1 ⟨vs, H1, I1, r1, hz, q1⟩ => ⟨I1.kIn, ?_⟩) hs hp) hdb)
  show wpAny _ _ (call (.ref C) us) _ _ _
  obtain ⟨h0, g, dr, tk, ox⟩ := s1
  have z : h0.objs.size ≤ h0.objs.size + 1 := Nat.le_succ _
  have hn : H1 (h0.objs.size + 1) = none := I1.hok.fresh z
  have q2 := q1 (h0.objs.size + 1) hn
  rw [List.append_nil] at q2
  have kk : ∀ b o, h0.get? b = some o → ((h0.push (PySem.W.kdv_tup us)).push (PySem.HandSPX.excO C h0.objs.size)).get? b = some o := fun b o e => Heap.get?_push_of_some _ (Heap.get?_push_of_some _ e)
  have gg : ((h0.push (PySem.W.kdv_tup us)).push (PySem.HandSPX.excO C h0.objs.size)).get? (h0.objs.size + 1) = some (PySem.HandSPX.excO C h0.objs.size) := by heap_get
  have I2 := I1.laid (t' := tk) (a := h0.objs.size + 1) (o := exo (h0.objs.size + 1) C none) (h' := (h0.push (PySem.W.kdv_tup us)).push (PySem.HandSPX.excO C h0.objs.size)) kk z (exo_ok gg)
  have r2 : Vals (V.ref (h0.objs.size + 1) :: vs) (Value.ref (h0.objs.size + 1) :: us) := .cons rfl r1
  have hl : (Value.ref (h0.objs.size + 1) :: us).length = ps.length := r2.length.symm.trans (F1.len _ _ _ _ q2)
  have hus : us.length ≤ sizeLine := by
    have := Paired.length r1
    rw [sizeLine_eq]
    omega
  have hb2 := hb _ (Value.ref (h0.objs.size + 1) :: us) I2.kIn (by simpa using hl)
  rw [List.append_nil] at hb2
  refine wpAny_call (PySem.HandSPX.call_own F.excBase_ValueError (fun Y => PySem.HandSPX.refsVE_contains Y bm hbm) (I1.kIn _ _ hC) (PySem.W.looks_findIn I1.kIn iC) (fun self => PySem.W.bind_fn I1.kIn self tI) hus (codeAny_mono (F1.run _ X.stack _ _ ⟨Value.ref (h0.objs.size + 1) :: us, []⟩ (Value.ref (h0.objs.size + 1) :: us) _ _ (fun _ _ _ => False) (hr.make C us []) (I2.env0.make C us []) hb2 r2 q2) fun r s9 q9 => ?_))
  match r, q9 with
  | .error er, q9 => exact hx pins σ _ _ er s9 I2 q9
  | .ok (.ret u), ⟨v, H2, os2, bare2, un2, ok2, rv, ev, d, fs, ea, ed, hd1, q3⟩ =>
    subst ev
    obtain ⟨h2, g2, d2, t2, o2⟩ := s9
    exact ⟨rv, mkN_end (raises_own T.exC T.tyC) I1 z kk un2 ok2 os2 bare2 ea ed hd1 q3⟩
end
/-! ### an __init__ that keeps its one argument -/
/-- what it does to the exception -/
def spX1 (K : PySem.W.Frag) (f : Str) : Sp := fun vs H Q _ => ∃ (a C : Addr) (v : V), vs = [.ref a, v] ∧ OexC K C ∧ PySem.W.findIn K (.ref C) f = some none ∧ H a = some (exo a C none) ∧ ∀ dx, H dx = none → dx ≠ a → Q .non (upd (upd H dx (exd dx [(f, v)])) a (exo a C (some dx)))
def tX1 (K : PySem.W.Frag) (f m : Str) : TS := tSeq (tDrop (tVeI K (tCons (tVar 0) (tCons (tC (.str m)) tNil)))) (tOst K f (tVar 0) (tVar 1))
theorem fn_x1 {P : Program} {w : World} {K : PySem.W.Frag} {mg : Str → Option Value} {base : Heap} {x qual f m a0 a1 : Str} {st : Stmt} {fI : Addr} {fd : FuncData} {k : Nat} (F : L2.Fun K x qual st fI fd) (S : FnScope [a0, a1] [a0, a1] (defScope st))
    (body : ∀ (cdv : Value) (A : Around) (outer : List PySem.Env) (s : Shared) (H : Hp) (E : XK), Room k (A.deeper (PyProof.Rows.envOfC qual (defScope st) s.heap.objs.size fI cdv)) →
      PSs (cxOf (L2N.CX P w) P w K mg base [a0, a1] qual (defScope st) fI cdv A outer s H E) (defBody st) (tX1 K f m)) : FnOk P w K mg base (L2N.CX P w) (k + 1) fI fd [a0, a1] (spX1 K f) := by
  obtain ⟨oc, od, kV, doc, pm, an, cdv, ct, osl, rfl, lk, hcd⟩ := F.ex
  refine fn_of lk hcd S (fun vs H Q E ⟨a, C, v, e, _⟩ => by rw [e]; rfl) fun A outer s H vs Q E hr ⟨a, C, v, e, T, hno, ea, q⟩ => ⟨_, body cdv A outer s H E hr, ?_⟩
  subst e
  refine ⟨.ref a, rfl, a, C, [.str m], rfl, (by simp), T, ea, v, rfl, .ref a, rfl, a, C, rfl, T, hno, .inl ⟨ea, q⟩⟩
/-! ### raise C(e) -/
/-- an own exception class whose __init__ keeps its argument as f -/
structure ExF (P : Program) (w : World) (K : PySem.W.Frag) (mg : Str → Option Value) (base : Heap) (k : Nat) (C : Addr) (x f : Str) : Prop where
  ex : ∃ fI fd ps, FnOk P w K mg base (L2N.CX P w) k fI fd ps (spX1 K f) ∧ Binds K fd ps [] ∧ PySem.W.findIn K (.ref C) "__init__" = some (some (.ref fI)) ∧ PySem.W.typeIn K (.ref fI) = some (.type "function")
  t : OexC K C
  g : mg x = some (.ref C)
  no : PySem.W.findIn K (.ref C) f = some none
def sRaiseF (c : Nat) (f : Str) (ms : MA) : MS := fun ρ S => .of (ms ρ S) ρ fun ds S1 => match ds with
  | [d] => .exc ⟨c, [(f, d)]⟩ ρ S1
  | _ => .stuck
section
variable {X : Cx} {U : Uv} {W : WX}
theorem s_raiseF (c : Nat) {k : Nat} {x f : Str} {e : Expr} {es : List Expr} {ms : MA} {p pos pos' : Pos} (C : ExF X.prog X.w X.K X.mg X.base k (U.cl c) x f) (hr : Room (k + 1) X.A) (tk : L2N.Takes X W) (ha : PA X (e :: es) (tA U W ms)) (hc : X.calm = true := by rfl) (hg : Gl X x := by rfl) (hdb : (x == ("__debug__" : Str)) = false := by decide)
    (hs : starEach (e :: es) X.env = (false, eval e X.env) :: starEach es X.env := by rfl) (hp : (backTo pos (starEach es X.env)).any (·.1) = false := by rfl) :
    PS X (.Raise (some (.Call (.Name x p) (e :: es) [] pos)) none pos') (tS U W (sRaiseF c f ms)) := by
  obtain ⟨fI, fd, ps, F1, hb, iC, tI⟩ := C.ex
  refine ps_imp (L2N.ps_raise hc tk (pmkN C.t iC tI F1 hr hb (L2N.passes_call tk fun _ _ _ _ z => z.elim) hg C.g ha hdb hs hp)) fun Dn σ H ⟨M, S, ρ, A, p⟩ => tX.ofS A p fun ds S1 M1 H1 vs e1 A1 r1 p1 => ?_
  match ds, r1, p1 with
  | [d], .cons (v := v) rd .nil, p1 =>
    refine ⟨by simp, fun a hn => ⟨a, U.cl c, v, rfl, C.t, C.no, upd_same, fun dx hd hne => ?_⟩⟩
    have hd1 : H1 dx = none := by rw [upd_ne hne] at hd; exact hd
    refine ⟨rfl, dx, [(f, v)], upd_same, by rw [upd_ne hne, upd_same], hd1, ?_⟩
    have eH : upd (del (upd (upd (upd H1 a (exo a (U.cl c) none)) dx (exd dx [(f, v)])) a (exo a (U.cl c) (some dx))) a) dx (.xd [(f, v)]) = upd H1 dx (.xd [(f, v)]) := by
      funext b
      by_cases h1 : b = dx
      · rw [h1, upd_same, upd_same]
      · rw [upd_ne h1, upd_ne h1]
        by_cases h2 : b = a
        · rw [h2, del_same, hn]
        · rw [del_ne h2, upd_ne h2, upd_ne h1, upd_ne h2]
    rw [eH]
    have hE := A1.r.extNew (o := .xd [(f, v)]) hd1
    exact p1 M1 _ σ _ _ hE (A1.ext hE (A1.r.new hd1)) ⟨rfl, .inr ⟨dx, [(f, v)], by simp, rfl, upd_same, .cons ⟨rfl, rd.ext hE⟩ .nil⟩⟩
  | [], _, p1 => exact p1.elim
  | _ :: _ :: _, _, p1 => exact p1.elim
end
end DL
/-! DL36: isinstance of a caught error with fields. -/
namespace DL
open PySem PySem.Spec PySem.Calls PyProof.Rows L2 PySem.W
section
variable {prog : Program} {w : World} {A : Around} {E : Value → Shared → Prop} {s : Shared} {K : Frag} {y D : Addr} {oy : Obj} {od : Option Obj}
theorem findObj_dataO {C : Addr} {nm : Str} {v g : Value} (c : (clsIn K C).isSome = true) (fv : findIn K (.ref C) nm = some (some v)) (sg : specialIn K v "__get__" = some (some g)) (tk : takesIn K v = some true) : findObj K C od nm = some (.bind g v) := by
  obtain ⟨cd, c⟩ := Option.isSome_iff_exists.mp c
  unfold findObj
  simp [c, fv, sg, tk]
theorem kin_classO {Q : Option Value → Shared → Prop} (Z : ExcC K D) (X : K.In s.heap) (I : InstAt s.heap y oy D od) (h : Q (some (.ref D)) { s with toks := s.toks + 1 }) : wpAny (model prog w) A (getAttr? (.ref y) "__class__") Q E s := by
  have fo : findObj K D od "__class__" = some (.bind (.builtin "getset_descriptor.__get__") (.builtin "object.__class__")) := findObj_dataO (by obtain ⟨cd, c, _⟩ := any_some Z.hd; rw [c]; rfl) Z.ha Z.hn Z.ht
  obtain ⟨h0, gs, dr, tk, oo⟩ := s
  have M0 := I.type (M := model prog w)
  have M1 := looks_findIn (M := model prog w) X Z.hg
  have M2 := looks_findIn (M := model prog w) X Z.hk
  have M3 := looks_find (M := model prog w) X I fo
  have below : Looks (model prog w) h0 (isInstance (.ref y) (.type "BaseException")) true := M0.andThen (looks_subIn X Z.hs)
  have n0 : (false && onTheHeap (Value.builtin "BaseException.__getattribute__")) = false := rfl
  have n2 : (Value.builtin "BaseException.__getattribute__" == Value.builtin "object.__getattribute__") = false := by decide +kernel
  have n1 : (onTheHeap (Value.ref D) && Value.builtin "BaseException.__getattribute__" == Value.builtin "object.__getattribute__") = false := by rw [n2]; rfl
  unfold getAttr? getAttrBy? getAttrBy
  refine wpAny_bind (wpAny_mkText (wpAny_bind (wpAny_attempt (wpAny_holding (wpAny_bind (M0.at (wpAny_bind (M1.at ?_))))))))
  show wpAny _ _ (if (onTheHeap (Value.ref D) && Value.builtin "BaseException.__getattribute__" == Value.builtin "object.__getattribute__") = true then _ else _) _ _ _
  rw [if_neg (by rw [n1]; exact Bool.false_ne_true)]
  unfold getAttrByItsOwn hookBefore
  refine wpAny_bind ?_
  rw [if_pos (by rfl : onTheHeap (Value.ref D) = true)]
  refine M2.at (wpAny_bind (wpAny_attempt (wpAny_holding ?_)))
  unfold callGetattribute
  rw [if_neg (by rw [n0]; exact Bool.false_ne_true)]
  unfold boundAndCalled
  rw [PySem.F.excAttr_ValueError.ga.bind (.ref y)]
  refine wpAny_bind (wpAny_pure ?_)
  show wpAny _ _ (call (.builtin "BaseException.__getattribute__") [.ref y, .str "__class__" tk]) _ _ _
  refine wpAny_call (codeAny_call_builtin PySem.F.excAttr_ValueError.ga.plain PySem.F.entry_bexc_ga (@check_slot (model prog w) _ _ ⟨h0, gs, dr, tk + 1, oo⟩ "BaseException.__getattribute__" "BaseException" "__getattribute__" (.ref y) [.str "__class__" tk] [] _ (by decide +kernel) (by decide +kernel) below (PySem.F.args_bexc_ga (.ref y) (.str "__class__" tk)) ?_))
  unfold Builtin.«object.__getattribute__»
  refine wpAny_bind (wpAny_of_eq (a := ((Value.ref y : Value), [Value.str "__class__" tk])) (by first | rfl | (simp only [slotArgs]; rfl)) (wpAny_bind (wpAny_pure (wpAny_bind (M0.at (wpAny_bind (M3.at ?_)))))))
  show wpAny _ _ (holding [Value.builtin "object.__class__"] (call (.builtin "getset_descriptor.__get__") [.builtin "object.__class__", .ref y, .ref D]) >>= ret) _ _ _
  refine wpAny_bind (wpAny_holding (wpAny_call (class_get (s := ⟨h0, gs, dr, tk + 1, oo⟩) (ox := oy) (od := od) X I Z.hm (wpAny_pure ?_))))
  show wpAny _ _ (handedOut (.ref D)) _ _ _
  rw [handedOut_of (by rfl : handedIn (.ref D) = true)]
  first
    | exact wpAny_pure (wpAny_pure h)
    | exact wpAny_pure h
    | exact wpAny_pure (wpAny_bind (wpAny_pure (wpAny_pure h)))
theorem kitx_excO (Z : ExcC K D) : KitX K (.ref y) (.ref D) (fun h => ∃ od, InstAt h y oy D od) where
  ty := fun _ _ _ ⟨_, I⟩ => I.type
  it := fun _ _ X _ => by
    obtain ⟨cd, c, _⟩ := any_some Z.hd
    unfold clsIn at c
    split at c
    · rename_i lk
      intro _ _ _ _ k q
      unfold isType loadHead
      exact wpAny_bind (wpAny_loadPart (k _ _ (X _ _ lk)) (wpAny_pure q))
    · cases c
  ne := fun h tp dd its n sl X ht => by
    obtain ⟨cd, c, _⟩ := any_some Z.hd
    refine Bool.eq_false_iff.mpr fun q => ?_
    cases Value.ref.inj (beq_iff_eq.mp q)
    unfold clsIn at c
    split at c
    · rename_i lk
      cases (X _ _ lk).symm.trans ht
    · cases c
  ca := fun X ⟨_, I⟩ k => kin_classO Z X I k
end
end DL
/-! DL37: what a suite does with an exception's field. -/
namespace DL
open PySem PySem.Spec PyProof.Rows L2
section
variable {U : Uv} {M M1 : Mp} {S S1 : Sto} {H H1 : Hp} {σ : L2.St} {ρ : Env} {W : WX} {x : Ex} {d : Option Addr}
theorem R.xd_nob {p : Addr} {fv : List (Str × V)} (r : R U M S H) (h : H p = some (.xd fv)) : ¬ M.ob p := by
  rintro ⟨i, hi, rfl⟩
  have hs : i < S.length := by rw [← r.n]; exact hi
  have := r.at_ i _ (List.getElem?_eq_getElem hs)
  revert this
  cases S[i] with
  | lst ds => intro ⟨vs, h1, _⟩; rw [h] at h1; cases h1
  | ins c fs => intro ⟨dx, fw, h1, _⟩; rw [h] at h1; cases h1
  | dK kvs => intro ⟨vs, h1, _⟩; rw [h] at h1; cases h1
  | dN kvs => intro ⟨xs, h1, _⟩; rw [h] at h1; cases h1
  | dF kvs => intro ⟨o, xs, h1, _⟩; rw [h] at h1; cases h1
  | xc c fs => intro ⟨d, fw, h1, _⟩; rw [h] at h1; cases h1
theorem ExAt.ext {cv : Value} (xa : ExAt U M H x cv d) (r : R U M S H) (e : Ext M H M1 H1) : ExAt U M1 H1 x cv d :=
  ⟨xa.1, xa.2.elim .inl fun ⟨p, fv, h0, h1, h2, h3⟩ => .inr ⟨p, fv, h0, h1, e.keep _ _ h2 (r.xd_nob h2), h3.ext e⟩⟩
end
/-- a reading where the suite's exception is in sight -/
def tXx {α β : Type} (U : Uv) (rel : Mp → Hp → β → α → Prop) (W : WX) (x : Ex) (d : Option Addr) (m : Env → Sto → Out α) : L2.St → Hp → (β → Hp → Prop) → Prop := fun σ H Q => ∃ M S ρ, At U M S ρ σ H ∧ ExAt U M H x (.ref (U.cl x.c)) d ∧ PostX U rel M H σ W (m ρ S) Q
abbrev tEx (U : Uv) (W : WX) (x : Ex) (d : Option Addr) (m : ME) : TE := tXx U (Rep U) W x d m
abbrev tAx (U : Uv) (W : WX) (x : Ex) (d : Option Addr) (m : MA) : TA := tXx U (RepAll U) W x d m
section
variable {α β α' β' : Type} {U : Uv} {rel : Mp → Hp → β → α → Prop} {rel' : Mp → Hp → β' → α' → Prop} {M : Mp} {S : Sto} {H : Hp} {σ : L2.St} {ρ : Env} {W : WX} {x : Ex} {d : Option Addr}
theorem tXx.bind {m : Env → Sto → Out α} {f : α → Sto → Out α'} {Q : β' → Hp → Prop} {Q1 : β → Hp → Prop} (a : At U M S ρ σ H) (xa : ExAt U M H x (.ref (U.cl x.c)) d) (p : PostX U rel' M H σ W ((m ρ S).bind f) Q)
    (h : ∀ z S1 M1 H1 b, Ext M H M1 H1 → At U M1 S1 ρ σ H1 → ExAt U M1 H1 x (.ref (U.cl x.c)) d → rel M1 H1 b z → PostX U rel' M1 H1 σ W (f z S1) Q → Q1 b H1) : tXx U rel W x d m σ H Q1 :=
  ⟨M, S, ρ, a, xa, p.bind fun z S1 M1 H1 b e r q p1 => h z S1 M1 H1 b e (a.ext e r) (xa.ext a.r e) q p1⟩
theorem tXx.ofS {m : Env → Sto → Out α} {k : α → Sto → OS} {Q1 : β → Hp → Prop} {Dn : Ends} (a : At U M S ρ σ H) (xa : ExAt U M H x (.ref (U.cl x.c)) d) (p : PostS U M H W (OS.of (m ρ S) ρ k) Dn)
    (h : ∀ z S1 M1 H1 b, Ext M H M1 H1 → At U M1 S1 ρ σ H1 → rel M1 H1 b z → PostS U M1 H1 W (k z S1) Dn → Q1 b H1) : tXx U rel W x d m σ H Q1 := by
  refine ⟨M, S, ρ, a, xa, ?_⟩
  cases q : m ρ S with
  | ok z S1 =>
    rw [q] at p
    exact fun M' H' b e r rl => h z S1 M' H' b e (a.ext e r) rl (PostS.ext e p)
  | exc y S1 =>
    rw [q] at p
    exact fun M' H' cv dd e r xa' => p M' H' σ cv dd e (a.ext e r) xa'
  | stuck => rw [q] at p; exact p
end
section
variable {X : Cx} {U : Uv} {W : WX} {x : Ex} {d : Option Addr} {e a b : Expr} {es : List Expr} {m ma mb : ME} {ms : MA} {pos : Pos}
theorem psx {st : List Stmt} {m : MS} (h : PSs X st (tS U W m)) : PSs X st (tSx U W x d m) := ⟨fun pins s σ H D I ⟨M, S, ρ, A, _, p⟩ => h.run pins s σ H D I ⟨M, S, ρ, A, p⟩⟩
theorem ex_of (h : PE X e (tE U W m)) : PE X e (tEx U W x d m) := pe_imp h fun σ H Q ⟨M, S, ρ, A, _, p⟩ => ⟨M, S, ρ, A, p⟩
theorem ex_one {op : BoolOp} (h : PE X a (tEx U W x d ma)) : PE X (.BoolOp op [a] pos) (tEx U W x d ma) := pe_one h
theorem ex_and {rest : List Expr} (ha : PE X a (tEx U W x d ma)) (hb : PE X (.BoolOp .And (b :: rest) pos) (tEx U W x d mb)) (hK : X.K = U.K := by rfl) : PE X (.BoolOp .And (a :: b :: rest) pos) (tEx U W x d (mAnd ma mb)) :=
  pe_imp (pe_andT ha hb) fun σ H Q ⟨M, S, ρ, A, xa, p⟩ => tXx.bind A xa p fun z S1 M1 H1 v e1 A1 xa1 r1 p1 => by
    rw [hK]
    cases q : truD S1 z with
    | none => rw [q] at p1; exact p1.elim
    | some k =>
      rw [q] at p1
      refine ⟨k, r1.tru A1.r q, ?_⟩
      cases k with
      | true => exact ⟨M1, S1, ρ, A1, xa1, p1⟩
      | false => exact p1 M1 H1 _ A1.refl A1.r r1
theorem ex_not (ha : PE X a (tEx U W x d ma)) (hK : X.K = U.K := by rfl) : PE X (.UnaryOp .Not a pos) (tEx U W x d (mNot ma)) :=
  pe_imp (pe_notT ha) fun σ H Q ⟨M, S, ρ, A, xa, p⟩ => tXx.bind A xa p fun z S1 M1 H1 v e1 A1 _ r1 p1 => by
    rw [hK]
    cases q : truD S1 z with
    | none => rw [q] at p1; exact p1.elim
    | some k =>
      rw [q] at p1
      exact ⟨k, r1.tru A1.r q, p1 M1 H1 _ A1.refl A1.r (.bl _)⟩
theorem ax_nil : PA X [] (tAx U W x d aNil) := pa_imp pa_nil fun σ H Q ⟨M, S, ρ, A, _, p⟩ => p M H [] A.refl A.r .nil
theorem ax_cons (h : PE X e (tEx U W x d m)) (hr : PA X es (tAx U W x d ms)) (hs : starEach (e :: es) X.env = (false, eval e X.env) :: starEach es X.env := by rfl) : PA X (e :: es) (tAx U W x d (aCons m ms)) :=
  pa_imp (pa_cons h hr hs) fun σ H Q ⟨M, S, ρ, A, xa, p⟩ => tXx.bind A xa p fun z S1 M1 H1 v e1 A1 xa1 r1 p1 => tXx.bind A1 xa1 p1 fun zs S2 M2 H2 vs e2 A2 _ r2 p2 => p2 M2 H2 _ A2.refl A2.r (.cons (r1.ext e2) r2)
theorem ex_tup {k : Nat} (h : PA X es (tAx U W x d ms)) : PE X (.Tuple es k pos) (tEx U W x d (mTup ms)) :=
  pe_imp (pe_tup h) fun σ H Q ⟨M, S, ρ, A, xa, p⟩ => tXx.bind A xa p fun xs S1 M1 H1 vs e1 A1 _ r1 p1 => by
    by_cases hl : xs.length ≤ lim
    · rw [if_pos hl] at p1
      exact ⟨lim_line (by rw [r1.length]; exact hl), fun q hq => Gives.tup p1 A1.r r1 hq⟩
    · rw [if_neg hl] at p1; exact p1.elim
/-- a, b = e1, e2 -/
theorem s_parHX (i j : Nat) {y z : Str} {py pz pt : Pos} {kt k2 : Nat} {pt2 : Pos} (hc : L2H.HotC X) (hN : X.N.Nodup) (ha : PA X [a, b] (tAx U W x d ms)) (hn : Nf U i) (hn2 : Nf U j) (hi : X.N[i]? = some y := by rfl) (hj : X.N[j]? = some z := by rfl) (hij : i ≠ j := by decide)
    (hy : X.env.scope.names.lookup y = some .local := by rfl) (hz : X.env.scope.names.lookup z = some .local := by rfl)
    (hw : swappedStores [.Tuple [.Name y py, .Name z pz] kt pt] (.Tuple [a, b] k2 pt2) X.env = pure (some [y, z]) := by rfl)
    (hs : swapsWithSole [.Tuple [.Name y py, .Name z pz] kt pt] (.Tuple [a, b] k2 pt2) pos.line X.env = pure false := by rfl) :
    PS X (.Assign [.Tuple [.Name y py, .Name z pz] kt pt] (.Tuple [a, b] k2 pt2) pos) (tSx U W x d (sPar i j ms)) :=
  ps_imp (ps_parHot hc hN hi hj hij hy hz ha hw hs) fun Dn σ H ⟨M, S, ρ, A, xa, p⟩ => tXx.ofS A xa p fun ds S1 M1 H1 vs e1 A1 r1 p1 => by
    match ds, r1, p1 with
    | [], _, p1 => exact p1.elim
    | [_], _, p1 => exact p1.elim
    | _ :: _ :: _ :: _, _, p1 => exact p1.elim
    | [_, _], .cons h1 (.cons h2 .nil), p1 => exact ⟨_, _, rfl, p1 M1 H1 _ A1.refl ((A1.set h1 hn).set h2 hn2)⟩
theorem ssx_one {st : Stmt} {m : MS} (h : PS X st (tSx U W x d m)) : PSs X [st] (tSx U W x d m) := pss_one h
theorem ssx_stuck {st : List Stmt} : PSs X st (tSx U W x d sStuck) := psx ss_stuck
/-- by the class and the one field of the exception that a suite holds -/
def selF (e : Ex) (c : Nat) (f : Str) (m1 : D → MS) (m2 : MS) : MS := match e.fs with
  | [(g, v)] => if e.c = c ∧ g = f then m1 v else m2
  | _ => m2
theorem ssx_sel {U0 : Uv} {st : List Stmt} {m1 : D → MS} {m2 : MS} {oe : Obj} (c : Nat) (f : Str) (hz : L2N.Zn (.ref (U0.cl x.c)) d oe) (h : ∀ v, L2N.Zn (.ref (U0.cl c)) d oe → PSs X st (tSx U W ⟨c, [(f, v)]⟩ d (m1 v))) (h2 : PSs X st (tSx U W x d m2)) : PSs X st (tSx U W x d (selF x c f m1 m2)) := by
  obtain ⟨xc, xf⟩ := x
  match xf, h2 with
  | [], h2 => exact h2
  | _ :: _ :: _, h2 => exact h2
  | [(g, v)], h2 =>
    unfold selF
    by_cases q : xc = c ∧ g = f
    · obtain ⟨rfl, rfl⟩ := q
      simp only [and_self, if_true]
      exact h v hz
    · simp only [if_neg q]
      exact h2
end
/-! ### the exception's field, its classes -/
/-- e.f -/
def mXf (v : D) : ME := mC v
section
variable {X : Cx} {U : Uv} {W : WX} {d : Option Addr} {a : Addr} {oe : Obj} {pn : List (Addr × Obj)} {c : Nat} {f : Str} {v : D}
theorem ex_xf (i : Nat) {n : Str} {p1 pos : Pos} (T : XfC X.K (U.cl c)) (hno : PySem.W.findIn X.K (.ref (U.cl c)) f = some none) (hz : Zc (.ref (U.cl c)) d oe) (hf : ∃ vs, oe.data = .fields vs) (hU : (i, a) ∈ U.f) (hN : X.N[i]? = some n := by rfl)
    (hv : Vis X.env.scope n := by first | exact Or.inl rfl | exact Or.inr (Or.inl rfl) | exact Or.inr (Or.inr rfl)) (hd : (n == ("__debug__" : Str)) = false := by decide) (hcd : (n == ("__classdict__" : Str)) = false := by decide)
    (hb : attributeBase (.Name n p1) f X.env (eval (.Name n p1) X.env) = eval (.Name n p1) X.env := by rfl) :
    PE (X.suite a ((a, oe) :: pn)) (.Attribute (.Name n p1) f pos) (tEx U W ⟨c, [(f, v)]⟩ d (mC v)) :=
  pe_imp (pe_xf T hno hz hf (pv i hN hv hd hcd) hb) fun σ H Q ⟨M, S, ρ, A, xa, p⟩ => by
    rcases xa.2 with ⟨h, _⟩ | ⟨dd, fv, _, hd, hH, hfs⟩
    · cases h
    · obtain ⟨w, lw, rw'⟩ := FsRep.look (d := v) (f := f) hfs (by simp)
      exact ⟨_, A.fx _ hU, rfl, rfl, dd, fv, w, hd, hH, lw, p M H _ A.refl A.r rw'⟩
/-- where the dict of the suite's exception is -/
def dictAt (oe : Obj) (H : Hp) : Prop := ∃ dd fv, oe.dict = some dd ∧ H dd = some (.xd fv)
theorem inst_of {D : Addr} {pins : List (Addr × Obj)} {σ : L2.St} {H : Hp} {s : Shared} (hz : (oe.cls = .ref D)) (hf : ∃ vs, oe.data = .fields vs) (I : Inv (X.suite a ((a, oe) :: pn)) pins σ H s) (h : dictAt oe H) : ∃ od, PySem.W.InstAt s.heap a oe D od := by
  obtain ⟨dd, fv, hd, hH⟩ := h
  obtain ⟨ha, _⟩ := I.pin (a, oe) (List.mem_append_left _ List.mem_cons_self)
  obtain ⟨vs, hv⟩ := hf
  obtain ⟨mA, hns, _⟩ := (show ObjOk X.prog X.w H s.heap dd (.xd fv) from I.hok dd _ hH)
  obtain ⟨od, ho, _⟩ := lookIn_ns hns
  exact ⟨some od, ha, hz, by unfold PySem.W.notCls; rw [hv] <;> rfl, by rw [hd]; exact ho⟩
theorem call_isEO {D : Addr} (C : ExcC X.K D) (hz : oe.cls = .ref D) (hf : ∃ vs, oe.data = .fields vs) : CallR (X.suite a ((a, oe) :: pn)) (.builtin "isinstance") (fun xs H Q => dictAt oe H ∧ rIsE X.K D a xs H Q) := fun pins s σ H xs us Q I r ⟨hd, c1, cv, b, ex, hcv, e, q⟩ => by
  subst ex
  obtain ⟨u1, u2, rfl, r1, r2⟩ := vals2 r
  obtain rfl : u1 = Value.ref a := r1
  have ec := hcv _ r2
  subst ec
  exact PySem.W.kia_one (kitx_excO C) I.kIn (inst_of hz hf I hd) e (fun z => nomatch z) fun tk => ⟨.bl b, H, I.tok tk, rfl, q⟩
theorem call_isEO2 {D C1 C2 : Addr} (ec : ExcC X.K D) (hz : oe.cls = .ref D) (hf : ∃ vs, oe.data = .fields vs) :
    CallR (X.suite a ((a, oe) :: pn)) (.builtin "isinstance") (fun xs H Q => dictAt oe H ∧ ∃ tp b, xs = [.ref a, .ref tp] ∧ H tp = some (.tup [.ref C1, .ref C2]) ∧ PySem.W.kitAny X.K (.ref D) [.ref C1, .ref C2] = some b ∧ Q (.bl b) H) := fun pins s σ H xs us Q I r ⟨hd, tp, b, ex, ht, e, q⟩ => by
  subst ex
  obtain ⟨u1, u2, rfl, r1, r2⟩ := vals2 r
  obtain rfl : u1 = Value.ref a := r1
  obtain rfl : u2 = Value.ref tp := r2
  obtain ⟨_, its, rv, o, h1, h2, n, h3⟩ := (show ObjOk X.prog X.w H s.heap tp (.tup [.ref C1, .ref C2]) from I.hok tp _ ht)
  obtain ⟨w1, w2, ew, q1, q2⟩ := vals2 rv
  obtain rfl : w1 = Value.ref C1 := q1
  obtain rfl : w2 = Value.ref C2 := q2
  subst ew
  cases o with
  | mk cc dd da sl =>
    have z1 : cc = _ := h2
    have z2 : da = _ := h3
    subst z1 z2
    exact PySem.W.kia_tup (kitx_excO ec) I.kIn (inst_of hz hf I hd) h1 e (fun z => nomatch z) fun tk => ⟨.bl b, H, I.tok tk, rfl, q⟩
theorem ExAt.dict {M : Mp} {H : Hp} {cv : Value} (xa : ExAt U M H ⟨c, [(f, v)]⟩ cv d) (hz : oe.dict = d) : dictAt oe H := by
  rcases xa.2 with ⟨h, _⟩ | ⟨dd, fv, _, hd, hH, _⟩
  · cases h
  · exact ⟨dd, fv, hz.trans hd, hH⟩
theorem ex_isE (i : Nat) {n cn : Str} {q p1 p2 pos : Pos} {C' : Addr} {b : Bool} (ec : ExcC X.K (U.cl c)) (hz : Zc (.ref (U.cl c)) d oe) (hf : ∃ vs, oe.data = .fields vs) (hm : X.mg "isinstance" = none)
    (hmc : X.mg cn = some (.ref C')) (hb : PySem.W.kitOne X.K (.ref (U.cl c)) (.ref C') = some b) (hU : (i, a) ∈ U.f) (hN : X.N[i]? = some n := by rfl) (hv : Vis X.env.scope n := by first | exact Or.inl rfl | exact Or.inr (Or.inl rfl) | exact Or.inr (Or.inr rfl))
    (hg : Gl X "isinstance" := by rfl) (hgc : Gl X cn := by rfl) (hd : (n == ("__debug__" : Str)) = false := by decide) (hcd : (n == ("__classdict__" : Str)) = false := by decide) (hdc : (cn == ("__debug__" : Str)) = false := by decide)
    (he : starEach [Expr.Name n p1, Expr.Name cn p2] X.env = (false, eval (Expr.Name n p1) X.env) :: starEach [Expr.Name cn p2] X.env := by rfl) (he2 : starEach [Expr.Name cn p2] X.env = (false, eval (Expr.Name cn p2) X.env) :: starEach [] X.env := by rfl)
    (hpl : (backTo pos (starEach [Expr.Name cn p2] X.env)).any (·.1) = false := by rfl) : PE (X.suite a ((a, oe) :: pn)) (.Call (.Name "isinstance" q) [.Name n p1, .Name cn p2] [] pos) (tEx U W ⟨c, [(f, v)]⟩ d (mC (.bl b))) :=
  pe_imp (pe_callB (call_isEO ec hz.1 hf) hg hm PyProof.Rows.boot_isinstance (pa_cons (pv i hN hv hd hcd) (pa_cons (pe_glob (v := .ref C') hgc hmc rfl hdc) pa_nil he2) he) (by decide) (by decide) he hpl) fun σ H Q ⟨M, S, ρ, A, xa, p⟩ =>
    ⟨_, A.fx _ hU, xa.dict hz.2, .ref C', .ref C', b, rfl, fun _ h => h, hb, p M H _ A.refl A.r (.bl b)⟩
theorem ex_isE2 (i : Nat) {n x1 x2 : Str} {k : Nat} {q p0 p1 p2 pt pos : Pos} {C1 C2 : Addr} {b1 b2 : Bool} (ec : ExcC X.K (U.cl c)) (hz : Zc (.ref (U.cl c)) d oe) (hf : ∃ vs, oe.data = .fields vs) (hm : X.mg "isinstance" = none)
    (m1 : X.mg x1 = some (.ref C1)) (m2 : X.mg x2 = some (.ref C2)) (k1 : PySem.W.kitOne X.K (.ref (U.cl c)) (.ref C1) = some b1) (k2 : PySem.W.kitOne X.K (.ref (U.cl c)) (.ref C2) = some b2) (hU : (i, a) ∈ U.f) (hN : X.N[i]? = some n := by rfl) (hv : Vis X.env.scope n := by first | exact Or.inl rfl | exact Or.inr (Or.inl rfl) | exact Or.inr (Or.inr rfl))
    (hg : Gl X "isinstance" := by rfl) (g1 : Gl X x1 := by rfl) (g2 : Gl X x2 := by rfl) (hd : (n == ("__debug__" : Str)) = false := by decide) (hcd : (n == ("__classdict__" : Str)) = false := by decide) (d1 : (x1 == ("__debug__" : Str)) = false := by decide) (d2 : (x2 == ("__debug__" : Str)) = false := by decide)
    (he : starEach [Expr.Name n p0, .Tuple [Expr.Name x1 p1, Expr.Name x2 p2] k pt] X.env = (false, eval (Expr.Name n p0) X.env) :: starEach [.Tuple [Expr.Name x1 p1, Expr.Name x2 p2] k pt] X.env := by rfl)
    (he2 : starEach [.Tuple [Expr.Name x1 p1, Expr.Name x2 p2] k pt] X.env = (false, eval (.Tuple [Expr.Name x1 p1, Expr.Name x2 p2] k pt) X.env) :: starEach [] X.env := by rfl)
    (he3 : starEach [Expr.Name x1 p1, Expr.Name x2 p2] X.env = (false, eval (Expr.Name x1 p1) X.env) :: starEach [Expr.Name x2 p2] X.env := by rfl) (he4 : starEach [Expr.Name x2 p2] X.env = (false, eval (Expr.Name x2 p2) X.env) :: starEach [] X.env := by rfl)
    (hpl : (backTo pos (starEach [.Tuple [Expr.Name x1 p1, Expr.Name x2 p2] k pt] X.env)).any (·.1) = false := by rfl) :
    PE (X.suite a ((a, oe) :: pn)) (.Call (.Name "isinstance" q) [.Name n p0, .Tuple [.Name x1 p1, .Name x2 p2] k pt] [] pos) (tEx U W ⟨c, [(f, v)]⟩ d (mC (.bl (b1 || b2)))) :=
  pe_imp (pe_callB (call_isEO2 (C1 := C1) (C2 := C2) ec hz.1 hf) hg hm PyProof.Rows.boot_isinstance (pa_cons (pv i hN hv hd hcd) (pa_cons (pe_tup (pa_cons (pe_glob (v := .ref C1) g1 m1 rfl d1) (pa_cons (pe_glob (v := .ref C2) g2 m2 rfl d2) pa_nil he4) he3)) pa_nil he2) he) (by decide) (by decide) he hpl) fun σ H Q ⟨M, S, ρ, A, xa, p⟩ =>
    ⟨_, A.fx _ hU, by show 2 ≤ sizeLine; decide, fun t ht => ⟨(xa.ext A.r (A.r.extNew ht)).dict hz.2, t, _, rfl, upd_same, kit_any2 k1 k2, p M _ _ (A.r.extNew ht) (A.r.new ht) (.bl _)⟩⟩
end
end DL
/-! DL38: x.replace(a, b), where a token has been given out. -/
namespace DL
open PySem PySem.Spec PyProof.Rows L2
/-- read, with a token given out -/
def PE1 (X : Cx) (e : Expr) (t : TE) : Prop := ∀ (pins : List (Addr × Obj)) (s : Shared) (σ : L2.St) (H : Hp) (Q : VK), Inv X pins σ H s → t σ H Q →
  wpAny (model X.prog X.w) X.A (eval e X.env) (fun v s' => 1 ≤ s'.toks ∧ EP X pins σ Q v s') X.xe s
section
variable {X : Cx} {e a b : Expr} {es : List Expr} {te ta tb : TE} {pos p2 c : Pos} {j : Nat} {k : Int}
theorem pe1_slice {r : V → Option Int → Option Int → Hp → VK → Prop} (hr : SlR X r) (he : PE X e te) : PE1 X (.Subscript e (.Slice none (some (.Constant (.int k) j c)) none p2) pos) (tSl r te tNoPart (tPart (tC (.int k)))) := fun pins s σ H Q I h => by
  refine Subscript_ (thn (he.run pins s σ H _ I h) fun v s1 ⟨x, H1, I1, r1, q1⟩ => ?_)
  obtain ⟨i, ei, q2⟩ := q1
  cases ei
  refine wpAny_Slice ?_
  rw [evalPart_none]
  refine wpAny_pure ?_
  rw [evalPart_some]
  refine wpAny_Constant_int ?_
  refine wpAny_pure ?_
  have J : Inv X pins σ H1 { s1 with toks := s1.toks + 1, heap := s1.heap.push { cls := .type "slice", data := .fields #[.none, .int k s1.toks, .none] } } := I1.kept (t' := s1.toks + 1) fun b ob q => Heap.get?_push_of_some _ q
  obtain ⟨T, id, hT, ht, hg⟩ := hr pins { s1 with toks := s1.toks + 1, heap := s1.heap.push { cls := .type "slice", data := .fields #[.none, .int k s1.toks, .none] } } σ H1 x v .none (.int k s1.toks) none (some k) s1.heap.objs.size Q J r1 (Heap.IsSliceOf.new ..) .none (.int k s1.toks) q2
  show wpAny (model X.prog X.w) X.A (subscriptTail e (.Slice none (some (.Constant (.int k) j c)) none p2) v (.ref s1.heap.objs.size)) _ X.xe { s1 with toks := s1.toks + 1, heap := s1.heap.push { cls := .type "slice", data := .fields #[.none, .int k s1.toks, .none] } }
  exact wpAny_mono (wpAny_toks_of (n := 1) (Nat.le_add_left 1 s1.toks) (tail_any (Q := EP X pins σ Q) (ops := [.ref s1.heap.objs.size, v]) ht hT hg (by with_unfolding_all rfl))) (fun _ _ z => z) fun _ _ z => z.2
theorem pe_addT {r : R2} (ho : OpR X (binaryOp .Add) r) (ha : PE1 X a ta) (hb : PET X b tb) : PE X (.BinOp a .Add b pos) (tOp r ta tb) := ⟨fun pins s σ H Q I h => by
  refine wpAny_BinOp (thn (ha pins s σ H _ I h) fun v s1 ⟨hk, x, H1, I1, r1, q1⟩ => ?_)
  exact thn (hb pins s1 σ H1 _ hk I1 q1) fun u s2 ⟨y, H2, I2, r2, q2⟩ => ho pins s2 σ H2 x y v u Q I2 r1 r2 q2⟩
theorem pe1_imp {t t' : TE} (h : PE1 X e t) (hi : ∀ σ H Q, t' σ H Q → t σ H Q) : PE1 X e t' := fun pins s σ H Q I q => h pins s σ H Q I (hi _ _ _ q)
theorem pet_imp {t t' : TE} (h : PET X e t) (hi : ∀ σ H Q, t' σ H Q → t σ H Q) : PET X e t' := fun pins s σ H Q z I q => h pins s σ H Q z I (hi _ _ _ q)
theorem pat_imp {t t' : TA} (h : PAT X es t) (hi : ∀ σ H Q, t' σ H Q → t σ H Q) : PAT X es t' := fun pos pins s σ H Q z I q => h pos pins s σ H Q z I (hi _ _ _ q)
/-- 'sep'.join(e), e read behind the text -/
theorem pe_joinT {z : Str} {j0 : Nat} {c0 apos cpos : Pos} (he : PET X e te)
    (hbase : attributeBase (.Constant (.str z) j0 c0) "join" X.env (eval (.Constant (.str z) j0 c0) X.env) = eval (.Constant (.str z) j0 c0) X.env := by rfl)
    (hfew : ((backTo cpos (starEach [e] X.env)).all (fun x => !x.1) && (backToKw cpos (keywordEach [] X.env)).all (fun x => x.1.isSome)
      && decide ([e].length + ([] : List Keyword).length + (if ([] : List Keyword).isEmpty then 0 else 1) < 30)) = true := by rfl)
    (hline : (apos.endLine == cpos.line) = true := by rfl) (hs : starEach [e] X.env = (false, eval e X.env) :: starEach [] X.env := by rfl) (hp : (backTo cpos (starEach [] X.env)).any (·.1) = false := by rfl) :
    PE X (.Call (.Attribute (.Constant (.str z) j0 c0) "join" apos) [e] [] cpos) (tBM X.K "str" (fun x xs H Q => ∃ a p, ∃ ys : List Str, x = .str a ∧ xs = [.ref p] ∧ (SqL X.K H p (ys.map V.str) ∨ SqT X.K H p (ys.map V.str)) ∧
    (ys.map (·.length)).sum + ys.length * a.length ≤ 16777216 ∧ Q (.str (Txt.join a ys)) H) (tC (.str z)) (tCons te tNil)) := ⟨fun pins s σ H Q I ⟨ty, h⟩ => by
  refine wpAny_Call_method_late hbase hfew hline rfl (Calls.Constant_str ?_)
  have J := I.tok (s.toks + 1)
  have rz : RelV (.str z) (.str z s.toks) := ⟨_, rfl⟩
  obtain ⟨h1, h2⟩ := tyV_is J rz ty
  refine ⟨"str", _, F.plainAttrs_str, F.slot_str_join, F.type_str_join, h1, h2, ?_⟩
  have hA := pat_cons he pat_nil hs cpos pins { s with toks := s.toks + 1 } σ H _ (Nat.le_add_left 1 s.toks) J h
  rw [hs] at hA ⊢
  refine Calls.callWith_builtin (by show (false || (backTo cpos (starEach [] X.env)).any (·.1)) = false; rw [hp] <;> rfl) (Calls.evalArgs_plain ?_)
  exact thn hA fun us s2 ⟨vs, H2, I2, r2, q2⟩ => mt_join pins s2 σ H2 (.str z) vs _ us Q I2 rz r2 q2⟩
end
/-! ### by mirrors -/
def mSlL (m : ME) (k : Int) : ME := fun ρ S => (m ρ S).bind fun x S1 => match x with
  | .lst xs => .ok (.lst (cutD xs none (some k))) S1
  | _ => .stuck
def mRepl (y z : Str) (m : ME) : ME := fun ρ S => (m ρ S).bind fun x S1 => match x with
  | .str w => if w.length + (w.length + 1) * z.length ≤ 16777216 then .ok (.str (Txt.replace w y z)) S1 else .stuck
  | _ => .stuck
section
variable {X : Cx} {U : Uv} {W : WX} {e a b o : Expr} {es : List Expr} {m ma mb mo : ME} {ms : MA} {pos p2 c : Pos} {j : Nat}
theorem e1_slice (k : Int) (he : PE X e (tE U W m)) (hK : X.K = U.K := by rfl) : PE1 X (.Subscript e (.Slice none (some (.Constant (.int k) j c)) none p2) pos) (tE U W (mSlL m k)) :=
  pe1_imp (pe1_slice sl_list he) fun σ H Q ⟨M, S, ρ, A, p⟩ => tX.bind A p fun x S1 M1 H1 v e1 A1 r1 p1 => by
    cases r1 with
    | lst ht ra =>
      rw [hK]
      exact ⟨k, rfl, _, _, rfl, ht.sq, fun q hq => Gives.lst p1 A1.r (ra.cut _ _) hq⟩
    | _ => exact p1.elim
theorem e_addT (ha : PE1 X a (tE U W ma)) (hb : PET X b (tE U W mb)) (hK : X.K = U.K := by rfl) : PE X (.BinOp a .Add b pos) (tE U W (m2 addO ma mb)) := by
  obtain ⟨r, h1, h2⟩ := (o_add (X := X) (U := U) hK).ex
  refine pe_imp (pe_addT h1 ha hb) fun σ H Q ⟨M, S, ρ, A, p⟩ => tX.bind A p fun x S1 M1 H1 v e1 A1 r1 p1 => tX.bind A1 p1 fun y S2 M2 H2 u e2 A2 r2 p2 => ?_
  obtain ⟨d, ed, g⟩ := ofO_post p2
  exact h2 M2 S2 H2 v u x y d Q A2.r (r1.ext e2) r2 ed g
theorem et_of (h : PE X e (tE U W m)) : PET X e (tE U W m) := fun pins s σ H Q _ I q => h.run pins s σ H Q I q
theorem at_nil : PAT X [] (tA U W aNil) := pat_imp pat_nil fun σ H Q ⟨M, S, ρ, A, p⟩ => p M H [] A.refl A.r .nil
theorem at_cons (h : PET X e (tE U W m)) (hr : PAT X es (tA U W ms)) (hs : starEach (e :: es) X.env = (false, eval e X.env) :: starEach es X.env := by rfl) : PAT X (e :: es) (tA U W (aCons m ms)) :=
  pat_imp (pat_cons h hr hs) fun σ H Q ⟨M, S, ρ, A, p⟩ => tX.bind A p fun x S1 M1 H1 v e1 A1 r1 p1 => tX.bind A1 p1 fun xs S2 M2 H2 vs e2 A2 r2 p2 => p2 M2 H2 _ A2.refl A2.r (.cons (r1.ext e2) r2)
theorem et_lst (h : PAT X es (tA U W ms)) : PET X (.List es pos) (tE U W (mLst ms)) :=
  pet_imp (pet_lst h) fun σ H Q ⟨M, S, ρ, A, p⟩ => tX.bind A p fun xs S1 M1 H1 vs e1 A1 r1 p1 => by
    by_cases hl : xs.length ≤ lim
    · rw [if_pos hl] at p1
      exact ⟨lim_line (by rw [r1.length]; exact hl), fun q hq => Gives.lst p1 A1.r r1 hq⟩
    · rw [if_neg hl] at p1; exact p1.elim
theorem et_repl {y z : Str} {k : Nat} {c0 c1 apos : Pos} (ho : PE X o (tE U W mo)) (hyz : (y == z) = false := by decide)
    (hst : starEach [.Constant (.str y) j c0, .Constant (.str z) k c1] X.env = [(false, eval (.Constant (.str y) j c0) X.env), (false, eval (.Constant (.str z) k c1) X.env)] := by rfl)
    (hbase : attributeBase o "replace" X.env (eval o X.env) = eval o X.env := by rfl) (hline : (apos.endLine == pos.line) = true := by rfl) :
    PET X (.Call (.Attribute o "replace" apos) [.Constant (.str y) j c0, .Constant (.str z) k c1] [] pos) (tE U W (mRepl y z mo)) :=
  pet_imp (CwR.pet_replC ho hyz hst hbase hline) fun σ H Q ⟨M, S, ρ, A, p⟩ => tX.bind A p fun x S1 M1 H1 v e1 A1 r1 p1 => by
    cases x with
    | str w =>
      cases r1
      change PostX U (Rep U) M1 H1 σ W (if w.length + (w.length + 1) * z.length ≤ 16777216 then .ok (.str (Txt.replace w y z)) S1 else .stuck) Q at p1
      by_cases hl : w.length + (w.length + 1) * z.length ≤ 16777216
      · rw [if_pos hl] at p1
        exact ⟨w, rfl, hl, Gives.here p1 A1.r (.str _)⟩
      · rw [if_neg hl] at p1; exact p1.elim
    | _ => exact p1.elim
theorem e_joinT {z : Str} {j0 : Nat} {c0 apos cpos : Pos} (he : PET X e (tE U W m)) (hK : X.K = U.K := by rfl)
    (hbase : attributeBase (.Constant (.str z) j0 c0) "join" X.env (eval (.Constant (.str z) j0 c0) X.env) = eval (.Constant (.str z) j0 c0) X.env := by rfl)
    (hfew : ((backTo cpos (starEach [e] X.env)).all (fun x => !x.1) && (backToKw cpos (keywordEach [] X.env)).all (fun x => x.1.isSome)
      && decide ([e].length + ([] : List Keyword).length + (if ([] : List Keyword).isEmpty then 0 else 1) < 30)) = true := by rfl)
    (hline : (apos.endLine == cpos.line) = true := by rfl) (hs : starEach [e] X.env = (false, eval e X.env) :: starEach [] X.env := by rfl) (hp : (backTo cpos (starEach [] X.env)).any (·.1) = false := by rfl) :
    PE X (.Call (.Attribute (.Constant (.str z) j0 c0) "join" apos) [e] [] cpos) (tE U W (mStrM joinG (mC (.str z)) (aCons m aNil))) := by
  have jd := (m_join (X := X) (U := U) hK)
  refine pe_imp (pe_joinT he hbase hfew hline hs hp) fun σ H Q ⟨M, S, ρ, A, p⟩ => ⟨rfl, ?_⟩
  change PostX U (Rep U) M H σ W ((aCons m aNil ρ S).bind fun xs S2 => ofO (joinG S2 z xs) S2) Q at p
  have t1 : tA U W (aCons m aNil) σ H (fun xs H2 => ∃ a p, ∃ ys : List Str, V.str z = .str a ∧ xs = [.ref p] ∧ (SqL X.K H2 p (ys.map V.str) ∨ SqT X.K H2 p (ys.map V.str)) ∧ (ys.map (·.length)).sum + ys.length * a.length ≤ 16777216 ∧ Q (.str (Txt.join a ys)) H2) := tX.bind A p fun ds S2 M2 H2 vs e2 A2 ra p2 => by
    obtain ⟨d, ed, q⟩ := ofO_post p2
    exact join_post hK A2.r ra ed q
  obtain ⟨M0, S0, ρ0, A0, p0⟩ := t1
  refine tX.bind A0 (f := fun x S1 => (aNil ρ0 S1).bind fun xs S2 => .ok (x :: xs) S2) p0 fun x S1 M1 H1 v e1 A1 r1 p1 => ?_
  exact p1 M1 H1 [v] A1.refl A1.r (.cons r1 .nil)
end
end DL
/-! DL39: what the head says of an exception class with its own __init__; list(o), o an instance (the mirror). -/
namespace DL
open PySem PySem.Spec PyProof.Rows L2
theorem refs_of_tail : ∀ l : List Value, PySem.W.excTail [.type "ValueError", .type "Exception", .type "BaseException", .type "object"] l = true → PySem.HandSPX.refsVE l = true
  | [], h => by cases h
  | .ref _ :: r, h => refs_of_tail r h
  | .none :: _, h => h
  | .bool _ :: _, h => h
  | .int _ _ :: _, h => h
  | .str _ _ :: _, h => h
  | .type _ :: _, h => h
  | .builtin _ :: _, h => h
  | x :: r, h => by
    cases x <;> first | exact h | exact refs_of_tail r h
theorem oex_of {K : PySem.W.Frag} {C : Addr} (i : PySem.W.excInitIn K C [.type "ValueError", .type "Exception", .type "BaseException", .type "object"] "ValueError.__new__" = true) (d : PySem.W.hasDictIn K C = true) (s : PySem.W.findIn K (.ref C) "__setattr__" = some (some (.builtin "object.__setattr__")))
    (b : PySem.W.subIn K (.ref C) (.type "BaseException") = some true) (t : PySem.W.typeIn K (.ref C) = some (.type "type")) (k : PySem.W.keepIn K (.ref C) = true) : OexC K C := by
  refine ⟨?_, s, b, t, k⟩
  unfold PySem.W.excInitIn at i
  split at i
  · rename_i dd cd sl ho
    split at i
    · rename_i C' bm k0 k1 k2 k3 n k5 hm hs
      simp only [Bool.and_eq_true, beq_iff_eq, Bool.not_eq_true'] at i
      obtain ⟨⟨⟨rfl, rfl⟩, hdel⟩, ht⟩ := i
      have hd : cd.hasDict = true := by
        unfold PySem.W.hasDictIn PySem.W.clsIn at d
        rw [ho] at d
        simpa using d
      obtain ⟨nm, bs, mro, ns, qn, hd0, sn, sub, ab, col, del⟩ := cd
      dsimp only at hm hdel hd
      subst hm hdel hd
      have hsl : sl = #[k0, k1, k2, k3, some (.builtin "ValueError.__new__"), k5] := by
        obtain ⟨l⟩ := sl
        simp only at hs
        rw [hs]
      subst hsl
      exact ⟨_, _, _, _, _, _, _, _, _, _, _, _, _, _, _, ho, refs_of_tail _ ht⟩
    · cases i
  · cases i
/-- list(o), o an instance of class c whose __iter__ gives its tuple's iterator -/
def mListI (c : Nat) (fld : Str) (m : ME) : ME := fun ρ S => (m ρ S).bind fun d S1 => match insG [c] S1 d with
  | some z => match z.2.2.lookup fld with
    | some (.tup ds) => if ds.length ≤ lim then .ok (.lst ds) S1 else .stuck
    | _ => .stuck
  | none => .stuck
end DL
/-! DL40: list(o), o an instance whose __iter__ gives its tuple's iterator and whose __len__ its length. -/
namespace DL
open PySem PySem.Spec PyProof.Rows L2
/-! ### an own __len__ that gives a tuple's length -/
def tLnR (K : PySem.W.Frag) (fld : Str) : TS := fun Dn σ H => ∃ (a C dx tp : Addr) (fv : List (Str × V)) (zs : List V), σ[0]? = some (some (.ref a)) ∧ H a = some (.ins C dx fv) ∧ Cls K C ∧ NoAttr K C fld ∧ fv.lookup fld = some (.ref tp) ∧ SqT K H tp zs ∧ Dn.rt (.int zs.length) H
section
variable {X : Cx} {fld : Str} {p1 p2 p3 p4 p5 : Pos}
theorem s_lnR (hm : X.mg "len" = none) (hN : X.N[0]? = some (Str.ofString "self") := by rfl) (hg : Gl X "len" := by rfl) (hv : Vis X.env.scope "self" := by first | exact Or.inl rfl | exact Or.inr (Or.inl rfl) | exact Or.inr (Or.inr rfl))
    (hb : attributeBase (.Name "self" p2) fld X.env (eval (.Name "self" p2) X.env) = eval (.Name "self" p2) X.env := by rfl)
    (he : starEach [.Attribute (.Name "self" p2) fld p3] X.env = (false, eval (.Attribute (.Name "self" p2) fld p3) X.env) :: starEach [] X.env := by rfl) (hpl : (backTo p4 (starEach [] X.env)).any (·.1) = false := by rfl) :
    PS X (.Return (some (.Call (.Name "len" p1) [.Attribute (.Name "self" p2) fld p3] [] p4)) p5) (tLnR X.K fld) :=
  ps_imp (ps_ret (pe_callB call_len hg hm boot_len (pa_cons (pe_fld (pe_var hN hv) hb) pa_nil he) (by decide) (by decide) he hpl)) fun Dn σ H ⟨a, C, dx, tp, fv, zs, h1, h2, h3, h4, h5, h6, q⟩ =>
    ⟨_, h1, a, C, dx, fv, _, rfl, h2, h3, h4, h5, _, zs.length, rfl, .inr ⟨zs, h6, rfl⟩, q⟩
end
structure DoesLn (P : Program) (w : World) (K : PySem.W.Frag) (mg : Str → Option Value) (base : Heap) (U : Uv) (c : Nat) (fld : Str) (f : Addr) : Prop where
  me : Meth K (U.cl c) "__len__" f
  run : ∀ (A : Around) (outer : List PySem.Env) (s : Shared) (H : Hp) (a dx tp : Addr) (fv : List (Str × V)) (zs : List V), Room 1 A → Env0 P w K mg base A outer s H → H a = some (.ins (U.cl c) dx fv) → fv.lookup fld = some (.ref tp) → SqT K H tp zs →
    codeAny (model P w) A (.call (.ref f) ⟨[.ref a], []⟩) (CR (L2N.CX P w) outer P w H s (fun v H' => v = .int zs.length ∧ H' = H) (fun _ _ _ => False)) s
theorem doesLn_of {P : Program} {w : World} {K : PySem.W.Frag} {mg : Str → Option Value} {base : Heap} {U : Uv} {c : Nat} {fld qual : Str} {st : Stmt} {f : Addr} {fd : FuncData} (F : L2.Fun K "__len__" qual st f fd) (S : FnScope ["self"] ["self"] (defScope st)) (hb : Binds K fd ["self"] [])
    (cl : Cls K (U.cl c)) (me : Meth K (U.cl c) "__len__" f) (na : NoAttr K (U.cl c) fld)
    (body : ∀ (cdv : Value) (A : Around) (outer : List PySem.Env) (s : Shared) (H : Hp) (E : XK), PSs (cxOf (L2N.CX P w) P w K mg base ["self"] qual (defScope st) f cdv A outer s H E) (defBody st) (tLnR K fld)) : DoesLn P w K mg base U c fld f := by
  refine ⟨me, fun A outer s H a dx tp fv zs hr e0 ha hl hs => ?_⟩
  obtain ⟨oc, od, kV, doc, pm, an, cdv, ct, osl, rfl, lk, hcd⟩ := F.ex
  have bt := hb s [Value.ref a] (e0.mod.kin.keeps fun b o e => (e0.bs b o e).1) rfl
  rw [List.append_nil] at bt
  refine run_at (us := [.ref a]) (vs := [.ref a]) lk hcd S hr e0 bt (.cons rfl .nil) rfl (body cdv A outer s H _) ?_
  exact ⟨a, U.cl c, dx, tp, fv, zs, rfl, ha, cl, na, hl, hs, rfl, rfl⟩
/-! ### the walk over a tuple's iterator -/
theorem walks_tupiter {prog : Program} {w : World} {A : Around} {it tp : Addr} {items : Array Value} (hh : A.handled = none) (hne : tp ≠ it) :
    WalksS prog w A it [it, tp] [it] (fun a b => a = b) items.size (fun i v => items[0 + i]? = some v) (fun i s => i ≤ items.size ∧ IsTupIter s.heap it tp i ∧ IsTup s.heap tp items) where
  sub := by simp
  grefl := fun _ => rfl
  gtrans := fun _ _ _ => Eq.trans
  frame := fun i s h' tk ⟨hi, ⟨o, ho, r⟩, ⟨o2, ho2, r2⟩⟩ _ k => ⟨hi, ⟨o, k it (by simp) o ho, r⟩, ⟨o2, k tp (by simp) o2 ho2, r2⟩⟩
  item := fun i s Q E hi ⟨_, a, b⟩ hQ => by
    have hx : items[i]? = some items[i] := Array.getElem?_eq_getElem hi
    have hx0 : items[0 + i]? = some items[i] := by rw [Nat.zero_add]; exact hx
    refine next_tuple_item a b hx fun h' a' sb => hQ _ _ hx0 ⟨hi, a', b.extBut sb.extBut hne⟩ ⟨fun b o hb e => sb.extBut b o (by simpa using hb) e, rfl, rfl, rfl, Nat.le_refl _⟩
  done := fun s Q E ⟨_, a, b⟩ hQ => next_tuple_end hh a b (Array.getElem?_eq_none (Nat.le_refl _)) fun h' eb => hQ _ ⟨fun b o hb e => eb b o (by simpa using hb) e, rfl, rfl, rfl, Nat.le_refl _⟩
  self := fun i s Q E ⟨_, a, _⟩ h => by
    refine wpAny_pyIter_slot a.typeIs F.slot_tuple_iterator_iter (wpAny_call_entry F.slot_tuple_iterator_iter a.typeIs F.entry_tuple_iterator_iter ?_ (F.args_tuple_iterator_iter_1 _))
    exact wpAny_pure ⟨_, rfl, "tuple_iterator", _, a.typeIs, F.slot_tuple_iterator_next.lookup, h⟩
theorem items_all {P : Nat → Value → Prop} {acc items : Array Value} (hP : ∀ i v, P i v → items[0 + i]? = some v) (h : ItemsOf P acc items.size) : acc.toList = items.toList := by
  have := items_drop (i0 := 0) hP (by rw [Nat.sub_zero]; exact h)
  rw [this, List.drop_zero]
/-! ### list(o) -/
section
variable {X : Cx} {U : Uv} {W : WX} {c : Nat} {fld : Str} {fi fl : Addr}
/-- what the length says of it -/
theorem hint_inst {pins : List (Addr × Obj)} {σ : L2.St} {H : Hp} {s : Shared} {a dx tp : Addr} {fv : List (Str × V)} {zs : List V} {A : Around} {E : Value → Shared → Prop} {Q : Bool → Shared → Prop} (GL : DoesLn X.prog X.w X.K X.mg X.base U c fld fl) (sb : Sub X 2 A) (I : Inv X pins σ H s)
    (ea : H a = some (.ins (U.cl c) dx fv)) (el : fv.lookup fld = some (.ref tp)) (hs : SqT X.K H tp zs) (hz : zs.length ≤ sizeLine) (q : ∀ b s', Inv X pins σ H s' → Q b s') : wpAny (model X.prog X.w) A (Builtin.List.listLengthHint (.ref a)) Q E s := by
  obtain ⟨mA, J, _⟩ := ins_get I.hok ea
  obtain ⟨od, J, _⟩ := J.look
  unfold Builtin.List.listLengthHint
  refine wpAny_bind (wpAny_bind (J.type.here ((PySem.W.looks_findIn I.kIn GL.me.at_).here ?_)))
  refine PySem.W.KFB.if_not rfl ?_
  dsimp only
  rw [if_pos (by rfl)]
  refine wpAny_bind (wpAny_rule (wpAny_bind (wpAny_attempt ?_)))
  refine Calls.call_function_entry kind_len plain_len entry_len (args_len1 (.ref a)) ?_
  unfold Builtin.«len»
  refine wpAny_bind (m := oneArg "len" _) <| wpAny_pure <| wpAny_bind (m := callSpecial? (.ref a) (Str.ofString "__len__")) (PySem.W.special_fn I.kIn J GL.me.at_ (beq_iff_eq.mp GL.me.fn) ?_)
  have e0 : Env0 X.prog X.w X.K X.mg X.base A.in1 X.stack s H := by
    have z := I.env0
    exact ⟨by rw [sb.in1.fr]; exact z.frames, z.mod, z.bs, z.bsz, z.funs, z.frf, z.hok, z.bare⟩
  refine wpAny_call (codeAny_mono (GL.run A.in1 X.stack s H a dx tp fv zs sb.in1.room e0 ea el hs) fun r s' hq => ?_)
  match r, hq with
  | .error er, hq =>
    obtain ⟨_, _, _, _, _, _, _, _, _, _, _, _, z⟩ := hq
    exact z.elim
  | .ok .next, hq => exact hq.elim
  | .ok .brk, hq => exact hq.elim
  | .ok .cont, hq => exact hq.elim
  | .ok (.ret u), hq =>
    obtain ⟨v', H', I', rv, ev, eH⟩ := I.after hq
    subst ev eH
    obtain ⟨t, rfl⟩ := rv
    refine wpAny_bind (wpAny_holding <| wpAny_pure <| wpAny_bind <| wpAny_letGo ?_)
    have b0 : ¬ ((zs.length : Int) < 0) := by omega
    have b1 : ¬ ((zs.length : Int) ≥ 2 ^ 63) := by
      have := sizeLine_eq
      omega
    show wpAny _ _ (if (zs.length : Int) < 0 then _ else if (zs.length : Int) ≥ 2 ^ 63 then _ else _) _ _ _
    rw [if_neg b0, if_neg b1]
    refine wpAny_bind (wpAny_mkInt (wpAny_pure ⟨_, rfl, ?_⟩))
    refine wpAny_bind (wpAny_pure ?_)
    have b2 : Builtin.List.listTooLong ((zs.length : Int)).toNat = false := by rw [Int.toNat_natCast]; exact notLongL hz
    dsimp only
    rw [if_neg (by rw [b2]; decide)]
    exact wpAny_pure (q _ _ (I'.tok _))
theorem fill_listI {pins : List (Addr × Obj)} {σ : L2.St} {H1 H2 : Hp} {s : Shared} {q0 it tp : Addr} {zs : List V} {A1 : Around} {Rs : Result → Shared → Prop} (hh : A1.handled = none) (I4 : Inv X pins σ H2 s) (hH2 : H2 = upd H1 it (TitO tp it)) (hn : H1 it = none) (hle : X.s_0.heap.objs.size ≤ it)
    (eq1 : H1 q0 = some (.lst [])) (s1 : SqT X.K H1 tp zs) (hqt : q0 ≠ tp) (hti : tp ≠ it) (hdone : ∀ s', Inv X pins σ (upd H1 q0 (.lst zs)) s' → Rs (.ok (.ret .none)) s') :
    codeAny (model X.prog X.w) A1 (.builtin "list.extend.loop" ⟨[.ref q0, .ref it, .none], []⟩) Rs s := by
  have hi : H2 it = some (TitO tp it) := by rw [hH2, upd_same]
  have hgi : s.heap.get? it = some (titObj tp) := (show ObjOk X.prog X.w H2 s.heap it (TitO tp it) from I4.hok it _ hi).1
  have hqi : q0 ≠ it := ne_of_none eq1 hn
  have J5 := ItX.inv_drop I4 hi
  have fp := ItX.inv_fp I4 hi hle
  rw [hH2, ItX.dropH_upd hn] at J5 fp
  obtain ⟨its, rv, pl, hz⟩ := J5.tuple s1
  obtain ⟨z, its0, k, r3, hl3, e3⟩ := J5.lstM eq1
  cases r3
  have hsz : its.toArray.size ≤ sizeLine := by rw [List.size_toArray, ← rv.length]; exact hz
  refine codeAny_extend_loopS (A := A1) (walks_tupiter (A := A1.in1) (items := its.toArray) hh hti) hsz q0 (by simp [hqi, hqt]) .none _ 0 s #[] k rfl (Nat.zero_le _) ⟨Nat.zero_le _, ⟨_, hgi, rfl, rfl⟩, pl⟩ e3 (ItemsOf.nil _) fun s5 acc cc mv hS ia => hdone s5 ?_
  have ea : acc.toList = its := items_all (fun _ _ h => h) ia
  have g1 : (s5.heap.update q0 fun _ => { cls := .type "list", dict := none, data := .seq [].toArray k, slots := #[] }).get? q0 = some { cls := .type "list", dict := none, data := .seq [].toArray k, slots := #[] } := Heap.get?_update_self _ hS rfl
  have J6 : Inv X pins σ H1 { s with heap := s5.heap.update q0 fun _ => { cls := .type "list", dict := none, data := .seq [].toArray k, slots := #[] }, toks := s5.toks } := J5.turned (t' := s5.toks) (it := it) (fun b o hb e => by
    by_cases hbq : b = q0
    · subst hbq
      rw [e3] at e
      cases e
      exact g1
    · exact (Heap.get?_update_other _ _ (Ne.symm hbq)).trans (mv.heap b o (by simp [hbq, hb]) e)) fp.1 fp.2.1 fp.2.2.2.1 fp.2.2.2.2.1 fp.2.2.2.2.2
  have J7 := J6.write (x := q0) (e := q0) (o := .lst zs) (h' := s5.heap) (t' := s5.toks) (by rw [eq1]; exact trivial) (.inl rfl) (fun b u hb hu => (Heap.get?_update_other _ _ (Ne.symm hb)).symm.trans hu) ⟨_, hS⟩ ⟨hz, acc.toList, cc, by rw [ea]; exact rv, by simpa using hS⟩
  have es : s5 = { s with heap := s5.heap, toks := s5.toks } := by
    have x1 := mv.gens
    have x2 := mv.drawn
    have x3 := mv.os
    cases s5
    cases s
    simp only at x1 x2 x3
    subst x1 x2 x3
    rfl
  rw [es]
  exact J7
theorem ext_listI {pins : List (Addr × Obj)} {σ : L2.St} {H1 : Hp} {s : Shared} {q0 a dx tp : Addr} {fv : List (Str × V)} {zs : List V} {A1 : Around} {Rs : Result → Shared → Prop} (GI : DoesIt X.prog X.w X.K X.mg X.base U c fld fi) (GL : DoesLn X.prog X.w X.K X.mg X.base U c fld fl) (sb : Sub X 3 A1.in1) (hh : A1.handled = none)
    (I : Inv X pins σ H1 s) (ea1 : H1 a = some (.ins (U.cl c) dx fv)) (el : fv.lookup fld = some (.ref tp)) (eq1 : H1 q0 = some (.lst [])) (s1 : SqT X.K H1 tp zs) (s2 : ∀ p u, H1 p = none → SqT X.K (upd H1 p u) tp zs) (hqt : q0 ≠ tp) (hz : zs.length ≤ sizeLine)
    (hdone : ∀ s', Inv X pins σ (upd H1 q0 (.lst zs)) s' → Rs (.ok (.ret .none)) s') :
    wpAny (model X.prog X.w) A1.in1 (Builtin.List.listExtendWith (.ref q0) (.ref a) .none)
      (fun fin s' => match fin with | .done f => Rs (.ok f) s' | .again c' => c'.quiet = true ∧ codeAny (model X.prog X.w) A1 c' Rs s') (fun e s' => Rs (.error e) s') s := by
  have hne : q0 ≠ a := ne_of eq1 ea1 (fun z => nomatch z)
  obtain ⟨mA, J, _⟩ := ins_get I.hok ea1
  obtain ⟨od, J, _⟩ := J.look
  unfold Builtin.List.listExtendWith
  refine wpAny_bind (J.type.here ?_)
  have n1 : Builtin.List.listSameRef (.ref q0) (.ref a) = false := by simp [Builtin.List.listSameRef, hne]
  have n2 : (Value.ref (U.cl c) == Value.type "list") = false := rfl
  have n3 : (Value.ref (U.cl c) == Value.type "tuple") = false := rfl
  simp only [n1, n2, n3, Bool.or_false, Bool.false_eq_true, if_false]
  refine wpAny_bind (pyIter_inst I.kIn J GI.me.at_ GI.me.fn ?_)
  have e0 : Env0 X.prog X.w X.K X.mg X.base A1.in1 X.stack s H1 := by
    have z := I.env0
    exact ⟨by rw [sb.fr]; exact z.frames, z.mod, z.bs, z.bsz, z.funs, z.frf, z.hok, z.bare⟩
  refine wpAny_call (codeAny_mono (GI.run A1.in1 X.stack s H1 a dx tp fv zs (sb.room.mono (by decide)) e0 ea1 el s1) fun r s' hq => ?_)
  match r, hq with
  | .error er, hq =>
    obtain ⟨_, _, _, _, _, _, _, _, _, _, _, _, z⟩ := hq
    exact z.elim
  | .ok .next, hq => exact hq.elim
  | .ok .brk, hq => exact hq.elim
  | .ok .cont, hq => exact hq.elim
  | .ok (.ret u), hq =>
    obtain ⟨v', H', I', rv, it, ev, hn, hle, eH⟩ := I.after hq
    subst ev
    have eu : u = Value.ref it := rv
    subst eu
    have hi : H' it = some (TitO tp it) := by rw [eH, upd_same]
    have hg : s'.heap.get? it = some (titObj tp) := (show ObjOk X.prog X.w H' s'.heap it (TitO tp it) from I'.hok it _ hi).1
    refine ⟨it, tp, rfl, hg, ?_⟩
    have hi0 : X.s_0.heap.objs.size ≤ it := Nat.le_trans I.sz hle
    have hti : tp ≠ it := by
      obtain ⟨_, _, ⟨_, h9, _⟩, _⟩ := I.tuple s1
      exact Nat.ne_of_lt (Nat.lt_of_lt_of_le (Heap.lt_size h9) hle)
    have ea2 : H' a = some (.ins (U.cl c) dx fv) := by rw [eH, upd_ne (ne_of_none ea1 hn)]; exact ea1
    have eq2 : H' q0 = some (.lst []) := by rw [eH, upd_ne (ne_of_none eq1 hn)]; exact eq1
    refine wpAny_bind (wpAny_holding (hint_inst GL (sb.mono (by decide)) I' ea2 el (by rw [eH]; exact s2 it _ hn) hz fun b s4 I4 => ?_))
    have fin : ∀ s5, Inv X pins σ H' s5 → codeAny (model X.prog X.w) A1 (.builtin "list.extend.loop" ⟨[.ref q0, .ref it, .none], []⟩) Rs s5 := fun s5 I5 => fill_listI hh I5 eH hn hi0 eq1 s1 hqt hti hdone
    obtain ⟨z, its, k, r3, hl3, e3⟩ := I4.lstM eq2
    cases r3
    refine wpAny_ite_split (fun _ => ?_) (fun _ => wpAny_pure ⟨plainId_quiet PySem.F.plain_extend_loop _, fin _ I4⟩)
    refine wpAny_bind (wpAny_rule (wpAny_bind ?_))
    show wpAny _ _ (updateSeq q0 (·.push .none) >>= fun _ => updateSeq q0 (·.pop)) _ _ _
    refine wpAny_bind (wpAny_updateSeq e3 rfl ?_)
    have K1 := I4.lset (f := (·.push Value.none)) (its' := [Value.none]) (ys := [.non]) (t' := s4.toks) eq2 e3 (by simp) (.cons rfl .nil) (by rw [List.length_singleton, sizeLine_eq]; decide)
    obtain ⟨z4, its4, k4, r4, hl4, e4⟩ := K1.lstM upd_same
    obtain ⟨u4, rfl, ru4⟩ := r4.one
    refine wpAny_updateSeq e4 rfl ?_ (by show 1 ≤ sizeLine; rw [sizeLine_eq]; decide) (by show 0 ≤ sizeLine + 1; exact Nat.zero_le _)
    have K2 := K1.lset (f := (·.pop)) (its := [u4]) (its' := []) (ys := []) (t' := s4.toks) upd_same e4 (by rfl) .nil (Nat.zero_le _)
    rw [upd_upd] at K2
    have hH : upd H' q0 (.lst []) = H' := by
      funext x
      by_cases hx : x = q0
      · rw [hx, upd_same, eq2]
      · rw [upd_ne hx]
    rw [hH] at K2
    exact wpAny_pure ⟨plainId_quiet PySem.F.plain_extend_loop _, fin _ K2⟩
theorem run_listI {pins : List (Addr × Obj)} {σ : L2.St} {H : Hp} {s : Shared} {a dx tp : Addr} {fv : List (Str × V)} {zs : List V} {Q : VK} (GI : DoesIt X.prog X.w X.K X.mg X.base U c fld fi) (GL : DoesLn X.prog X.w X.K X.mg X.base U c fld fl) (hr : Room 5 X.A) (hc : X.calm = true) (I : Inv X pins σ H s)
    (ea : H a = some (.ins (U.cl c) dx fv)) (el : fv.lookup fld = some (.ref tp)) (hs0 : SqT X.K H tp zs) (hz : zs.length ≤ sizeLine) (hs : ∀ p u, H p = none → SqT X.K (upd H p u) tp zs) (hs2 : ∀ p u p2 u2, H p = none → upd H p u p2 = none → SqT X.K (upd (upd H p u) p2 u2) tp zs) (q : ∀ p, H p = none → Q (.ref p) (upd H p (.lst zs))) :
    wpAny (model X.prog X.w) X.A (call (.type "list") [.ref a]) (EP X pins σ Q) X.xe s := by
  have sb : Sub X 3 X.A.in1.in1 := Sub.in1 (Sub.in1 (⟨hr, rfl⟩ : Sub X 5 X.A))
  refine callType_codes (Q₁ := fun ob t => ob = .ref s.heap.objs.size ∧ t = { s with heap := s.heap.push { cls := .type "list", data := .seq #[] } }) PySem.F.called_list (PySem.F.typeCall_list_1 _) PySem.F.entry_list_init (code_list_new _ ⟨rfl, rfl⟩) fun ob t ht => ?_
  obtain ⟨rfl, rfl⟩ := ht
  have g0 : (s.heap.push { cls := .type "list", data := .seq #[] }).get? s.heap.objs.size = some { cls := .type "list", data := .seq #[] } := Heap.get?_push_size _ rfl
  refine ⟨⟨_, g0, rfl⟩, PySem.F.args_list_init_2 _ _, ?_⟩
  have fr : H s.heap.objs.size = none := I.hok.fresh (Nat.le_refl _)
  have I1 : Inv X pins σ (upd H s.heap.objs.size (.lst [])) { s with heap := s.heap.push { cls := .type "list", data := .seq #[] } } := I.lnew (its := []) (t' := s.toks) .nil (Nat.zero_le _)
  have ea1 : upd H s.heap.objs.size (.lst []) a = some (.ins (U.cl c) dx fv) := by rw [upd_ne (ne_of_none ea fr)]; exact ea
  show wpAny _ _ (do let old ← Builtin.List.listItems (.ref s.heap.objs.size); Builtin.List.listUpdate (.ref s.heap.objs.size) (fun _ => #[]); letGo old.toList.reverse; Builtin.List.listExtendWith (.ref s.heap.objs.size) (.ref a) .none) _ _ _
  refine wpAny_bind ?_
  unfold Builtin.List.listItems
  refine wpAny_bind (wpAny_seqItems g0 rfl (wpAny_pure ?_))
  show wpAny _ _ (updateSeq s.heap.objs.size (fun _ => #[]) >>= fun _ => letGo (#[] : Array Value).toList.reverse >>= fun _ => Builtin.List.listExtendWith (.ref s.heap.objs.size) (.ref a) .none) _ _ _
  refine wpAny_bind (wpAny_updateSeq g0 rfl (wpAny_bind (wpAny_letGo ?_)))
  have I2 := I1.lset (f := fun _ => #[]) (its := []) (its' := []) (ys := []) (t' := s.toks) upd_same g0 rfl .nil (Nat.zero_le _)
  rw [upd_upd] at I2
  have hqt : s.heap.objs.size ≠ tp := by
    obtain ⟨_, _, ⟨_, h9, _⟩, _⟩ := I.tuple hs0
    exact (Nat.ne_of_lt (Heap.lt_size h9)).symm
  refine ext_listI (A1 := X.A.in1) (Rs := wants (fun r s₂ => r = .none ∧ EP X pins σ Q (.ref s.heap.objs.size) s₂) X.xe) GI GL sb (I.ok.hd hc) I2 ea1 el upd_same (hs _ _ fr) (fun p u h => hs2 _ _ p u fr h) hqt hz fun s' J => ⟨rfl, .ref s.heap.objs.size, _, J, rfl, ?_⟩
  rw [upd_upd]
  exact q _ fr
/-- list(o) -/
theorem call_listI {j : Nat} (GI : DoesIt X.prog X.w X.K X.mg X.base U c fld fi) (GL : DoesLn X.prog X.w X.K X.mg X.base U c fld fl) (hr : Room 5 X.A) (hc : X.calm = true) :
    CallR X (.type "list") (fun xs H Q => ∃ (a dx tp : Addr) (fv : List (Str × V)) (zs : List V), xs = [.ref a] ∧ H a = some (.ins (U.cl c) dx fv) ∧ fv.lookup fld = some (.ref tp) ∧ SqT X.K H tp zs ∧ zs.length ≤ sizeLine ∧ (∀ p u, H p = none → SqT X.K (upd H p u) tp zs) ∧
      (∀ p u p2 u2, H p = none → upd H p u p2 = none → SqT X.K (upd (upd H p u) p2 u2) tp zs) ∧ ∀ p, H p = none → Q (.ref p) (upd H p (.lst zs))) := fun pins s σ H xs us Q I r ⟨a, dx, tp, fv, zs, ex, ea, el, hs0, hz, hs, hs2, q⟩ => by
  subst ex
  obtain ⟨u, rfl, hu⟩ := vals1 r
  have eu : u = Value.ref a := hu
  subst eu
  exact run_listI GI GL hr hc I ea el hs0 hz hs hs2 q
theorem e_listI {j : Nat} {e : Expr} {m : ME} {q pos : Pos} (GI : DoesIt X.prog X.w X.K X.mg X.base U c fld fi) (GL : DoesLn X.prog X.w X.K X.mg X.base U c fld fl) (hr : Room j X.A) (hm : X.mg "list" = none) (he : PE X e (tE U W m)) (hj : 5 ≤ j := by decide) (hc : X.calm = true := by rfl) (hg : Gl X "list" := by rfl)
    (hs : starEach [e] X.env = (false, eval e X.env) :: starEach [] X.env := by rfl) (hpl : (backTo pos (starEach [] X.env)).any (·.1) = false := by rfl) (hK : X.K = U.K := by rfl) : PE X (.Call (.Name "list" q) [e] [] pos) (tE U W (mListI c fld m)) :=
  pe_imp (pe_callTy (call_listI (j := j) GI GL (hr.mono hj) hc) hg hm (by rfl) (pa_cons he pa_nil hs) (by decide) (by decide) hs hpl) fun σ H Q ⟨M, S, ρ, A, p⟩ => tX.bind A p fun d S1 M1 H1 v e1 A1 rv p1 => by
    cases g1 : insG [c] S1 d with
    | none => rw [g1] at p1; exact p1.elim
    | some z =>
      rw [g1] at p1
      obtain ⟨rfl, hS, hm⟩ := insG_some g1
      obtain ⟨dx, fv, rfl, hi, hH, fr⟩ := rv.objI A1.r hS
      have hc := List.mem_singleton.mp hm
      rw [hc] at hH
      simp only at p1
      cases g2 : z.2.2.lookup fld with
      | none => rw [g2] at p1; exact p1.elim
      | some x =>
        rw [g2] at p1
        obtain ⟨w, hl, rw'⟩ := fr.look g2
        cases x with
        | tup ds =>
          obtain ⟨tp, xs, rfl, ht, ra⟩ := rw'.tupV
          simp only at p1
          by_cases hlen : ds.length ≤ lim
          · rw [if_pos hlen] at p1
            rw [hK]
            refine ⟨_, dx, tp, fv, xs, rfl, hH, hl, ht.sq, by rw [ra.length]; exact lim_line hlen, fun p u h => ?_, fun p u p2 u2 h h2 => ?_, fun p h => Gives.lst p1 A1.r ra h⟩
            · exact (TupAt.mv (A1.r.extNew h).mv ht).sq
            · exact (TupAt.mv ((A1.r.new h).extNew h2).mv (TupAt.mv (A1.r.extNew h).mv ht)).sq
          · rw [if_neg hlen] at p1; exact p1.elim
        | _ => exact p1.elim
end
end DL
/-! DL41: dicts of the store: looked at. -/
namespace DL
open PySem PySem.Spec PyProof.Rows L2
section
variable {P : Program} {w : World} {h : Heap} {U : Uv} {M M' : Mp} {H H' : Hp}
theorem TupAt.obj {K : PySem.W.Frag} {a : Addr} {xs : List V} (ok : HOk P w H h) (kin : K.In h) (t : TupAt K M H a xs) : ∃ (o : Obj) (its : Array Value) (n : Nat), h.get? a = some o ∧ o.cls = .type "tuple" ∧ o.data = .seq its n ∧ Vals xs its.toList := by
  rcases t with ⟨t, _⟩ | ⟨o, its, n, hk, hc, hd, _, r⟩
  · obtain ⟨_, its, r, o, e1, e2, n, e3⟩ : ObjOk P w H h a (.tup xs) := ok a _ t
    exact ⟨o, its.toArray, n, e1, e2, e3, by simpa using r⟩
  · exact ⟨o, its, n, kin a o hk, hc, hd, r⟩
mutual
theorem Rep.nested (ok : HOk P w H h) (kin : U.K.In h) : ∀ {v : V} {d : D} {k : NestedKey} {u : Value}, Rep U M H v d → keyN d = some k → RelV v u → NestedIs h k u
  | _, _, _, _, .non, e, r => by
    rw [keyN] at e; cases e; cases r; exact .none
  | _, _, _, _, .bl b, e, r => by
    rw [keyN] at e; cases e; cases r; exact .bool rfl
  | _, _, _, _, .int i, e, r => by
    rw [keyN] at e; cases e; obtain ⟨t, rfl⟩ := r; exact .int i t
  | _, _, _, _, .str x, e, r => by
    rw [keyN] at e; cases e; obtain ⟨t, rfl⟩ := r; exact .text x t
  | _, _, _, _, .tup (ds := ds) t rs, e, r => by
    rw [keyN] at e
    cases q : keyNs ds with
    | none => rw [q] at e; cases e
    | some ks =>
      rw [q] at e; cases e; cases r
      obtain ⟨o, its, n, e1, e2, e3, vs⟩ := t.obj ok kin
      exact .tup e1 e2 e3 (RepAll.nested ok kin rs q vs)
  | _, _, _, _, .lst _ _, e, _ => by rw [keyN] at e <;> first | cases e | (intros; contradiction)
  | _, _, _, _, .fz _ _, e, _ => by rw [keyN] at e <;> first | cases e | (intros; contradiction)
  | _, _, _, _, .dct0 _ _, e, _ => by rw [keyN] at e <;> first | cases e | (intros; contradiction)
  | _, _, _, _, .obj _, e, _ => by rw [keyN] at e <;> first | cases e | (intros; contradiction)
  | _, _, _, _, .ty _, e, _ => by rw [keyN] at e <;> first | cases e | (intros; contradiction)
  | _, _, _, _, .cls _, e, _ => by rw [keyN] at e <;> first | cases e | (intros; contradiction)
  | _, _, _, _, .fn _, e, _ => by rw [keyN] at e <;> first | cases e | (intros; contradiction)
theorem RepAll.nested (ok : HOk P w H h) (kin : U.K.In h) : ∀ {vs : List V} {ds : List D} {ks : List NestedKey} {us : List Value}, RepAll U M H vs ds → keyNs ds = some ks → Vals vs us → NestedAll h ks us
  | _, _, _, _, .nil, e, r => by
    rw [keyNs] at e; cases e; cases r; exact .nil
  | _, _, _, _, .cons (d := d) (ds := ds) a b, e, r => by
    rw [keyNs] at e
    cases q1 : keyN d with
    | none => rw [q1] at e; cases e
    | some k =>
      cases q2 : keyNs ds with
      | none => rw [q1, q2] at e; cases e
      | some ks =>
        rw [q1, q2] at e; cases e
        cases r with
        | cons r1 r2 => exact .cons (Rep.nested ok kin a q1 r1) (RepAll.nested ok kin b q2 r2)
end
/-- what stands at b is the key k -/
def IsK (K : PySem.W.Frag) (H : Hp) (k : NestedKey) (b : Addr) : Prop := ∀ (P : Program) (w : World) (h : Heap), HOk P w H h → K.In h → (nestedKind P w).is h k b
theorem isK_of {b : Addr} {d : D} {k : NestedKey} (r : Rep U M H (.ref b) d) (e : keyT d = some k) : IsK U.K H k b := by
  intro P w h ok kin
  cases d with
  | tup ds =>
    unfold keyT at e
    simp only at e
    cases q : keyNs ds with
    | none => rw [q] at e; cases e
    | some ks =>
      rw [q] at e
      simp only at e
      by_cases hd : (NestedKey.tup ks).depth ≤ 8
      · rw [if_pos hd] at e; cases e
        exact ⟨Rep.nested ok kin r (by rw [keyN, q]; rfl) rfl, hd⟩
      · rw [if_neg hd] at e; cases e
  | _ => cases e
theorem keyT_ref {v : V} {d : D} {k : NestedKey} (r : Rep U M H v d) (e : keyT d = some k) : ∃ b, v = .ref b := by
  cases r with
  | tup _ _ => exact ⟨_, rfl⟩
  | _ => cases e
/-- a dict with tuples as keys -/
structure ND (K : PySem.W.Frag) (w : World) (H : Hp) (a : Addr) (xs : List (NestedKey × Addr × Value)) : Prop where
  at_ : Rd H a (.ext (NDct w a xs))
  lo : (a == sysModules) = false
  len : xs.length ≤ sizeLine
  ks : ∀ x ∈ xs, IsK K H x.1 x.2.1
theorem ND.of {K : PySem.W.Frag} {a : Addr} {xs : List (NestedKey × Addr × Value)} (n : ND K w H a xs) (ok : HOk P w H h) (kin : K.In h) : h.DictOfH (nestedKind P w) a xs := by
  obtain ⟨⟨o, es, ep, h1, h2, h3, h4, h5⟩, _⟩ : ObjOk P w H h a (.ext (NDct w a xs)) := n.at_.ok ok
  exact ⟨o, es, ep, h1, h2, h3, h4, fun x hx => n.ks x hx P w h ok kin, h5⟩
theorem nd_ok {a : Addr} {xs : List (NestedKey × Addr × Value)} (dd : h.DictOfH (nestedKind P w) a xs) : ObjOk P w H h a (.ext (NDct w a xs)) := by
  obtain ⟨o, es, ep, h1, h2, h3, h4, _, h5⟩ := dd
  exact ⟨⟨o, es, ep, h1, h2, h3, h4, h5⟩, ⟨o, h1⟩, fun h1 h2 ⟨o, es, ep, a, r⟩ k => ⟨o, es, ep, k o a, r⟩⟩
end
/-! ### the mirror's look -/
def keyK : D → Option Key
  | .int i => some (.inl i)
  | .str x => some (.inr x)
  | _ => none
def atK : List (Key × D) → Key → Option D
  | [], _ => none
  | x :: r, k => if x.1 = k then some x.2 else atK r k
def atN : List (NestedKey × D × D) → NestedKey → Option D
  | [], _ => none
  | x :: r, k => match x.1.beq k with
    | true => some x.2.2
    | false => atN r k
/-- what a dict of the store holds at a key -/
def dctG (S : Sto) (o k : D) : Option (Option D) := match o with
  | .obj i => match S[i]? with
    | some (.dK kvs) => match keyK k with
      | some q => some (atK kvs q)
      | none => none
    | some (.dN kvs) => match keyT k with
      | some q => some (atN kvs q)
      | none => none
    | some (.dF kvs) => match keyT k with
      | some q => some (atN kvs q)
      | none => none
    | _ => none
  | _ => none
section
variable {U : Uv} {M : Mp} {H : Hp} {S : Sto}
theorem keyK_rep {v : V} {d : D} {k : Key} (r : Rep U M H v d) (e : keyK d = some k) : v = kV k := by
  cases r with
  | int i => cases e; rfl
  | str x => cases e; rfl
  | _ => cases e
def RelD (U : Uv) (M : Mp) (H : Hp) : Option V → Option D → Prop
  | some v, some d => Rep U M H v d
  | none, none => True
  | _, _ => False
theorem kent_at : ∀ {vs : List (Key × V)} {kvs : List (Key × D)}, Paired (KEnt U M H) vs kvs → ∀ k, RelD U M H (valV vs k) (atK kvs k)
  | _, _, .nil, _ => trivial
  | (k1, v) :: vs, (k2, d) :: kvs, .cons ⟨e, r⟩ t, k => by
    have e : k1 = k2 := e
    subst e
    unfold atK
    by_cases q : k1 = k
    · rw [valV_pos q, if_pos q]; exact r
    · rw [valV_neg q, if_neg q]; exact kent_at t k
theorem atKey_cons {x : NestedKey × Addr × Value} {r : List (NestedKey × Addr × Value)} {k : NestedKey} : atKey (x :: r) k = match x.1.beq k with
    | true => some x.2
    | false => atKey r k := by
  unfold atKey
  rw [List.find?_cons, NestedKey.decide_eq]
  cases x.1.beq k <;> rfl
def RelN (U : Uv) (M : Mp) (H : Hp) : Option (Addr × Value) → Option D → Prop
  | some p, some d => ∃ v, RelV v p.2 ∧ Rep U M H v d
  | none, none => True
  | _, _ => False
theorem nent_at : ∀ {xs : List (NestedKey × Addr × Value)} {kvs : List (NestedKey × D × D)}, Paired (NEnt U M H) xs kvs → ∀ k, RelN U M H (atKey xs k) (atN kvs k)
  | _, _, .nil, _ => trivial
  | (k1, p) :: xs, (k2, d) :: kvs, .cons ⟨e, _, _, r⟩ t, k => by
    have e : k1 = k2 := e
    subst e
    rw [atKey_cons]
    unfold atN
    cases q : k1.beq k with
    | true => exact r
    | false => exact nent_at t k
theorem RelN.isSome {o : Option (Addr × Value)} {d : Option D} (r : RelN U M H o d) : o.isSome = d.isSome := by
  cases o <;> cases d <;> first | rfl | exact r.elim
theorem RelD.isSome {o : Option V} {d : Option D} (r : RelD U M H o d) : o.isSome = d.isSome := by
  cases o <;> cases d <;> first | rfl | exact r.elim
theorem nent_ks {xs : List (NestedKey × Addr × Value)} {kvs : List (NestedKey × D × D)} (p : Paired (NEnt U M H) xs kvs) : ∀ x ∈ xs, IsK U.K H x.1 x.2.1 := by
  induction p with
  | nil => intro x hx; cases hx
  | cons a t ih =>
    intro x hx
    rcases List.mem_cons.mp hx with rfl | hx
    · obtain ⟨e, k, r, _⟩ := a
      exact isK_of r (by rw [e]; exact k)
    · exact ih x hx
/-- the two kinds of a dict of the store -/
theorem dct_at {v : V} {o k : D} {q : Option D} (r : R U M S H) (rv : Rep U M H v o) (e : dctG S o k = some q) :
    (∃ i kvs vs kk, o = .obj i ∧ S[i]? = some (.dK kvs) ∧ i < M.n ∧ v = .ref (M.at_ i) ∧ H (M.at_ i) = some (.dK vs) ∧ Paired (KEnt U M H) vs kvs ∧ keyK k = some kk ∧ q = atK kvs kk) ∨
    (∃ i kvs xs kk, o = .obj i ∧ i < M.n ∧ v = .ref (M.at_ i) ∧ ND U.K U.wd H (M.at_ i) xs ∧ Paired (NEnt U M H) xs kvs ∧ keyT k = some kk ∧ q = atN kvs kk) := by
  cases rv with
  | @obj i hi =>
    unfold dctG at e
    simp only at e
    cases q1 : S[i]? with
    | none => rw [q1] at e; cases e
    | some ob =>
      rw [q1] at e
      cases ob with
      | lst _ => cases e
      | ins _ _ => cases e
      | xc _ _ => cases e
      | dK kvs =>
        simp only at e
        cases q2 : keyK k with
        | none => rw [q2] at e; cases e
        | some kk =>
          rw [q2] at e; cases e
          obtain ⟨vs, h1, h2⟩ := r.at_ i _ q1
          exact .inl ⟨i, kvs, vs, kk, rfl, q1, hi, rfl, h1, h2, rfl, rfl⟩
      | dN kvs =>
        simp only at e
        cases q2 : keyT k with
        | none => rw [q2] at e; cases e
        | some kk =>
          rw [q2] at e; cases e
          obtain ⟨xs, h1, ⟨h2, h3⟩, h4⟩ := r.at_ i _ q1
          exact .inr ⟨i, kvs, xs, kk, rfl, hi, rfl, ⟨.inl h1, h2, h3, nent_ks h4⟩, h4, rfl, rfl⟩
      | dF kvs =>
        simp only at e
        cases q2 : keyT k with
        | none => rw [q2] at e; cases e
        | some kk =>
          rw [q2] at e; cases e
          obtain ⟨o, xs, h1, ⟨h2, h3⟩, h4⟩ := r.at_ i _ q1
          exact .inr ⟨i, kvs, xs, kk, rfl, hi, rfl, ⟨.inr ⟨o, h1⟩, h2, h3, nent_ks h4⟩, h4, rfl, rfl⟩
  | _ => cases e
end
def rKin (neg : Bool) : R2 := fun x y H Q => ∃ (a : Addr) (kvs : List (Key × V)) (k : Key), y = .ref a ∧ x = kV k ∧ H a = some (.dK kvs) ∧ Q (.bl (if neg then !(valV kvs k).isSome else (valV kvs k).isSome)) H
def rNin (X : Cx) (neg : Bool) : R2 := fun x y H Q => ∃ (a : Addr) (xs : List (NestedKey × Addr × Value)) (k : NestedKey) (b : Addr), y = .ref a ∧ x = .ref b ∧ ND X.K X.w H a xs ∧ IsK X.K H k b ∧ Q (.bl (if neg then !(atKey xs k).isSome else (atKey xs k).isSome)) H
section
variable {X : Cx} {U : Uv} {W : WX} {k : Nat}
theorem room_n {A : Around} (hr : Room k A) : A.in1.units + 8 < cLine := by
  have h1 := hr.units
  show A.units + 1 + 8 < cLine
  omega
theorem op_Kin (hr : Room k X.A) : OpR X (compareOp .In) (rKin false) := by
  intro pins s σ H x y v u Q I rx ry ⟨a, kvs, kk, ey, ex, hH, q⟩
  subst ey ex
  cases ry
  exact d_in (hu_of hr) I (.k hH) rx fun s' I' => ⟨.bl (valV kvs kk).isSome, H, I', rfl, q⟩
theorem op_Knin (hr : Room k X.A) : OpR X (compareOp .NotIn) (rKin true) := by
  intro pins s σ H x y v u Q I rx ry ⟨a, kvs, kk, ey, ex, hH, q⟩
  subst ey ex
  cases ry
  exact d_notIn (hu_of hr) I (.k hH) rx fun s' I' => ⟨.bl (!(valV kvs kk).isSome), H, I', rfl, q⟩
theorem op_Nin (hr : Room k X.A) : OpR X (compareOp .In) (rNin X false) := by
  intro pins s σ H x y v u Q I rx ry ⟨a, xs, kk, b, ey, ex, n, ik, q⟩
  subst ey ex
  cases rx; cases ry
  exact wpAny_in_heap (knd := nestedKind X.prog X.w) (room_n hr) (ik _ _ _ I.hok I.kIn) n.lo (n.of I.hok I.kIn) ⟨.bl (atKey xs kk).isSome, H, I.tok _, rfl, q⟩
theorem op_Nnin (hr : Room k X.A) : OpR X (compareOp .NotIn) (rNin X true) := by
  intro pins s σ H x y v u Q I rx ry ⟨a, xs, kk, b, ey, ex, n, ik, q⟩
  subst ey ex
  cases rx; cases ry
  exact wpAny_notIn_heap (knd := nestedKind X.prog X.w) (room_n hr) (ik _ _ _ I.hok I.kIn) n.lo (n.of I.hok I.kIn) ⟨.bl (!(atKey xs kk).isSome), H, I.tok _, rfl, q⟩
/-- k in d; also of dicts -/
def inX (S : Sto) (k o : D) : Option D := match dctG S o k with
  | some r => some (.bl r.isSome)
  | none => inD S k o
def ninX (S : Sto) (k o : D) : Option D := match dctG S o k with
  | some r => some (.bl (!r.isSome))
  | none => ninD S k o
theorem in_dct {M : Mp} {S : Sto} {H : Hp} {x y : V} {dx dy : D} {r : Option D} {neg : Bool} {Q : VK} (hK : X.K = U.K) (hW : X.w = U.wd) (rR : R U M S H) (hx : Rep U M H x dx) (hy : Rep U M H y dy) (e : dctG S dy dx = some r) (g : Gives U M S H (.bl (if neg then !r.isSome else r.isSome)) Q) : rKin neg x y H Q ∨ rNin X neg x y H Q := by
  rcases dct_at rR hy e with ⟨i, kvs, vs, kk, _, _, _, rfl, hH, p, hk, rfl⟩ | ⟨i, kvs, xs, kk, _, _, rfl, n, p, hk, rfl⟩
  · refine .inl ⟨_, vs, kk, rfl, keyK_rep hx hk, hH, ?_⟩
    rw [(kent_at p kk).isSome]
    exact g.here rR (.bl _)
  · obtain ⟨b, rfl⟩ := keyT_ref hx hk
    refine .inr ⟨_, xs, kk, b, rfl, rfl, by rw [hK, hW]; exact n, by rw [hK]; exact isK_of hx hk, ?_⟩
    rw [(nent_at p kk).isSome]
    exact g.here rR (.bl _)
theorem o_inX (hr : Room k X.A) (hK : X.K = U.K := by rfl) (hW : X.w = U.wd := by rfl) : OpD U X (compareOp .In) inX := by
  obtain ⟨r0, h1, h2⟩ := (o_in (U := U) hr hK).ex
  refine ⟨_, ((op_Kin hr).or (op_Nin hr)).or h1, fun M S H x y dx dy d Q r hx hy e g => ?_⟩
  unfold inX at e
  cases q : dctG S dy dx with
  | some z => rw [q] at e; cases e; exact .inl (in_dct (neg := false) hK hW r hx hy q g)
  | none => rw [q] at e; exact .inr (h2 M S H x y dx dy d Q r hx hy e g)
theorem o_ninX (hr : Room k X.A) (hK : X.K = U.K := by rfl) (hW : X.w = U.wd := by rfl) : OpD U X (compareOp .NotIn) ninX := by
  obtain ⟨r0, h1, h2⟩ := (o_nin (U := U) hr hK).ex
  refine ⟨_, ((op_Knin hr).or (op_Nnin hr)).or h1, fun M S H x y dx dy d Q r hx hy e g => ?_⟩
  unfold ninX at e
  cases q : dctG S dy dx with
  | some z => rw [q] at e; cases e; exact .inl (in_dct (neg := true) hK hW r hx hy q g)
  | none => rw [q] at e; exact .inr (h2 M S H x y dx dy d Q r hx hy e g)
/-! ### d[k] -/
def rKix : R2 := fun x y H Q => ∃ (a : Addr) (kvs : List (Key × V)) (k : Key) (z : V), x = .ref a ∧ y = kV k ∧ H a = some (.dK kvs) ∧ valV kvs k = some z ∧ Q z H
def rNix (X : Cx) : R2 := fun x y H Q => ∃ (a : Addr) (xs : List (NestedKey × Addr × Value)) (k : NestedKey) (b : Addr) (p : Addr × Value) (z : V), x = .ref a ∧ y = .ref b ∧ ND X.K X.w H a xs ∧ IsK X.K H k b ∧ atKey xs k = some p ∧ RelV z p.2 ∧ Q z H
theorem ix_K (hr : Room k X.A) : IxR X rKix := by
  intro value slice pins s σ H x y v u Q I rx ry ⟨a, kvs, kk, z, ex, ey, hH, hv, q⟩ hs
  subst ex ey
  cases rx
  obtain ⟨_, _, vs, rel, dd⟩ := dk_of I.hok hH
  obtain ⟨w', hw, rw'⟩ := RelO.some_of (v := z) (o := valueAt vs kk) (by rw [← hv]; exact rel.val kk)
  exact subscriptTail_builtinR (x := w') dd.typeIs PySem.F.slot_dict_getitem.lookup
    (wpAny_getItem_of (Q := fun r s' => r = w' ∧ EP X pins σ Q r s') (kV_is ry) dd.mapOf hw ⟨rfl, z, H, I.tok _, rw', q⟩) hs
theorem ix_N (hr : Room k X.A) : IxR X (rNix X) := by
  intro value slice pins s σ H x y v u Q I rx ry ⟨a, xs, kk, b, p, z, ex, ey, n, ik, hp, rz, q⟩ hs
  subst ex ey
  cases rx; cases ry
  have dd := n.of I.hok I.kIn
  exact subscriptTail_builtinR (x := p.2) dd.typeIs PySem.F.slot_dict_getitem.lookup
    (wpAny_getItem_heap (knd := nestedKind X.prog X.w) (Q := fun r s' => r = p.2 ∧ EP X pins σ Q r s') (room_n hr) (ik _ _ _ I.hok I.kIn) dd hp ⟨rfl, z, H, I.tok _, rz, q⟩) hs
def ixX (S : Sto) (o k : D) : Option D := match dctG S o k with
  | some r => r
  | none => ixO S o k
theorem i_ixX (hr : Room k X.A) (hK : X.K = U.K := by rfl) (hW : X.w = U.wd := by rfl) : IxD U X ixX := by
  obtain ⟨r0, h1, h2⟩ := (i_ix (X := X) (U := U) hK).ex
  refine ⟨_, ((ix_K hr).or (ix_N hr)).or h1, fun M S H x y dx dy d Q r hx hy e g => ?_⟩
  unfold ixX at e
  cases q : dctG S dx dy with
  | none => rw [q] at e; exact .inr (h2 M S H x y dx dy d Q r hx hy e g)
  | some z =>
    rw [q] at e
    simp only at e
    subst e
    rcases dct_at r hx q with ⟨i, kvs, vs, kk, _, _, _, rfl, hH, p, hk, ez⟩ | ⟨i, kvs, xs, kk, _, _, rfl, n, p, hk, ez⟩
    · have rd := kent_at p kk
      rw [← ez] at rd
      cases qv : valV vs kk with
      | none => rw [qv] at rd; exact rd.elim
      | some z =>
        rw [qv] at rd
        exact .inl (.inl ⟨_, vs, kk, z, rfl, keyK_rep hy hk, hH, qv, g.here r rd⟩)
    · have rd := nent_at p kk
      rw [← ez] at rd
      cases qv : atKey xs kk with
      | none => rw [qv] at rd; exact rd.elim
      | some z =>
        rw [qv] at rd
        obtain ⟨v, rv, rr⟩ := rd
        obtain ⟨b, rfl⟩ := keyT_ref hy hk
        exact .inl (.inr ⟨_, xs, kk, b, z, v, rfl, rfl, by rw [hK, hW]; exact n, by rw [hK]; exact isK_of hy hk, qv, rv, g.here r rr⟩)
end
end DL
/-! DL42: dicts of the store: new ones, d[k] = v. -/
namespace DL
open PySem PySem.Spec PyProof.Rows L2
/-! ### new dicts -/
def mDctK : ME := fun _ S => .ok (.obj S.length) (S ++ [.dK []])
def mDctN : ME := fun _ S => .ok (.obj S.length) (S ++ [.dN []])
def tNewN (w : World) : TE := fun _ H Q => ∀ p, H p = none → (p == sysModules) = false → Q (.ref p) (upd H p (.ext (NDct w p [])))
section
variable {X : Cx} {U : Uv} {W : WX} {pos : Pos}
theorem low_size {s : Shared} {pins : List (Addr × Obj)} {σ : L2.St} {H : Hp} (I : Inv X pins σ H s) : (s.heap.objs.size == sysModules) = false := beq_eq_false_iff_ne.mpr (Ne.symm (Nat.ne_of_lt I.big))
theorem pe_newN : PE X (.Dict [] [] pos) (tNewN X.w) := ⟨fun pins s σ H Q I q => by
  have hn := I.hok.fresh (Nat.le_refl s.heap.objs.size)
  refine wpAny_Dict_empty ⟨.ref s.heap.objs.size, _, ?_, rfl, q _ hn (low_size I)⟩
  exact I.laid (a := s.heap.objs.size) (o := .ext (NDct X.w s.heap.objs.size [])) (t' := s.toks) (fun b o e => Heap.get?_push_of_some _ e) (Nat.le_refl _) (nd_ok (P := X.prog) (Heap.DictOfH.new s.heap))⟩
theorem e_dctK : PE X (.Dict [] [] pos) (tE U W mDctK) :=
  pe_imp pe_dnewK fun σ H Q ⟨M, S, ρ, A, g⟩ => fun p hp => by
    have ho : ObAt U (M.push p) (upd H p (.dK [])) p (.dK []) := ⟨[], upd_same, .nil⟩
    have k : ∀ a o, H a = some o → upd H p (.dK []) a = some o := fun a o e => by rw [upd_ne (ne_of_none e hp)]; exact e
    refine g (M.push p) _ _ (A.r.extPush hp k upd_same) (A.r.push hp k ho) ?_
    have z : Rep U (M.push p) (upd H p (.dK [])) (.ref ((M.push p).at_ S.length)) (.obj S.length) := .obj (by show _ < M.n + 1; rw [A.r.n]; exact Nat.lt_succ_self _)
    have e : (M.push p).at_ S.length = p := if_pos A.r.n.symm
    rw [e] at z; exact z
theorem e_dctN (hW : X.w = U.wd := by rfl) : PE X (.Dict [] [] pos) (tE U W mDctN) :=
  pe_imp pe_newN fun σ H Q ⟨M, S, ρ, A, g⟩ => fun p hp lo => by
    rw [hW]
    have ho : ObAt U (M.push p) (upd H p (.ext (NDct U.wd p []))) p (.dN []) := ⟨[], upd_same, ⟨lo, Nat.zero_le _⟩, .nil⟩
    have k : ∀ a o, H a = some o → upd H p (.ext (NDct U.wd p [])) a = some o := fun a o e => by rw [upd_ne (ne_of_none e hp)]; exact e
    refine g (M.push p) _ _ (A.r.extPush hp k upd_same) (A.r.push hp k ho) ?_
    have z : Rep U (M.push p) (upd H p (.ext (NDct U.wd p []))) (.ref ((M.push p).at_ S.length)) (.obj S.length) := .obj (by show _ < M.n + 1; rw [A.r.n]; exact Nat.lt_succ_self _)
    have e : (M.push p).at_ S.length = p := if_pos A.r.n.symm
    rw [e] at z; exact z
end
/-! ### d[k] = v -/
def putKD (kvs : List (Key × D)) (k : Key) (d : D) : List (Key × D) := match atK kvs k with
  | some _ => kvs.map fun x => if x.1 = k then (x.1, d) else x
  | none => kvs ++ [(k, d)]
def putND (kvs : List (NestedKey × D × D)) (k : NestedKey) (kd d : D) : List (NestedKey × D × D) := match atN kvs k with
  | some _ => kvs.map fun x => match x.1.beq k with
    | true => (x.1, x.2.1, d)
    | false => x
  | none => kvs ++ [(k, kd, d)]
section
variable {U : Uv} {M : Mp} {H : Hp} {S : Sto}
theorem Paired.snoc {α β : Type} {F : α → β → Prop} {a : α} {b : β} (q : F a b) : ∀ {l : List α} {m : List β}, Paired F l m → Paired F (l ++ [a]) (m ++ [b])
  | _, _, .nil => .cons q .nil
  | _, _, .cons r t => .cons r (Paired.snoc q t)
theorem Paired.maps {α β : Type} {F : α → β → Prop} {f : α → α} {g : β → β} (h : ∀ a b, F a b → F (f a) (g b)) : ∀ {l : List α} {m : List β}, Paired F l m → Paired F (l.map f) (m.map g)
  | _, _, .nil => .nil
  | _, _, .cons r t => .cons (h _ _ r) (Paired.maps h t)
theorem kent_put {vs : List (Key × V)} {kvs : List (Key × D)} {k : Key} {v : V} {d : D} (p : Paired (KEnt U M H) vs kvs) (r : Rep U M H v d) : Paired (KEnt U M H) (putK vs k v) (putKD kvs k d) := by
  have q := (kent_at p k).isSome
  unfold putK putKD
  rw [valV_any]
  cases e : atK kvs k with
  | some x =>
    rw [e] at q
    have q : _ = true := q
    rw [if_pos q]
    refine Paired.maps (fun a b ⟨h1, h2⟩ => ?_) p
    obtain ⟨k1, a2⟩ := a
    obtain ⟨k2, b2⟩ := b
    have h1 : k1 = k2 := h1
    subst h1
    by_cases z : k1 = k
    · simp only [z, if_pos]; exact ⟨rfl, r⟩
    · simp only [z, if_false]; exact ⟨rfl, h2⟩
  | none =>
    rw [e] at q
    rw [if_neg (by rw [q]; decide)]
    exact Paired.snoc ⟨rfl, r⟩ p
theorem nent_put {xs : List (NestedKey × Addr × Value)} {kvs : List (NestedKey × D × D)} {k : NestedKey} {b : Addr} {kd d : D} {v : V} {r : Value} (p : Paired (NEnt U M H) xs kvs) (hk : keyT kd = some k) (rk : Rep U M H (.ref b) kd) (rv : Rep U M H v d) (rr : RelV v r) : Paired (NEnt U M H) (storedH xs k b r) (putND kvs k kd d) := by
  have q := (nent_at p k).isSome
  unfold storedH putND
  cases e : atN kvs k with
  | some x =>
    rw [e] at q
    have q : _ = true := q
    rw [if_pos q]
    refine Paired.maps (fun a c ⟨h1, h2, h3, h4⟩ => ?_) p
    obtain ⟨k1, a2, a3⟩ := a
    obtain ⟨k2, c2, c3⟩ := c
    have h1 : k1 = k2 := h1
    subst h1
    unfold putAt
    simp only
    have z := NestedKey.decide_eq k1 k
    cases qb : k1.beq k with
    | true =>
      rw [qb] at z
      rw [if_pos (of_decide_eq_true z)]
      exact ⟨rfl, h2, h3, v, rr, rv⟩
    | false =>
      rw [qb] at z
      rw [if_neg (of_decide_eq_false z)]
      exact ⟨rfl, h2, h3, h4⟩
  | none =>
    rw [e] at q
    rw [if_neg (by rw [q]; decide)]
    exact Paired.snoc ⟨rfl, hk, rk, v, rr, rv⟩ p
end
def rSetN (X : Cx) : TSet := fun o i v H Q => ∃ (a : Addr) (xs : List (NestedKey × Addr × Value)) (k : NestedKey) (b : Addr), o = .ref a ∧ i = .ref b ∧ H a = some (.ext (NDct X.w a xs)) ∧ ND X.K X.w H a xs ∧ IsK X.K H k b ∧ xs.length < sizeLine ∧
  ∀ r, RelV v r → Q (upd H a (.ext (NDct X.w a (storedH xs k b r))))
section
variable {X : Cx} {U : Uv} {W : WX} {k : Nat}
theorem PSet.or {t t' : TSet} (h : PSet X t) (h' : PSet X t') : PSet X (fun o i v H Q => t o i v H Q ∨ t' o i v H Q) := fun pins s σ H o i v ov iv u Q I r1 r2 r3 x => x.elim (h pins s σ H o i v ov iv u Q I r1 r2 r3) (h' pins s σ H o i v ov iv u Q I r1 r2 r3)
def rSetK : TSet := fun o i v H Q => ∃ (a : Addr) (kvs : List (Key × V)) (k : Key), o = .ref a ∧ i = kV k ∧ H a = some (.dK kvs) ∧ kvs.length < sizeLine ∧ Q (upd H a (.dK (putK kvs k v)))
theorem set_K (hr : Room k X.A) : PSet X rSetK := by
  intro pins s σ H o i v ov iv u Q I ro ri rv ⟨a, kvs, kk, eo, ei, hH, hl, q⟩
  subst eo ei
  cases ro
  exact d_setItem (hu_of hr) I (.k hH hl) ri rv fun s' I' => ⟨_, I', q⟩
theorem storedH_len {xs : List (NestedKey × Addr × Value)} {k : NestedKey} {b : Addr} {r : Value} : (storedH xs k b r).length ≤ xs.length + 1 := by
  unfold storedH
  split
  · rw [List.length_map]; exact Nat.le_succ _
  · rw [List.length_append]; exact Nat.le_refl _
theorem set_N (hr : Room k X.A) : PSet X (rSetN X) := by
  intro pins s σ H o i v ov iv u Q I ro ri rv ⟨a, xs, kk, b, eo, ei, hH, n, ik, hl, q⟩
  subst eo ei
  cases ro; cases ri
  refine wpAny_setItem_heap (knd := nestedKind X.prog X.w) (hsz := n.len) (room_n hr) (ik _ _ _ I.hok I.kIn) (n.of I.hok I.kIn) fun h' dd' hs => ⟨_, ?_, q u rv⟩
  obtain ⟨ob, _, _, hob, _⟩ := id dd'
  exact d_write I (by rw [hH]; exact True.intro) hs ⟨ob, hob⟩ (nd_ok dd')
/-- the store behind d[k] = v -/
def putG (S : Sto) (o k d : D) : Option Sto := match o with
  | .obj i => match S[i]? with
    | some (.dK kvs) => match keyK k with
      | some q => if kvs.length < lim then some (S.set i (.dK (putKD kvs q d))) else none
      | none => none
    | some (.dN kvs) => match keyT k with
      | some q => if kvs.length < lim then some (S.set i (.dN (putND kvs q k d))) else none
      | none => none
    | _ => none
  | _ => none
def sSubX (m mo mi : ME) : MS := fun ρ S => .of (m ρ S) ρ fun d S1 => .of (mo ρ S1) ρ fun o S2 => .of (mi ρ S2) ρ fun i S3 => match putG S3 o i d with
  | some S4 => .nx ρ S4
  | none => .stuck
theorem paired_len {α β : Type} {F : α → β → Prop} {l : List α} {m : List β} (p : Paired F l m) : l.length = m.length := Paired.length p
theorem s_subX {o i e : Expr} {m mo mi : ME} {pos pos' : Pos} (hr : Room k X.A) (he : PE X e (tE U W m)) (ho : PE X o (tE U W mo)) (hi : PE X i (tE U W mi)) (hK : X.K = U.K := by rfl) (hW : X.w = U.wd := by rfl)
    (ha : ∀ v, assign (.Subscript o i pos') X.env v = (do
      let ov ← holding [v] (eval o X.env)
      let iv ← holding [v, ov] (eval i X.env)
      standAt pos'
      holding [v, ov, iv] (setItem ov iv v)
      release [v, ov, iv] []) := by intro _; rfl)
    (hs : swapsWithSole [.Subscript o i pos'] e pos.line X.env = pure false := by rfl) (hw : swappedStores [.Subscript o i pos'] e X.env = pure none := by rfl) (h1 : (assignEach [.Subscript o i pos'] X.env).map (·.2) = [assign (.Subscript o i pos') X.env] := by rfl) :
    PS X (.Assign [.Subscript o i pos'] e pos) (tS U W (sSubX m mo mi)) :=
  ps_imp (ps_asg he (pg_sub ho hi (PSet.or (set_K hr) (set_N hr)) ha) hs hw h1) fun Dn σ H ⟨M, S, ρ, A, p⟩ => tX.ofS A p fun d S1 M1 H1 v e1 A1 r1 p1 => tX.ofS A1 p1 fun dO S2 M2 H2 ov e2 A2 r2 p2 => tX.ofS A2 p2 fun dI S3 M3 H3 iv e3 A3 r3 p3 => by
    have r2' := r2.ext e3
    have r1' := (r1.ext e2).ext e3
    cases q : putG S3 dO dI d with
    | none => rw [q] at p3; exact p3.elim
    | some S4 =>
      rw [q] at p3
      simp only at p3
      cases r2' with
      | @obj n hn =>
        unfold putG at q
        simp only at q
        cases q1 : S3[n]? with
        | none => rw [q1] at q; cases q
        | some ob =>
          rw [q1] at q
          cases ob with
          | lst _ => cases q
          | ins _ _ => cases q
          | dF _ => cases q
          | xc _ _ => cases q
          | dK kvs =>
            simp only at q
            cases q2 : keyK dI with
            | none => rw [q2] at q; cases q
            | some kk =>
              rw [q2] at q
              simp only at q
              by_cases hl : kvs.length < lim
              · rw [if_pos hl] at q; cases q
                obtain ⟨vs, hH, pr⟩ := A3.r.at_ n _ q1
                have ex := A3.r.extSet (o := .dK (putK vs kk v)) hn (nofrz hH fun _ _ z => nomatch z)
                have R4 := A3.r.set (o := .dK (putK vs kk v)) (ob := .dK (putKD kvs kk d)) hn (nofrz hH fun _ _ z => nomatch z) ⟨_, upd_same, Paired.mapP (kent_put pr r1') fun _ _ z => z.mv ex.mv⟩
                refine .inl ⟨_, _, kk, rfl, keyK_rep r3 q2, hH, ?_, p3 M3 _ _ ex (A3.ext ex R4)⟩
                exact (Nat.lt_of_le_of_lt (by rw [paired_len pr]; exact Nat.le_refl _) (Nat.lt_of_lt_of_le hl (lim_line (Nat.le_refl _))))
              · rw [if_neg hl] at q; cases q
          | dN kvs =>
            simp only at q
            cases q2 : keyT dI with
            | none => rw [q2] at q; cases q
            | some kk =>
              rw [q2] at q
              simp only at q
              by_cases hl : kvs.length < lim
              · rw [if_pos hl] at q; cases q
                obtain ⟨xs, hH, ⟨lo, ln⟩, pr⟩ := A3.r.at_ n _ q1
                obtain ⟨b, eb⟩ := keyT_ref r3 q2
                subst eb
                have hx : xs.length < sizeLine := Nat.lt_of_le_of_lt (by rw [paired_len pr]; exact Nat.le_refl _) (Nat.lt_of_lt_of_le hl (lim_line (Nat.le_refl _)))
                refine .inr ⟨_, xs, kk, b, rfl, rfl, by rw [hW]; exact hH, by rw [hK, hW]; exact ⟨.inl hH, lo, ln, nent_ks pr⟩, by rw [hK]; exact isK_of r3 q2, hx, fun r rr => ?_⟩
                rw [hW]
                have ex := A3.r.extSet (o := .ext (NDct U.wd (M3.at_ n) (storedH xs kk b r))) hn (nofrz hH fun _ _ z => nomatch z)
                have R4 := A3.r.set (o := .ext (NDct U.wd (M3.at_ n) (storedH xs kk b r))) (ob := .dN (putND kvs kk dI d)) hn (nofrz hH fun _ _ z => nomatch z)
                  ⟨_, upd_same, ⟨lo, Nat.le_trans storedH_len hx⟩, Paired.mapP (nent_put pr q2 r3 r1' rr) fun _ _ z => z.mv ex.mv⟩
                exact p3 M3 _ _ ex (A3.ext ex R4)
              · rw [if_neg hl] at q; cases q
      | _ => cases q
end
end DL
/-! DL43: for k, v in d.items(), d a dict of the store with tuples as keys: it stays as it is from then on. -/
namespace DL
open PySem PySem.Spec PyProof.Rows L2
abbrev NX := List (NestedKey × Addr × Value)
/-- what HandS's frozen mark tells of such a dict -/
theorem frzN {X : Cx} {pins : List (Addr × Obj)} {σ : L2.St} {H : Hp} {s : Shared} {d : Addr} {o : Obj} {xs : NX} (I : Inv X pins σ H s) (h : H d = some (.frz o (.ext (NDct X.w d xs)))) :
    ∃ (es : Array DictEntry) (ep : Nat), s.heap.get? d = some o ∧ o.ExactDict ∧ o.data = .dict es ep ∧ es.size = xs.length ∧ ∀ i k b u, xs[i]? = some (k, b, u) → ∃ hi : i < es.size, es[i].key = .ref b ∧ es[i].val = u := by
  obtain ⟨hd, ⟨o', es, ep, ho, hx, hdt, he, _⟩, _⟩ := I.hok d _ h
  rw [hd] at ho; cases ho
  have hl : es.size = xs.length := by rw [← Array.length_toList, he, List.length_map]
  refine ⟨es, ep, hd, hx, hdt, hl, fun i k b u e => ?_⟩
  have hi : i < es.size := by rw [hl]; exact (List.getElem?_eq_some_iff.mp e).1
  have z : es.toList[i]? = some ⟨k.hash X.w, .ref b, u⟩ := by rw [he, List.getElem?_map, e]; rfl
  have z2 : es[i] = ⟨k.hash X.w, .ref b, u⟩ := by
    rw [Array.getElem?_toList, Array.getElem?_eq_getElem hi] at z
    exact Option.some.inj z
  exact ⟨hi, by rw [z2], by rw [z2]⟩
/-- the pairs of the dict at d, each a new tuple -/
def ItN (w : World) (d : Addr) (o : Obj) (xs : NX) : It :=
  ⟨fun i H => H d = some (.frz o (.ext (NDct w d xs))) ∧ i < xs.length,
   fun i H x H' => ∃ (T b : Addr) (k : NestedKey) (v : V) (u : Value), xs[i]? = some (k, b, u) ∧ RelV v u ∧ x = .ref T ∧ H T = none ∧ H' = upd H T (.tup [.ref b, v]),
   fun i H => H d = some (.frz o (.ext (NDct w d xs))) ∧ xs.length ≤ i⟩
section
variable {P : Program} {w : World} {K : PySem.W.Frag} {elts : List Expr} {kk : Nat} {tpos : Pos} {d : Addr} {o : Obj} {xs : NX} {es : Array DictEntry} {ep : Nat}
theorem turnN (it : Addr) (hod : o.data = .dict es ep) (hv : ∀ x ∈ xs, ∃ v, RelV v x.2.2) : Turn P w K (.Tuple elts kk tpos) (ItN w d o xs) [it] it (fun i h => ∃ p q, IsItemIter h it d i xs.length ep p q) where
  mem := List.mem_singleton.mpr rfl
  obj := fun i h ⟨p, q, e⟩ b hb => by
    rw [List.mem_singleton.mp hb]
    exact ⟨_, e, fun v z => nomatch z⟩
  keep := fun i h h' ⟨p, q, e⟩ k => ⟨p, q, k it (List.mem_singleton.mpr rfl) _ e⟩
  item := by
    intro X e1 e2 e3 _ i pins s σ H E I hf ⟨p, q, hi⟩ ⟨hd, hlt⟩
    subst e1 e2 e3
    obtain ⟨es2, ep2, hg, hx, hdt, hl, hes⟩ := frzN I hd
    rw [hod] at hdt; cases hdt
    obtain ⟨⟨k, b, u⟩, hxi⟩ : ∃ x, xs[i]? = some x := ⟨_, List.getElem?_eq_getElem hlt⟩
    obtain ⟨hlt2, hk, hu⟩ := hes i k b u hxi
    obtain ⟨v, rv⟩ := hv _ (List.mem_of_getElem? hxi)
    rw [← hl] at hi
    have hit : it < s.heap.objs.size := Heap.lt_size hi
    refine wpAny_pyNext_items_item_raw hi ⟨o, hg, hx, hod⟩ hlt2 fun h1 ho hT _ keep => ⟨_, rfl, ?_⟩
    refine wpAny_letOwnedTupleGo_items (s := { s with heap := h1 }) ho fun h2 hi2 sb => ?_
    have hT2 := (sb.2 s.heap.objs.size (Nat.ne_of_gt hit)).trans hT
    rw [hk, hu] at hT2
    have fresh := I.hok.fresh (Nat.le_refl s.heap.objs.size)
    have ok2 : ObjOk X.prog X.w (upd H s.heap.objs.size (.tup [.ref b, v])) h2 s.heap.objs.size (.tup [.ref b, v]) := ⟨Nat.le_trans (by decide : 2 ≤ lim) (lim_line (Nat.le_refl _)), [.ref b, u], .cons rfl (.cons rv .nil), _, hT2, rfl, _, rfl⟩
    refine ⟨.ref s.heap.objs.size, _, I.turnedNew (t' := s.toks) (ch := [it]) (fun c ob hc e => ?_) hf (Nat.le_refl _) ok2, rfl, ⟨_, b, k, v, u, hxi, rv, rfl, fresh, rfl⟩, ⟨_, _, by rw [← hl]; exact hi2⟩, fun c hc => ?_⟩
    · have hc' : c ≠ it := fun z => hc (List.mem_singleton.mpr z)
      exact (sb.2 c hc').trans (keep c ob hc' e)
    · rw [List.mem_singleton.mp hc, upd_ne (Nat.ne_of_lt hit)]
      exact (hf it (List.mem_singleton.mpr rfl)).1
  done := by
    intro X e1 e2 e3 hc i pins s σ H E I hf ⟨p, q, hi⟩ ⟨hd, hge⟩
    subst e1 e2 e3
    obtain ⟨es2, ep2, hg, hx, hdt, hl, hes⟩ := frzN I hd
    rw [hod] at hdt; cases hdt
    rw [← hl] at hi hge
    refine wpAny_pyNext_items_end_raw (I.ok.hd hc) hi ⟨o, hg, hx, hod⟩ hge fun h1 eb => ⟨rfl, ?_⟩
    exact I.turnedL (t' := s.toks) (ch := [it]) (fun c ob hc e => eb c ob (fun z => hc (List.mem_singleton.mpr z)) e) hf
  self := fun A i s Q E ⟨p, q, hi⟩ h => wpAny_pyIter_itemiter hi h
end
def iNItems (X : Cx) (td : TE) : TI := fun σ H R => td σ H fun x H1 => ∃ (d : Addr) (xs : NX), x = .ref d ∧ (d == sysModules) = false ∧ (∀ y ∈ xs, ∃ v, RelV v y.2.2) ∧
  ((H1 d = some (.ext (NDct X.w d xs)) ∧ ∀ o, R (ItN X.w d o xs) (upd H1 d (.frz o (.ext (NDct X.w d xs))))) ∨ ∃ o, H1 d = some (.frz o (.ext (NDct X.w d xs))) ∧ R (ItN X.w d o xs) H1)
section
variable {X : Cx} {U : Uv} {W : WX} {e : Expr} {td : TE} {m : ME} {elts : List Expr} {kk : Nat} {tpos apos cpos : Pos}
theorem pi_itemsN (he : PE X e td) (hbase : attributeBase e "items" X.env (eval e X.env) = eval e X.env := by rfl) (hline : (apos.endLine == cpos.line) = true := by rfl) : PI X (.Tuple elts kk tpos) (.Call (.Attribute e "items" apos) [] [] cpos) (iNItems X td) := by
  refine ⟨fun pins s σ H R I h => wpAny_Call_method (T := "dict") (id := "dict.items") hbase rfl hline F.plainAttrs_dict F.slot_dict_items F.type_dict_items (thn (he.run pins s σ H _ I h) fun u s1 ⟨x, H1, I1, rx, d, xs, ex, lo, hv, q⟩ => ?_)⟩
  subst ex
  cases rx
  -- the dict, walked: it stays
  obtain ⟨o, H2, I2, hd, q⟩ : ∃ o H2, Inv X pins σ H2 s1 ∧ H2 d = some (.frz o (.ext (NDct X.w d xs))) ∧ R (ItN X.w d o xs) H2 := by
    rcases q with ⟨hd, q⟩ | ⟨o, hd, q⟩
    · obtain ⟨o, I2⟩ := I1.lock hd True.intro
      exact ⟨o, _, I2, upd_same, q o⟩
    · exact ⟨o, _, I1, hd, q⟩
  obtain ⟨es, ep, hg, hx, hdt, hl, _⟩ := frzN I2 hd
  have raw : s1.heap.DictRaw d es ep := ⟨o, hg, hx, hdt⟩
  refine ⟨raw.typeIs, fun b z => by cases z; exact ⟨o, hg, hx.2.1⟩, ?_⟩
  let ob : Obj := { cls := .type "dict_items", data := .fields #[.ref d] }
  have I3 : Inv X pins σ H2 { s1 with heap := s1.heap.push ob } := I2.kept (t' := s1.toks) fun b u z => Heap.get?_push_of_some _ z
  show wpAny _ _ (callWith cpos (.builtin "dict.items") [.ref d] [] []) _ X.xe s1
  refine method_meetsIn F.slot_dict_items F.entry_dict_items rfl (PySem.evalArgs_none ⟨rfl, raw.typeIs, F.args_dict_items_1 _, _, meets_dict_items_raw d lo, ⟨⟨es, ep, raw⟩, ?_⟩⟩)
  refine wpAny_pyIter_items_raw ⟨ob, Heap.get?_push_size _ rfl, rfl, rfl⟩ (raw.push ob) ?_
  refine pi_one (tk := s1.toks) I3 _ (turnN _ hdt hv) ⟨.none, .none, ?_⟩ q
  rw [← hl]
  exact Heap.get?_push_size _ rfl
/-! ### the mirror -/
def pairsN (kvs : List (NestedKey × D × D)) : List D := kvs.map fun x => .tup [x.2.1, x.2.2]
def iItemsM (m : ME) : MI := fun ρ S => (m ρ S).bind fun x S1 => match x with
  | .obj i => match S1[i]? with
    | some (.dN kvs) => .ok (pairsN kvs) (S1.set i (.dF kvs))
    | some (.dF kvs) => .ok (pairsN kvs) S1
    | _ => .stuck
  | _ => .stuck
theorem nent_get {M : Mp} {H : Hp} : ∀ {xs : NX} {kvs : List (NestedKey × D × D)}, Paired (NEnt U M H) xs kvs → ∀ {i : Nat} {x : NestedKey × Addr × Value}, xs[i]? = some x → ∃ q, kvs[i]? = some q ∧ NEnt U M H x q
  | _, _, .nil, _, _, e => by simp at e
  | _, _, .cons a _, 0, _, e => by simp at e; subst e; exact ⟨_, rfl, a⟩
  | _, _, .cons _ t, i + 1, x, e => by
    obtain ⟨q, h1, h2⟩ := nent_get t (i := i) (x := x) (by simpa using e)
    exact ⟨q, by simpa using h1, h2⟩
theorem yieldsN {M : Mp} {H : Hp} {d : Addr} {o : Obj} {xs : NX} {kvs : List (NestedKey × D × D)} (hd : H d = some (.frz o (.ext (NDct U.wd d xs)))) (p : Paired (NEnt U M H) xs kvs) : Yields U M H (ItN U.wd d o xs) (pairsN kvs) where
  go := fun M' S' H' k f _ hk => ⟨f.frz _ _ _ hd, by
    unfold pairsN at hk
    rwa [List.length_map, ← Paired.length p] at hk⟩
  yld := fun M' S' H' k x H'' f r hk ⟨T, b, kx, v, u, hx, rv, ex, hT, eH⟩ => by
    subst ex eH
    obtain ⟨q, hq, _, _, rk, v2, rv2, rr⟩ := nent_get p hx
    have ev : v2 = v := rv2.inj rv
    subst ev
    refine ⟨.tup [q.2.1, q.2.2], ?_, r.extNew hT, r.new hT, Rep.newTup r hT (.cons (rk.mv f) (.cons (rr.mv f) .nil))⟩
    unfold pairsN
    rw [List.getElem?_map, hq]
    rfl
  stop := fun M' S' H' f _ => ⟨f.frz _ _ _ hd, by
    unfold pairsN
    rw [List.length_map, ← Paired.length p]
    exact Nat.le_refl _⟩
theorem nent_vals {M : Mp} {H : Hp} {xs : NX} {kvs : List (NestedKey × D × D)} (p : Paired (NEnt U M H) xs kvs) : ∀ y ∈ xs, ∃ v, RelV v y.2.2 := by
  induction p with
  | nil => intro y hy; cases hy
  | cons a t ih =>
    intro y hy
    rcases List.mem_cons.mp hy with rfl | hy
    · obtain ⟨_, _, _, v, rv, _⟩ := a
      exact ⟨v, rv⟩
    · exact ih y hy
theorem i_items (he : PE X e (tE U W m)) (hW : X.w = U.wd := by rfl) (hbase : attributeBase e "items" X.env (eval e X.env) = eval e X.env := by rfl) (hline : (apos.endLine == cpos.line) = true := by rfl) : PI X (.Tuple elts kk tpos) (.Call (.Attribute e "items" apos) [] [] cpos) (tI U W (iItemsM m)) :=
  pi_imp (pi_itemsN he hbase hline) fun σ H R' ⟨M, S, ρ, A, p⟩ => tX.bind A p fun x S1 M1 H1 v e1 A1 r1 p1 => by
    cases r1 with
    | @obj i hi =>
      simp only at p1
      cases q : S1[i]? with
      | none => rw [q] at p1; exact p1.elim
      | some ob =>
        rw [q] at p1
        cases ob with
        | lst _ => exact p1.elim
        | ins _ _ => exact p1.elim
        | xc _ _ => exact p1.elim
        | dK _ => exact p1.elim
        | dN kvs =>
          simp only at p1
          obtain ⟨xs, hH, z, pr⟩ := A1.r.at_ i _ q
          refine ⟨_, xs, rfl, z.1, nent_vals pr, .inl ⟨by rw [hW]; exact hH, fun o => ?_⟩⟩
          rw [hW]
          have ex := A1.r.extSet (o := .frz o (.ext (NDct U.wd (M1.at_ i) xs))) hi (nofrz hH fun _ _ z => nomatch z)
          have R2 := A1.r.set (o := .frz o (.ext (NDct U.wd (M1.at_ i) xs))) (ob := .dF kvs) hi (nofrz hH fun _ _ z => nomatch z) ⟨o, xs, upd_same, z, Paired.mapP pr fun _ _ z => z.mv ex.mv⟩
          exact p1 M1 _ _ ex R2 (yieldsN upd_same (Paired.mapP pr fun _ _ z => z.mv ex.mv))
        | dF kvs =>
          simp only at p1
          obtain ⟨o, xs, hH, z, pr⟩ := A1.r.at_ i _ q
          refine ⟨_, xs, rfl, z.1, nent_vals pr, .inr ⟨o, by rw [hW]; exact hH, ?_⟩⟩
          rw [hW]
          exact p1 M1 _ _ A1.refl A1.r (yieldsN hH pr)
    | _ => exact p1.elim
end
end DL
/-! DL44: d.get(k, x), list(d). -/
namespace DL
open PySem PySem.Spec PyProof.Rows L2
/-! ### d.get(k, x) -/
/-- a dict stands at a -/
def IsDX (w : World) (H : Hp) (a : Addr) : Prop := (∃ kvs, H a = some (.dK kvs)) ∨ ∃ xs : NX, Rd H a (.ext (NDct w a xs))
def tGetX (X : Cx) (td ty tx : TE) : TE := fun σ H Q => td σ H fun x H1 => ∃ a, x = .ref a ∧ IsDX X.w H1 a ∧ ty σ H1 fun y H2 => tx σ H2 fun z H3 =>
  (∃ (kvs : List (Key × V)) (k : Key), H3 a = some (.dK kvs) ∧ y = kV k ∧ Q ((valV kvs k).getD z) H3) ∨
  ∃ (xs : NX) (k : NestedKey) (b : Addr), ND X.K X.w H3 a xs ∧ y = .ref b ∧ IsK X.K H3 k b ∧ ((atKey xs k = none ∧ Q z H3) ∨ ∃ p v, atKey xs k = some p ∧ RelV v p.2 ∧ Q v H3)
section
variable {X : Cx} {U : Uv} {W : WX} {o e f : Expr} {apos cpos : Pos} {td ty tx : TE} {mo mk mx : ME} {k : Nat}
theorem isDX_at {pins : List (Addr × Obj)} {σ : L2.St} {H : Hp} {s : Shared} {a : Addr} (I : Inv X pins σ H s) (h : IsDX X.w H a) : s.TypeIs (.ref a) "dict" ∧ ∀ b, Value.ref a = .ref b → ∃ ob, s.heap.get? b = some ob ∧ ob.dict = none := by
  rcases h with ⟨kvs, e⟩ | ⟨xs, r⟩
  · obtain ⟨t1, t2, _⟩ := isD_at I (.inl ⟨kvs, .inl e⟩)
    exact ⟨t1, t2⟩
  · obtain ⟨⟨ob, es, ep, h1, h2, h3, _⟩, _⟩ : ObjOk X.prog X.w H s.heap a (.ext (NDct X.w a xs)) := r.ok I.hok
    exact ⟨⟨ob, h1, h2.1⟩, fun b z => by cases z; exact ⟨ob, h1, h2.2.1⟩⟩
theorem pe_getX (hr : Room k X.A) (ho : PE X o td) (he : PE X e ty) (hf : PE X f tx) (m : M2 X o "get" apos e f cpos) : PE X (.Call (.Attribute o "get" apos) [e, f] [] cpos) (tGetX X td ty tx) := by
  refine ⟨fun pins s σ H Q I h => wpAny_Call_method m.base m.few m.line F.plainAttrs_dict F.slot_dict_get F.type_dict_get (thn (ho.run pins s σ H _ I h) fun u s1 ⟨x, H1, I1, rx, a, ex, d, q1⟩ => ?_)⟩
  subst ex
  cases rx
  obtain ⟨t1, t2⟩ := isDX_at I1 d
  refine ⟨t1, t2, ?_⟩
  rw [m.trees]
  refine Calls.callWith_builtin rfl (Calls.evalArgs_plain (Calls.spliced_cons (thn (he.run pins s1 σ H1 _ I1 q1) fun kv s2 ⟨y, H2, I2, ry, q2⟩ => Calls.spliced_cons (thn (hf.run pins s2 σ H2 _ I2 q2) fun xv s3 ⟨z, H3, I3, rz, q3⟩ => Calls.spliced_nil ?_))))
  rcases q3 with ⟨kvs, kk, hd, ey, q⟩ | ⟨xs, kk, b, n, ey, ik, q⟩
  · subst ey
    exact d_get2 (hu_of hr) I3 (.k hd) ry rz fun w' s4 I4 rw' => ⟨_, H3, I4, rw', q⟩
  · subst ey
    cases ry
    have dd := n.of I3.hok I3.kIn
    refine call_meetsIn F.slot_dict_get dd.typeIs F.entry_dict_get (F.args_dict_get_3 _ _ _) (meetsH_dict_get_default (nestedKind X.prog X.w) a b n.lo xv) ⟨room_n hr, kk, xs, ik _ _ _ I3.hok I3.kIn, dd, ?_⟩
    rcases q with ⟨e0, q⟩ | ⟨p, v, e0, rv, q⟩
    · rw [e0]; exact ⟨z, H3, I3.tok _, rz, q⟩
    · rw [e0]; exact ⟨v, H3, I3.tok _, rv, q⟩
def isDct (S : Sto) (o : D) : Bool := match o with
  | .obj i => match S[i]? with
    | some (.dK _) => true
    | some (.dN _) => true
    | some (.dF _) => true
    | _ => false
  | _ => false
def mGetX (mo mk mx : ME) : ME := fun ρ S => (mo ρ S).bind fun o S1 => if isDct S1 o = true then (mk ρ S1).bind fun k S2 => (mx ρ S2).bind fun x S3 => match dctG S3 o k with
    | some r => .ok (r.getD x) S3
    | none => .stuck
  else .stuck
theorem isDct_rep {M : Mp} {S : Sto} {H : Hp} {v : V} {d : D} (r : R U M S H) (rv : Rep U M H v d) (h : isDct S d = true) : ∃ a, v = .ref a ∧ IsDX U.wd H a := by
  cases rv with
  | @obj i hi =>
    unfold isDct at h
    simp only at h
    cases q : S[i]? with
    | none => rw [q] at h; cases h
    | some ob =>
      rw [q] at h
      cases ob with
      | lst _ => cases h
      | ins _ _ => cases h
      | xc _ _ => cases h
      | dK kvs => obtain ⟨vs, h1, _⟩ := r.at_ i _ q; exact ⟨_, rfl, .inl ⟨vs, h1⟩⟩
      | dN kvs => obtain ⟨xs, h1, _⟩ := r.at_ i _ q; exact ⟨_, rfl, .inr ⟨xs, .inl h1⟩⟩
      | dF kvs => obtain ⟨o, xs, h1, _⟩ := r.at_ i _ q; exact ⟨_, rfl, .inr ⟨xs, .inr ⟨o, h1⟩⟩⟩
  | _ => cases h
theorem e_getX (hr : Room k X.A) (ho : PE X o (tE U W mo)) (he : PE X e (tE U W mk)) (hf : PE X f (tE U W mx)) (m : M2 X o "get" apos e f cpos := by exact ⟨rfl, rfl, rfl, rfl⟩) (hK : X.K = U.K := by rfl) (hW : X.w = U.wd := by rfl) : PE X (.Call (.Attribute o "get" apos) [e, f] [] cpos) (tE U W (mGetX mo mk mx)) :=
  pe_imp (pe_getX hr ho he hf m) fun σ H Q ⟨M, S, ρ, A, p⟩ => tX.bind A p fun d S1 M1 H1 v e1 A1 r1 p1 => by
    by_cases h : isDct S1 d = true
    · rw [if_pos h] at p1
      obtain ⟨a, ea, ia⟩ := isDct_rep A1.r r1 h
      refine ⟨a, ea, by rw [hW]; exact ia, tX.bind A1 p1 fun dk S2 M2 H2 vk e2 A2 r2 p2 => tX.bind A2 p2 fun dx S3 M3 H3 vx e3 A3 r3 p3 => ?_⟩
      have r1' := (r1.ext e2).ext e3
      have r2' := r2.ext e3
      subst ea
      cases q : dctG S3 d dk with
      | none => rw [q] at p3; exact p3.elim
      | some r =>
        rw [q] at p3
        simp only at p3
        rcases dct_at A3.r r1' q with ⟨i, kvs, vs, kk, _, _, _, ev, hH, pr, hk, rfl⟩ | ⟨i, kvs, xs, kk, _, _, ev, n, pr, hk, rfl⟩
        · cases ev
          refine .inl ⟨vs, kk, hH, keyK_rep r2' hk, ?_⟩
          have rd := kent_at pr kk
          cases q1 : atK kvs kk with
          | none =>
            rw [q1] at rd p3
            cases q2 : valV vs kk with
            | some _ => rw [q2] at rd; exact rd.elim
            | none => exact p3 M3 H3 _ A3.refl A3.r r3
          | some d1 =>
            rw [q1] at rd p3
            cases q2 : valV vs kk with
            | none => rw [q2] at rd; exact rd.elim
            | some v1 => rw [q2] at rd; exact p3 M3 H3 _ A3.refl A3.r rd
        · cases ev
          obtain ⟨b, rfl⟩ := keyT_ref r2' hk
          refine .inr ⟨xs, kk, b, by rw [hK, hW]; exact n, rfl, by rw [hK]; exact isK_of r2' hk, ?_⟩
          have rd := nent_at pr kk
          cases q1 : atN kvs kk with
          | none =>
            rw [q1] at rd p3
            cases q2 : atKey xs kk with
            | some _ => rw [q2] at rd; exact rd.elim
            | none => exact .inl ⟨rfl, p3 M3 H3 _ A3.refl A3.r r3⟩
          | some d1 =>
            rw [q1] at rd p3
            cases q2 : atKey xs kk with
            | none => rw [q2] at rd; exact rd.elim
            | some p =>
              rw [q2] at rd
              obtain ⟨v1, rv, rr⟩ := rd
              exact .inr ⟨p, v1, rfl, rv, p3 M3 H3 _ A3.refl A3.r rr⟩
    · rw [if_neg h] at p1; exact p1.elim
/-! ### list(d) -/
def rListN (X : Cx) : List V → Hp → VK → Prop := fun vs H Q => ∃ (a : Addr) (xs : NX), vs = [.ref a] ∧ (a == sysModules) = false ∧ xs.length ≤ sizeLine ∧ Rd H a (.ext (NDct X.w a xs)) ∧ ∀ l, H l = none → Q (.ref l) (upd H l (.lst (xs.map fun x => V.ref x.2.1)))
theorem refs_vals : ∀ (xs : NX), Vals (xs.map fun x => V.ref x.2.1) (xs.map fun x => Value.ref x.2.1)
  | [] => .nil
  | _ :: xs => .cons rfl (refs_vals xs)
theorem call_listN (hc : X.calm = true) : CallR X (.type "list") (rListN X) := by
  intro pins s σ H vs us Q I r ⟨a, xs, ev, lo, hl, rd, q⟩
  subst ev
  cases r with
  | cons r1 r2 =>
    cases r2
    cases r1
    obtain ⟨⟨o, es, ep, h1, h2, h3, h4, _⟩, _⟩ : ObjOk X.prog X.w H s.heap a (.ext (NDct X.w a xs)) := rd.ok I.hok
    have esz : es.size = xs.length := by rw [← Array.length_toList, h4, List.length_map]
    refine PySem.W.kdl_call (KdlSrc.rawDict lo) (I.ok.hd hc) ⟨o, h1, h2, h3⟩ (by rw [esz]; exact hl) fun h' tk acc c keep hS items => ?_
    have hn := I.hok.fresh (Nat.le_refl s.heap.objs.size)
    have eacc : acc.toList = xs.map fun x => Value.ref x.2.1 := by
      refine List.ext_getElem? fun i => ?_
      obtain ⟨sz, it⟩ := items
      by_cases hi : i < es.size
      · obtain ⟨v, hv⟩ : ∃ v, acc[i]? = some v := ⟨acc[i], Array.getElem?_eq_getElem (by omega)⟩
        obtain ⟨hi', ev⟩ := it i v hv
        rw [Array.getElem?_toList, hv, ev]
        have z : es.toList[i]? = (xs[i]?).map (fun x => (⟨x.1.hash X.w, .ref x.2.1, x.2.2⟩ : DictEntry)) := by rw [h4, List.getElem?_map]
        rw [Array.getElem?_toList, Array.getElem?_eq_getElem hi] at z
        rw [List.getElem?_map]
        cases qx : xs[i]? with
        | none => rw [qx] at z; cases z
        | some x => rw [qx] at z; rw [Option.some.inj z]; rfl
      · have e1 : acc.toList[i]? = none := List.getElem?_eq_none_iff.mpr (by rw [Array.length_toList]; omega)
        have e2 : xs[i]? = none := List.getElem?_eq_none_iff.mpr (by omega)
        rw [e1, List.getElem?_map, e2]; rfl
    have new : ObjOk X.prog X.w (upd H s.heap.objs.size (.lst (xs.map fun x => V.ref x.2.1))) h' s.heap.objs.size (.lst (xs.map fun x => V.ref x.2.1)) := by
      refine ⟨by rw [List.length_map]; exact hl, acc.toList, c, by rw [eacc]; exact refs_vals xs, ?_⟩
      rw [Array.toArray_toList]; exact hS
    exact ⟨.ref s.heap.objs.size, _, I.laid (t' := tk) keep (Nat.le_refl _) new, rfl, q _ hn⟩
end
end DL
/-! DL45: {"a": x, ..}: a new dict of the store, its keys written texts. -/
namespace DL
open PySem PySem.Spec PyProof.Rows L2
def valsM : List (Str × ME) → MA
  | [] => aNil
  | q :: r => aCons q.2 (valsM r)
def mergeKD (kvs : List (Key × D)) : List Str → List D → List (Key × D)
  | k :: ks, d :: ds => mergeKD (putKD kvs (.inr k) d) ks ds
  | _, _ => kvs
def mDisp (l : List (Str × ME)) : ME := fun ρ S => (valsM l ρ S).bind fun ds S1 => .ok (.obj S1.length) (S1 ++ [.dK (mergeKD [] (l.map (·.1)) ds)])
def trsD (U : Uv) (W : WX) (l : List (Str × ME)) : List (TE × TE) := l.map fun q => (tC (.str q.1), tE U W q.2)
section
variable {X : Cx} {U : Uv} {W : WX} {pos : Pos}
theorem pd_nil : PPs X pos [] [] (trsD U W []) := pps_nil
theorem pd_cons {x : Str} {j : Nat} {p : Pos} {v : Expr} {ks : List (Option Expr)} {vs : List Expr} {m : ME} {l : List (Str × ME)} (hv : PE X v (tE U W m)) (hr : PPs X pos ks vs (trsD U W l)) : PPs X pos (some (.Constant (.str x) j p) :: ks) (v :: vs) (trsD U W ((x, m) :: l)) := pps_cons pe_str hv hr
/-- the values, one after the other -/
theorem pairs_of_vals {σ : L2.St} {ρ : Env} {K : List (V × V) → Hp → Prop} : ∀ (l : List (Str × ME)) {M : Mp} {S : Sto} {H : Hp}, At U M S ρ σ H → PostX U (RepAll U) M H σ W (valsM l ρ S) (fun vs H' => K (List.zip (l.map fun q => V.str q.1) vs) H') → tPairs (trsD U W l) σ H K
  | [], M, S, H, A, p => p M H [] A.refl A.r .nil
  | q :: l, M, S, H, A, p => by
    show tE U W q.2 σ H fun y H2 => tPairs (trsD U W l) σ H2 fun ps H3 => K ((V.str q.1, y) :: ps) H3
    refine tX.bind A p fun d S1 M1 H1 v e1 A1 r1 p1 => ?_
    refine pairs_of_vals l A1 ?_
    have p2 : PostX U (RepAll U) M1 H1 σ W ((valsM l ρ S1).bind fun ds S2 => .ok (d :: ds) S2) (fun vs H' => K (List.zip (V.str q.1 :: l.map fun q => V.str q.1) vs) H') := p1
    exact p2.bind fun ds S2 M2 H2 vs e2 R2 r2 p3 => p3 M2 H2 (v :: vs) R2.refl R2 (.cons (r1.ext e2) r2)
theorem kent_merge {M : Mp} {H : Hp} : ∀ {ks : List Str} {vs : List V} {ds : List D} {kv : List (Key × V)} {kd : List (Key × D)}, ks.length = ds.length → RepAll U M H vs ds → Paired (KEnt U M H) kv kd → Paired (KEnt U M H) (mergeK kv ((ks.zip vs).map fun q => (Sum.inr q.1, q.2))) (mergeKD kd ks ds)
  | [], _, _, _, _, _, r, p => by
    cases r with
    | nil => exact p
    | cons _ _ => exact p
  | _ :: _, _, [], _, _, h, _, _ => by cases h
  | k :: ks, _, d :: ds, kv, kd, h, .cons r rs, p => by
    show Paired (KEnt U M H) (mergeK (putK kv (.inr k) _) _) (mergeKD (putKD kd (.inr k) d) ks ds)
    exact kent_merge (Nat.succ.inj h) rs (kent_put p r)
theorem valsM_len {ρ : Env} : ∀ {l : List (Str × ME)} {S S1 : Sto} {ds : List D}, valsM l ρ S = .ok ds S1 → ds.length = l.length
  | [], S, S1, ds, h => by cases h; rfl
  | q :: l, S, S1, ds, h => by
    have h : ((q.2 ρ S).bind fun x S1 => (valsM l ρ S1).bind fun xs S2 => .ok (x :: xs) S2) = .ok ds S1 := h
    cases e : q.2 ρ S with
    | ok x S2 =>
      rw [e] at h
      have h : ((valsM l ρ S2).bind fun xs S2 => .ok (x :: xs) S2) = .ok ds S1 := h
      cases e2 : valsM l ρ S2 with
      | ok xs S3 =>
        rw [e2] at h
        cases h
        rw [List.length_cons, List.length_cons, valsM_len e2]
      | exc _ _ => rw [e2] at h; cases h
      | stuck => rw [e2] at h; cases h
    | exc _ _ => rw [e] at h; cases h
    | stuck => rw [e] at h; cases h
/-- a private thing becomes the store's -/
theorem pubAny {M1 Mq : Mp} {S' : Sto} {H1 H3 : Hp} {D : Addr} {u : HO} {ob : Ob} {σ : L2.St} {Q : VK} (f : Ext M1 H1 Mq H3) (R3 : R U (Mq.priv D) S' H3) (hHD : H3 D = some u) (hob : ∀ M' : Mp, Mv (Mq.priv D) H3 M' H3 → ObAt U M' H3 D ob) (hD : H1 D = none) (hnh : ¬ Mq.has D)
    (g : PostX U (Rep U) M1 H1 σ W (.ok (.obj S'.length) (S' ++ [ob])) Q) : Q (.ref D) H3 := by
  have hn : Mq.n = S'.length := R3.n
  have at_n : (Mq.push D).at_ Mq.n = D := if_pos rfl
  have at_o : ∀ {i}, i < Mq.n → (Mq.push D).at_ i = Mq.at_ i := fun {i} hi => if_neg (Nat.ne_of_lt hi)
  have old : ∀ {i}, i ≠ Mq.n → i < Mq.n + 1 → i < Mq.n := fun {i} z h => Nat.lt_of_le_of_ne (Nat.le_of_lt_succ h) z
  have obs : ∀ {a}, (Mq.push D).ob a → Mq.ob a ∨ a = D := fun {a} ⟨i, hi, e⟩ => by
    by_cases z : i = Mq.n
    · rw [z, at_n] at e; exact .inr e.symm
    · rw [at_o (old z hi)] at e; exact .inl ⟨i, old z hi, e⟩
  have mv : Mv (Mq.priv D) H3 (Mq.push D) H3 := ⟨Nat.le_succ _, fun i hi => at_o hi, fun a o h n => ⟨h, fun z => n (priv_has.mpr (z.elim (fun z => (obs z).elim .inl fun z => .inr (.inl z)) fun z => .inr (.inr z)))⟩, fun _ _ _ h => h⟩
  have nob : ∀ {i}, i < Mq.n → Mq.at_ i ≠ D := fun {i} hi z => hnh (.inl ⟨i, hi, z⟩)
  have ex : Ext M1 H1 (Mq.push D) H3 := ⟨Nat.le_succ_of_le f.le, fun i hi => (at_o (Nat.lt_of_lt_of_le hi f.le)).trans (f.same i hi), fun i h1 h2 => by
      by_cases z : i = Mq.n
      · rw [z, at_n]; exact hD
      · rw [at_o (old z h2)]; exact f.fresh i h1 (old z h2), f.keep, fun i hi => by
      by_cases z : i = Mq.n
      · rw [z, at_n]; exact ⟨_, hHD⟩
      · rw [at_o (old z hi)]; exact f.live i (old z hi), f.pr, f.frz⟩
  have r : R U (Mq.push D) (S' ++ [ob]) H3 := by
    refine ⟨by show Mq.n + 1 = _; rw [List.length_append, hn]; rfl, fun i j hi hj he => ?_, fun i o ho => ?_, fun a ha => R3.prl a (List.mem_cons_of_mem _ ha), fun a ha z => ?_⟩
    · by_cases zi : i = Mq.n <;> by_cases zj : j = Mq.n
      · rw [zi, zj]
      · rw [zi, at_n, at_o (old zj hj)] at he; exact absurd he.symm (nob (old zj hj))
      · rw [zj, at_n, at_o (old zi hi)] at he; exact absurd he (nob (old zi hi))
      · rw [at_o (old zi hi), at_o (old zj hj)] at he; exact R3.inj i j (old zi hi) (old zj hj) he
    · by_cases hi : i < S'.length
      · rw [List.getElem?_append_left hi] at ho
        rw [at_o (by rw [hn]; exact hi)]
        exact ObAt.mv mv (fun u hu => hu) (R3.at_ i o ho)
      · have hi' : S'.length ≤ i := Nat.le_of_not_lt hi
        rw [List.getElem?_append_right hi'] at ho
        have e0 : i - S'.length = 0 := by
          have := (List.getElem?_eq_some_iff.mp ho).1
          rw [List.length_singleton] at this
          omega
        rw [e0] at ho
        have eo : ob = o := Option.some.inj ho
        have ei : i = Mq.n := by omega
        rw [← eo, ei, at_n]
        exact hob _ mv
    · rcases obs z with z | z
      · exact R3.prn a (List.mem_cons_of_mem _ ha) z
      · rw [z] at ha; exact hnh (.inr ha)
  refine g (Mq.push D) H3 _ ex r ?_
  have z : Rep U (Mq.push D) H3 (.ref ((Mq.push D).at_ Mq.n)) (.obj S'.length) := by
    rw [← hn]; exact .obj (Nat.lt_succ_self _)
  rw [at_n] at z
  exact z
theorem e_disp {keys : List (Option Expr)} {values : List Expr} {l : List (Str × ME)} (h : PPs X pos keys values (trsD U W l)) (hl : keys.length = l.length := by rfl) (hall : keys.all (·.isSome) = true := by rfl) (hv : keys.length = values.length := by rfl) (h0 : keys ≠ [] := by exact fun z => nomatch z) (h15 : keys.length ≤ 15 := by decide) :
    PE X (.Dict keys values pos) (tE U W (mDisp l)) :=
  pe_imp (pe_disp h hall hv h0 h15) fun σ H Q ⟨M, S, ρ, A, p⟩ => fun D hD => by
    have A1 : At U (M.priv D) S ρ σ (upd H D (.dK [])) := A.priv hD
    have hx : Ext M H M (upd H D (.dK [])) := A.r.extNew hD
    refine pairs_of_vals l A1 ?_
    have p' : PostX U (Rep U) M H σ W ((valsM l ρ S).bind fun ds S1 => .ok (.obj S1.length) (S1 ++ [.dK (mergeKD [] (l.map (·.1)) ds)])) Q := p
    cases q : valsM l ρ S with
    | stuck => rw [q] at p'; exact p'.elim
    | exc ex S1 =>
      rw [q] at p'
      intro M' H' cv dd g R' xa
      obtain ⟨M2, eM, g2⟩ := g.unpriv
      subst eM
      exact p' M2 H' cv dd (hx.trans g2) R'.unpriv xa.unpriv
    | ok ds S1 =>
      rw [q] at p'
      intro M' H' vs g R' ra
      obtain ⟨M2, eM, g2⟩ := g.unpriv
      subst eM
      have nob : ¬ M2.ob D := R'.prn D List.mem_cons_self
      have hK : H' D = some (.dK []) := g.keep _ _ upd_same (fun z => A1.r.prn D List.mem_cons_self z)
      have hnh : ¬ M2.has D := fun z => z.elim nob fun z => by
        rw [g2.pr] at z
        obtain ⟨u, hu⟩ := A.r.prl D z
        rw [hD] at hu; cases hu
      have hds := valsM_len q
      have hvs := ra.length
      refine ⟨hK, ((l.map (·.1)).zip vs).map fun q => (Sum.inr q.1, q.2), ?_, ?_, ?_⟩
      · rw [List.map_map]
        have : ∀ (ks : List (Str × ME)) (vs : List V), List.zip (ks.map fun q => V.str q.1) vs = ((ks.map (·.1)).zip vs).map fun q => (V.str q.1, q.2) := by
          intro ks
          induction ks with
          | nil => intro vs; rfl
          | cons k ks ih =>
            intro vs
            cases vs with
            | nil => rfl
            | cons v vs => simp only [List.map_cons, List.zip_cons_cons, ih]
        rw [this]
        rfl
      · rw [List.length_map, List.length_zip, List.length_map]; omega
      · have ne : ∀ a o, H' a = some o → a ≠ D → upd H' D (.dK (mergeK [] (((l.map (·.1)).zip vs).map fun q => (Sum.inr q.1, q.2)))) a = some o := fun a o e n => by rw [upd_ne n]; exact e
        have nfr : ∀ a o u, H' a = some (.frz o u) → a ≠ D := fun a o u e z => by rw [z, hK] at e; cases e
        have mvw : Mv (M2.priv D) H' (M2.priv D) (upd H' D (.dK (mergeK [] (((l.map (·.1)).zip vs).map fun q => (Sum.inr q.1, q.2))))) := ⟨Nat.le_refl _, fun _ _ => rfl, fun a o e n => ⟨ne a o e fun z => n (by rw [z]; exact .inr List.mem_cons_self), n⟩, fun a o u e => ne a _ e (nfr a o u e)⟩
        have R4 : R U (M2.priv D) S1 (upd H' D (.dK (mergeK [] (((l.map (·.1)).zip vs).map fun q => (Sum.inr q.1, q.2))))) := ⟨R'.n, R'.inj, fun i ob h => by
            have hi : i < M2.n := by
              have := (List.getElem?_eq_some_iff.mp h).1
              rw [← R'.n] at this; exact this
            exact ObAt.mv mvw (fun u hu => ne _ u hu fun z => nob ⟨i, hi, z⟩) (R'.at_ i ob h), fun a ha => by
            by_cases z : a = D
            · exact ⟨_, by rw [z, upd_same]⟩
            · obtain ⟨u, hu⟩ := R'.prl a ha
              exact ⟨u, ne a u hu z⟩, R'.prn⟩
        refine pubAny (M1 := M) (H1 := H) (Mq := M2) (S' := S1) (ob := .dK (mergeKD [] (l.map (·.1)) ds)) (extWrite (hx.trans g2) hD nob) R4 upd_same (fun M' mv => ⟨_, upd_same, ?_⟩) hD hnh p'
        exact Paired.mapP (kent_merge (by rw [List.length_map, hds]) ra .nil) fun _ _ z => (z.mv mvw).mv mv
end
end DL
/-! DL46: an own exception class with its own __init__, called with keywords. -/
namespace DL
open PySem PySem.Spec PyProof.Rows L2 PySem.HandSPX
section
variable {M : Model} {A : Around} {E : Value → Shared → Prop} {h : Heap} {g : Array GenState} {d : Drawn} {t : Nat} {os : OsState}
variable {nm q : Str} {C N : Addr} {bs bm bmB : List Value} {hdct : Bool} {sn : List Str} {sub : List Value} {ab : Bool} {col : Option Bool} {dd : Option Addr} {k0 k1 k2 k3 k5 : Option Value} {B newId initId : String}
theorem newK_check (F : ExcBaseFacts B newId initId bmB) (hT : ∀ Y : String, bm.contains (.type Y) = bmB.contains (.type Y)) {kw : List (Str × Value)} {Q : Unit → Shared → Prop}
    (lk : h.get? C = some (excClassObj nm q C N bs bm hdct sn sub ab col dd k0 k1 k2 k3 k5 newId)) (done : Q () ⟨h, g, d, t, os⟩) : wpAny M A (checkBuiltinCall newId ⟨[.ref C], kw⟩) Q E ⟨h, g, d, t, os⟩ := by
  have inB : (Value.ref C :: bm).contains (.type B) = true := by
    rw [List.contains_cons, hT, F.hasB, Bool.or_true]
  have _ns := F.noStar
  simp only [checkBuiltinCall, F.newKind, F.newSplit, F.newRow]
  repeat (first | refine wpAny_loadPart_at lk ?_ | (refine wpAny_isSubtype_exc lk ?_; rw [inB]) | refine wpAny_staticBase_exc lk ?_ | refine wpAny_madeBy_exc lk ?_ | simp only [bne_self_eq_false, Bool.false_eq_true, if_false] | wp_step)
  exact done
end
section
variable {prog : Program} {w : World} {A : Around} {E : Value → Shared → Prop} {Rr : Result → Shared → Prop} {h : Heap} {g : Array GenState} {d : Drawn} {t : Nat} {os : OsState}
variable {nm q : Str} {C N : Addr} {bs bm bmB : List Value} {hdct : Bool} {sn : List Str} {sub : List Value} {ab : Bool} {col : Option Bool} {dd : Option Addr} {k0 k1 k2 k3 k5 : Option Value} {B newId initId : String}
theorem newK_made (F : ExcBaseFacts B newId initId bmB) (hT : ∀ Y : String, bm.contains (.type Y) = bmB.contains (.type Y)) {kw : List (Str × Value)}
    (lk : h.get? C = some (excClassObj nm q C N bs bm hdct sn sub ab col dd k0 k1 k2 k3 k5 newId))
    (done : Rr (.ok (.ret (.ref (h.objs.size + 1)))) ⟨(h.push (PySem.W.kdv_tup [])).push (excO C h.objs.size), g, d, t, os⟩) :
    codeAny (model prog w) A (.builtin newId ⟨[.ref C], kw⟩) Rr ⟨h, g, d, t, os⟩ := by
  have _e := F.ends
  have inB : (Value.ref C :: bm).contains (.type B) = true := by
    rw [List.contains_cons, hT, F.hasB, Bool.or_true]
  have notA : (Value.ref C :: bm).contains (.type "AttributeError") = false := by
    rw [List.contains_cons, hT, F.noAttr]
    rfl
  have notN : (Value.ref C :: bm).contains (.type "NameError") = false := by
    rw [List.contains_cons, hT, F.noName]
    rfl
  have hrest : ([] : List Value).length ≤ sizeLine := Nat.zero_le _
  refine codeAny_builtinAt F.entry ?_
  unfold Builtin.«BaseException.__new__»
  refine PySem.wpAt_bind ?_
  show PySem.wpAt _ _ _ (stack >>= _) _ _ _
  refine PySem.wpAt_bind (PySem.wpAt_stack fun _ _ => PySem.wpAt_of_wpAny ?_)
  wp_walk
  refine PySem.wpAt_of_wpAny ?_
  rw [F.owner]
  repeat (first | with_reducible refine wpAny_madeHere_exc F.canon lk ?_ | with_reducible refine wpAny_loadPart_at lk ?_ | (with_reducible refine wpAny_isSubtype_exc lk ?_; first | rw [inB] | rw [notA] | rw [notN]) | wp_step)
  show Rr _ _
  rw [Heap.size_push]
  exact done
theorem typeK_made (F : ExcBaseFacts B newId initId bmB) (hT : ∀ Y : String, bm.contains (.type Y) = bmB.contains (.type Y)) {kw : List (Str × Value)} {fI : Addr} {Q : Fin → Shared → Prop}
    (lk : h.get? C = some (excClassObj nm q C N bs bm hdct sn sub ab col dd k0 k1 k2 k3 k5 newId))
    (hi : W.Looks (model prog w) h (typeLookup (.ref C) "__init__") (some (.ref fI))) (hb : ∀ x, W.Looks (model prog w) h (bindSpecial (.ref fI) x) (.ref fI, [x]))
    (own : codeAny (model prog w) A (.call (.ref fI) ⟨[.ref (h.objs.size + 1)], kw⟩)
      (fun r z => match r with | .ok (.ret v) => v = .none ∧ Q (.done (.ret (.ref (h.objs.size + 1)))) z | .ok _ => False | .error e => E e z)
      ⟨(h.push (PySem.W.kdv_tup [])).push (excO C h.objs.size), g, d, t, os⟩) :
    wpAny (model prog w) A (Builtin.«type.__call__» ⟨[.ref C], kw⟩) Q E ⟨h, g, d, t, os⟩ := by
  repeat (first | with_reducible refine wpAny_loadPart_at lk ?_ | with_reducible refine wpAny_madeBy_exc lk ?_ | wp_step)
  refine codeAny_call_builtin_code (Code.quiet_builtin _ F.quiet) (newK_check F hT lk ?_)
  refine newK_made F hT lk ?_
  show wpAny _ _ _ _ _ _
  have up : ∀ b o, h.get? b = some o → ((h.push (PySem.W.kdv_tup [])).push (excO C h.objs.size)).get? b = some o := fun b o e => Heap.get?_push_of_some _ (Heap.get?_push_of_some _ e)
  have lk1 := up _ _ lk
  have lk2 : ((h.push (PySem.W.kdv_tup [])).push (excO C h.objs.size)).get? (h.objs.size + 1) = some (excO C h.objs.size) := by heap_get
  have inC : (Value.ref C :: bm).contains (.ref C) = true := by simp
  have look1 := hi.keeps up
  have bind1 := (hb (.ref (h.objs.size + 1))).keeps up
  unfold isInstance
  repeat (first | with_reducible refine wpAny_loadPart_at lk2 ?_ | (with_reducible refine wpAny_isSubtype_exc lk1 ?_; rw [inC]) | wp_step)
  show wpAny _ _ (typeLookup (.ref C) _) _ _ _
  refine look1.at (wpAny_holding (wpAny_bind (bind1.at ?_)))
  refine wpAny_bind (wpAny_call (codeAny_mono own fun r z y => ?_))
  rcases r with e | (v | _ | _ | _) <;> first | exact y | exact y.elim | skip
  obtain ⟨rfl, y⟩ := y
  first
    | exact wpAny_pure (wpAny_pure y)
    | (wp_walk; exact y)
theorem callK_made (F : ExcBaseFacts B newId initId bmB) (hT : ∀ Y : String, bm.contains (.type Y) = bmB.contains (.type Y)) {kw : List (Str × Value)} {fI : Addr}
    (lk : h.get? C = some (excClassObj nm q C N bs bm hdct sn sub ab col dd k0 k1 k2 k3 k5 newId))
    (hi : W.Looks (model prog w) h (typeLookup (.ref C) "__init__") (some (.ref fI))) (hb : ∀ x, W.Looks (model prog w) h (bindSpecial (.ref fI) x) (.ref fI, [x]))
    (own : codeAny (model prog w) (A.under (.builtin "type.__call__" ⟨[.ref C], kw⟩)) (.call (.ref fI) ⟨[.ref (h.objs.size + 1)], kw⟩) (W.InitBack (h.objs.size + 1) Rr)
      ⟨(h.push (PySem.W.kdv_tup [])).push (excO C h.objs.size), g, d, t, os⟩) :
    codeAny (model prog w) A (.call (.ref C) ⟨[], kw⟩) Rr ⟨h, g, d, t, os⟩ := by
  have l1 := tc_lookup
  have l2 := tc_bind (.ref C)
  have ty : (⟨h, g, d, t, os⟩ : Shared).TypeIs (.ref C) "type" := ⟨_, lk, rfl⟩
  refine codeAny_of_tree ?_
  show wpAny _ _ (callAny (.ref C) _) _ _ _
  repeat (any_goals (first | assumption | with_reducible refine wpAny_loadPart_at lk ?_ | wp_step))
  refine ⟨rfl, ?_⟩
  refine codeAny_call_builtin_at (Code.quiet_builtin _ (by decide +kernel)) entry_typeCall (wpAny_check_type_call_sub lk (typeK_made F hT lk hi hb ?_))
  refine codeAny_mono own fun r z y => ?_
  rcases r with e | (v | _ | _ | _) <;> exact y
end
end DL
/-! DL47: own exceptions whose __init__ keeps one or two arguments: raised, made as values, read. -/
namespace DL
open PySem PySem.Spec PyProof.Rows L2
section
variable {X : Cx} {e : Expr} {es : List Expr} {ta te : TE} {p1 p2 p pos : Pos}
/-- an exception that is made, as a value -/
theorem pe_xval {t : L2.St → Hp → XK → Prop} (hp : L2N.PMk X e t) :
    PE X e (fun σ H Q => t σ H fun cls d H' => ∃ dd, d = some dd ∧ ∀ a, H' a = none → Q (.ref a) (upd H' a (.ext (XoAt cls dd a)))) := ⟨fun pins s σ H Q I h => by
  refine wpAny_mono (hp pins s σ H _ I h) (fun u s1 hu => ?_) fun _ _ x => x
  obtain ⟨a, oe, vs, sI, H', cls, d, rfl, J, k, hne, ha, hz, hd, h1, na, os, ag, r, dd, rfl, q⟩ := hu
  have J2 := J.laidN (t' := s1.toks) (o := .ext (XoAt cls dd a)) k hne na ⟨⟨oe, vs, ha, ⟨hz.1, hz.2.1⟩, hd⟩, ⟨oe, ha⟩, fun _ _ ⟨o, v, q, r⟩ k => ⟨o, v, k o q, r⟩⟩
  exact ⟨.ref a, _, ⟨J2.ok, os.trans J.os, ag, J2.base, J2.loc, J2.cell, J2.free, J2.freeC, J2.pin, J2.hok, J2.len⟩, rfl, q a na⟩⟩
/-- its field -/
def tXv (K : PySem.W.Frag) (f : Str) (te : TE) : TE := fun σ H Q => te σ H fun x H1 => ∃ (a C dd : Addr) (fs : List (Str × V)) (v : V), x = .ref a ∧ H1 a = some (.ext (XoAt (.ref C) dd a)) ∧ XfC K C ∧ PySem.W.findIn K (.ref C) f = some none ∧ H1 dd = some (.xd fs) ∧ fs.lookup f = some v ∧ Q v H1
theorem pe_xv {n : Str} (he : PE X e te) (hb : attributeBase e n X.env (eval e X.env) = eval e X.env := by rfl) : PE X (.Attribute e n pos) (tXv X.K n te) := ⟨fun pins s σ H Q I h => by
  refine attr_of hb (thn (he.run pins s σ H _ I h) fun u s1 hh => ?_)
  obtain ⟨x, H1, I1, rx, a, C, dd, fs, v, ex, hA, T, hno, hD, l, q⟩ := hh
  subst ex
  obtain rfl : u = Value.ref a := rx
  obtain ⟨oe, vs, ha, hz, hd⟩ : XoAt (.ref C) dd a s1.heap := (I1.hok a _ hA).1
  obtain ⟨mA, hns, hr⟩ : ObjOk X.prog X.w H1 s1.heap dd (.xd fs) := I1.hok dd _ hD
  obtain ⟨od, ho, hl⟩ := lookIn_ns hns
  obtain ⟨u, hu, ru⟩ := RelO.some_of (v := v) (o := mA n) (by rw [← l]; exact hr n)
  have J : PySem.W.InstAt s1.heap a oe C (some od) := ⟨ha, hz.1, by unfold PySem.W.notCls; rw [hd] <;> rfl, by rw [hz.2]; exact ho⟩
  exact HandSPX.exc_get I1.kIn J T.ga T.gg T.exC (PySem.W.findObj_own T.hdC hno rfl (by rw [hl, hu])) (handed_of ru) ⟨v, H1, I1.tok _, ru, q⟩⟩
/-- what an __init__ with these fields leaves -/
def spXn (K : PySem.W.Frag) (fs : List Str) : Sp := fun vs H Q _ => ∃ (a C : Addr) (ws : List V), vs = .ref a :: ws ∧ ws.length = fs.length ∧ OexC K C ∧ (∀ f ∈ fs, PySem.W.findIn K (.ref C) f = some none) ∧ H a = some (exo a C none) ∧
  ∀ (dx : Addr) (H2 : Hp), dx ≠ a → H dx = none → H2 a = some (exo a C (some dx)) → H2 dx = some (exd dx (fs.zip ws).reverse) → (∀ b, b ≠ a → b ≠ dx → H2 b = H b) → Q .non H2
def tX2 (K : PySem.W.Frag) (f g m : Str) : TS := tSeq (tDrop (tVeI K (tCons (tVar 0) (tCons (tC (.str m)) tNil)))) (tSeq (tOst K f (tVar 0) (tVar 1)) (tOst K g (tVar 0) (tVar 2)))
section
variable {P : Program} {w : World} {K : PySem.W.Frag} {mg : Str → Option Value} {base : Heap} {x qual f g m a0 a1 a2 : Str} {st : Stmt} {fI : Addr} {fd : FuncData} {k : Nat}
theorem fn_xn1 (F : L2.Fun K x qual st fI fd) (S : FnScope [a0, a1] [a0, a1] (defScope st))
    (body : ∀ (cdv : Value) (A : Around) (outer : List PySem.Env) (s : Shared) (H : Hp) (E : XK), Room k (A.deeper (PyProof.Rows.envOfC qual (defScope st) s.heap.objs.size fI cdv)) →
      PSs (cxOf (L2N.CX P w) P w K mg base [a0, a1] qual (defScope st) fI cdv A outer s H E) (defBody st) (tX1 K f m)) : FnOk P w K mg base (L2N.CX P w) (k + 1) fI fd [a0, a1] (spXn K [f]) := by
  obtain ⟨oc, od, kV, doc, pm, an, cdv, ct, osl, rfl, lk, hcd⟩ := F.ex
  refine fn_of lk hcd S (fun vs H Q E ⟨a, C, ws, e, l, _⟩ => by rw [e, List.length_cons, l]; rfl) fun A outer s H vs Q E hr ⟨a, C, ws, e, l, T, hno, ea, q⟩ => ⟨_, body cdv A outer s H E hr, ?_⟩
  subst e
  match ws, l with
  | [v], _ =>
    refine ⟨.ref a, rfl, a, C, [.str m], rfl, (by simp), T, ea, v, rfl, .ref a, rfl, a, C, rfl, T, hno f List.mem_cons_self, .inl ⟨ea, fun dx hd ne => ?_⟩⟩
    refine q dx _ ne hd upd_same ?_ ?_
    · rw [upd_ne ne, upd_same]; rfl
    · intro b h1 h2
      rw [upd_ne h1, upd_ne h2]
theorem fn_xn2 (F : L2.Fun K x qual st fI fd) (S : FnScope [a0, a1, a2] [a0, a1, a2] (defScope st))
    (body : ∀ (cdv : Value) (A : Around) (outer : List PySem.Env) (s : Shared) (H : Hp) (E : XK), Room k (A.deeper (PyProof.Rows.envOfC qual (defScope st) s.heap.objs.size fI cdv)) →
      PSs (cxOf (L2N.CX P w) P w K mg base [a0, a1, a2] qual (defScope st) fI cdv A outer s H E) (defBody st) (tX2 K f g m)) : FnOk P w K mg base (L2N.CX P w) (k + 1) fI fd [a0, a1, a2] (spXn K [f, g]) := by
  obtain ⟨oc, od, kV, doc, pm, an, cdv, ct, osl, rfl, lk, hcd⟩ := F.ex
  refine fn_of lk hcd S (fun vs H Q E ⟨a, C, ws, e, l, _⟩ => by rw [e, List.length_cons, l]; rfl) fun A outer s H vs Q E hr ⟨a, C, ws, e, l, T, hno, ea, q⟩ => ⟨_, body cdv A outer s H E hr, ?_⟩
  subst e
  match ws, l with
  | [v, v2], _ =>
    refine ⟨.ref a, rfl, a, C, [.str m], rfl, (by simp), T, ea, v, rfl, .ref a, rfl, a, C, rfl, T, hno f List.mem_cons_self, .inl ⟨ea, fun dx hd ne => ?_⟩⟩
    have hx : upd (upd H dx (exd dx [(f, v)])) a (exo a C (some dx)) dx = some (exd dx [(f, v)]) := by rw [upd_ne ne, upd_same]
    refine ⟨v2, rfl, .ref a, rfl, a, C, rfl, T, hno g (List.mem_cons_of_mem _ List.mem_cons_self), .inr ⟨dx, [(f, v)], upd_same, hx, by simp, ?_⟩⟩
    refine q dx _ ne hd ?_ upd_same ?_
    · rw [upd_ne (Ne.symm ne), upd_same]
    · intro b h1 h2
      rw [upd_ne h2, upd_ne h1, upd_ne h2]
end
end
end DL
/-! DL48: the same by mirrors: raise C(e, ..), C(e, ..) and C(k = e, ..) as values, x.f. -/
namespace DL
open PySem PySem.Spec PyProof.Rows L2
/-- C(k = e, ..): what is wished -/
def tMkK (C : Addr) (sp : Sp) (n : Nat) (is : List Nat) (ta : TA) : L2.St → Hp → XK → Prop := fun σ H Q => ta σ H fun zs H1 => zs.length = n ∧ ∀ a, H1 a = none → ∃ es, pick is (.ref a :: zs) = some es ∧ sp es (upd H1 a (exo a C none))
  (fun v H2 => v = .non ∧ ∃ (d : Addr) (fs : List (Str × V)), H2 a = some (exo a C (some d)) ∧ H2 d = some (exd d fs) ∧ H1 d = none ∧ Q (.ref C) (some d) (upd (del H2 a) d (.xd fs))) (fun _ _ _ => False)
section
variable {X : Cx} {e : Expr} {es : List Expr} {ta te : TE} {p1 p2 p pos : Pos}
theorem pmkNK {x : Str} {C fI : Addr} {k : Nat} {fd : FuncData} {ps ks : List Str} {is : List Nat} {sp : Sp} {kws : List Keyword} {tk : TA} (T : OexC X.K C) (iC : PySem.W.findIn X.K (.ref C) "__init__" = some (some (.ref fI))) (tI : PySem.W.typeIn X.K (.ref fI) = some (.type "function"))
    (F1 : FnOk X.prog X.w X.K X.mg X.base (L2N.CX X.prog X.w) k fI fd ps sp) (hr : Room (k + 1) X.A) (hb : KwB X.K fd ps ks 1 is) (hx : Passes (L2N.CX X.prog X.w) X (fun _ _ _ => False)) (hg : Gl X x) (hm : X.mg x = some (.ref C)) (hkw : PK X kws tk)
    (hall : (backToKw pos (keywordEach kws X.env)).all (·.1.isSome) = true := by rfl) (hks : (backToKw pos (keywordEach kws X.env)).filterMap (·.1) = ks := by rfl) (hdb : (x == ("__debug__" : Str)) = false := by decide)
    (hpl : ((backTo pos (starEach [] X.env)).any (·.1) || (backToKw pos (keywordEach kws X.env)).any (·.1.isNone)) = false := by rfl) :
    L2N.PMk X (.Call (.Name x p) [] kws pos) (tMkK C sp ks.length is tk) := fun pins s σ H Q I h => by
  obtain ⟨nm, q, N, bs, bm, sn, sub, ab, col, dd, k0, k1, k2, k3, k5, hC, hbm⟩ := T.cls
  refine wpAny_Call_Name_kw (ld_glob I hg hm ?_ hdb)
  refine PySem.W.callWith_KW0 (h₀ := X.base) I.ok.mod.kin T.kC hall ?_ hpl
  refine thn (hkw.run pos pins s σ H _ I h) fun ws s1 ⟨zs, H1, I1, r1, hl, q1⟩ => ⟨I1.kIn, ?_⟩
  rw [hks]
  show wpAny _ _ (call (.ref C) [] (ks.zip ws)) _ _ _
  obtain ⟨h0, g, dr, tk, ox⟩ := s1
  have z : h0.objs.size ≤ h0.objs.size + 1 := Nat.le_succ _
  have hn : H1 (h0.objs.size + 1) = none := I1.hok.fresh z
  obtain ⟨es, hp, q2⟩ := q1 (h0.objs.size + 1) hn
  have kk : ∀ b o, h0.get? b = some o → ((h0.push (PySem.W.kdv_tup [])).push (PySem.HandSPX.excO C h0.objs.size)).get? b = some o := fun b o e => Heap.get?_push_of_some _ (Heap.get?_push_of_some _ e)
  have gg : ((h0.push (PySem.W.kdv_tup [])).push (PySem.HandSPX.excO C h0.objs.size)).get? (h0.objs.size + 1) = some (PySem.HandSPX.excO C h0.objs.size) := by heap_get
  have I2 := I1.laid (t' := tk) (a := h0.objs.size + 1) (o := exo (h0.objs.size + 1) C none) (h' := (h0.push (PySem.W.kdv_tup [])).push (PySem.HandSPX.excO C h0.objs.size)) kk z (exo_ok gg)
  have r0 : Vals [V.ref (h0.objs.size + 1)] [Value.ref (h0.objs.size + 1)] := .cons rfl .nil
  obtain ⟨ys, e1, e2⟩ := pick_rel (is := is) (r0.append r1) hp
  have hzl : ws.length = ks.length := r1.length.symm.trans hl
  refine wpAny_call (callK_made F.excBase_ValueError (fun Y => PySem.HandSPX.refsVE_contains Y bm hbm) (I1.kIn _ _ hC) (PySem.W.looks_findIn I1.kIn iC) (fun self => PySem.W.bind_fn I1.kIn self tI) (codeAny_mono (F1.run _ X.stack _ _ ⟨[.ref (h0.objs.size + 1)], ks.zip ws⟩ ys es _ (fun _ _ _ => False) (hr.make C [] (ks.zip ws)) (I2.env0.make C [] (ks.zip ws)) (hb _ _ _ _ I2.kIn rfl hzl e1) e2 q2) fun r s9 q9 => ?_))
  match r, q9 with
  | .error er, q9 => exact hx pins σ _ _ er s9 I2 q9
  | .ok (.ret u), ⟨v, H2, os2, bare2, un2, ok2, rv, ev, d, fs, ea, ed, hd1, q3⟩ =>
    subst ev
    obtain ⟨h2, g2, d2, t2, o2⟩ := s9
    exact ⟨rv, mkN_end (raises_own T.exC T.tyC) I1 z kk un2 ok2 os2 bare2 ea ed hd1 q3⟩
end
/-! ### by mirrors -/
/-- an own exception class whose __init__ keeps its arguments as fs -/
structure ExG (P : Program) (w : World) (K : PySem.W.Frag) (mg : Str → Option Value) (base : Heap) (k : Nat) (C : Addr) (x : Str) (fs : List Str) (fI : Addr) (fd : FuncData) (ps : List Str) : Prop where
  fn : FnOk P w K mg base (L2N.CX P w) k fI fd ps (spXn K fs)
  b : Binds K fd ps []
  i : PySem.W.findIn K (.ref C) "__init__" = some (some (.ref fI))
  ti : PySem.W.typeIn K (.ref fI) = some (.type "function")
  t : OexC K C
  g : mg x = some (.ref C)
  no : ∀ f ∈ fs, PySem.W.findIn K (.ref C) f = some none
  f0 : fs ≠ []
def xfs (fs : List Str) (ds : List D) : List (Str × D) := (fs.zip ds).reverse
def sRaiseG (c : Nat) (fs : List Str) (ms : MA) : MS := fun ρ S => .of (ms ρ S) ρ fun ds S1 => if ds.length = fs.length ∧ fs.length ≤ 1000 then .exc ⟨c, xfs fs ds⟩ ρ S1 else .stuck
def mMkX (c : Nat) (fs : List Str) (ms : MA) : ME := fun ρ S => (ms ρ S).bind fun ds S1 => if ds.length = fs.length ∧ fs.length ≤ 1000 then .ok (.obj S1.length) (S1 ++ [.xc c (xfs fs ds)]) else .stuck
def mMkXK (c : Nat) (fs : List Str) (is : List Nat) (mk : MA) : ME := fun ρ S => (mk ρ S).bind fun ds S1 => match pick is ds with
  | some zs => if zs.length = fs.length ∧ fs.length ≤ 1000 then .ok (.obj S1.length) (S1 ++ [.xc c (xfs fs zs)]) else .stuck
  | none => .stuck
def xcG (cs : List Nat) (S : Sto) (d : D) : Option (Nat × Nat × List (Str × D)) := match d with
  | .obj i => match S[i]? with
    | some (.xc c fs) => if cs.contains c = true then some (i, c, fs) else none
    | _ => none
  | _ => none
def mXv (cs : List Nat) (f : Str) (m : ME) : ME := fun ρ S => (m ρ S).bind fun d S1 => match xcG cs S1 d with
  | some z => match z.2.2.lookup f with
    | some x => .ok x S1
    | none => .stuck
  | none => .stuck
theorem xcG_some {cs : List Nat} {S : Sto} {d : D} {z : Nat × Nat × List (Str × D)} (h : xcG cs S d = some z) : d = .obj z.1 ∧ S[z.1]? = some (.xc z.2.1 z.2.2) ∧ z.2.1 ∈ cs := by
  cases d with
  | obj i =>
    unfold xcG at h
    simp only at h
    cases q : S[i]? with
    | none => rw [q] at h; cases h
    | some ob =>
      rw [q] at h
      cases ob with
      | xc c fs =>
        simp only at h
        by_cases g : cs.contains c = true
        · rw [if_pos g] at h; cases h; exact ⟨rfl, q, List.contains_iff_mem.mp g⟩
        · rw [if_neg g] at h; cases h
      | _ => cases h
  | _ => cases h
theorem zip_rep {U : Uv} {M : Mp} {H : Hp} : ∀ {fs : List Str} {vs : List V} {ds : List D}, RepAll U M H vs ds → FsRep U M H (fs.zip vs) (fs.zip ds)
  | [], _, _, _ => .nil
  | _ :: _, _, _, .nil => .nil
  | _ :: _, _, _, .cons h r => .cons ⟨rfl, h⟩ (zip_rep r)
theorem Paired.app {α β : Type} {Rr : α → β → Prop} : ∀ {xs ys : List α} {us vs : List β}, Paired Rr xs us → Paired Rr ys vs → Paired Rr (xs ++ ys) (us ++ vs)
  | _, _, _, _, .nil, s => s
  | _, _, _, _, .cons h r, s => .cons h (Paired.app r s)
theorem Paired.rev {α β : Type} {Rr : α → β → Prop} : ∀ {xs : List α} {us : List β}, Paired Rr xs us → Paired Rr xs.reverse us.reverse
  | _, _, .nil => .nil
  | _, _, .cons h r => by
    rw [List.reverse_cons, List.reverse_cons]
    exact Paired.app (Paired.rev r) (.cons h .nil)
theorem xfs_ne {fs : List Str} {ds : List D} (h0 : fs ≠ []) (h : ds.length = fs.length) : xfs fs ds ≠ [] := fun z => by
  have z1 := congrArg List.length z
  unfold xfs at z1
  rw [List.length_reverse, List.length_zip, h, Nat.min_self] at z1
  exact h0 (List.length_eq_zero_iff.mp z1)
section
variable {U : Uv} {M : Mp} {S : Sto} {H : Hp} {C a dx : Addr} {fs : List Str} {vs : List V} {ds : List D}
theorem eqH {H2 : Hp} {fv : List (Str × V)} (hn : H a = none) (hd : H dx = none) (ne : dx ≠ a) (oth : ∀ b, b ≠ a → b ≠ dx → H2 b = upd H a (exo a C none) b) : upd (del H2 a) dx (.xd fv) = upd H dx (.xd fv) := by
  funext b
  by_cases h1 : b = dx
  · rw [h1, upd_same, upd_same]
  · rw [upd_ne h1, upd_ne h1]
    by_cases h2 : b = a
    · rw [h2, del_same, hn]
    · rw [del_ne h2, oth b h2 h1, upd_ne h2]
/-- the dict, then the exception -/
theorem xc_push {c : Nat} (r : R U M S H) (ra : RepAll U M H vs ds) (hd : H dx = none) (ha : upd H dx (.xd (fs.zip vs).reverse) a = none) :
    ∃ M', Ext M H M' (upd (upd H dx (.xd (fs.zip vs).reverse)) a (.ext (XoAt (.ref (U.cl c)) dx a))) ∧ R U M' (S ++ [.xc c (xfs fs ds)]) (upd (upd H dx (.xd (fs.zip vs).reverse)) a (.ext (XoAt (.ref (U.cl c)) dx a))) ∧ M'.n = S.length + 1 ∧ M'.at_ S.length = a := by
  have e1 := r.extNew (o := .xd (fs.zip vs).reverse) hd
  have r1 := r.new (o := .xd (fs.zip vs).reverse) hd
  have ne : dx ≠ a := fun z => by rw [← z, upd_same] at ha; cases ha
  have hk : ∀ b o, upd H dx (.xd (fs.zip vs).reverse) b = some o → upd (upd H dx (.xd (fs.zip vs).reverse)) a (.ext (XoAt (.ref (U.cl c)) dx a)) b = some o := fun b o h => by rw [upd_ne (ne_of_none h ha)]; exact h
  have e2 := r1.extPush ha hk upd_same
  have ex := e1.trans e2
  have nh : ¬ M.has dx := r.nhas hd
  refine ⟨M.push a, ex, r1.push ha hk ⟨dx, (fs.zip vs).reverse, upd_same, ⟨by rw [upd_ne ne, upd_same], e2.nhas upd_same nh⟩, ?_⟩, ?_, ?_⟩
  · exact FsRep.ext ex (Paired.rev (zip_rep ra))
  · show M.n + 1 = _; rw [r.n]
  · show (if S.length = M.n then a else M.at_ S.length) = a
    rw [if_pos r.n.symm]
end
theorem pick_succ {α : Type} {x : α} : ∀ {is : List Nat} {l : List α}, pick (is.map Nat.succ) (x :: l) = pick is l
  | [], _ => rfl
  | i :: is, l => by
    unfold pick
    show (match l[i]?, pick (is.map Nat.succ) (x :: l) with | some x, some r => some (x :: r) | _, _ => none) = _
    rw [pick_succ]
    all_goals (cases l[i]? <;> cases pick is l <;> rfl)
section
variable {X : Cx} {U : Uv} {W : WX} {fs ps ks : List Str} {k c : Nat} {x : Str} {e : Expr} {es : List Expr} {ms : MA} {fI : Addr} {fd : FuncData} {p pos pos' : Pos} {f : Str}
theorem s_raiseG (c : Nat) (C : ExG X.prog X.w X.K X.mg X.base k (U.cl c) x fs fI fd ps) (hr : Room (k + 1) X.A) (tk : L2N.Takes X W) (ha : PA X (e :: es) (tA U W ms)) (hc : X.calm = true := by rfl) (hg : Gl X x := by rfl) (hdb : (x == ("__debug__" : Str)) = false := by decide)
    (hs : starEach (e :: es) X.env = (false, eval e X.env) :: starEach es X.env := by rfl) (hp : (backTo pos (starEach es X.env)).any (·.1) = false := by rfl) :
    PS X (.Raise (some (.Call (.Name x p) (e :: es) [] pos)) none pos') (tS U W (sRaiseG c fs ms)) :=
  ps_imp (L2N.ps_raise hc tk (pmkN C.t C.i C.ti C.fn hr C.b (L2N.passes_call tk fun _ _ _ _ z => z.elim) hg C.g ha hdb hs hp)) fun Dn σ H ⟨M, S, ρ, A, q⟩ => tX.ofS A q fun ds S1 M1 H1 vs e1 A1 r1 p1 => by
    by_cases hl : ds.length = fs.length ∧ fs.length ≤ 1000
    · rw [if_pos hl] at p1
      have hv : vs.length = fs.length := r1.length.trans hl.1
      refine ⟨by omega, fun a hn => ⟨a, U.cl c, vs, by rw [List.append_nil], hv, C.t, C.no, upd_same, fun dx H2 ne hd h2a h2d oth => ?_⟩⟩
      have hd1 : H1 dx = none := by rw [upd_ne ne] at hd; exact hd
      refine ⟨rfl, dx, _, h2a, h2d, hd1, ?_⟩
      rw [eqH hn hd1 ne oth]
      have hE := A1.r.extNew (o := .xd (fs.zip vs).reverse) hd1
      exact p1 M1 _ σ _ _ hE (A1.ext hE (A1.r.new hd1)) ⟨rfl, .inr ⟨dx, _, xfs_ne C.f0 hl.1, rfl, upd_same, FsRep.ext hE (Paired.rev (zip_rep r1))⟩⟩
    · rw [if_neg hl] at p1; exact p1.elim
theorem e_mkX (c : Nat) (C : ExG X.prog X.w X.K X.mg X.base k (U.cl c) x fs fI fd ps) (hr : Room (k + 1) X.A) (tk : L2N.Takes X W) (ha : PA X (e :: es) (tA U W ms)) (hg : Gl X x := by rfl) (hdb : (x == ("__debug__" : Str)) = false := by decide)
    (hs : starEach (e :: es) X.env = (false, eval e X.env) :: starEach es X.env := by rfl) (hp : (backTo pos (starEach es X.env)).any (·.1) = false := by rfl) :
    PE X (.Call (.Name x p) (e :: es) [] pos) (tE U W (mMkX c fs ms)) :=
  pe_imp (pe_xval (pmkN C.t C.i C.ti C.fn hr C.b (L2N.passes_call tk fun _ _ _ _ z => z.elim) hg C.g ha hdb hs hp)) fun σ H Q ⟨M, S, ρ, A, q⟩ => tX.bind A q fun ds S1 M1 H1 vs e1 A1 r1 p1 => by
    by_cases hl : ds.length = fs.length ∧ fs.length ≤ 1000
    · rw [if_pos hl] at p1
      have hv : vs.length = fs.length := r1.length.trans hl.1
      refine ⟨by omega, fun a hn => ⟨a, U.cl c, vs, by rw [List.append_nil], hv, C.t, C.no, upd_same, fun dx H2 ne hd h2a h2d oth => ?_⟩⟩
      have hd1 : H1 dx = none := by rw [upd_ne ne] at hd; exact hd
      refine ⟨rfl, dx, _, h2a, h2d, hd1, dx, rfl, fun b hb => ?_⟩
      rw [eqH hn hd1 ne oth] at hb ⊢
      obtain ⟨M', x1, x2, x3, x4⟩ := xc_push (c := c) A1.r r1 hd1 hb
      refine p1 M' _ _ x1 x2 ?_
      rw [← x4]
      exact .obj (by rw [x3]; exact Nat.lt_succ_self _)
    · rw [if_neg hl] at p1; exact p1.elim
theorem e_mkXK (c : Nat) {kws : List Keyword} {mk : MA} (is : List Nat) (C : ExG X.prog X.w X.K X.mg X.base k (U.cl c) x fs fI fd ps) (hr : Room (k + 1) X.A) (tk : L2N.Takes X W) (hb : KwB X.K fd ps ks 1 (0 :: is.map Nat.succ)) (hkw : PK X kws (tA U W mk)) (hm : ∀ ρ S ds S1, mk ρ S = .ok ds S1 → ds.length = ks.length)
    (hg : Gl X x := by rfl) (hall : (backToKw pos (keywordEach kws X.env)).all (·.1.isSome) = true := by rfl) (hks : (backToKw pos (keywordEach kws X.env)).filterMap (·.1) = ks := by rfl) (hdb : (x == ("__debug__" : Str)) = false := by decide)
    (hpl : ((backTo pos (starEach [] X.env)).any (·.1) || (backToKw pos (keywordEach kws X.env)).any (·.1.isNone)) = false := by rfl) :
    PE X (.Call (.Name x p) [] kws pos) (tE U W (mMkXK c fs is mk)) :=
  pe_imp (pe_xval (pmkNK C.t C.i C.ti C.fn hr hb (L2N.passes_call tk fun _ _ _ _ z => z.elim) hg C.g hkw hall hks hdb hpl)) fun σ H Q ⟨M, S, ρ, A, q⟩ => ⟨M, S, ρ, A, (by
    show PostX U (RepAll U) M H σ W (mk ρ S) _
    have q : PostX U (Rep U) M H σ W ((mk ρ S).bind _) Q := q
    cases e1 : mk ρ S with
    | exc y S1 => rw [e1] at q; exact q
    | stuck => rw [e1] at q; exact q
    | ok ds S1 =>
      rw [e1] at q
      intro M1 H1 vs x1 r1 ra
      change PostX U (Rep U) M H σ W (match pick is ds with | some zs => _ | none => _) Q at q
      cases e3 : pick is ds with
      | none => rw [e3] at q; exact q.elim
      | some zs =>
        rw [e3] at q
        change PostX U (Rep U) M H σ W (if zs.length = fs.length ∧ fs.length ≤ 1000 then _ else _) Q at q
        by_cases hl : zs.length = fs.length ∧ fs.length ≤ 1000
        · rw [if_pos hl] at q
          obtain ⟨ws, h1, h2⟩ := pick_repA ra e3
          have hv : ws.length = fs.length := h2.length.trans hl.1
          refine ⟨by rw [ra.length]; exact hm _ _ _ _ e1, fun a hn => ⟨.ref a :: ws, ?_, a, U.cl c, ws, rfl, hv, C.t, C.no, upd_same, fun dx H2 ne hd h2a h2d oth => ?_⟩⟩
          · unfold pick
            rw [pick_succ, h1]
            rfl
          · have hd1 : H1 dx = none := by rw [upd_ne ne] at hd; exact hd
            refine ⟨rfl, dx, _, h2a, h2d, hd1, dx, rfl, fun b hb => ?_⟩
            rw [eqH hn hd1 ne oth] at hb ⊢
            obtain ⟨M', y1, y2, y3, y4⟩ := xc_push (c := c) r1 h2 hd1 hb
            refine q M' _ _ (x1.trans y1) y2 ?_
            rw [← y4]
            exact .obj (by rw [y3]; exact Nat.lt_succ_self _)
        · rw [if_neg hl] at q; exact q.elim)⟩
theorem e_xv {cs : List Nat} {m : ME} (he : PE X e (tE U W m)) (hc : ∀ c ∈ cs, XfC X.K (U.cl c) ∧ PySem.W.findIn X.K (.ref (U.cl c)) f = some none) (hb : attributeBase e f X.env (eval e X.env) = eval e X.env := by rfl) : PE X (.Attribute e f pos) (tE U W (mXv cs f m)) :=
  pe_imp (pe_xv he hb) fun σ H Q ⟨M, S, ρ, A, q⟩ => tX.bind A q fun d S1 M1 H1 v e1 A1 rv q1 => by
    cases g : xcG cs S1 d with
    | none => rw [g] at q1; exact q1.elim
    | some z =>
      rw [g] at q1
      obtain ⟨rfl, hS, hm⟩ := xcG_some g
      cases rv with
      | obj hi =>
        obtain ⟨dd, fv, hH, ⟨hD, _⟩, fr⟩ := A1.r.at_ _ _ hS
        simp only at q1
        cases g2 : z.2.2.lookup f with
        | none => rw [g2] at q1; exact q1.elim
        | some y =>
          rw [g2] at q1
          obtain ⟨w, hl, rw'⟩ := FsRep.look fr g2
          exact ⟨_, _, dd, fv, w, rfl, hH, (hc _ hm).1, (hc _ hm).2, hD, hl, q1 M1 H1 w A1.refl A1.r rw'⟩
end
end DL
/-! DL49: a caught exception handed to a def; what that def may do. -/
namespace DL
open PySem PySem.Spec PyProof.Rows L2
section
variable {X : Cx} {U : Uv} {W : WX} {x : Ex} {d : Option Addr} {a : Addr} {oe : Obj} {e b ce : Expr} {es : List Expr} {m ma mb : ME} {ms : MA} {pos : Pos}
/-- its dict, where it has one -/
def instAt (oe : Obj) (H : Hp) : Prop := oe.dict = none ∨ dictAt oe H
theorem ExAt.inst {M : Mp} {H : Hp} {cv : Value} (xa : ExAt U M H x cv d) (hz : oe.dict = d) : instAt oe H := by
  rcases xa.2 with ⟨_, h⟩ | ⟨dd, fv, _, hd, hH, _⟩
  · exact .inl (hz.trans h)
  · exact .inr ⟨dd, fv, hz.trans hd, hH⟩
theorem inst_ofG {D : Addr} {pins : List (Addr × Obj)} {σ : L2.St} {H : Hp} {s : Shared} (hp : (a, oe) ∈ X.pn) (hz : (oe.cls = .ref D)) (hf : ∃ vs, oe.data = .fields vs) (I : Inv X pins σ H s) (h : instAt oe H) : ∃ od, PySem.W.InstAt s.heap a oe D od := by
  obtain ⟨ha, _⟩ := I.pin (a, oe) (List.mem_append_left _ hp)
  obtain ⟨vs, hv⟩ := hf
  rcases h with hd | ⟨dd, fv, hd, hH⟩
  · exact ⟨none, ha, hz, by unfold PySem.W.notCls; rw [hv] <;> rfl, by rw [hd]; trivial⟩
  · obtain ⟨mA, hns, _⟩ := (show ObjOk X.prog X.w H s.heap dd (.xd fv) from I.hok dd _ hH)
    obtain ⟨od, ho, _⟩ := lookIn_ns hns
    exact ⟨some od, ha, hz, by unfold PySem.W.notCls; rw [hv] <;> rfl, by rw [hd]; exact ho⟩
theorem call_isG {D : Addr} (C : ExcC X.K D) (hp : (a, oe) ∈ X.pn) (hz : oe.cls = .ref D) (hf : ∃ vs, oe.data = .fields vs) : CallR X (.builtin "isinstance") (fun xs H Q => instAt oe H ∧ rIsE X.K D a xs H Q) := fun pins s σ H xs us Q I r ⟨hd, c1, cv, b, ex, hcv, e, q⟩ => by
  subst ex
  obtain ⟨u1, u2, rfl, r1, r2⟩ := vals2 r
  obtain rfl : u1 = Value.ref a := r1
  have ec := hcv _ r2
  subst ec
  exact PySem.W.kia_one (kitx_excO C) I.kIn (inst_ofG hp hz hf I hd) e (fun z => nomatch z) fun tk => ⟨.bl b, H, I.tok tk, rfl, q⟩
/-- isinstance(e, C) -/
theorem ex_isG (i : Nat) {n : Str} {q p1 : Pos} {cv : Value} {c : V} {b : Bool} (ec : ExcC X.K (U.cl x.c)) (hp : (a, oe) ∈ X.pn) (hz : L2N.Zn (.ref (U.cl x.c)) d oe) (hf : ∃ vs, oe.data = .fields vs) (hm : X.mg "isinstance" = none)
    (hce : PE X ce (tC c)) (hcv : ∀ u, RelV c u → u = cv) (hb : PySem.W.kitOne X.K (.ref (U.cl x.c)) cv = some b) (hU : (i, a) ∈ U.f) (hN : X.N[i]? = some n := by rfl) (hv : Vis X.env.scope n := by first | exact Or.inl rfl | exact Or.inr (Or.inl rfl) | exact Or.inr (Or.inr rfl))
    (hg : Gl X "isinstance" := by rfl) (hd : (n == ("__debug__" : Str)) = false := by decide) (hcd : (n == ("__classdict__" : Str)) = false := by decide)
    (he : starEach [Expr.Name n p1, ce] X.env = (false, eval (Expr.Name n p1) X.env) :: starEach [ce] X.env := by rfl) (he2 : starEach [ce] X.env = (false, eval ce X.env) :: starEach [] X.env := by rfl)
    (hpl : (backTo pos (starEach [ce] X.env)).any (·.1) = false := by rfl) : PE X (.Call (.Name "isinstance" q) [.Name n p1, ce] [] pos) (tEx U W x d (mC (.bl b))) :=
  pe_imp (pe_callB (call_isG ec hp hz.1 hf) hg hm PyProof.Rows.boot_isinstance (pa_cons (pv i hN hv hd hcd) (pa_cons hce pa_nil he2) he) (by decide) (by decide) he hpl) fun σ H Q ⟨M, S, ρ, A, xa, p⟩ =>
    ⟨_, A.fx _ hU, xa.inst hz.2.1, c, cv, b, rfl, hcv, hb, p M H _ A.refl A.r (.bl b)⟩
/-! ### statements where the exception is in sight -/
theorem ex_lst (h : PA X es (tAx U W x d ms)) : PE X (.List es pos) (tEx U W x d (mLst ms)) :=
  pe_imp (pe_lst h) fun σ H Q ⟨M, S, ρ, A, xa, p⟩ => tXx.bind A xa p fun xs S1 M1 H1 vs e1 A1 _ r1 p1 => by
    by_cases hl : xs.length ≤ lim
    · rw [if_pos hl] at p1
      exact ⟨lim_line (by rw [r1.length]; exact hl), fun q hq => Gives.lst p1 A1.r r1 hq⟩
    · rw [if_neg hl] at p1; exact p1.elim
theorem ex_op {op : Operator} {g : Sto → D → D → Option D} (ho : OpD U X (binaryOp op) g) (ha : PE X e (tEx U W x d ma)) (hb : PE X b (tEx U W x d mb)) : PE X (.BinOp e op b pos) (tEx U W x d (m2 g ma mb)) := by
  obtain ⟨r, h1, h2⟩ := ho.ex
  refine pe_imp (pe_op h1 ha hb) fun σ H Q ⟨M, S, ρ, A, xa, p⟩ => ?_
  refine tXx.bind A xa p fun z S1 M1 H1 v e1 A1 xa1 r1 p1 => tXx.bind A1 xa1 p1 fun y S2 M2 H2 w e2 A2 _ r2 p2 => ?_
  obtain ⟨dd, ed, q⟩ := ofO_post p2
  exact h2 M2 S2 H2 v w z y dd Q A2.r (r1.ext e2) r2 ed q
theorem sx_seq {st : Stmt} {rest : List Stmt} {m1 m2 : MS} (h1 : PS X st (tSx U W x d m1)) (h2 : PSs X rest (tSx U W x d m2)) : PSs X (st :: rest) (tSx U W x d (sSeq m1 m2)) :=
  pss_imp (pss_cons h1 h2) fun Dn σ H ⟨M, S, ρ, A, xa, p⟩ => ⟨M, S, ρ, A, xa, by
    unfold sSeq at p
    cases q : m1 ρ S with
    | nx ρ2 S2 => rw [q] at p; exact fun M' H' σ' ex A' => ⟨M', S2, ρ2, A', xa.ext A.r ex, PostS.ext ex p⟩
    | bk ρ2 S2 => rw [q] at p; exact p
    | ct ρ2 S2 => rw [q] at p; exact p
    | rt v S2 => rw [q] at p; exact p
    | exc e2 ρ2 S2 => rw [q] at p; exact p
    | stuck => rw [q] at p; exact p⟩
theorem sx_one {st : Stmt} {m : MS} (h : PS X st (tSx U W x d m)) : PSs X [st] (tSx U W x d m) := pss_one h
theorem sx_set (i : Nat) {y : Str} {pos' : Pos} {m : ME} (hN : X.N.Nodup) (he : PE X e (tEx U W x d m)) (hn : Nf U i) (hi : X.N[i]? = some y := by rfl) (hx : Loc X.env.scope y := by first | exact Or.inl rfl | exact Or.inr rfl) (hs : swapsWith e (some (.Name y pos')) pos.line X.env = pure false := by rfl)
    (hf : X.fn y = true ∨ X.env.scope.names.lookup y = some .local := by first | exact .inl rfl | exact .inr rfl | assumption) : PS X (.Assign [.Name y pos'] e pos) (tSx U W x d (sSet i m)) :=
  ps_imp (ps_set hN hi hx he hs hf) fun Dn σ H ⟨M, S, ρ, A, xa, p⟩ => tXx.ofS A xa p fun z S1 M1 H1 v e1 A1 r1 p1 => p1 M1 H1 _ A1.refl (A1.set r1 hn)
theorem sx_ret {m : ME} (he : PE X e (tEx U W x d m)) : PS X (.Return (some e) pos) (tSx U W x d (sRet m)) :=
  ps_imp (ps_ret he) fun Dn σ H ⟨M, S, ρ, A, xa, p⟩ => tXx.ofS A xa p fun z S1 M1 H1 v e1 A1 r1 p1 => p1 M1 H1 v A1.refl A1.r r1
end
/-! ### a def whose one argument is the exception that is handled -/
abbrev Me := Ex → Sto → Out D
def E00 : XK := fun _ _ _ => False
structure DoesE (P : Program) (w : World) (K : PySem.W.Frag) (mg : Str → Option Value) (base : Heap) (U : Uv) (k : Nat) (x : Str) (f : Addr) (fd : FuncData) (pn : Str) (F : Me) : Prop where
  run : ∀ (A : Around) (outer : List PySem.Env) (s : Shared) (H : Hp) (args : Args) (Q : VK) (a : Addr) (oe : Obj) (e : Ex) (d : Option Addr) (M : Mp) (S : Sto), L2H.RoomH k A → L2H.Hot1 A (a, oe) → L2H.PinOk outer H s (a, oe) → L2N.Zn (.ref (U.cl e.c)) d oe →
    Env0 P w K mg base A outer s H → BindsTo s fd args [(pn, .ref a)] → R U M S H → ExAt U M H e (.ref (U.cl e.c)) d → PostX U (Rep U) M H [] W0 (F e S) Q → codeAny (model P w) A (.call (.ref f) args) (CR (L2N.CX P w) outer P w H s Q E00) s
  mg_ : mg x = some (.ref f)
  kp : PySem.W.keepIn K (.ref f) = true
  b : Binds K fd [pn] []
def runE (n : Nat) (ms : Ex → MS) : Me := fun e S => match ms e (List.replicate n none) S with
  | .rt d S' => .ok d S'
  | _ => .stuck
section
variable {P : Program} {w : World} {K : PySem.W.Frag} {mg : Str → Option Value} {base : Heap} {U : Uv}
theorem okE_def {x pn : Str} {N : List Str} {st : Stmt} {f : Addr} {fd : FuncData} {k : Nat} {ms : Ex → MS} (F : L2.Fun K x x st f fd) (hm : mg x = some (.ref f)) (hb : Binds K fd [pn] []) (Sc : FnScope N [pn] (defScope st)) (hf : U.f = [])
    (body : ∀ (cdv : Value) (A : Around) (outer : List PySem.Env) (s : Shared) (H : Hp) (a : Addr) (oe : Obj) (e : Ex) (d : Option Addr), L2N.Zn (.ref (U.cl e.c)) d oe → (∃ vs, oe.data = .fields vs) → L2H.RoomH k (A.deeper (PyProof.Rows.envOfC x (defScope st) s.heap.objs.size f cdv)) →
      PSs (L2H.cxH (L2N.CX P w) P w K mg base N x (defScope st) f cdv A outer s H E00 (a, oe)) (defBody st) (tSx (U.fix [(0, a)]) W0 e d (ms e))) : DoesE P w K mg base U (k + 1) x f fd pn (runE N.length ms) := by
  refine ⟨?_, hm, F.kp, hb⟩
  obtain ⟨oc, od, kV, doc, pm, an, cdv, ct, osl, rfl, lk, hcd⟩ := F.ex
  intro A outer s H args Q a oe e d M S hr hot hpin hz e0 hbd r xa p
  have kin : K.In s.heap := e0.mod.kin.keeps fun b o z => (e0.bs b o z).1
  have nolim : s.heap.NoLimit := e0.mod.nolimit.keeps fun b o z => (e0.bs b o z).1
  have kinds : ∀ y ∈ [pn].zip [Value.ref a], (defScope st).names.lookup y.1 = some .local ∨ ((defScope st).names.lookup y.1 = some .cell ∧ ((cellsFrom (s.heap.objs.size + 1) (defScope st).names []).lookup y.1).isSome = true) := fun ⟨n, v⟩ hy => by
    rcases Sc.par n (List.of_mem_zip hy).1 with q | q
    · exact .inl q
    · exact .inr ⟨q, PySem.W.cellsFrom_some _ _ _ (.inl q)⟩
  refine codeAny_call_function hr.depth (kin _ _ lk) rfl Sc.co Sc.gen rfl (PySem.W.codeRec_of kin hcd) (hbd _ _ _ _ ?_)
  refine wpAny_newFunctionEnv_cells Sc.kind kinds fun env he s1 y => ?_
  subst he
  refine ⟨nolim.keeps y.toInCall.keep, codeAny_func ?_⟩
  obtain ⟨hh, vs9, hv9, _⟩ := id hot
  have T := body cdv A outer s H a oe e d hz ⟨vs9, hv9⟩ (hr.deeper _)
  have I := L2H.inv_startH (CX := L2N.CX P w) (qual := x) (f := f) (cd := cdv) (E := E00) (us := [Value.ref a]) (vs := [V.ref a]) Sc hpin e0 rfl (.cons rfl .nil) y
  have hN : 1 ≤ N.length := by
    have := congrArg List.length Sc.pre
    rw [List.length_take] at this
    simp at this
    omega
  obtain ⟨n, hn⟩ : ∃ n, N.length = n + 1 := ⟨N.length - 1, by omega⟩
  have At0 : At (U.fix [(0, a)]) M S (List.replicate N.length none) (L2.start N [.ref a]) H := by
    refine ⟨r.fix, fun i q hq => ?_, ?_, fun q hq => ?_⟩
    · rw [List.getElem?_replicate] at hq
      split at hq <;> cases hq
    · unfold L2.start
      simp [hn]
    · rcases List.mem_singleton.mp hq with rfl
      rfl
  have hq : tSx (U.fix [(0, a)]) W0 e d (ms e) { nx := fun _ H' => Q .non H', rt := Q } (L2.start N [.ref a]) H := by
    refine ⟨M, S, _, At0, xa.fix, ?_⟩
    unfold runE at p
    revert p
    cases ms e (List.replicate N.length none) S with
    | rt v S2 => exact fun p M' H' v' ex r' rd => p M' H' v' ex (R.fix (U := U.fix [(0, a)]) (l := U.f) r') (Rep.fix (U := U.fix [(0, a)]) (l := U.f) rd)
    | _ => exact fun p => p.elim
  refine wpAny_mono (T.run [] s1 _ H _ I hq) (fun fl s' hs => ?_) fun e s' hs => hs
  match fl, hs with
  | .ret u, ⟨v, σ', H', J, rv, q⟩ => exact ⟨v, H', J.os, J.bare, J.base, J.hok, rv, q⟩
  | .next, ⟨σ', H', J, q⟩ => exact ⟨.non, H', J.os, J.bare, J.base, J.hok, rfl, q⟩
  | .brk, ⟨_, _, _, q⟩ => exact q.elim
  | .cont, ⟨_, _, _, q⟩ => exact q.elim
end
def mCallE (F : Me) (e : Ex) : ME := fun _ S => match F e S with
  | .ok v S2 => .ok v S2
  | _ => .stuck
section
variable {X : Cx} {U : Uv} {W : WX} {l : List (Nat × Addr)} {x : Ex} {d : Option Addr} {a : Addr} {oe : Obj} {k j : Nat} {F : Me} {g pn : Str} {f : Addr} {fd : FuncData} {p pos : Pos}
/-- g(e), e the exception that the suite holds -/
theorem ex_callE (i : Nat) {n : Str} {p1 : Pos} (G : DoesE X.prog X.w X.K X.mg X.base U k g f fd pn F) (hr : L2H.RoomH j X.A) (hot : L2H.Hot1 X.A (a, oe)) (hp : (a, oe) ∈ X.pn) (hz : L2N.Zn (.ref (U.cl x.c)) d oe) (hx : Passes (L2N.CX X.prog X.w) X E00) (hU : (i, a) ∈ l) (hk : k ≤ j := by decide)
    (hg : Gl X g := by rfl) (hN : X.N[i]? = some n := by rfl) (hv : Vis X.env.scope n := by first | exact Or.inl rfl | exact Or.inr (Or.inl rfl) | exact Or.inr (Or.inr rfl)) (hdb : (g == ("__debug__" : Str)) = false := by decide) (hd : (n == ("__debug__" : Str)) = false := by decide) (hcd : (n == ("__classdict__" : Str)) = false := by decide)
    (he : starEach [Expr.Name n p1] X.env = (false, eval (Expr.Name n p1) X.env) :: starEach [] X.env := by rfl) (hpl : (backTo pos (starEach [] X.env)).any (·.1) = false := by rfl) : PE X (.Call (.Name g p) [.Name n p1] [] pos) (tEx (U.fix l) W x d (mCallE F x)) := ⟨fun pins s σ H Q I ⟨M, S, ρ, A, xa, q⟩ => by
  refine wpAny_Call_Name_kw (ld_glob I hg G.mg_ ?_ hdb)
  refine PySem.W.callWith_K (h₀ := X.base) I.ok.mod.kin G.kp (thn ((pa_cons (pv i hN hv hd hcd) pa_nil he).run pos pins s σ H (fun vs H1 => vs = [.ref a] ∧ H1 = H) I ⟨_, A.fx _ hU, rfl, rfl⟩) fun us s1 ⟨vs, H1, I1, r1, e1, e2⟩ => ⟨I1.kIn, ?_⟩) he hpl
  subst e1 e2
  obtain ⟨u1, rfl, r2⟩ := vals1 r1
  obtain rfl : u1 = Value.ref a := r2
  have P1 := I1.pin (a, oe) (List.mem_append_left _ hp)
  have hpin : L2H.PinOk X.stack H1 s1 (a, oe) := ⟨P1.1, P1.2.1, fun hm => (List.mem_cons.mp (I1.stkSub a hm)).elim P1.2.2.1 P1.2.2.2.1, P1.2.2.2.2⟩
  have b := G.b s1 [.ref a] I1.kIn rfl
  refine wpAny_call (codeAny_mono (G.run X.A X.stack s1 H1 ⟨[.ref a], []⟩ Q a oe x d M S ⟨by have := hr.dp; omega, by have := hr.un; omega⟩ hot hpin hz I1.env0 b (R.fix (U := U.fix l) (l := U.f) A.r) (ExAt.fix (U := U.fix l) (l := U.f) xa) ?_) fun r s' hq => ?_)
  · unfold mCallE at q
    revert q
    cases F x S with
    | ok v S2 => exact fun q M' H' b ex r rb => q M' H' b ex r.fix rb.fix
    | _ => exact fun q => q.elim
  · cases r with
    | error e => exact hx pins σ H1 s1 e s' I1 hq
    | ok fl =>
      cases fl with
      | ret u => exact I1.after hq
      | _ => exact False.elim hq⟩
end
end DL
/-! DL50: many own exception classes, all over one: what the text says of them, at once. -/
namespace DL
open PySem PySem.Spec PyProof.Rows L2
def sLt (n : Nat) (e : Ex) (m : MS) : MS := if e.c < n then m else sStuck
section
variable {X : Cx} {U : Uv} {W : WX} {x : Ex} {d : Option Addr}
theorem sx_lt {st : List Stmt} {m : MS} {n : Nat} (h : x.c < n → PSs X st (tSx U W x d m)) : PSs X st (tSx U W x d (sLt n x m)) := by
  unfold sLt
  by_cases hl : x.c < n
  · rw [if_pos hl]; exact h hl
  · rw [if_neg hl]; exact ssx_stuck
theorem hot1_suite {X : Cx} {a : Addr} {oe : Obj} {cls : Value} {d : Option Addr} {pn : List (Addr × Obj)} (hz : L2N.Zn cls d oe) (hv : ∃ vs, oe.data = .fields vs) : L2H.Hot1 (X.suite a ((a, oe) :: pn)).A (a, oe) :=
  let ⟨vs, e⟩ := hv
  ⟨rfl, vs, e, hz.2.2 vs e⟩
theorem refV {a : Addr} : ∀ u, RelV (V.ref a) u → u = .ref a := fun _ h => h
theorem tyV {n : String} : ∀ u, RelV (V.ty n) u → u = .type n := fun _ h => h
end
/-- the first class is above all of them, and no other one above another -/
def subT (c j : Nat) : Bool := c == j || j == 0
/-- one class: what is asked of it -/
def clsB (K : PySem.W.Frag) (C : Addr) : Bool := decide (PySem.W.findIn K (.ref C) "__getattribute__" = some (some (.builtin "BaseException.__getattribute__"))) && (decide (PySem.W.findIn K (.ref C) "__getattr__" = some none) && (decide (PySem.W.subIn K (.ref C) (.type "BaseException") = some true) &&
  (PySem.W.hasDictIn K C && (decide (PySem.W.findIn K (.ref C) "__class__" = some (some (.builtin "object.__class__"))) && (decide (PySem.W.mroIn K C (.type "object") = some true) && (PySem.W.keepIn K (.ref C) && (decide (PySem.W.typeIn K (.ref C) = some (.type "type")) && decide (PySem.W.kitOne K (.ref C) (.type "ValueError") = some true))))))))
structure ClsOk (K : PySem.W.Frag) (C : Addr) : Prop where
  g : PySem.W.findIn K (.ref C) "__getattribute__" = some (some (.builtin "BaseException.__getattribute__"))
  k : PySem.W.findIn K (.ref C) "__getattr__" = some none
  b : PySem.W.subIn K (.ref C) (.type "BaseException") = some true
  d : PySem.W.hasDictIn K C = true
  a : PySem.W.findIn K (.ref C) "__class__" = some (some (.builtin "object.__class__"))
  m : PySem.W.mroIn K C (.type "object") = some true
  kp : PySem.W.keepIn K (.ref C) = true
  t : PySem.W.typeIn K (.ref C) = some (.type "type")
  v : PySem.W.kitOne K (.ref C) (.type "ValueError") = some true
theorem clsB_ok {K : PySem.W.Frag} {C : Addr} (h : clsB K C = true) : ClsOk K C := by
  unfold clsB at h
  simp only [Bool.and_eq_true, decide_eq_true_eq] at h
  obtain ⟨h1, h2, h3, h4, h5, h6, h7, h8, h9⟩ := h
  exact ⟨h1, h2, h3, h4, h5, h6, h7, h8, h9⟩
def allB (K : PySem.W.Frag) (l : List Addr) : Bool := l.all fun C => clsB K C
def subB (K : PySem.W.Frag) (l : List Addr) : Bool := l.zipIdx.all fun c => l.zipIdx.all fun j => decide (PySem.W.subIn K (.ref c.1) (.ref j.1) = some (subT c.2 j.2))
section
variable {K : PySem.W.Frag} {l : List Addr} {n : Nat}
def nthC (l : List Addr) (e : Nat → Addr) (c : Nat) : Addr := if c < l.length then l.getD c 0 else e c
theorem nthC_lt {e : Nat → Addr} {c : Nat} (h : c < l.length) : nthC l e c = l.getD c 0 := if_pos h
theorem allB_ok {e : Nat → Addr} (h : allB K l = true) {c : Nat} (hc : c < l.length) : ClsOk K (nthC l e c) := by
  rw [nthC_lt hc]
  have z := List.all_eq_true.mp h (l.getD c 0) (by rw [List.getD_eq_getElem?_getD, List.getElem?_eq_getElem hc]; exact List.getElem_mem hc)
  exact clsB_ok z
theorem subB_ok {e : Nat → Addr} (h : subB K l = true) {c j : Nat} (hc : c < l.length) (hj : j < l.length) : PySem.W.subIn K (.ref (nthC l e c)) (.ref (nthC l e j)) = some (subT c j) := by
  rw [nthC_lt hc, nthC_lt hj]
  have mem : ∀ {i : Nat}, i < l.length → (l.getD i 0, i) ∈ l.zipIdx := fun {i} hi => by
    rw [List.mem_zipIdx_iff_getElem?, List.getD_eq_getElem?_getD, List.getElem?_eq_getElem hi]
    rfl
  have z := List.all_eq_true.mp (List.all_eq_true.mp h _ (mem hc)) _ (mem hj)
  exact of_decide_eq_true z
theorem kit_allB {e : Nat → Addr} (h : allB K l = true) (hs : subB K l = true) {c j : Nat} (hc : c < l.length) (hj : j < l.length) : PySem.W.kitOne K (.ref (nthC l e c)) (.ref (nthC l e j)) = some (subT c j) := by
  have hself := subB_ok (e := e) hs hc hc
  have : subT c c = true := by simp [subT]
  rw [this] at hself
  have J := allB_ok (e := e) h hj
  exact kit_of (subB_ok hs hc hj) hself J.d J.t
theorem exm_allB {e : Nat → Addr} (h : allB K l = true) (hs : subB K l = true) {c j : Nat} (hc : c < l.length) (hj : j < l.length) : PySem.W.exmOne K (.ref (nthC l e c)) (.ref (nthC l e j)) = some (subT c j) := by
  have J := allB_ok (e := e) h hj
  exact PySem.W.exm_ref J.b J.d J.t (subB_ok hs hc hj)
theorem exc_allB {e : Nat → Addr} (h : allB K l = true) (hn : PySem.W.specialIn K (.builtin "object.__class__") "__get__" = some (some (.builtin "getset_descriptor.__get__"))) (ht : PySem.W.takesIn K (.builtin "object.__class__") = some true) {c : Nat} (hc : c < l.length) : ExcC K (nthC l e c) := by
  have J := allB_ok (e := e) h hc
  exact ⟨J.g, J.k, J.b, J.d, J.a, hn, ht, J.m⟩
end
end DL
/-! the mirrors, printed by gen.py -/
namespace K00
open PySem L2 DL
def top (i : Nat) : Stmt := PySem.Challenge.pw_tokenreads_k00_error_classes.main.body.getD i (.Pass ⟨0, 0, 0, 0⟩)
def d_LETTERS : D := (.str "abcdefghijklmnopqrstuvwxyz")
def d_LONGEST : D := (.int 8)
abbrev CS : List Nat := [27]
def ca0 : Nat → Option Bool := fun c => if c < 27 then some (subT c 0) else none
def ca1 : Nat → Option Bool := fun c => if c < 27 then some (subT c 1) else none
def m__law_raised_more : MS := (sSeq (sIf (mTst (m2 eqO (mVar 0) (mC (.int 13))))
  (sRaise 3)
  sNil)
  (sSeq (sIf (mTst (m2 eqO (mVar 0) (mC (.int 14))))
  (sRaise 13)
  sNil)
  (sSeq (sIf (mTst (m2 eqO (mVar 0) (mC (.int 15))))
  (sRaise 10)
  sNil)
  (sSeq (sIf (mTst (m2 eqO (mVar 0) (mC (.int 16))))
  (sRaise 14)
  sNil)
  (sSeq (sIf (mTst (m2 eqO (mVar 0) (mC (.int 17))))
  (sRaise 22)
  sNil)
  (sSeq (sIf (mTst (m2 eqO (mVar 0) (mC (.int 18))))
  (sRaiseG 26 ["at"] (aCons (mC (.int 4)) aNil))
  sNil)
  (sSeq (sIf (mTst (m2 eqO (mVar 0) (mC (.int 19))))
  (sRaiseG 25 ["promise", "place"] (aCons (mC (.str "own")) (aCons (mC (.int 3)) aNil)))
  sNil)
  (sSeq (sIf (mTst (m2 eqO (mVar 0) (mC (.int 20))))
  (sRaise 16)
  sNil)
  (sSeq (sIf (mTst (m2 eqO (mVar 0) (mC (.int 21))))
  (sRaise 23)
  sNil)
  (sSeq (sIf (mTst (m2 eqO (mVar 0) (mC (.int 22))))
  (sRaise 17)
  sNil)
  (sSeq (sIf (mTst (m2 eqO (mVar 0) (mC (.int 23))))
  (sRaise 11)
  sNil)
  (sSeq (sIf (mTst (m2 eqO (mVar 0) (mC (.int 24))))
  (sRaise 21)
  sNil)
  (sIf (mTst (m2 eqO (mVar 0) (mC (.int 25))))
  (sRaise 4)
  sNil)))))))))))))
def F__law_raised_more : Mi := runD 1 m__law_raised_more
def m__law_raised_one : MS := (sSeq (sIf (mTst (m2 eqO (mVar 0) (mC (.int 0))))
  (sRaise 9)
  sNil)
  (sSeq (sIf (mTst (m2 eqO (mVar 0) (mC (.int 1))))
  (sRaise 8)
  sNil)
  (sSeq (sIf (mTst (m2 eqO (mVar 0) (mC (.int 2))))
  (sRaise 24)
  sNil)
  (sSeq (sIf (mTst (m2 eqO (mVar 0) (mC (.int 3))))
  (sRaise 15)
  sNil)
  (sSeq (sIf (mTst (m2 eqO (mVar 0) (mC (.int 4))))
  (sRaise 12)
  sNil)
  (sSeq (sIf (mTst (m2 eqO (mVar 0) (mC (.int 5))))
  (sRaise 20)
  sNil)
  (sSeq (sIf (mTst (m2 eqO (mVar 0) (mC (.int 6))))
  (sRaise 1)
  sNil)
  (sSeq (sIf (mTst (m2 eqO (mVar 0) (mC (.int 7))))
  (sRaise 7)
  sNil)
  (sSeq (sIf (mTst (m2 eqO (mVar 0) (mC (.int 8))))
  (sRaise 5)
  sNil)
  (sSeq (sIf (mTst (m2 eqO (mVar 0) (mC (.int 9))))
  (sRaise 6)
  sNil)
  (sSeq (sIf (mTst (m2 eqO (mVar 0) (mC (.int 10))))
  (sRaise 2)
  sNil)
  (sSeq (sIf (mTst (m2 eqO (mVar 0) (mC (.int 11))))
  (sRaise 18)
  sNil)
  (sSeq (sIf (mTst (m2 eqO (mVar 0) (mC (.int 12))))
  (sRaise 19)
  sNil)
  (sDrop (mCall F__law_raised_more (aCons (mVar 0) aNil))))))))))))))))
def F__law_raised_one : Mi := runD 1 m__law_raised_one
def m__law_marks : Ex → MS := fun e => (sLt 27 e (sSeq (sSet 1 (mLst (aCons (mC (.bl (subT e.c 9))) (aCons (mC (.bl (subT e.c 8))) (aCons (mC (.bl (subT e.c 24))) aNil)))))
  (sSeq (sSet 1 (m2 addO (mVar 1) (mLst (aCons (mC (.bl (subT e.c 15))) (aCons (mC (.bl (subT e.c 12))) aNil)))))
  (sSeq (sSet 1 (m2 addO (mVar 1) (mLst (aCons (mC (.bl (subT e.c 20))) (aCons (mC (.bl (subT e.c 1))) (aCons (mC (.bl (subT e.c 7))) aNil))))))
  (sSeq (sSet 1 (m2 addO (mVar 1) (mLst (aCons (mC (.bl (subT e.c 5))) aNil))))
  (sSeq (sSet 1 (m2 addO (mVar 1) (mLst (aCons (mC (.bl (subT e.c 6))) (aCons (mC (.bl (subT e.c 2))) (aCons (mC (.bl (subT e.c 18))) aNil))))))
  (sSeq (sSet 1 (m2 addO (mVar 1) (mLst (aCons (mC (.bl (subT e.c 19))) aNil))))
  (sSeq (sSet 1 (m2 addO (mVar 1) (mLst (aCons (mC (.bl (subT e.c 3))) (aCons (mC (.bl (subT e.c 13))) (aCons (mC (.bl (subT e.c 10))) aNil))))))
  (sSeq (sSet 1 (m2 addO (mVar 1) (mLst (aCons (mC (.bl (subT e.c 14))) aNil))))
  (sSeq (sSet 1 (m2 addO (mVar 1) (mLst (aCons (mC (.bl (subT e.c 22))) (aCons (mC (.bl (subT e.c 26))) (aCons (mC (.bl (subT e.c 25))) (aCons (mC (.bl (subT e.c 16))) aNil)))))))
  (sSeq (sSet 1 (m2 addO (mVar 1) (mLst (aCons (mC (.bl (subT e.c 23))) (aCons (mC (.bl (subT e.c 17))) (aCons (mC (.bl (subT e.c 11))) aNil))))))
  (sRet (m2 addO (mVar 1) (mLst (aCons (mC (.bl (subT e.c 21))) (aCons (mC (.bl (subT e.c 4))) aNil))))))))))))))))
def F__law_marks : Me := runE 2 m__law_marks
def m__law_way_right : MS := (sSeq (sPar 1 2 (aCons (mLst aNil) (aCons (mC (.bl false)) aNil)))
  (sSeq (sTry (sDrop (mCall F__law_raised_one (aCons (mVar 0) aNil)))
  [⟨ca0, (some 3), fun e => (sLt 27 e (sPar 1 2 (aCons (mCallE F__law_marks e) (aCons (mC (.bl true)) aNil))))⟩])
  (sRet (mAnd (mVar 2) (m2 eqO (mVar 1) (mLc (iRange1 (mC (.int 26))) (bName 4) mYes (m2 eqO (mVar 4) (mVar 0)) [4]))))))
def F__law_way_right : Mi := runD 5 m__law_way_right
def m__law_fields_right : MS := (sSeq (sPar 0 1 (aCons (mMkX 25 ["promise", "place"] (aCons (mC (.str "own")) (aCons (mC (.int 3)) aNil))) (aCons (mMkXK 25 ["promise", "place"] [1, 0] (aCons (m2 powO (mC (.int 10)) (mC (.int 20))) (aCons (mC (.str "past")) aNil))) aNil)))
  (sSeq (sPar 2 3 (aCons (mMkX 26 ["at"] (aCons (mC (.int 0)) aNil)) (aCons (mMkXK 26 ["at"] [0] (aCons (m2 powO (mC (.int 10)) (mC (.int 20))) aNil)) aNil)))
  (sSeq (sSet 4 (mLst (aCons (mXv [25] "promise" (mVar 0)) (aCons (mXv [25] "place" (mVar 0)) (aCons (mXv [25] "promise" (mVar 1)) (aCons (mXv [25] "place" (mVar 1)) (aCons (mXv [26] "at" (mVar 2)) (aCons (mXv [26] "at" (mVar 3)) aNil))))))))
  (sRet (m2 eqO (mVar 4) (mLst (aCons (mC (.str "own")) (aCons (mC (.int 3)) (aCons (mC (.str "past")) (aCons (m2 powO (mC (.int 10)) (mC (.int 20))) (aCons (mC (.int 0)) (aCons (m2 powO (mC (.int 10)) (mC (.int 20))) aNil))))))))))))
def F__law_fields_right : Mi := runD 5 m__law_fields_right
def m_first_state : MS := (sRet (mTup (aCons (mTup aNil) (aCons (mC (.dct [])) (aCons (mC (.int 0)) (aCons (mC (.int 1)) aNil))))))
def F_first_state : Mi := runD 0 m_first_state
def m_Lines___init__ : MS := (sSeq (sFldD [27] "state" (mCall F_first_state aNil) (mVar 0))
  (sSeq (sFldD [27] "on_line" (mTup aNil) (mVar 0))
  (sFldD [27] "past" (mTup aNil) (mVar 0))))
def F_Lines___init__ : Mi := runD 1 m_Lines___init__
def m_is_key : MS := (sRet (mAnd (mN (isiI CS) (aCons (mVar 0) (aCons (mC (.ty "str")) aNil))) (mAnd (mChain ltO leO (mC (.int 0)) (mN lenG (aCons (mVar 0) aNil)) (mC d_LONGEST)) (mN allG (aCons (mLc (iSeq (mVar 0)) (bName 1) mYes (m2 inD (mVar 1) (mC d_LETTERS)) [1]) aNil)))))
def F_is_key : Mi := runD 2 m_is_key
def m_check_key : MS := (sIf (tNot' (mTru (mCall F_is_key (aCons (mVar 0) aNil))))
  (sRaise 1)
  sNil)
def F_check_key : Mi := runD 1 m_check_key
def m_Lines_put : MS := (sSeq (sDrop (mCall F_check_key (aCons (mVar 1) aNil)))
  sStuck)
def F_Lines_put : Mi := runD 4 m_Lines_put
def m_law : MS := (sSeq (sIf (tOr' (mTst (m2 neO (mLc (iRange1 (mC (.int 26))) (bName 4) (tNot' (mTru (mCall F__law_way_right (aCons (mVar 4) aNil)))) (mVar 4) [4]) (mLst aNil))) (tNot' (mTru (mCall F__law_fields_right aNil))))
  (sRet (mC (.bl false)))
  sNil)
  (sSeq (sPar 1 2 (aCons (mC (.bl false)) (aCons (mLst (aCons (mC (.bl true)) aNil)) aNil)))
  (sSeq (sTry (sRaise 0)
  [⟨ca0, (some 3), fun e => (sLt 27 e (sSet 2 (mCallE F__law_marks e)))⟩])
  (sSeq (sTry (sDrop (mMeth 27 "put" F_Lines_put (mMake 27 F_Lines___init__ aNil) (aCons (mC (.str "X")) aNil)))
  [⟨ca1, none, fun e => (selX e 1 (sSet 1 (mC (.bl true)))
  sStuck)⟩])
  (sRet (mAnd (mVar 1) (m2 eqO (mVar 2) (m2 mulO (mLst (aCons (mC (.bl false)) aNil)) (mC (.int 26))))))))))
def F_law : Mi := runD 5 m_law
theorem ev__law_raised_more (a0 : D) (S : Sto) : F__law_raised_more [a0] S = (m__law_raised_more [some a0] S).fin := runD_fin (n := 1) (ms := m__law_raised_more) rfl
theorem ev__law_raised_one (a0 : D) (S : Sto) : F__law_raised_one [a0] S = (m__law_raised_one [some a0] S).fin := runD_fin (n := 1) (ms := m__law_raised_one) rfl
theorem ev__law_way_right (a0 : D) (S : Sto) : F__law_way_right [a0] S = (m__law_way_right [some a0, none, none, none, none] S).fin := runD_fin (n := 5) (ms := m__law_way_right) rfl
theorem ev__law_fields_right (S : Sto) : F__law_fields_right [] S = (m__law_fields_right [none, none, none, none, none] S).fin := runD_fin (n := 5) (ms := m__law_fields_right) rfl
theorem ev_first_state (S : Sto) : F_first_state [] S = (m_first_state [] S).fin := runD_fin (n := 0) (ms := m_first_state) rfl
theorem ev_Lines___init__ (a0 : D) (S : Sto) : F_Lines___init__ [a0] S = (m_Lines___init__ [some a0] S).fin := runD_fin (n := 1) (ms := m_Lines___init__) rfl
theorem ev_is_key (a0 : D) (S : Sto) : F_is_key [a0] S = (m_is_key [some a0, none] S).fin := runD_fin (n := 2) (ms := m_is_key) rfl
theorem ev_check_key (a0 : D) (S : Sto) : F_check_key [a0] S = (m_check_key [some a0] S).fin := runD_fin (n := 1) (ms := m_check_key) rfl
theorem ev_Lines_put (a0 a1 : D) (S : Sto) : F_Lines_put [a0, a1] S = (m_Lines_put [some a0, some a1, none, none] S).fin := runD_fin (n := 4) (ms := m_Lines_put) rfl
theorem ev_law (a0 : D) (S : Sto) : F_law [a0] S = (m_law [some a0, none, none, none, none] S).fin := runD_fin (n := 5) (ms := m_law) rfl
end K00
/-! the walk, printed by gen.py -/
namespace K00
open PySem L2 DL
abbrev UU (w : World) (K : PySem.W.Frag) (C : Nat → Addr) : Uv := ⟨K, C, fun _ => 0, [], w⟩
theorem nf_fix {U : Uv} {i j : Nat} {a : Addr} (h : i ≠ j) : Nf (U.fix [(i, a)]) j := fun p hp => by
  rcases List.mem_singleton.mp hp with rfl
  exact h
theorem len1 {ms : MA} {n : Nat} (h : ∀ ρ S ds S1, ms ρ S = .ok ds S1 → ds.length = n) : ∀ ρ S ds S1, ms ρ S = .ok ds S1 → ds.length + 1 = n + 1 := fun ρ S ds S1 z => congrArg (· + 1) (h ρ S ds S1 z)
structure Txt (w : World) (K : PySem.W.Frag) (mg : Str → Option Value) (C : Nat → Addr) : Prop where
  b_ValueError : mg "ValueError" = none
  b_all : mg "all" = none
  b_isinstance : mg "isinstance" = none
  b_len : mg "len" = none
  b_range : mg "range" = none
  b_str : mg "str" = none
  g_LETTERS : GC K mg (UU w K C) "LETTERS" d_LETTERS
  g_LONGEST : GC K mg (UU w K C) "LONGEST" d_LONGEST
  k0 : ExCls K mg (C 0) "StoreError"
  m0 : mg "StoreError" = some (.ref (C 0))
  k1 : ExCls K mg (C 1) "BadKey"
  m1 : mg "BadKey" = some (.ref (C 1))
  k2 : ExCls K mg (C 2) "BadPlace"
  m2 : mg "BadPlace" = some (.ref (C 2))
  k3 : ExCls K mg (C 3) "BadRow"
  m3 : mg "BadRow" = some (.ref (C 3))
  k4 : ExCls K mg (C 4) "NothingToUndo"
  m4 : mg "NothingToUndo" = some (.ref (C 4))
  k5 : ExCls K mg (C 5) "BadMark"
  m5 : mg "BadMark" = some (.ref (C 5))
  k6 : ExCls K mg (C 6) "BadPath"
  m6 : mg "BadPath" = some (.ref (C 6))
  k7 : ExCls K mg (C 7) "BadKind"
  m7 : mg "BadKind" = some (.ref (C 7))
  k8 : ExCls K mg (C 8) "BadCase"
  m8 : mg "BadCase" = some (.ref (C 8))
  k9 : ExCls K mg (C 9) "BadBook"
  m9 : mg "BadBook" = some (.ref (C 9))
  k10 : ExCls K mg (C 10) "BadServers"
  m10 : mg "BadServers" = some (.ref (C 10))
  k11 : ExCls K mg (C 11) "NotFor"
  m11 : mg "NotFor" = some (.ref (C 11))
  k12 : ExCls K mg (C 12) "BadDeed"
  m12 : mg "BadDeed" = some (.ref (C 12))
  k13 : ExCls K mg (C 13) "BadServer"
  m13 : mg "BadServer" = some (.ref (C 13))
  k14 : ExCls K mg (C 14) "BadSession"
  m14 : mg "BadSession" = some (.ref (C 14))
  k15 : ExCls K mg (C 15) "BadCount"
  m15 : mg "BadCount" = some (.ref (C 15))
  k16 : ExCls K mg (C 16) "Busy"
  m16 : mg "Busy" = some (.ref (C 16))
  k17 : ExCls K mg (C 17) "NotAllowed"
  m17 : mg "NotAllowed" = some (.ref (C 17))
  k18 : ExCls K mg (C 18) "BadPromise"
  m18 : mg "BadPromise" = some (.ref (C 18))
  k19 : ExCls K mg (C 19) "BadPromises"
  m19 : mg "BadPromises" = some (.ref (C 19))
  k20 : ExCls K mg (C 20) "BadHistory"
  m20 : mg "BadHistory" = some (.ref (C 20))
  k21 : ExCls K mg (C 21) "NotKept"
  m21 : mg "NotKept" = some (.ref (C 21))
  k22 : ExCls K mg (C 22) "BadStanding"
  m22 : mg "BadStanding" = some (.ref (C 22))
  k23 : ExCls K mg (C 23) "NotAlike"
  m23 : mg "NotAlike" = some (.ref (C 23))
  k24 : ExCls K mg (C 24) "BadCommand"
  m24 : mg "BadCommand" = some (.ref (C 24))
  m25 : mg "Broken" = some (.ref (C 25))
  m26 : mg "BadText" = some (.ref (C 26))
  xf26 : XfC K (C 26)
  nf26_at : PySem.W.findIn K (.ref (C 26)) "at" = some none
  xf25 : XfC K (C 25)
  nf25_promise : PySem.W.findIn K (.ref (C 25)) "promise" = some none
  nf25_place : PySem.W.findIn K (.ref (C 25)) "place" = some none
  ec : ∀ c, c < 27 → ExcC K (C c)
  qq : ∀ c j, c < 27 → j < 27 → PySem.W.kitOne K (.ref (C c)) (.ref (C j)) = some (subT c j)
  qv : ∀ c, c < 27 → PySem.W.kitOne K (.ref (C c)) (.type "ValueError") = some true
  x0 : ∀ c b, ca0 c = some b → PySem.W.exmOne K (.ref (C c)) (.ref (C 0)) = some b
  x1 : ∀ c b, ca1 c = some b → PySem.W.exmOne K (.ref (C c)) (.ref (C 1)) = some b
  isc : IsC K (UU w K C) CS
  c_Lines : GC K mg (UU w K C) "Lines" (.cls 27)
  i27 : Cls K (C 27)
  n27_on_line : NoAttr K (C 27) "on_line"
  n27_past : NoAttr K (C 27) "past"
  n27_state : NoAttr K (C 27) "state"
section
variable {P : Program} {w : World} {K : PySem.W.Frag} {mg : Str → Option Value} {base : Heap} {C : Nat → Addr}
theorem sc_BadText___init__ : FnScope ["self", "at"] ["self", "at"] (defScope (methOf (top 28) 0)) := ⟨rfl, rfl, rfl, by decide +kernel, rfl, by decide +kernel, by decide +kernel⟩
theorem ok_BadText___init__ {f : Addr} {fd : FuncData} (F : L2.Fun K "__init__" "BadText.__init__" (methOf (top 28) 0) f fd) (hb : Binds K fd ["self", "at"] []) (t : OexC K (C 26)) (no : ∀ f ∈ (["at"] : List Str), PySem.W.findIn K (.ref (C 26)) f = some none) (g : mg "BadText" = some (.ref (C 26))) (iC : PySem.W.findIn K (.ref (C 26)) "__init__" = some (some (.ref f))) (tI : PySem.W.typeIn K (.ref f) = some (.type "function")) (gb : mg "StoreError" = some (.ref (C 0))) (rd : PySem.W.readsIn K (C 0) (.type "type") = true) (ga : PySem.W.specialIn K (.ref (C 0)) "__getattribute__" = some (some (.builtin "type.__getattribute__"))) (fc : PySem.W.findCls K (.ref (C 0)) (.type "type") "__init__" = some (.val (.builtin "ValueError.__init__"))) : ExG P w K mg base 1 (C 26) "BadText" ["at"] f fd ["self", "at"] :=
  ⟨fn_xn1 F sc_BadText___init__ (fun cdv A outer s H E hr => pss_cons (ps_expr (pe_seinit rfl gb rd ga fc (pa_cons (pv 0) (pa_cons pe_str pa_nil)))) (pss_one (ps_ost (pv 0) (pv 1)))), hb, iC, tI, t, g, no, List.cons_ne_nil _ _⟩
theorem sc_Broken___init__ : FnScope ["self", "promise", "place"] ["self", "promise", "place"] (defScope (methOf (top 27) 0)) := ⟨rfl, rfl, rfl, by decide +kernel, rfl, by decide +kernel, by decide +kernel⟩
theorem ok_Broken___init__ {f : Addr} {fd : FuncData} (F : L2.Fun K "__init__" "Broken.__init__" (methOf (top 27) 0) f fd) (hb : Binds K fd ["self", "promise", "place"] []) (t : OexC K (C 25)) (no : ∀ f ∈ (["promise", "place"] : List Str), PySem.W.findIn K (.ref (C 25)) f = some none) (g : mg "Broken" = some (.ref (C 25))) (iC : PySem.W.findIn K (.ref (C 25)) "__init__" = some (some (.ref f))) (tI : PySem.W.typeIn K (.ref f) = some (.type "function")) (gb : mg "StoreError" = some (.ref (C 0))) (rd : PySem.W.readsIn K (C 0) (.type "type") = true) (ga : PySem.W.specialIn K (.ref (C 0)) "__getattribute__" = some (some (.builtin "type.__getattribute__"))) (fc : PySem.W.findCls K (.ref (C 0)) (.type "type") "__init__" = some (.val (.builtin "ValueError.__init__"))) : ExG P w K mg base 1 (C 25) "Broken" ["promise", "place"] f fd ["self", "promise", "place"] :=
  ⟨fn_xn2 F sc_Broken___init__ (fun cdv A outer s H E hr => pss_cons (ps_expr (pe_seinit rfl gb rd ga fc (pa_cons (pv 0) (pa_cons pe_str pa_nil)))) (pss_cons (ps_ost (pv 0) (pv 1)) (pss_one (ps_ost (pv 0) (pv 2))))), hb, iC, tI, t, g, no, List.cons_ne_nil _ _⟩
theorem sc__law_raised_more : FnScope ["way"] ["way"] (defScope (top 43)) := ⟨rfl, rfl, rfl, by decide +kernel, rfl, by decide +kernel, by decide +kernel⟩
theorem ok__law_raised_more (T : Txt w K mg C) {f_BadText___init__ : Addr} {fd_BadText___init__ : FuncData} (G_BadText___init__ : ExG P w K mg base 1 (C 26) "BadText" ["at"] f_BadText___init__ fd_BadText___init__ ["self", "at"]) {f_Broken___init__ : Addr} {fd_Broken___init__ : FuncData} (G_Broken___init__ : ExG P w K mg base 1 (C 25) "Broken" ["promise", "place"] f_Broken___init__ fd_Broken___init__ ["self", "promise", "place"]) {f : Addr} {fd : FuncData} (F : L2.Fun K "_law_raised_more" "_law_raised_more" (top 43) f fd) (hm : mg "_law_raised_more" = some (.ref f)) (hb : Binds K fd ["way"] []) : Does P w K mg base (UU w K C) 3 "_law_raised_more" f fd ["way"] F__law_raised_more := by
  have sc := sc__law_raised_more
  exact ok_def F hm hb sc rfl fun cdv A outer s H E hr => (ss_cons (s_if (t_cmp (o_eq hr) (e_var 0) e_int)
  (ss_one (s_raise 3 T.k3 (L2N.takes_of rfl rfl rfl rfl)))
  ss_nil)
  (ss_cons (s_if (t_cmp (o_eq hr) (e_var 0) e_int)
  (ss_one (s_raise 13 T.k13 (L2N.takes_of rfl rfl rfl rfl)))
  ss_nil)
  (ss_cons (s_if (t_cmp (o_eq hr) (e_var 0) e_int)
  (ss_one (s_raise 10 T.k10 (L2N.takes_of rfl rfl rfl rfl)))
  ss_nil)
  (ss_cons (s_if (t_cmp (o_eq hr) (e_var 0) e_int)
  (ss_one (s_raise 14 T.k14 (L2N.takes_of rfl rfl rfl rfl)))
  ss_nil)
  (ss_cons (s_if (t_cmp (o_eq hr) (e_var 0) e_int)
  (ss_one (s_raise 22 T.k22 (L2N.takes_of rfl rfl rfl rfl)))
  ss_nil)
  (ss_cons (s_if (t_cmp (o_eq hr) (e_var 0) e_int)
  (ss_one (s_raiseG 26 G_BadText___init__ (hr.mono (by decide)) (L2N.takes_of rfl rfl rfl rfl) (a_cons e_int a_nil)))
  ss_nil)
  (ss_cons (s_if (t_cmp (o_eq hr) (e_var 0) e_int)
  (ss_one (s_raiseG 25 G_Broken___init__ (hr.mono (by decide)) (L2N.takes_of rfl rfl rfl rfl) (a_cons e_str (a_cons e_int a_nil))))
  ss_nil)
  (ss_cons (s_if (t_cmp (o_eq hr) (e_var 0) e_int)
  (ss_one (s_raise 16 T.k16 (L2N.takes_of rfl rfl rfl rfl)))
  ss_nil)
  (ss_cons (s_if (t_cmp (o_eq hr) (e_var 0) e_int)
  (ss_one (s_raise 23 T.k23 (L2N.takes_of rfl rfl rfl rfl)))
  ss_nil)
  (ss_cons (s_if (t_cmp (o_eq hr) (e_var 0) e_int)
  (ss_one (s_raise 17 T.k17 (L2N.takes_of rfl rfl rfl rfl)))
  ss_nil)
  (ss_cons (s_if (t_cmp (o_eq hr) (e_var 0) e_int)
  (ss_one (s_raise 11 T.k11 (L2N.takes_of rfl rfl rfl rfl)))
  ss_nil)
  (ss_cons (s_if (t_cmp (o_eq hr) (e_var 0) e_int)
  (ss_one (s_raise 21 T.k21 (L2N.takes_of rfl rfl rfl rfl)))
  ss_nil)
  (ss_one (s_if (t_cmp (o_eq hr) (e_var 0) e_int)
  (ss_one (s_raise 4 T.k4 (L2N.takes_of rfl rfl rfl rfl)))
  ss_nil))))))))))))))
theorem sc__law_raised_one : FnScope ["way"] ["way"] (defScope (top 42)) := ⟨rfl, rfl, rfl, by decide +kernel, rfl, by decide +kernel, by decide +kernel⟩
theorem ok__law_raised_one (T : Txt w K mg C) {f__law_raised_more : Addr} {fd__law_raised_more : FuncData} (G__law_raised_more : Does P w K mg base (UU w K C) 3 "_law_raised_more" f__law_raised_more fd__law_raised_more ["way"] F__law_raised_more) {f : Addr} {fd : FuncData} (F : L2.Fun K "_law_raised_one" "_law_raised_one" (top 42) f fd) (hm : mg "_law_raised_one" = some (.ref f)) (hb : Binds K fd ["way"] []) : Does P w K mg base (UU w K C) 4 "_law_raised_one" f fd ["way"] F__law_raised_one := by
  have sc := sc__law_raised_one
  exact ok_def F hm hb sc rfl fun cdv A outer s H E hr => (ss_cons (s_if (t_cmp (o_eq hr) (e_var 0) e_int)
  (ss_one (s_raise 9 T.k9 (L2N.takes_of rfl rfl rfl rfl)))
  ss_nil)
  (ss_cons (s_if (t_cmp (o_eq hr) (e_var 0) e_int)
  (ss_one (s_raise 8 T.k8 (L2N.takes_of rfl rfl rfl rfl)))
  ss_nil)
  (ss_cons (s_if (t_cmp (o_eq hr) (e_var 0) e_int)
  (ss_one (s_raise 24 T.k24 (L2N.takes_of rfl rfl rfl rfl)))
  ss_nil)
  (ss_cons (s_if (t_cmp (o_eq hr) (e_var 0) e_int)
  (ss_one (s_raise 15 T.k15 (L2N.takes_of rfl rfl rfl rfl)))
  ss_nil)
  (ss_cons (s_if (t_cmp (o_eq hr) (e_var 0) e_int)
  (ss_one (s_raise 12 T.k12 (L2N.takes_of rfl rfl rfl rfl)))
  ss_nil)
  (ss_cons (s_if (t_cmp (o_eq hr) (e_var 0) e_int)
  (ss_one (s_raise 20 T.k20 (L2N.takes_of rfl rfl rfl rfl)))
  ss_nil)
  (ss_cons (s_if (t_cmp (o_eq hr) (e_var 0) e_int)
  (ss_one (s_raise 1 T.k1 (L2N.takes_of rfl rfl rfl rfl)))
  ss_nil)
  (ss_cons (s_if (t_cmp (o_eq hr) (e_var 0) e_int)
  (ss_one (s_raise 7 T.k7 (L2N.takes_of rfl rfl rfl rfl)))
  ss_nil)
  (ss_cons (s_if (t_cmp (o_eq hr) (e_var 0) e_int)
  (ss_one (s_raise 5 T.k5 (L2N.takes_of rfl rfl rfl rfl)))
  ss_nil)
  (ss_cons (s_if (t_cmp (o_eq hr) (e_var 0) e_int)
  (ss_one (s_raise 6 T.k6 (L2N.takes_of rfl rfl rfl rfl)))
  ss_nil)
  (ss_cons (s_if (t_cmp (o_eq hr) (e_var 0) e_int)
  (ss_one (s_raise 2 T.k2 (L2N.takes_of rfl rfl rfl rfl)))
  ss_nil)
  (ss_cons (s_if (t_cmp (o_eq hr) (e_var 0) e_int)
  (ss_one (s_raise 18 T.k18 (L2N.takes_of rfl rfl rfl rfl)))
  ss_nil)
  (ss_cons (s_if (t_cmp (o_eq hr) (e_var 0) e_int)
  (ss_one (s_raise 19 T.k19 (L2N.takes_of rfl rfl rfl rfl)))
  ss_nil)
  (ss_one (s_expr (e_call G__law_raised_more (L2N.takes_of rfl rfl rfl rfl) hr (a_cons (e_var 0) a_nil) (len_cons len_nil) (hk := by decide)))))))))))))))))
theorem sc__law_marks : FnScope ["e", "marks"] ["e"] (defScope (top 44)) := ⟨rfl, rfl, rfl, by decide +kernel, rfl, by decide +kernel, by decide +kernel⟩
theorem ok__law_marks (T : Txt w K mg C) {f : Addr} {fd : FuncData} (F : L2.Fun K "_law_marks" "_law_marks" (top 44) f fd) (hm : mg "_law_marks" = some (.ref f)) (hb : Binds K fd ["e"] []) : DoesE P w K mg base (UU w K C) 2 "_law_marks" f fd "e" F__law_marks := by
  have sc := sc__law_marks
  exact okE_def F hm hb sc rfl fun cdv A outer s H a oe e d hz hv hr => sx_lt (fun hl => (sx_seq (sx_set 1 sc.nd (ex_lst (ax_cons (ex_isG 0 (T.ec _ hl) List.mem_cons_self hz hv T.b_isinstance (pe_glob (v := .ref (C 9)) rfl T.m9 rfl) refV (T.qq _ 9 hl (by decide)) List.mem_cons_self) (ax_cons (ex_isG 0 (T.ec _ hl) List.mem_cons_self hz hv T.b_isinstance (pe_glob (v := .ref (C 8)) rfl T.m8 rfl) refV (T.qq _ 8 hl (by decide)) List.mem_cons_self) (ax_cons (ex_isG 0 (T.ec _ hl) List.mem_cons_self hz hv T.b_isinstance (pe_glob (v := .ref (C 24)) rfl T.m24 rfl) refV (T.qq _ 24 hl (by decide)) List.mem_cons_self) ax_nil)))) (nf_fix (by decide)))
  (sx_seq (sx_set 1 sc.nd (ex_op o_add (ex_of (e_var 1)) (ex_lst (ax_cons (ex_isG 0 (T.ec _ hl) List.mem_cons_self hz hv T.b_isinstance (pe_glob (v := .ref (C 15)) rfl T.m15 rfl) refV (T.qq _ 15 hl (by decide)) List.mem_cons_self) (ax_cons (ex_isG 0 (T.ec _ hl) List.mem_cons_self hz hv T.b_isinstance (pe_glob (v := .ref (C 12)) rfl T.m12 rfl) refV (T.qq _ 12 hl (by decide)) List.mem_cons_self) ax_nil)))) (nf_fix (by decide)))
  (sx_seq (sx_set 1 sc.nd (ex_op o_add (ex_of (e_var 1)) (ex_lst (ax_cons (ex_isG 0 (T.ec _ hl) List.mem_cons_self hz hv T.b_isinstance (pe_glob (v := .ref (C 20)) rfl T.m20 rfl) refV (T.qq _ 20 hl (by decide)) List.mem_cons_self) (ax_cons (ex_isG 0 (T.ec _ hl) List.mem_cons_self hz hv T.b_isinstance (pe_glob (v := .ref (C 1)) rfl T.m1 rfl) refV (T.qq _ 1 hl (by decide)) List.mem_cons_self) (ax_cons (ex_isG 0 (T.ec _ hl) List.mem_cons_self hz hv T.b_isinstance (pe_glob (v := .ref (C 7)) rfl T.m7 rfl) refV (T.qq _ 7 hl (by decide)) List.mem_cons_self) ax_nil))))) (nf_fix (by decide)))
  (sx_seq (sx_set 1 sc.nd (ex_op o_add (ex_of (e_var 1)) (ex_lst (ax_cons (ex_isG 0 (T.ec _ hl) List.mem_cons_self hz hv T.b_isinstance (pe_glob (v := .ref (C 5)) rfl T.m5 rfl) refV (T.qq _ 5 hl (by decide)) List.mem_cons_self) ax_nil))) (nf_fix (by decide)))
  (sx_seq (sx_set 1 sc.nd (ex_op o_add (ex_of (e_var 1)) (ex_lst (ax_cons (ex_isG 0 (T.ec _ hl) List.mem_cons_self hz hv T.b_isinstance (pe_glob (v := .ref (C 6)) rfl T.m6 rfl) refV (T.qq _ 6 hl (by decide)) List.mem_cons_self) (ax_cons (ex_isG 0 (T.ec _ hl) List.mem_cons_self hz hv T.b_isinstance (pe_glob (v := .ref (C 2)) rfl T.m2 rfl) refV (T.qq _ 2 hl (by decide)) List.mem_cons_self) (ax_cons (ex_isG 0 (T.ec _ hl) List.mem_cons_self hz hv T.b_isinstance (pe_glob (v := .ref (C 18)) rfl T.m18 rfl) refV (T.qq _ 18 hl (by decide)) List.mem_cons_self) ax_nil))))) (nf_fix (by decide)))
  (sx_seq (sx_set 1 sc.nd (ex_op o_add (ex_of (e_var 1)) (ex_lst (ax_cons (ex_isG 0 (T.ec _ hl) List.mem_cons_self hz hv T.b_isinstance (pe_glob (v := .ref (C 19)) rfl T.m19 rfl) refV (T.qq _ 19 hl (by decide)) List.mem_cons_self) ax_nil))) (nf_fix (by decide)))
  (sx_seq (sx_set 1 sc.nd (ex_op o_add (ex_of (e_var 1)) (ex_lst (ax_cons (ex_isG 0 (T.ec _ hl) List.mem_cons_self hz hv T.b_isinstance (pe_glob (v := .ref (C 3)) rfl T.m3 rfl) refV (T.qq _ 3 hl (by decide)) List.mem_cons_self) (ax_cons (ex_isG 0 (T.ec _ hl) List.mem_cons_self hz hv T.b_isinstance (pe_glob (v := .ref (C 13)) rfl T.m13 rfl) refV (T.qq _ 13 hl (by decide)) List.mem_cons_self) (ax_cons (ex_isG 0 (T.ec _ hl) List.mem_cons_self hz hv T.b_isinstance (pe_glob (v := .ref (C 10)) rfl T.m10 rfl) refV (T.qq _ 10 hl (by decide)) List.mem_cons_self) ax_nil))))) (nf_fix (by decide)))
  (sx_seq (sx_set 1 sc.nd (ex_op o_add (ex_of (e_var 1)) (ex_lst (ax_cons (ex_isG 0 (T.ec _ hl) List.mem_cons_self hz hv T.b_isinstance (pe_glob (v := .ref (C 14)) rfl T.m14 rfl) refV (T.qq _ 14 hl (by decide)) List.mem_cons_self) ax_nil))) (nf_fix (by decide)))
  (sx_seq (sx_set 1 sc.nd (ex_op o_add (ex_of (e_var 1)) (ex_lst (ax_cons (ex_isG 0 (T.ec _ hl) List.mem_cons_self hz hv T.b_isinstance (pe_glob (v := .ref (C 22)) rfl T.m22 rfl) refV (T.qq _ 22 hl (by decide)) List.mem_cons_self) (ax_cons (ex_isG 0 (T.ec _ hl) List.mem_cons_self hz hv T.b_isinstance (pe_glob (v := .ref (C 26)) rfl T.m26 rfl) refV (T.qq _ 26 hl (by decide)) List.mem_cons_self) (ax_cons (ex_isG 0 (T.ec _ hl) List.mem_cons_self hz hv T.b_isinstance (pe_glob (v := .ref (C 25)) rfl T.m25 rfl) refV (T.qq _ 25 hl (by decide)) List.mem_cons_self) (ax_cons (ex_isG 0 (T.ec _ hl) List.mem_cons_self hz hv T.b_isinstance (pe_glob (v := .ref (C 16)) rfl T.m16 rfl) refV (T.qq _ 16 hl (by decide)) List.mem_cons_self) ax_nil)))))) (nf_fix (by decide)))
  (sx_seq (sx_set 1 sc.nd (ex_op o_add (ex_of (e_var 1)) (ex_lst (ax_cons (ex_isG 0 (T.ec _ hl) List.mem_cons_self hz hv T.b_isinstance (pe_glob (v := .ref (C 23)) rfl T.m23 rfl) refV (T.qq _ 23 hl (by decide)) List.mem_cons_self) (ax_cons (ex_isG 0 (T.ec _ hl) List.mem_cons_self hz hv T.b_isinstance (pe_glob (v := .ref (C 17)) rfl T.m17 rfl) refV (T.qq _ 17 hl (by decide)) List.mem_cons_self) (ax_cons (ex_isG 0 (T.ec _ hl) List.mem_cons_self hz hv T.b_isinstance (pe_glob (v := .ref (C 11)) rfl T.m11 rfl) refV (T.qq _ 11 hl (by decide)) List.mem_cons_self) ax_nil))))) (nf_fix (by decide)))
  (sx_one (sx_ret (ex_op o_add (ex_of (e_var 1)) (ex_lst (ax_cons (ex_isG 0 (T.ec _ hl) List.mem_cons_self hz hv T.b_isinstance (pe_glob (v := .ref (C 21)) rfl T.m21 rfl) refV (T.qq _ 21 hl (by decide)) List.mem_cons_self) (ax_cons (ex_isG 0 (T.ec _ hl) List.mem_cons_self hz hv T.b_isinstance (pe_glob (v := .ref (C 4)) rfl T.m4 rfl) refV (T.qq _ 4 hl (by decide)) List.mem_cons_self) ax_nil)))))))))))))))))
theorem sc__law_way_right : FnScope ["way", "marks", "under", "e", "k"] ["way"] (defScope (top 45)) := ⟨rfl, rfl, rfl, by decide +kernel, rfl, by decide +kernel, by decide +kernel⟩
theorem ok__law_way_right (T : Txt w K mg C) {f__law_raised_one : Addr} {fd__law_raised_one : FuncData} (G__law_raised_one : Does P w K mg base (UU w K C) 4 "_law_raised_one" f__law_raised_one fd__law_raised_one ["way"] F__law_raised_one) {f__law_marks : Addr} {fd__law_marks : FuncData} (G__law_marks : DoesE P w K mg base (UU w K C) 2 "_law_marks" f__law_marks fd__law_marks "e" F__law_marks) {f : Addr} {fd : FuncData} (F : L2.Fun K "_law_way_right" "_law_way_right" (top 45) f fd) (hm : mg "_law_way_right" = some (.ref f)) (hb : Binds K fd ["way"] []) : Does P w K mg base (UU w K C) 5 "_law_way_right" f fd ["way"] F__law_way_right := by
  have sc := sc__law_way_right
  exact ok_def F hm hb sc rfl fun cdv A outer s H E hr => (ss_cons (s_par 1 2 sc.nd (a_cons (e_lst a_nil) (a_cons e_bl a_nil)))
  (ss_cons (s_tryN sc.nd (L2N.takes_of rfl rfl rfl rfl) (fun W pn xe tk po => (ss_one (s_expr (e_call G__law_raised_one tk hr (a_cons (e_var 0) a_nil) (len_cons len_nil) (hk := by decide)))))
  (.asx 3 rfl rfl ⟨rfl, by decide, .inl T.m0⟩ T.x0 (fun a oe e d pn hz hv hd => sx_lt (fun hl => (sx_one (s_parHX 1 2 (hot_suite hz hv) sc.nd (ax_cons (ex_callE 3 G__law_marks (L2H.roomH_mark hr _) (hot1_suite hz hv) List.mem_cons_self hz (L2N.passes_call takes0N fun _ _ _ _ z => z.elim) List.mem_cons_self (hk := by decide)) (ax_cons (ex_isG 3 (T.ec _ hl) List.mem_cons_self hz hv T.b_isinstance (pe_bltn (v := .ty "ValueError") (u := .type "ValueError") rfl T.b_ValueError PyProof.Rows.Boot.«ValueError» rfl) tyV (T.qv _ hl) List.mem_cons_self) ax_nil)) (nf_fix (by decide)) (nf_fix (by decide))))))
  .nil) rfl)
  (ss_one (s_ret (e_and (e_var 2) (e_one (e_cmp (o_eq hr) (e_var 1) (e_lc [("k", 4)] sc.nd (i_range1 T.b_range e_int) (blkOk_by (by rfl)) (fun _ _ _ _ _ => (g_name 4 sc.nd)) (fun _ _ _ _ _ => ts_nil) (fun _ _ _ _ _ => (e_cmp (o_eq hr) (e_var 4) (e_var 0)))))))))))
theorem sc__law_fields_right : FnScope ["one", "other", "third", "fourth", "found"] [] (defScope (top 46)) := ⟨rfl, rfl, rfl, by decide +kernel, rfl, by decide +kernel, by decide +kernel⟩
theorem ok__law_fields_right (T : Txt w K mg C) {f_Broken___init__ : Addr} {fd_Broken___init__ : FuncData} (G_Broken___init__ : ExG P w K mg base 1 (C 25) "Broken" ["promise", "place"] f_Broken___init__ fd_Broken___init__ ["self", "promise", "place"]) (K_Broken___init___1_place_promise : KwB K fd_Broken___init__ ["self", "promise", "place"] ["place", "promise"] 1 [0, 2, 1]) {f_BadText___init__ : Addr} {fd_BadText___init__ : FuncData} (G_BadText___init__ : ExG P w K mg base 1 (C 26) "BadText" ["at"] f_BadText___init__ fd_BadText___init__ ["self", "at"]) (K_BadText___init___1_at : KwB K fd_BadText___init__ ["self", "at"] ["at"] 1 [0, 1]) {f : Addr} {fd : FuncData} (F : L2.Fun K "_law_fields_right" "_law_fields_right" (top 46) f fd) (hm : mg "_law_fields_right" = some (.ref f)) (hb : Binds K fd [] []) : Does P w K mg base (UU w K C) 3 "_law_fields_right" f fd [] F__law_fields_right := by
  have sc := sc__law_fields_right
  exact ok_def F hm hb sc rfl fun cdv A outer s H E hr => (ss_cons (s_par 0 1 sc.nd (a_cons (e_mkX 25 G_Broken___init__ (hr.mono (by decide)) (L2N.takes_of rfl rfl rfl rfl) (a_cons e_str (a_cons e_int a_nil))) (a_cons (e_mkXK 25 [1, 0] G_Broken___init__ (hr.mono (by decide)) (L2N.takes_of rfl rfl rfl rfl) K_Broken___init___1_place_promise (k_cons (e_op o_pow e_int e_int) (k_cons e_str k_nil)) (len_cons (len_cons len_nil))) a_nil)))
  (ss_cons (s_par 2 3 sc.nd (a_cons (e_mkX 26 G_BadText___init__ (hr.mono (by decide)) (L2N.takes_of rfl rfl rfl rfl) (a_cons e_int a_nil)) (a_cons (e_mkXK 26 [0] G_BadText___init__ (hr.mono (by decide)) (L2N.takes_of rfl rfl rfl rfl) K_BadText___init___1_at (k_cons (e_op o_pow e_int e_int) k_nil) (len_cons len_nil)) a_nil)))
  (ss_cons (s_set 4 sc.nd (e_lst (a_cons (e_xv (e_var 0) (cs := [25]) (one_c ⟨T.xf25, T.nf25_promise⟩)) (a_cons (e_xv (e_var 0) (cs := [25]) (one_c ⟨T.xf25, T.nf25_place⟩)) (a_cons (e_xv (e_var 1) (cs := [25]) (one_c ⟨T.xf25, T.nf25_promise⟩)) (a_cons (e_xv (e_var 1) (cs := [25]) (one_c ⟨T.xf25, T.nf25_place⟩)) (a_cons (e_xv (e_var 2) (cs := [26]) (one_c ⟨T.xf26, T.nf26_at⟩)) (a_cons (e_xv (e_var 3) (cs := [26]) (one_c ⟨T.xf26, T.nf26_at⟩)) a_nil))))))))
  (ss_one (s_ret (e_cmp (o_eq hr) (e_var 4) (e_lst (a_cons e_str (a_cons e_int (a_cons e_str (a_cons (e_op o_pow e_int e_int) (a_cons e_int (a_cons (e_op o_pow e_int e_int) a_nil)))))))))))))
theorem sc_first_state : FnScope [] [] (defScope (top 37)) := ⟨rfl, rfl, rfl, by decide +kernel, rfl, by decide +kernel, by decide +kernel⟩
theorem ok_first_state (T : Txt w K mg C) {f : Addr} {fd : FuncData} (F : L2.Fun K "first_state" "first_state" (top 37) f fd) (hm : mg "first_state" = some (.ref f)) (hb : Binds K fd [] []) : Does P w K mg base (UU w K C) 2 "first_state" f fd [] F_first_state := by
  have sc := sc_first_state
  exact ok_def F hm hb sc rfl fun cdv A outer s H E hr => (ss_one (s_ret (e_tup (a_cons (e_tup a_nil) (a_cons e_dct0 (a_cons e_int (a_cons e_int a_nil)))))))
theorem sc_Lines___init__ : FnScope ["self"] ["self"] (defScope (methOf (top 40) 0)) := ⟨rfl, rfl, rfl, by decide +kernel, rfl, by decide +kernel, by decide +kernel⟩
theorem ok_Lines___init__ (T : Txt w K mg C) {f_first_state : Addr} {fd_first_state : FuncData} (G_first_state : Does P w K mg base (UU w K C) 2 "first_state" f_first_state fd_first_state [] F_first_state) {f : Addr} {fd : FuncData} (F : L2.Fun K "__init__" "Lines.__init__" (methOf (top 40) 0) f fd) (mk : Mk K (C 27) f) (mgc : mg "Lines" = some (.ref (C 27))) (hb : Binds K fd ["self"] []) : DoesI P w K mg base (UU w K C) 3 27 "Lines" f fd ["self"] F_Lines___init__ := by
  have sc := sc_Lines___init__
  have Y := fn_def (P := P) (w := w) (mg := mg) (base := base) (U := UU w K C) (k := 2) (N := ["self"]) (ps := ["self"]) (ms := m_Lines___init__) F sc rfl fun cdv A outer s H E hr => (ss_cons (s_fld (e_var 0) (e_call0 G_first_state (L2N.takes_of rfl rfl rfl rfl) hr (hk := by decide)) (cs := [27]) (one_c ⟨T.i27, T.n27_state⟩))
  (ss_cons (s_fld (e_var 0) (e_tup a_nil) (cs := [27]) (one_c ⟨T.i27, T.n27_on_line⟩))
  (ss_one (s_fld (e_var 0) (e_tup a_nil) (cs := [27]) (one_c ⟨T.i27, T.n27_past⟩)))))
  exact ⟨Y, mk, mgc, hb⟩
theorem sc_is_key : FnScope ["thing", "sign"] ["thing"] (defScope (top 34)) := ⟨rfl, rfl, rfl, by decide +kernel, rfl, by decide +kernel, by decide +kernel⟩
theorem ok_is_key (T : Txt w K mg C) {f : Addr} {fd : FuncData} (F : L2.Fun K "is_key" "is_key" (top 34) f fd) (hm : mg "is_key" = some (.ref f)) (hb : Binds K fd ["thing"] []) : Does P w K mg base (UU w K C) 2 "is_key" f fd ["thing"] F_is_key := by
  have sc := sc_is_key
  exact ok_def F hm hb sc rfl fun cdv A outer s H E hr => (ss_one (s_ret (e_and (e_callB (c_isiI T.isc) T.b_isinstance PyProof.Rows.boot_isinstance (a_cons (e_var 0) (a_cons (e_bltn T.b_str PyProof.Rows.boot_str) a_nil))) (e_and (e_chain (o_lt hr) (o_le hr) e_int (e_callB (c_len) T.b_len PySem.boot_len (a_cons (e_var 0) a_nil)) (e_gc T.g_LONGEST)) (e_one (e_callB (c_all) T.b_all PyProof.Rows.boot_all (a_cons (e_lc [("sign", 1)] sc.nd (i_seq (e_var 0)) (blkOk_by (by rfl)) (fun _ _ _ _ _ => (g_name 1 sc.nd)) (fun _ _ _ _ _ => ts_nil) (fun _ _ _ _ _ => (e_cmp (o_in hr) (e_var 1) (e_gc T.g_LETTERS)))) a_nil)))))))
theorem sc_check_key : FnScope ["thing"] ["thing"] (defScope (top 36)) := ⟨rfl, rfl, rfl, by decide +kernel, rfl, by decide +kernel, by decide +kernel⟩
theorem ok_check_key (T : Txt w K mg C) {f_is_key : Addr} {fd_is_key : FuncData} (G_is_key : Does P w K mg base (UU w K C) 2 "is_key" f_is_key fd_is_key ["thing"] F_is_key) {f : Addr} {fd : FuncData} (F : L2.Fun K "check_key" "check_key" (top 36) f fd) (hm : mg "check_key" = some (.ref f)) (hb : Binds K fd ["thing"] []) : Does P w K mg base (UU w K C) 3 "check_key" f fd ["thing"] F_check_key := by
  have sc := sc_check_key
  exact ok_def F hm hb sc rfl fun cdv A outer s H E hr => (ss_one (s_if (t_not (t_tru (e_call G_is_key (L2N.takes_of rfl rfl rfl rfl) hr (a_cons (e_var 0) a_nil) (len_cons len_nil) (hk := by decide))))
  (ss_one (s_raise 1 T.k1 (L2N.takes_of rfl rfl rfl rfl)))
  ss_nil))
theorem sc_Lines_put : FnScope ["self", "key", "state", "row"] ["self", "key"] (defScope (methOf (top 40) 3)) := ⟨rfl, rfl, rfl, by decide +kernel, rfl, by decide +kernel, by decide +kernel⟩
theorem ok_Lines_put (T : Txt w K mg C) {f_check_key : Addr} {fd_check_key : FuncData} (G_check_key : Does P w K mg base (UU w K C) 3 "check_key" f_check_key fd_check_key ["thing"] F_check_key) {f : Addr} {fd : FuncData} (F : L2.Fun K "put" "Lines.put" (methOf (top 40) 3) f fd) (me : Meth K (C 27) "put" f) (hb : Binds K fd ["self", "key"] []) : DoesM P w K mg base (UU w K C) 4 27 "put" f fd ["self", "key"] F_Lines_put := by
  have sc := sc_Lines_put
  have Y := fn_def (P := P) (w := w) (mg := mg) (base := base) (U := UU w K C) (k := 3) (N := ["self", "key", "state", "row"]) (ps := ["self", "key"]) (ms := m_Lines_put) F sc rfl fun cdv A outer s H E hr => (ss_cons (s_expr (e_call G_check_key (L2N.takes_of rfl rfl rfl rfl) hr (a_cons (e_var 1) a_nil) (len_cons len_nil) (hk := by decide)))
  ss_stuck)
  exact ⟨Y, T.i27, me, hb⟩
theorem sc_law : FnScope ["script", "found", "marks", "e", "way"] ["script"] (defScope (top 47)) := ⟨rfl, rfl, rfl, by decide +kernel, rfl, by decide +kernel, by decide +kernel⟩
theorem ok_law (T : Txt w K mg C) {f__law_way_right : Addr} {fd__law_way_right : FuncData} (G__law_way_right : Does P w K mg base (UU w K C) 5 "_law_way_right" f__law_way_right fd__law_way_right ["way"] F__law_way_right) {f__law_fields_right : Addr} {fd__law_fields_right : FuncData} (G__law_fields_right : Does P w K mg base (UU w K C) 3 "_law_fields_right" f__law_fields_right fd__law_fields_right [] F__law_fields_right) {f__law_marks : Addr} {fd__law_marks : FuncData} (G__law_marks : DoesE P w K mg base (UU w K C) 2 "_law_marks" f__law_marks fd__law_marks "e" F__law_marks) {f_Lines___init__ : Addr} {fd_Lines___init__ : FuncData} (G_Lines___init__ : DoesI P w K mg base (UU w K C) 3 27 "Lines" f_Lines___init__ fd_Lines___init__ ["self"] F_Lines___init__) {f_Lines_put : Addr} {fd_Lines_put : FuncData} (G_Lines_put : DoesM P w K mg base (UU w K C) 4 27 "put" f_Lines_put fd_Lines_put ["self", "key"] F_Lines_put) {f : Addr} {fd : FuncData} (F : L2.Fun K "law" "law" (top 47) f fd) (hm : mg "law" = some (.ref f)) (hb : Binds K fd ["script"] []) : Does P w K mg base (UU w K C) 6 "law" f fd ["script"] F_law := by
  have sc := sc_law
  exact ok_def F hm hb sc rfl fun cdv A outer s H E hr => (ss_cons (s_if (PW.pt (w_or (t_cmp (o_ne hr) (e_lc [("way", 4)] sc.nd (i_range1 T.b_range e_int) (blkOk_by (by rfl)) (fun _ _ _ _ _ => (g_name 4 sc.nd)) (fun _ _ _ _ _ => (ts_one (t_not (t_tru (e_call G__law_way_right takes0N hr (a_cons (e_var 4) a_nil) (len_cons len_nil) (hk := by decide)))))) (fun _ _ _ _ _ => (e_var 4))) (e_lst a_nil)) (w_or1 (t_not (t_tru (e_call0 G__law_fields_right (L2N.takes_of rfl rfl rfl rfl) hr (hk := by decide)))))))
  (ss_one (s_ret e_bl))
  ss_nil)
  (ss_cons (s_par 1 2 sc.nd (a_cons e_bl (a_cons (e_lst (a_cons e_bl a_nil)) a_nil)))
  (ss_cons (s_tryN sc.nd (L2N.takes_of rfl rfl rfl rfl) (fun W pn xe tk po => (ss_one (s_raise 0 T.k0 tk)))
  (.asx 3 rfl rfl ⟨rfl, by decide, .inl T.m0⟩ T.x0 (fun a oe e d pn hz hv hd => sx_lt (fun hl => (sx_one (sx_set 2 sc.nd (ex_callE 3 G__law_marks (L2H.roomH_mark hr _) (hot1_suite hz hv) List.mem_cons_self hz (L2N.passes_call takes0N fun _ _ _ _ z => z.elim) List.mem_cons_self (hk := by decide)) (nf_fix (by decide))))))
  .nil) rfl)
  (ss_cons (s_tryN sc.nd (L2N.takes_of rfl rfl rfl rfl) (fun W pn xe tk po => (ss_one (s_expr (e_meth G_Lines_put tk hr (e_make0 G_Lines___init__ tk hr (hk := by decide)) (a_cons e_str a_nil) (len1 (len_cons len_nil)) (hk := by decide)))))
  (.one ⟨rfl, by decide, .inl T.m1⟩ T.x1 (fun a oe e d pn hz0 hv hd => (ss_sel 1 hz0 hd (fun hz => (ss_one (s_set 1 sc.nd e_bl)))
  ss_stuck))
  .nil) rfl)
  (ss_one (s_ret (e_and (e_var 1) (e_one (e_cmp (o_eq hr) (e_var 2) (e_op o_mul (e_lst (a_cons e_bl a_nil)) e_int))))))))))
end
end K00
/-! the law of the error classes: its mirror, run -/
namespace K00
open PySem L2 DL
def okB (o : Out D) : Bool := match o with
  | .ok (.bl true) _ => true
  | _ => false
theorem okB_ex {o : Out D} (h : okB o = true) : ∃ S, o = .ok (.bl true) S := by
  unfold okB at h
  split at h
  · exact ⟨_, rfl⟩
  · cases h
theorem law_true : ∀ ns : List Int, ns.length ≤ 63 → (∀ z ∈ ns, Builtin.Int.intBits z ≤ 1048576) → ∃ S, F_law [.fz (ns.map D.int)] [] = .ok (.bl true) S := fun ns _ _ => okB_ex (by kernel_rfl)
end K00
set_option pp.deepTerms false
set_option pp.maxSteps 300
/-! the head, printed by gen.py -/
namespace K00
open PySem L2 DL
theorem all_mk {l : PySem.W.OpenLaw} {w : World} {K : PySem.W.Frag} {h : Heap} {mg : Str → Option Value} {fa : Addr} (X : K.In h) (G : h.Ns mainGlobals mg) (hfa : mg "law" = some (.ref fa))
    {C27 : Addr} {C0 : Addr} {C1 : Addr} {C2 : Addr} {C3 : Addr} {C4 : Addr} {C5 : Addr} {C6 : Addr} {C7 : Addr} {C8 : Addr} {C9 : Addr} {C10 : Addr} {C11 : Addr} {C12 : Addr} {C13 : Addr} {C14 : Addr} {C15 : Addr} {C16 : Addr} {C17 : Addr} {C18 : Addr} {C19 : Addr} {C20 : Addr} {C21 : Addr} {C22 : Addr} {C23 : Addr} {C24 : Addr} {C25 : Addr} {C26 : Addr} {f0 : Addr} {od0 an0 : Option Addr} {sl0 : Array (Option Value)} {oc0 kV0 dc0 pm0 cd0 ct0 : Value} {f1 : Addr} {od1 an1 : Option Addr} {sl1 : Array (Option Value)} {oc1 kV1 dc1 pm1 cd1 ct1 : Value} {f2 : Addr} {od2 an2 : Option Addr} {sl2 : Array (Option Value)} {oc2 kV2 dc2 pm2 cd2 ct2 : Value} {f3 : Addr} {od3 an3 : Option Addr} {sl3 : Array (Option Value)} {oc3 kV3 dc3 pm3 cd3 ct3 : Value} {f4 : Addr} {od4 an4 : Option Addr} {sl4 : Array (Option Value)} {oc4 kV4 dc4 pm4 cd4 ct4 : Value} {f5 : Addr} {od5 an5 : Option Addr} {sl5 : Array (Option Value)} {oc5 kV5 dc5 pm5 cd5 ct5 : Value} {f6 : Addr} {od6 an6 : Option Addr} {sl6 : Array (Option Value)} {oc6 kV6 dc6 pm6 cd6 ct6 : Value} {f7 : Addr} {od7 an7 : Option Addr} {sl7 : Array (Option Value)} {oc7 kV7 dc7 pm7 cd7 ct7 : Value} {f8 : Addr} {od8 an8 : Option Addr} {sl8 : Array (Option Value)} {oc8 kV8 dc8 pm8 cd8 ct8 : Value} {f9 : Addr} {od9 an9 : Option Addr} {sl9 : Array (Option Value)} {oc9 kV9 dc9 pm9 cd9 ct9 : Value} {f10 : Addr} {od10 an10 : Option Addr} {sl10 : Array (Option Value)} {oc10 kV10 dc10 pm10 cd10 ct10 : Value} {f11 : Addr} {od11 an11 : Option Addr} {sl11 : Array (Option Value)} {oc11 kV11 dc11 pm11 cd11 ct11 : Value} {f12 : Addr} {od12 an12 : Option Addr} {sl12 : Array (Option Value)} {oc12 kV12 dc12 pm12 cd12 ct12 : Value} {tk0 : Tok} {tk1 : Tok}
    (v27a : PySem.W.nsIn K mainGlobals "Lines" = some (some (.ref C27)))
    (x0a : PySem.W.nsIn K mainGlobals "StoreError" = some (some (.ref C0)))
    (x1a : PySem.W.nsIn K mainGlobals "BadKey" = some (some (.ref C1)))
    (x2a : PySem.W.nsIn K mainGlobals "BadPlace" = some (some (.ref C2)))
    (x3a : PySem.W.nsIn K mainGlobals "BadRow" = some (some (.ref C3)))
    (x4a : PySem.W.nsIn K mainGlobals "NothingToUndo" = some (some (.ref C4)))
    (x5a : PySem.W.nsIn K mainGlobals "BadMark" = some (some (.ref C5)))
    (x6a : PySem.W.nsIn K mainGlobals "BadPath" = some (some (.ref C6)))
    (x7a : PySem.W.nsIn K mainGlobals "BadKind" = some (some (.ref C7)))
    (x8a : PySem.W.nsIn K mainGlobals "BadCase" = some (some (.ref C8)))
    (x9a : PySem.W.nsIn K mainGlobals "BadBook" = some (some (.ref C9)))
    (x10a : PySem.W.nsIn K mainGlobals "BadServers" = some (some (.ref C10)))
    (x11a : PySem.W.nsIn K mainGlobals "NotFor" = some (some (.ref C11)))
    (x12a : PySem.W.nsIn K mainGlobals "BadDeed" = some (some (.ref C12)))
    (x13a : PySem.W.nsIn K mainGlobals "BadServer" = some (some (.ref C13)))
    (x14a : PySem.W.nsIn K mainGlobals "BadSession" = some (some (.ref C14)))
    (x15a : PySem.W.nsIn K mainGlobals "BadCount" = some (some (.ref C15)))
    (x16a : PySem.W.nsIn K mainGlobals "Busy" = some (some (.ref C16)))
    (x17a : PySem.W.nsIn K mainGlobals "NotAllowed" = some (some (.ref C17)))
    (x18a : PySem.W.nsIn K mainGlobals "BadPromise" = some (some (.ref C18)))
    (x19a : PySem.W.nsIn K mainGlobals "BadPromises" = some (some (.ref C19)))
    (x20a : PySem.W.nsIn K mainGlobals "BadHistory" = some (some (.ref C20)))
    (x21a : PySem.W.nsIn K mainGlobals "NotKept" = some (some (.ref C21)))
    (x22a : PySem.W.nsIn K mainGlobals "BadStanding" = some (some (.ref C22)))
    (x23a : PySem.W.nsIn K mainGlobals "NotAlike" = some (some (.ref C23)))
    (x24a : PySem.W.nsIn K mainGlobals "BadCommand" = some (some (.ref C24)))
    (x25a : PySem.W.nsIn K mainGlobals "Broken" = some (some (.ref C25)))
    (x26a : PySem.W.nsIn K mainGlobals "BadText" = some (some (.ref C26)))
    (a0 : PySem.W.findIn K (.ref C26) "__init__" = some (some (.ref f0)))
    (i0 : PySem.W.typeIn K (.ref f0) = some (.type "function"))
    (l0 : K.lookup f0 = some ⟨oc0, od0, .func (PySem.W.fnOf "__init__" "BadText.__init__" (defArgs (methOf (top 28) 0)) (defBody (methOf (top 28) 0)) (defScope (methOf (top 28) 0)) .none kV0 dc0 pm0 an0 cd0 ct0), sl0⟩)
    (c0 : PySem.W.codeIn K cd0 "BadText.__init__" = true)
    (k0 : PySem.W.keepIn K (.ref f0) = true)
    (a1 : PySem.W.findIn K (.ref C25) "__init__" = some (some (.ref f1)))
    (i1 : PySem.W.typeIn K (.ref f1) = some (.type "function"))
    (l1 : K.lookup f1 = some ⟨oc1, od1, .func (PySem.W.fnOf "__init__" "Broken.__init__" (defArgs (methOf (top 27) 0)) (defBody (methOf (top 27) 0)) (defScope (methOf (top 27) 0)) .none kV1 dc1 pm1 an1 cd1 ct1), sl1⟩)
    (c1 : PySem.W.codeIn K cd1 "Broken.__init__" = true)
    (k1 : PySem.W.keepIn K (.ref f1) = true)
    (a2 : PySem.W.nsIn K mainGlobals "_law_raised_more" = some (some (.ref f2)))
    (l2 : K.lookup f2 = some ⟨oc2, od2, .func (PySem.W.fnOf "_law_raised_more" "_law_raised_more" (defArgs (top 43)) (defBody (top 43)) (defScope (top 43)) .none kV2 dc2 pm2 an2 cd2 ct2), sl2⟩)
    (c2 : PySem.W.codeIn K cd2 "_law_raised_more" = true)
    (k2 : PySem.W.keepIn K (.ref f2) = true)
    (a3 : PySem.W.nsIn K mainGlobals "_law_raised_one" = some (some (.ref f3)))
    (l3 : K.lookup f3 = some ⟨oc3, od3, .func (PySem.W.fnOf "_law_raised_one" "_law_raised_one" (defArgs (top 42)) (defBody (top 42)) (defScope (top 42)) .none kV3 dc3 pm3 an3 cd3 ct3), sl3⟩)
    (c3 : PySem.W.codeIn K cd3 "_law_raised_one" = true)
    (k3 : PySem.W.keepIn K (.ref f3) = true)
    (a4 : PySem.W.nsIn K mainGlobals "_law_marks" = some (some (.ref f4)))
    (l4 : K.lookup f4 = some ⟨oc4, od4, .func (PySem.W.fnOf "_law_marks" "_law_marks" (defArgs (top 44)) (defBody (top 44)) (defScope (top 44)) .none kV4 dc4 pm4 an4 cd4 ct4), sl4⟩)
    (c4 : PySem.W.codeIn K cd4 "_law_marks" = true)
    (k4 : PySem.W.keepIn K (.ref f4) = true)
    (a5 : PySem.W.nsIn K mainGlobals "_law_way_right" = some (some (.ref f5)))
    (l5 : K.lookup f5 = some ⟨oc5, od5, .func (PySem.W.fnOf "_law_way_right" "_law_way_right" (defArgs (top 45)) (defBody (top 45)) (defScope (top 45)) .none kV5 dc5 pm5 an5 cd5 ct5), sl5⟩)
    (c5 : PySem.W.codeIn K cd5 "_law_way_right" = true)
    (k5 : PySem.W.keepIn K (.ref f5) = true)
    (a6 : PySem.W.nsIn K mainGlobals "_law_fields_right" = some (some (.ref f6)))
    (l6 : K.lookup f6 = some ⟨oc6, od6, .func (PySem.W.fnOf "_law_fields_right" "_law_fields_right" (defArgs (top 46)) (defBody (top 46)) (defScope (top 46)) .none kV6 dc6 pm6 an6 cd6 ct6), sl6⟩)
    (c6 : PySem.W.codeIn K cd6 "_law_fields_right" = true)
    (k6 : PySem.W.keepIn K (.ref f6) = true)
    (a7 : PySem.W.nsIn K mainGlobals "first_state" = some (some (.ref f7)))
    (l7 : K.lookup f7 = some ⟨oc7, od7, .func (PySem.W.fnOf "first_state" "first_state" (defArgs (top 37)) (defBody (top 37)) (defScope (top 37)) .none kV7 dc7 pm7 an7 cd7 ct7), sl7⟩)
    (c7 : PySem.W.codeIn K cd7 "first_state" = true)
    (k7 : PySem.W.keepIn K (.ref f7) = true)
    (a8 : PySem.W.findIn K (.ref C27) "__init__" = some (some (.ref f8)))
    (i8 : PySem.W.isFn K (.ref f8) = true)
    (l8 : K.lookup f8 = some ⟨oc8, od8, .func (PySem.W.fnOf "__init__" "Lines.__init__" (defArgs (methOf (top 40) 0)) (defBody (methOf (top 40) 0)) (defScope (methOf (top 40) 0)) .none kV8 dc8 pm8 an8 cd8 ct8), sl8⟩)
    (c8 : PySem.W.codeIn K cd8 "Lines.__init__" = true)
    (k8 : PySem.W.keepIn K (.ref f8) = true)
    (a9 : PySem.W.nsIn K mainGlobals "is_key" = some (some (.ref f9)))
    (l9 : K.lookup f9 = some ⟨oc9, od9, .func (PySem.W.fnOf "is_key" "is_key" (defArgs (top 34)) (defBody (top 34)) (defScope (top 34)) .none kV9 dc9 pm9 an9 cd9 ct9), sl9⟩)
    (c9 : PySem.W.codeIn K cd9 "is_key" = true)
    (k9 : PySem.W.keepIn K (.ref f9) = true)
    (a10 : PySem.W.nsIn K mainGlobals "check_key" = some (some (.ref f10)))
    (l10 : K.lookup f10 = some ⟨oc10, od10, .func (PySem.W.fnOf "check_key" "check_key" (defArgs (top 36)) (defBody (top 36)) (defScope (top 36)) .none kV10 dc10 pm10 an10 cd10 ct10), sl10⟩)
    (c10 : PySem.W.codeIn K cd10 "check_key" = true)
    (k10 : PySem.W.keepIn K (.ref f10) = true)
    (a11 : PySem.W.findIn K (.ref C27) "put" = some (some (.ref f11)))
    (i11 : PySem.W.isFn K (.ref f11) = true)
    (l11 : K.lookup f11 = some ⟨oc11, od11, .func (PySem.W.fnOf "put" "Lines.put" (defArgs (methOf (top 40) 3)) (defBody (methOf (top 40) 3)) (defScope (methOf (top 40) 3)) .none kV11 dc11 pm11 an11 cd11 ct11), sl11⟩)
    (c11 : PySem.W.codeIn K cd11 "Lines.put" = true)
    (k11 : PySem.W.keepIn K (.ref f11) = true)
    (a12 : PySem.W.nsIn K mainGlobals "law" = some (some (.ref f12)))
    (l12 : K.lookup f12 = some ⟨oc12, od12, .func (PySem.W.fnOf "law" "law" (defArgs (top 47)) (defBody (top 47)) (defScope (top 47)) .none kV12 dc12 pm12 an12 cd12 ct12), sl12⟩)
    (c12 : PySem.W.codeIn K cd12 "law" = true)
    (k12 : PySem.W.keepIn K (.ref f12) = true)
    (y0 : PySem.W.nsIn K mainGlobals "LETTERS" = some (some (.str "abcdefghijklmnopqrstuvwxyz" tk0)))
    (y1 : PySem.W.nsIn K mainGlobals "LONGEST" = some (some (.int 8 tk1)))
    (b_ValueError : PySem.W.nsIn K mainGlobals "ValueError" = some none)
    (b_all : PySem.W.nsIn K mainGlobals "all" = some none)
    (b_isinstance : PySem.W.nsIn K mainGlobals "isinstance" = some none)
    (b_len : PySem.W.nsIn K mainGlobals "len" = some none)
    (b_range : PySem.W.nsIn K mainGlobals "range" = some none)
    (b_str : PySem.W.nsIn K mainGlobals "str" = some none)
    (x0q : PySem.W.excIn K C0 [.type "ValueError", .type "Exception", .type "BaseException", .type "object"] "ValueError.__new__" = true)
    (x1q : PySem.W.excIn K C1 [.type "ValueError", .type "Exception", .type "BaseException", .type "object"] "ValueError.__new__" = true)
    (x2q : PySem.W.excIn K C2 [.type "ValueError", .type "Exception", .type "BaseException", .type "object"] "ValueError.__new__" = true)
    (x3q : PySem.W.excIn K C3 [.type "ValueError", .type "Exception", .type "BaseException", .type "object"] "ValueError.__new__" = true)
    (x4q : PySem.W.excIn K C4 [.type "ValueError", .type "Exception", .type "BaseException", .type "object"] "ValueError.__new__" = true)
    (x5q : PySem.W.excIn K C5 [.type "ValueError", .type "Exception", .type "BaseException", .type "object"] "ValueError.__new__" = true)
    (x6q : PySem.W.excIn K C6 [.type "ValueError", .type "Exception", .type "BaseException", .type "object"] "ValueError.__new__" = true)
    (x7q : PySem.W.excIn K C7 [.type "ValueError", .type "Exception", .type "BaseException", .type "object"] "ValueError.__new__" = true)
    (x8q : PySem.W.excIn K C8 [.type "ValueError", .type "Exception", .type "BaseException", .type "object"] "ValueError.__new__" = true)
    (x9q : PySem.W.excIn K C9 [.type "ValueError", .type "Exception", .type "BaseException", .type "object"] "ValueError.__new__" = true)
    (x10q : PySem.W.excIn K C10 [.type "ValueError", .type "Exception", .type "BaseException", .type "object"] "ValueError.__new__" = true)
    (x11q : PySem.W.excIn K C11 [.type "ValueError", .type "Exception", .type "BaseException", .type "object"] "ValueError.__new__" = true)
    (x12q : PySem.W.excIn K C12 [.type "ValueError", .type "Exception", .type "BaseException", .type "object"] "ValueError.__new__" = true)
    (x13q : PySem.W.excIn K C13 [.type "ValueError", .type "Exception", .type "BaseException", .type "object"] "ValueError.__new__" = true)
    (x14q : PySem.W.excIn K C14 [.type "ValueError", .type "Exception", .type "BaseException", .type "object"] "ValueError.__new__" = true)
    (x15q : PySem.W.excIn K C15 [.type "ValueError", .type "Exception", .type "BaseException", .type "object"] "ValueError.__new__" = true)
    (x16q : PySem.W.excIn K C16 [.type "ValueError", .type "Exception", .type "BaseException", .type "object"] "ValueError.__new__" = true)
    (x17q : PySem.W.excIn K C17 [.type "ValueError", .type "Exception", .type "BaseException", .type "object"] "ValueError.__new__" = true)
    (x18q : PySem.W.excIn K C18 [.type "ValueError", .type "Exception", .type "BaseException", .type "object"] "ValueError.__new__" = true)
    (x19q : PySem.W.excIn K C19 [.type "ValueError", .type "Exception", .type "BaseException", .type "object"] "ValueError.__new__" = true)
    (x20q : PySem.W.excIn K C20 [.type "ValueError", .type "Exception", .type "BaseException", .type "object"] "ValueError.__new__" = true)
    (x21q : PySem.W.excIn K C21 [.type "ValueError", .type "Exception", .type "BaseException", .type "object"] "ValueError.__new__" = true)
    (x22q : PySem.W.excIn K C22 [.type "ValueError", .type "Exception", .type "BaseException", .type "object"] "ValueError.__new__" = true)
    (x23q : PySem.W.excIn K C23 [.type "ValueError", .type "Exception", .type "BaseException", .type "object"] "ValueError.__new__" = true)
    (x24q : PySem.W.excIn K C24 [.type "ValueError", .type "Exception", .type "BaseException", .type "object"] "ValueError.__new__" = true)
    (x26i : PySem.W.excInitIn K C26 [.type "ValueError", .type "Exception", .type "BaseException", .type "object"] "ValueError.__new__" = true)
    (x26s : PySem.W.findIn K (.ref C26) "__setattr__" = some (some (.builtin "object.__setattr__")))
    (n26_at : PySem.W.findIn K (.ref C26) "at" = some none)
    (x25i : PySem.W.excInitIn K C25 [.type "ValueError", .type "Exception", .type "BaseException", .type "object"] "ValueError.__new__" = true)
    (x25s : PySem.W.findIn K (.ref C25) "__setattr__" = some (some (.builtin "object.__setattr__")))
    (n25_promise : PySem.W.findIn K (.ref C25) "promise" = some none)
    (n25_place : PySem.W.findIn K (.ref C25) "place" = some none)
    (x0r : PySem.W.readsIn K C0 (.type "type") = true)
    (x0g : PySem.W.specialIn K (.ref C0) "__getattribute__" = some (some (.builtin "type.__getattribute__")))
    (x0c : PySem.W.findCls K (.ref C0) (.type "type") "__init__" = some (.val (.builtin "ValueError.__init__")))
    (cAll : allB K [C0, C1, C2, C3, C4, C5, C6, C7, C8, C9, C10, C11, C12, C13, C14, C15, C16, C17, C18, C19, C20, C21, C22, C23, C24, C25, C26] = true)
    (cSub : subB K [C0, C1, C2, C3, C4, C5, C6, C7, C8, C9, C10, C11, C12, C13, C14, C15, C16, C17, C18, C19, C20, C21, C22, C23, C24, C25, C26] = true)
    (ehn : PySem.W.specialIn K (.builtin "object.__class__") "__get__" = some (some (.builtin "getset_descriptor.__get__")))
    (eht : PySem.W.takesIn K (.builtin "object.__class__") = some true)
    (v27g : PySem.W.plainGet K C27 Str.empty = true)
    (v27d : PySem.W.hasDictIn K C27 = true)
    (v27o : PySem.W.plainOver K C27 = true)
    (v27s : PySem.W.findIn K (.ref C27) "__setattr__" = some (some (.builtin "object.__setattr__")))
    (v27m : PySem.W.makesIn K C27 = true)
    (v27k : PySem.W.keepIn K (.ref C27) = true)
    (v27t : PySem.W.typeIn K (.ref C27) = some (.type "type"))
    (v27i : PySem.W.isClsIn K C27 = true)
    (v27c : PySem.W.findIn K (.ref C27) "__class__" = some (some (.builtin "object.__class__")))
    (v27r : PySem.W.mroIn K C27 (.type "object") = some true)
    (v27_27 : PySem.W.subIn K (.ref C27) (.ref C27) = some true)
    (v27_int : PySem.W.subIn K (.ref C27) (.type "int") = some false)
    (v27_str : PySem.W.subIn K (.ref C27) (.type "str") = some false)
    (v27_bool : PySem.W.subIn K (.ref C27) (.type "bool") = some false)
    (v27_list : PySem.W.subIn K (.ref C27) (.type "list") = some false)
    (v27_tuple : PySem.W.subIn K (.ref C27) (.type "tuple") = some false)
    (v27_dict : PySem.W.subIn K (.ref C27) (.type "dict") = some false)
    (n27_on_line : PySem.W.findIn K (.ref C27) "on_line" = some none)
    (n27_past : PySem.W.findIn K (.ref C27) "past" = some none)
    (n27_state : PySem.W.findIn K (.ref C27) "state" = some none)
    : ∃ fd : FuncData, (∀ (s : Shared) (v : Value), BindsTo s fd ⟨[v], []⟩ [("script", v)]) ∧ ∀ base : Heap, K.In base → base.Ns mainGlobals mg → FnOk l.prog w K mg base (L2N.CX l.prog w) 6 fa fd ["script"] (spLaw K) := by
  have e := hfa.symm.trans (PySem.W.mg_of X G a12)
  cases e
  let C : Nat → Addr := nthC [C0, C1, C2, C3, C4, C5, C6, C7, C8, C9, C10, C11, C12, C13, C14, C15, C16, C17, C18, C19, C20, C21, C22, C23, C24, C25, C26] fun c => match c with  | _ => C27
  have ln : [C0, C1, C2, C3, C4, C5, C6, C7, C8, C9, C10, C11, C12, C13, C14, C15, C16, C17, C18, C19, C20, C21, C22, C23, C24, C25, C26].length = 27 := rfl
  have J : ∀ k, k < 27 → ClsOk K (C k) := fun k hk => allB_ok cAll (by rw [ln]; exact hk)
  have T : Txt w K mg C := {
    b_ValueError := PySem.W.mg_none_of X G b_ValueError
    b_all := PySem.W.mg_none_of X G b_all
    b_isinstance := PySem.W.mg_none_of X G b_isinstance
    b_len := PySem.W.mg_none_of X G b_len
    b_range := PySem.W.mg_none_of X G b_range
    b_str := PySem.W.mg_none_of X G b_str
    g_LETTERS := gc_str X G y0
    g_LONGEST := gc_int X G y1
    k0 := ⟨x0q, PySem.W.mg_of X G x0a, (J 0 (by decide)).kp, (J 0 (by decide)).b, (J 0 (by decide)).t⟩
    m0 := PySem.W.mg_of X G x0a
    k1 := ⟨x1q, PySem.W.mg_of X G x1a, (J 1 (by decide)).kp, (J 1 (by decide)).b, (J 1 (by decide)).t⟩
    m1 := PySem.W.mg_of X G x1a
    k2 := ⟨x2q, PySem.W.mg_of X G x2a, (J 2 (by decide)).kp, (J 2 (by decide)).b, (J 2 (by decide)).t⟩
    m2 := PySem.W.mg_of X G x2a
    k3 := ⟨x3q, PySem.W.mg_of X G x3a, (J 3 (by decide)).kp, (J 3 (by decide)).b, (J 3 (by decide)).t⟩
    m3 := PySem.W.mg_of X G x3a
    k4 := ⟨x4q, PySem.W.mg_of X G x4a, (J 4 (by decide)).kp, (J 4 (by decide)).b, (J 4 (by decide)).t⟩
    m4 := PySem.W.mg_of X G x4a
    k5 := ⟨x5q, PySem.W.mg_of X G x5a, (J 5 (by decide)).kp, (J 5 (by decide)).b, (J 5 (by decide)).t⟩
    m5 := PySem.W.mg_of X G x5a
    k6 := ⟨x6q, PySem.W.mg_of X G x6a, (J 6 (by decide)).kp, (J 6 (by decide)).b, (J 6 (by decide)).t⟩
    m6 := PySem.W.mg_of X G x6a
    k7 := ⟨x7q, PySem.W.mg_of X G x7a, (J 7 (by decide)).kp, (J 7 (by decide)).b, (J 7 (by decide)).t⟩
    m7 := PySem.W.mg_of X G x7a
    k8 := ⟨x8q, PySem.W.mg_of X G x8a, (J 8 (by decide)).kp, (J 8 (by decide)).b, (J 8 (by decide)).t⟩
    m8 := PySem.W.mg_of X G x8a
    k9 := ⟨x9q, PySem.W.mg_of X G x9a, (J 9 (by decide)).kp, (J 9 (by decide)).b, (J 9 (by decide)).t⟩
    m9 := PySem.W.mg_of X G x9a
    k10 := ⟨x10q, PySem.W.mg_of X G x10a, (J 10 (by decide)).kp, (J 10 (by decide)).b, (J 10 (by decide)).t⟩
    m10 := PySem.W.mg_of X G x10a
    k11 := ⟨x11q, PySem.W.mg_of X G x11a, (J 11 (by decide)).kp, (J 11 (by decide)).b, (J 11 (by decide)).t⟩
    m11 := PySem.W.mg_of X G x11a
    k12 := ⟨x12q, PySem.W.mg_of X G x12a, (J 12 (by decide)).kp, (J 12 (by decide)).b, (J 12 (by decide)).t⟩
    m12 := PySem.W.mg_of X G x12a
    k13 := ⟨x13q, PySem.W.mg_of X G x13a, (J 13 (by decide)).kp, (J 13 (by decide)).b, (J 13 (by decide)).t⟩
    m13 := PySem.W.mg_of X G x13a
    k14 := ⟨x14q, PySem.W.mg_of X G x14a, (J 14 (by decide)).kp, (J 14 (by decide)).b, (J 14 (by decide)).t⟩
    m14 := PySem.W.mg_of X G x14a
    k15 := ⟨x15q, PySem.W.mg_of X G x15a, (J 15 (by decide)).kp, (J 15 (by decide)).b, (J 15 (by decide)).t⟩
    m15 := PySem.W.mg_of X G x15a
    k16 := ⟨x16q, PySem.W.mg_of X G x16a, (J 16 (by decide)).kp, (J 16 (by decide)).b, (J 16 (by decide)).t⟩
    m16 := PySem.W.mg_of X G x16a
    k17 := ⟨x17q, PySem.W.mg_of X G x17a, (J 17 (by decide)).kp, (J 17 (by decide)).b, (J 17 (by decide)).t⟩
    m17 := PySem.W.mg_of X G x17a
    k18 := ⟨x18q, PySem.W.mg_of X G x18a, (J 18 (by decide)).kp, (J 18 (by decide)).b, (J 18 (by decide)).t⟩
    m18 := PySem.W.mg_of X G x18a
    k19 := ⟨x19q, PySem.W.mg_of X G x19a, (J 19 (by decide)).kp, (J 19 (by decide)).b, (J 19 (by decide)).t⟩
    m19 := PySem.W.mg_of X G x19a
    k20 := ⟨x20q, PySem.W.mg_of X G x20a, (J 20 (by decide)).kp, (J 20 (by decide)).b, (J 20 (by decide)).t⟩
    m20 := PySem.W.mg_of X G x20a
    k21 := ⟨x21q, PySem.W.mg_of X G x21a, (J 21 (by decide)).kp, (J 21 (by decide)).b, (J 21 (by decide)).t⟩
    m21 := PySem.W.mg_of X G x21a
    k22 := ⟨x22q, PySem.W.mg_of X G x22a, (J 22 (by decide)).kp, (J 22 (by decide)).b, (J 22 (by decide)).t⟩
    m22 := PySem.W.mg_of X G x22a
    k23 := ⟨x23q, PySem.W.mg_of X G x23a, (J 23 (by decide)).kp, (J 23 (by decide)).b, (J 23 (by decide)).t⟩
    m23 := PySem.W.mg_of X G x23a
    k24 := ⟨x24q, PySem.W.mg_of X G x24a, (J 24 (by decide)).kp, (J 24 (by decide)).b, (J 24 (by decide)).t⟩
    m24 := PySem.W.mg_of X G x24a
    m25 := PySem.W.mg_of X G x25a
    m26 := PySem.W.mg_of X G x26a
    xf26 := ⟨(J 26 (by decide)).g, (J 26 (by decide)).k, (J 26 (by decide)).b, (J 26 (by decide)).d⟩
    nf26_at := n26_at
    xf25 := ⟨(J 25 (by decide)).g, (J 25 (by decide)).k, (J 25 (by decide)).b, (J 25 (by decide)).d⟩
    nf25_promise := n25_promise
    nf25_place := n25_place
    ec := fun c hc => exc_allB cAll ehn eht (by rw [ln]; exact hc)
    qq := fun c j hc hj => kit_allB cAll cSub (by rw [ln]; exact hc) (by rw [ln]; exact hj)
    qv := fun c hc => (J c hc).v
    x0 := by
      intro c b hb
      unfold ca0 at hb
      split at hb
      · rename_i hc
        cases hb
        exact exm_allB cAll cSub (by rw [ln]; exact hc) (by rw [ln]; decide)
      · cases hb
    x1 := by
      intro c b hb
      unfold ca1 at hb
      split at hb
      · rename_i hc
        cases hb
        exact exm_allB cAll cSub (by rw [ln]; exact hc) (by rw [ln]; decide)
      · cases hb
    isc := ⟨by
      intro c hc
      simp only [CS, List.mem_cons, List.not_mem_nil, or_false] at hc
      rcases hc with rfl
      · exact ⟨v27g, v27d, v27o, v27s⟩, by
      intro c hc
      simp only [CS, List.mem_cons, List.not_mem_nil, or_false] at hc
      rcases hc with rfl
      · exact v27c, ⟨ehn, eht⟩, by
      intro c hc
      simp only [CS, List.mem_cons, List.not_mem_nil, or_false] at hc
      rcases hc with rfl
      · exact v27r, by
      intro c hc c2 hc2
      simp only [CS, List.mem_cons, List.not_mem_nil, or_false] at hc hc2
      rcases hc with rfl <;> rcases hc2 with rfl
      · exact kit_of v27_27 v27_27 v27d v27t, by
      intro c hc
      simp only [CS, List.mem_cons, List.not_mem_nil, or_false] at hc
      rcases hc with rfl
      · exact fun t => kit_tc t v27i v27t, by
      intro c hc
      simp only [CS, List.mem_cons, List.not_mem_nil, or_false] at hc
      rcases hc with rfl
      · exact fun t ht => kit_ct t ht fun t ht => match t, ht with | .non, ht => absurd rfl ht | .bl, _ => v27_bool | .int, _ => v27_int | .str, _ => v27_str | .tup, _ => v27_tuple | .lst, _ => v27_list | .dct, _ => v27_dict⟩
    c_Lines := gc_cls X G rfl v27a
    i27 := ⟨v27g, v27d, v27o, v27s⟩
    n27_on_line := n27_on_line
    n27_past := n27_past
    n27_state := n27_state }
  have F0 := fun_mk (st := (methOf (top 28) 0)) l0 c0 k0
  have B0 := F0.binds (ps := ["self", "at"]) fun _ _ _ _ _ _ us hl => match us, hl with | [_, _], _ => rfl
  have F1 := fun_mk (st := (methOf (top 27) 0)) l1 c1 k1
  have B1 := F1.binds (ps := ["self", "promise", "place"]) fun _ _ _ _ _ _ us hl => match us, hl with | [_, _, _], _ => rfl
  have F2 := fun_mk (st := (top 43)) l2 c2 k2
  have B2 := F2.binds (ps := ["way"]) fun _ _ _ _ _ _ us hl => match us, hl with | [_], _ => rfl
  have F3 := fun_mk (st := (top 42)) l3 c3 k3
  have B3 := F3.binds (ps := ["way"]) fun _ _ _ _ _ _ us hl => match us, hl with | [_], _ => rfl
  have F4 := fun_mk (st := (top 44)) l4 c4 k4
  have B4 := F4.binds (ps := ["e"]) fun _ _ _ _ _ _ us hl => match us, hl with | [_], _ => rfl
  have F5 := fun_mk (st := (top 45)) l5 c5 k5
  have B5 := F5.binds (ps := ["way"]) fun _ _ _ _ _ _ us hl => match us, hl with | [_], _ => rfl
  have F6 := fun_mk (st := (top 46)) l6 c6 k6
  have B6 := F6.binds (ps := []) fun _ _ _ _ _ _ us hl => match us, hl with | [], _ => rfl
  have F7 := fun_mk (st := (top 37)) l7 c7 k7
  have B7 := F7.binds (ps := []) fun _ _ _ _ _ _ us hl => match us, hl with | [], _ => rfl
  have F8 := fun_mk (st := (methOf (top 40) 0)) l8 c8 k8
  have B8 := F8.binds (ps := ["self"]) fun _ _ _ _ _ _ us hl => match us, hl with | [_], _ => rfl
  have F9 := fun_mk (st := (top 34)) l9 c9 k9
  have B9 := F9.binds (ps := ["thing"]) fun _ _ _ _ _ _ us hl => match us, hl with | [_], _ => rfl
  have F10 := fun_mk (st := (top 36)) l10 c10 k10
  have B10 := F10.binds (ps := ["thing"]) fun _ _ _ _ _ _ us hl => match us, hl with | [_], _ => rfl
  have F11 := fun_mk (st := (methOf (top 40) 3)) l11 c11 k11
  have B11 := F11.binds (ps := ["self", "key"]) fun _ _ _ _ _ _ us hl => match us, hl with | [_, _], _ => rfl
  have F12 := fun_mk (st := (top 47)) l12 c12 k12
  have B12 := F12.binds (ps := ["script"]) fun _ _ _ _ _ _ us hl => match us, hl with | [_], _ => rfl
  have K_BadText___init___1_at : KwB K _ ["self", "at"] ["at"] 1 [0, 1] := kwb_of F0 fun _ _ _ _ _ _ us ws zs h1 h2 h3 => match us, ws, h1, h2, h3 with | [_], [_], _, _, h3 => by cases h3; rfl
  have K_Broken___init___1_place_promise : KwB K _ ["self", "promise", "place"] ["place", "promise"] 1 [0, 2, 1] := kwb_of F1 fun _ _ _ _ _ _ us ws zs h1 h2 h3 => match us, ws, h1, h2, h3 with | [_], [_, _], _, _, h3 => by cases h3; rfl
  refine ⟨PySem.W.fnOf "law" "law" (defArgs (top 47)) (defBody (top 47)) (defScope (top 47)) .none kV12 dc12 pm12 an12 cd12 ct12, fun s v => .of_eq rfl, fun base _ _ => ?_⟩
  have D_BadText___init__ := ok_BadText___init__ (P := l.prog) (w := w) (base := base) (C := C) F0 B0 (oex_of x26i (J 26 (by decide)).d x26s (J 26 (by decide)).b (J 26 (by decide)).t (J 26 (by decide)).kp) (fun f hf => by
    simp only [List.mem_cons, List.not_mem_nil, or_false] at hf
    rcases hf with rfl
    · exact n26_at) (PySem.W.mg_of X G x26a) a0 i0 (PySem.W.mg_of X G x0a) x0r x0g x0c
  have D_Broken___init__ := ok_Broken___init__ (P := l.prog) (w := w) (base := base) (C := C) F1 B1 (oex_of x25i (J 25 (by decide)).d x25s (J 25 (by decide)).b (J 25 (by decide)).t (J 25 (by decide)).kp) (fun f hf => by
    simp only [List.mem_cons, List.not_mem_nil, or_false] at hf
    rcases hf with rfl | rfl
    · exact n25_promise
    · exact n25_place) (PySem.W.mg_of X G x25a) a1 i1 (PySem.W.mg_of X G x0a) x0r x0g x0c
  have D__law_raised_more := ok__law_raised_more (P := l.prog) (w := w) (base := base) T D_BadText___init__ D_Broken___init__ F2 (PySem.W.mg_of X G a2) B2
  have D__law_raised_one := ok__law_raised_one (P := l.prog) (w := w) (base := base) T D__law_raised_more F3 (PySem.W.mg_of X G a3) B3
  have D__law_marks := ok__law_marks (P := l.prog) (w := w) (base := base) T F4 (PySem.W.mg_of X G a4) B4
  have D__law_way_right := ok__law_way_right (P := l.prog) (w := w) (base := base) T D__law_raised_one D__law_marks F5 (PySem.W.mg_of X G a5) B5
  have D__law_fields_right := ok__law_fields_right (P := l.prog) (w := w) (base := base) T D_Broken___init__ K_Broken___init___1_place_promise D_BadText___init__ K_BadText___init___1_at F6 (PySem.W.mg_of X G a6) B6
  have D_first_state := ok_first_state (P := l.prog) (w := w) (base := base) T F7 (PySem.W.mg_of X G a7) B7
  have D_Lines___init__ := ok_Lines___init__ (P := l.prog) (w := w) (base := base) T D_first_state F8 ⟨v27m, a8, i8, v27k⟩ (PySem.W.mg_of X G v27a) B8
  have D_is_key := ok_is_key (P := l.prog) (w := w) (base := base) T F9 (PySem.W.mg_of X G a9) B9
  have D_check_key := ok_check_key (P := l.prog) (w := w) (base := base) T D_is_key F10 (PySem.W.mg_of X G a10) B10
  have D_Lines_put := ok_Lines_put (P := l.prog) (w := w) (base := base) T D_check_key F11 ⟨a11, i11, k11⟩ B11
  have D_law := ok_law (P := l.prog) (w := w) (base := base) T D__law_way_right D__law_fields_right D__law_marks D_Lines___init__ D_Lines_put F12 (PySem.W.mg_of X G a12) B12
  exact D_law.fn.imp (law_imp rfl law_true)
end K00
set_option pp.deepTerms false
set_option pp.maxSteps 300

open PySem PySem.W PyProof.Rows
set_option maxRecDepth 100000 in
set_option maxHeartbeats 0 in
theorem PySem.Challenge.cw_tokenreads_k00_error_classes_holds : PySem.Challenge.rw_tokenreads_k00_error_classes.Holds := by
  w_on; o_law; k_head; (case hw => w_witness2)
  k_fill
  refine DL.walk (l := PySem.Challenge.rw_tokenreads_k00_error_classes) 6 rfl rfl ⟨rfl, by decide, by decide⟩ (fun w h Y => PySem.W.kIn_of Y) ?F
  case F =>
    intro w mg fa h KX G hmg
    refine' K00.all_mk KX G hmg ?v27a ?x0a ?x1a ?x2a ?x3a ?x4a ?x5a ?x6a ?x7a ?x8a ?x9a ?x10a ?x11a ?x12a ?x13a ?x14a ?x15a ?x16a ?x17a ?x18a ?x19a ?x20a ?x21a ?x22a ?x23a ?x24a ?x25a ?x26a ?a0 ?i0 ?l0 ?c0 ?k0 ?a1 ?i1 ?l1 ?c1 ?k1 ?a2 ?l2 ?c2 ?k2 ?a3 ?l3 ?c3 ?k3 ?a4 ?l4 ?c4 ?k4 ?a5 ?l5 ?c5 ?k5 ?a6 ?l6 ?c6 ?k6 ?a7 ?l7 ?c7 ?k7 ?a8 ?i8 ?l8 ?c8 ?k8 ?a9 ?l9 ?c9 ?k9 ?a10 ?l10 ?c10 ?k10 ?a11 ?i11 ?l11 ?c11 ?k11 ?a12 ?l12 ?c12 ?k12 ?y0 ?y1 ?b_ValueError ?b_all ?b_isinstance ?b_len ?b_range ?b_str ?x0q ?x1q ?x2q ?x3q ?x4q ?x5q ?x6q ?x7q ?x8q ?x9q ?x10q ?x11q ?x12q ?x13q ?x14q ?x15q ?x16q ?x17q ?x18q ?x19q ?x20q ?x21q ?x22q ?x23q ?x24q ?x26i ?x26s ?n26_at ?x25i ?x25s ?n25_promise ?n25_place ?x0r ?x0g ?x0c ?cAll ?cSub ?ehn ?eht ?v27g ?v27d ?v27o ?v27s ?v27m ?v27k ?v27t ?v27i ?v27c ?v27r ?v27_27 ?v27_int ?v27_str ?v27_bool ?v27_list ?v27_tuple ?v27_dict ?n27_on_line ?n27_past ?n27_state
    (case v27a => k_is)
    (case x0a => k_is)
    (case x1a => k_is)
    (case x2a => k_is)
    (case x3a => k_is)
    (case x4a => k_is)
    (case x5a => k_is)
    (case x6a => k_is)
    (case x7a => k_is)
    (case x8a => k_is)
    (case x9a => k_is)
    (case x10a => k_is)
    (case x11a => k_is)
    (case x12a => k_is)
    (case x13a => k_is)
    (case x14a => k_is)
    (case x15a => k_is)
    (case x16a => k_is)
    (case x17a => k_is)
    (case x18a => k_is)
    (case x19a => k_is)
    (case x20a => k_is)
    (case x21a => k_is)
    (case x22a => k_is)
    (case x23a => k_is)
    (case x24a => k_is)
    (case x25a => k_is)
    (case x26a => k_is)
    (case a0 => k_is)
    (case i0 => k_is)
    (case l0 => k_is)
    (case c0 => k_is)
    (case k0 => k_is)
    (case a1 => k_is)
    (case i1 => k_is)
    (case l1 => k_is)
    (case c1 => k_is)
    (case k1 => k_is)
    (case a2 => k_is)
    (case l2 => k_is)
    (case c2 => k_is)
    (case k2 => k_is)
    (case a3 => k_is)
    (case l3 => k_is)
    (case c3 => k_is)
    (case k3 => k_is)
    (case a4 => k_is)
    (case l4 => k_is)
    (case c4 => k_is)
    (case k4 => k_is)
    (case a5 => k_is)
    (case l5 => k_is)
    (case c5 => k_is)
    (case k5 => k_is)
    (case a6 => k_is)
    (case l6 => k_is)
    (case c6 => k_is)
    (case k6 => k_is)
    (case a7 => k_is)
    (case l7 => k_is)
    (case c7 => k_is)
    (case k7 => k_is)
    (case a8 => k_is)
    (case i8 => k_is)
    (case l8 => k_is)
    (case c8 => k_is)
    (case k8 => k_is)
    (case a9 => k_is)
    (case l9 => k_is)
    (case c9 => k_is)
    (case k9 => k_is)
    (case a10 => k_is)
    (case l10 => k_is)
    (case c10 => k_is)
    (case k10 => k_is)
    (case a11 => k_is)
    (case i11 => k_is)
    (case l11 => k_is)
    (case c11 => k_is)
    (case k11 => k_is)
    (case a12 => k_is)
    (case l12 => k_is)
    (case c12 => k_is)
    (case k12 => k_is)
    (case y0 => k_is)
    (case y1 => k_is)
    (case b_ValueError => k_is)
    (case b_all => k_is)
    (case b_isinstance => k_is)
    (case b_len => k_is)
    (case b_range => k_is)
    (case b_str => k_is)
    (case x0q => k_exc)
    (case x1q => k_exc)
    (case x2q => k_exc)
    (case x3q => k_exc)
    (case x4q => k_exc)
    (case x5q => k_exc)
    (case x6q => k_exc)
    (case x7q => k_exc)
    (case x8q => k_exc)
    (case x9q => k_exc)
    (case x10q => k_exc)
    (case x11q => k_exc)
    (case x12q => k_exc)
    (case x13q => k_exc)
    (case x14q => k_exc)
    (case x15q => k_exc)
    (case x16q => k_exc)
    (case x17q => k_exc)
    (case x18q => k_exc)
    (case x19q => k_exc)
    (case x20q => k_exc)
    (case x21q => k_exc)
    (case x22q => k_exc)
    (case x23q => k_exc)
    (case x24q => k_exc)
    (case x26i => kx_is)
    (case x26s => k_is)
    (case n26_at => k_is)
    (case x25i => kx_is)
    (case x25s => k_is)
    (case n25_promise => k_is)
    (case n25_place => k_is)
    (case x0r => k_is)
    (case x0g => k_is)
    (case x0c => k_is)
    (case cAll => kernel_rfl)
    (case cSub => kernel_rfl)
    (case ehn => k_is)
    (case eht => k_is)
    (case v27g => k_is)
    (case v27d => k_is)
    (case v27o => k_is)
    (case v27s => k_is)
    (case v27m => k_is)
    (case v27k => k_is)
    (case v27t => k_is)
    (case v27i => k_is)
    (case v27c => k_is)
    (case v27r => k_is)
    (case v27_27 => k_is)
    (case v27_int => k_is)
    (case v27_str => k_is)
    (case v27_bool => k_is)
    (case v27_list => k_is)
    (case v27_tuple => k_is)
    (case v27_dict => k_is)
    (case n27_on_line => k_is)
    (case n27_past => k_is)
    (case n27_state => k_is)
