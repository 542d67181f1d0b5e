import PyProof.Rows.All
import HandS.Base
import HandS.Call
import HandS.List
import HandS.Comp
import HandS.Exc
import HandS.ExcOwn
import HandS.Dict
import HandS.TupAny
import HandS.Wide
import HandS.IsInst
import HandS.Deep
import HandS.Words
import HandS.Iter
import HandS.TryOnly
import KE.GoesMore
import KE.GoesEnum
import HandS.WordsExc
import HandS.CallSlots
import HandS.ExcInit
import HandS.ExcField
import HandS.Ends
import HandS.More
import HandS.Defaults
import HandS.Head0
import HandS.Head1
import HandS.Head2
import HandS.HeadEnd
import HandS.HeadHook1
import HandS.HeadHook2
import PySem.Challenge.RW_servedalone_k00_whole_rows_by_crews_and
set_option Elab.async false
set_option linter.all false
set_option maxRecDepth 100000
set_option maxHeartbeats 2000000
/-! L3: a shallow embedding over L2: every def becomes a plain Lean function over an abstract memory. -/
namespace L3
open PySem PySem.Spec PyProof.Rows L2

/-! ### data -/
/-- a value: tuples are trees, all else that stands in memory is an index -/
inductive D where
  | non | bl (b : Bool) | int (i : Int) | str (x : Str) | tup (xs : List D) | ref (i : Nat)

/-- an object of the memory -/
inductive O where
  | lst (xs : List D)
  | frz (xs : List D)
  | dK (kvs : List (Key × D))
  | ins (c : String) (fs : List (String × D))

abbrev Mem := List O
abbrev Sl := List (Option D)

inductive R (α : Type) where
  | ok (a : α) (M : Mem)
  | exc (c : String) (a : D) (M : Mem)
  | bad
@[reducible] def R.bind {α β : Type} (r : R α) (f : α → Mem → R β) : R β := match r with
  | .ok a M => f a M
  | .exc c a M => .exc c a M
  | .bad => .bad

abbrev ME := Sl → Mem → R D
abbrev MT := Sl → Mem → R Bool
abbrev MA := Sl → Mem → R (List D)
abbrev MF := List D → Mem → R D

/-- what of the text the relations lean on -/
structure Pg where
  K : PySem.W.Frag
  mg : Str → Option Value
abbrev _root_.L2.Cx.g (X : Cx) : Pg := ⟨X.K, X.mg⟩
/-- the field of an own error -/
def fldOf (c : String) : String :=
  if c = "InvalidNumber" then "number" else if c = "InvalidLetter" then "letter" else if c = "NoRoom" then "many" else if c = "NotHeld" then "block" else if c = "NotAlone" then "block"
  else if c = "NoRequest" then "ticket" else if c = "NoHouse" then "house" else if c = "TooLarge" then "ticket" else "?"
/-- what a name of the text is -/
abbrev nm (c : String) : Str := PySem.Str.ofString c
theorem nm_inj {a b : String} (h : nm a = nm b) : a = b := by
  unfold nm at h
  rw [PySem.Str.ofString_eq_toList, PySem.Str.ofString_eq_toList] at h
  have h1 : (a.toList.map Char.toNat).toArray = (b.toList.map Char.toNat).toArray := congrArg PySem.Str.cps h
  have h2 : a.toList.map Char.toNat = b.toList.map Char.toNat := by simpa using congrArg Array.toList h1
  have h3 : a.toList = b.toList := by
    have inj : ∀ x y : List Char, x.map Char.toNat = y.map Char.toNat → x = y := by
      intro x
      induction x with
      | nil =>
        intro y e
        cases y with
        | nil => rfl
        | cons c r => cases e
      | cons c r ih =>
        intro y e
        cases y with
        | nil => cases e
        | cons c' r' =>
          rw [List.map_cons, List.map_cons] at e
          obtain ⟨e1, e2⟩ := List.cons.inj e
          have ec : c = c' := Char.ext (UInt32.toNat_inj.mp e1)
          rw [ec, ih _ e2]
    exact inj _ _ h2
  exact String.toList_inj.mp h3

theorem nd_ix3 {α : Type} {l : List α} (hN : l.Nodup) {i j : Nat} {x : α} (a : l[i]? = some x) (b : l[j]? = some x) : i = j := by
  obtain ⟨h1, e1⟩ := List.getElem?_eq_some_iff.mp a
  obtain ⟨h2, e2⟩ := List.getElem?_eq_some_iff.mp b
  exact (List.getElem_inj hN).mp (e1.trans e2.symm)

/-! ### relations -/
def KTup (K : PySem.W.Frag) (a : Addr) (xs : List V) : Prop :=
  ∃ (o : Obj) (its : Array Value) (n : Nat), K.lookup a = some o ∧ o.cls = .type "tuple" ∧ o.data = .seq its n ∧ its.size ≤ sizeLine ∧ Vals xs its.toList
def TupAt (K : PySem.W.Frag) (φ : List Addr) (H : Hp) (p : Addr) (xs : List V) : Prop := (H p = some (.tup xs) ∧ p ∉ φ) ∨ KTup K p xs
theorem TupAt.sq {K : PySem.W.Frag} {φ : List Addr} {H : Hp} {p : Addr} {xs : List V} (h : TupAt K φ H p xs) : SqT K H p xs := by
  rcases h with ⟨h, _⟩ | h
  · exact .inl (.inl h)
  · exact .inr h

mutual
inductive Rep (K : PySem.W.Frag) (φ : List Addr) (H : Hp) : V → D → Prop
  | non : Rep K φ H .non .non
  | bl (b : Bool) : Rep K φ H (.bl b) (.bl b)
  | int (i : Int) : Rep K φ H (.int i) (.int i)
  | str (x : Str) : Rep K φ H (.str x) (.str x)
  | tup {p : Addr} {xs : List V} {ds : List D} (h : TupAt K φ H p xs) (r : Reps K φ H xs ds) : Rep K φ H (.ref p) (.tup ds)
  | ref {p : Addr} {i : Nat} (h : φ[i]? = some p) : Rep K φ H (.ref p) (.ref i)
inductive Reps (K : PySem.W.Frag) (φ : List Addr) (H : Hp) : List V → List D → Prop
  | nil : Reps K φ H [] []
  | cons {v : V} {d : D} {vs : List V} {ds : List D} (h : Rep K φ H v d) (t : Reps K φ H vs ds) : Reps K φ H (v :: vs) (d :: ds)
end

structure Ext (φ : List Addr) (H : Hp) (φ' : List Addr) (H' : Hp) : Prop where
  pre : ∃ t, φ' = φ ++ t
  un : ∀ p o, H p = some o → p ∉ φ → H' p = some o ∧ p ∉ φ'
theorem Ext.refl {φ : List Addr} {H : Hp} : Ext φ H φ H := ⟨⟨[], by simp⟩, fun p o h n => ⟨h, n⟩⟩
theorem Ext.trans {φ φ1 φ2 : List Addr} {H H1 H2 : Hp} (a : Ext φ H φ1 H1) (b : Ext φ1 H1 φ2 H2) : Ext φ H φ2 H2 := by
  obtain ⟨t1, e1⟩ := a.pre
  obtain ⟨t2, e2⟩ := b.pre
  refine ⟨⟨t1 ++ t2, by rw [e2, e1, List.append_assoc]⟩, fun p o h n => ?_⟩
  obtain ⟨h1, n1⟩ := a.un p o h n
  exact b.un p o h1 n1
theorem Ext.ix {φ φ' : List Addr} {H H' : Hp} (e : Ext φ H φ' H') {i : Nat} {p : Addr} (h : φ[i]? = some p) : φ'[i]? = some p := by
  obtain ⟨t, rfl⟩ := e.pre
  rw [List.getElem?_append_left (List.getElem?_eq_some_iff.mp h).1]
  exact h
theorem TupAt.mono {K : PySem.W.Frag} {φ φ' : List Addr} {H H' : Hp} {p : Addr} {xs : List V} (h : TupAt K φ H p xs) (e : Ext φ H φ' H') : TupAt K φ' H' p xs := by
  rcases h with ⟨h, n⟩ | h
  · exact .inl (e.un p _ h n)
  · exact .inr h

/-- what a representation leans on is kept -/
structure Keeps (K : PySem.W.Frag) (φ : List Addr) (H : Hp) (φ' : List Addr) (H' : Hp) : Prop where
  ix : ∀ (i : Nat) (p : Addr), φ[i]? = some p → φ'[i]? = some p
  tup : ∀ p xs, TupAt K φ H p xs → TupAt K φ' H' p xs
theorem Ext.keeps {K : PySem.W.Frag} {φ φ' : List Addr} {H H' : Hp} (e : Ext φ H φ' H') : Keeps K φ H φ' H' := ⟨fun _ _ h => e.ix h, fun _ _ h => h.mono e⟩
section
variable {K : PySem.W.Frag} {φ φ' : List Addr} {H H' : Hp}
mutual
theorem Rep.keep (e : Keeps K φ H φ' H') : ∀ {v : V} {d : D}, Rep K φ H v d → Rep K φ' H' v d
  | _, _, .non => .non
  | _, _, .bl b => .bl b
  | _, _, .int i => .int i
  | _, _, .str x => .str x
  | _, _, .tup h r => .tup (e.tup _ _ h) (Reps.keep e r)
  | _, _, .ref h => .ref (e.ix _ _ h)
theorem Reps.keep (e : Keeps K φ H φ' H') : ∀ {v : List V} {d : List D}, Reps K φ H v d → Reps K φ' H' v d
  | _, _, .nil => .nil
  | _, _, .cons h t => .cons (Rep.keep e h) (Reps.keep e t)
end
theorem Rep.mono (e : Ext φ H φ' H') {v : V} {d : D} (r : Rep K φ H v d) : Rep K φ' H' v d := r.keep e.keeps
theorem Reps.mono (e : Ext φ H φ' H') {v : List V} {d : List D} (r : Reps K φ H v d) : Reps K φ' H' v d := r.keep e.keeps
theorem Reps.length : ∀ {vs : List V} {ds : List D}, Reps K φ H vs ds → vs.length = ds.length
  | _, _, .nil => rfl
  | _, _, .cons _ t => by rw [List.length_cons, List.length_cons, Reps.length t]
theorem Reps.get : ∀ {vs : List V} {ds : List D} {i : Nat} {d : D}, Reps K φ H vs ds → ds[i]? = some d → ∃ v, vs[i]? = some v ∧ Rep K φ H v d
  | _, _, _, _, .nil, e => by simp at e
  | _, _, 0, _, .cons h _, e => by
    simp at e; subst e; exact ⟨_, rfl, h⟩
  | _, _, i + 1, d, .cons _ t, e => by
    obtain ⟨v, h1, h2⟩ := Reps.get (i := i) (d := d) t (by simpa using e)
    exact ⟨v, by simpa using h1, h2⟩
theorem Reps.getV : ∀ {vs : List V} {ds : List D} {i : Nat} {v : V}, Reps K φ H vs ds → vs[i]? = some v → ∃ d, ds[i]? = some d ∧ Rep K φ H v d
  | _, _, _, _, .nil, e => by simp at e
  | _, _, 0, _, .cons h _, e => by
    simp at e; subst e; exact ⟨_, rfl, h⟩
  | _, _, i + 1, d, .cons _ t, e => by
    obtain ⟨v, h1, h2⟩ := Reps.getV (i := i) (v := d) t (by simpa using e)
    exact ⟨v, by simpa using h1, h2⟩
theorem Reps.append : ∀ {vs ws : List V} {ds es : List D}, Reps K φ H vs ds → Reps K φ H ws es → Reps K φ H (vs ++ ws) (ds ++ es)
  | _, _, _, _, .nil, s => s
  | _, _, _, _, .cons h t, s => .cons h (Reps.append t s)
theorem Reps.one {v : V} {d : D} (h : Rep K φ H v d) : Reps K φ H [v] [d] := .cons h .nil
theorem Reps.take : ∀ {vs : List V} {ds : List D} (n : Nat), Reps K φ H vs ds → Reps K φ H (vs.take n) (ds.take n)
  | _, _, 0, _ => .nil
  | _, _, _ + 1, .nil => .nil
  | _, _, n + 1, .cons h t => .cons h (Reps.take n t)
theorem Reps.drop : ∀ {vs : List V} {ds : List D} (n : Nat), Reps K φ H vs ds → Reps K φ H (vs.drop n) (ds.drop n)
  | _, _, 0, r => r
  | _, _, _ + 1, .nil => .nil
  | _, _, n + 1, .cons _ t => Reps.drop n t
theorem Reps.set {v : V} {d : D} (h : Rep K φ H v d) : ∀ {vs : List V} {ds : List D} (i : Nat), Reps K φ H vs ds → Reps K φ H (vs.set i v) (ds.set i d)
  | _, _, _, .nil => .nil
  | _, _, 0, .cons _ t => .cons h t
  | _, _, i + 1, .cons g t => .cons g (Reps.set h i t)
theorem Reps.eraseIdx : ∀ {vs : List V} {ds : List D} (i : Nat), Reps K φ H vs ds → Reps K φ H (vs.eraseIdx i) (ds.eraseIdx i)
  | _, _, _, .nil => .nil
  | _, _, 0, .cons _ t => t
  | _, _, i + 1, .cons g t => .cons g (Reps.eraseIdx i t)

/-- pairs whose first parts are equal -/
inductive RepKV {κ : Type} (K : PySem.W.Frag) (φ : List Addr) (H : Hp) : List (κ × V) → List (κ × D) → Prop
  | nil : RepKV K φ H [] []
  | cons {k : κ} {v : V} {d : D} {vs : List (κ × V)} {ds : List (κ × D)} (h : Rep K φ H v d) (t : RepKV K φ H vs ds) : RepKV K φ H ((k, v) :: vs) ((k, d) :: ds)
theorem RepKV.keep {κ : Type} (e : Keeps K φ H φ' H') {vs : List (κ × V)} {ds : List (κ × D)} (r : RepKV K φ H vs ds) : RepKV K φ' H' vs ds := by
  induction r with
  | nil => exact .nil
  | cons h _ ih => exact .cons (h.keep e) ih
theorem RepKV.mono {κ : Type} (e : Ext φ H φ' H') {vs : List (κ × V)} {ds : List (κ × D)} (r : RepKV K φ H vs ds) : RepKV K φ' H' vs ds := r.keep e.keeps
theorem RepKV.length {κ : Type} {vs : List (κ × V)} {ds : List (κ × D)} (r : RepKV K φ H vs ds) : vs.length = ds.length := by
  induction r with
  | nil => rfl
  | cons h _ ih => rw [List.length_cons, List.length_cons, ih]
theorem RepKV.lookup {κ : Type} [BEq κ] {vs : List (κ × V)} {ds : List (κ × D)} (r : RepKV K φ H vs ds) (k : κ) :
    (vs.lookup k = none ∧ ds.lookup k = none) ∨ ∃ v d, vs.lookup k = some v ∧ ds.lookup k = some d ∧ Rep K φ H v d := by
  induction r with
  | nil => exact .inl ⟨rfl, rfl⟩
  | @cons k' v d vs ds h t ih =>
    simp only [List.lookup]
    cases (k == k') with
    | true => exact .inr ⟨v, d, rfl, rfl, h⟩
    | false => exact ih
end

section
variable {K : PySem.W.Frag} {φ φ' : List Addr} {H H' : Hp}
/-- the fields of an instance -/
inductive RepF (K : PySem.W.Frag) (φ : List Addr) (H : Hp) : List (Str × V) → List (String × D) → Prop
  | nil : RepF K φ H [] []
  | cons {k : String} {v : V} {d : D} {vs : List (Str × V)} {ds : List (String × D)} (h : Rep K φ H v d) (t : RepF K φ H vs ds) : RepF K φ H ((nm k, v) :: vs) ((k, d) :: ds)
theorem RepF.keep (e : Keeps K φ H φ' H') {vs : List (Str × V)} {ds : List (String × D)} (r : RepF K φ H vs ds) : RepF K φ' H' vs ds := by
  induction r with
  | nil => exact .nil
  | cons h _ ih => exact .cons (h.keep e) ih
theorem RepF.mono (e : Ext φ H φ' H') {vs : List (Str × V)} {ds : List (String × D)} (r : RepF K φ H vs ds) : RepF K φ' H' vs ds := r.keep e.keeps
theorem RepF.length {vs : List (Str × V)} {ds : List (String × D)} (r : RepF K φ H vs ds) : vs.length = ds.length := by
  induction r with
  | nil => rfl
  | cons h _ ih => rw [List.length_cons, List.length_cons, ih]
theorem RepF.lookup {vs : List (Str × V)} {ds : List (String × D)} (r : RepF K φ H vs ds) (k : String) :
    (vs.lookup (nm k) = none ∧ ds.lookup k = none) ∨ ∃ v d, vs.lookup (nm k) = some v ∧ ds.lookup k = some d ∧ Rep K φ H v d := by
  induction r with
  | nil => exact .inl ⟨rfl, rfl⟩
  | @cons k' v d vs ds h t ih =>
    simp only [List.lookup]
    by_cases e : k = k'
    · subst e
      rw [beq_self_eq_true, beq_self_eq_true]
      exact .inr ⟨v, d, rfl, rfl, h⟩
    · rw [beq_eq_false_iff_ne.mpr e, beq_eq_false_iff_ne.mpr (fun z : nm k = nm k' => e (nm_inj z))]
      exact ih
/-- a field is stored: in its place, or at the end -/
def putFld (f : String) (v : D) : List (String × D) → List (String × D)
  | [] => [(f, v)]
  | (g, x) :: r => if g = f then (g, v) :: r else (g, x) :: putFld f v r
theorem RepF.put {vs : List (Str × V)} {ds : List (String × D)} (r : RepF K φ H vs ds) (f : String) {v : V} {d : D} (h : Rep K φ H v d) : RepF K φ H (putF (nm f) v vs) (putFld f d ds) := by
  induction r with
  | nil => exact .cons h .nil
  | @cons k' v' d' vs ds h' t ih =>
    unfold putF putFld
    by_cases e : k' = f
    · rw [if_pos e, if_pos (congrArg nm e)]
      exact .cons h t
    · rw [if_neg e, if_neg (fun z => e (nm_inj z))]
      exact .cons h' ih

end
def RepO (G : Pg) (φ : List Addr) (H : Hp) (p : Addr) : O → Prop
  | .lst ds => ∃ xs, H p = some (.lst xs) ∧ Reps G.K φ H xs ds
  | .frz ds => ∃ o xs, H p = some (.frz o (.lst xs)) ∧ Reps G.K φ H xs ds
  | .dK kvs => ∃ kvs', H p = some (.dK kvs') ∧ RepKV G.K φ H kvs' kvs
  | .ins c fs => ∃ C dx fs', G.mg (nm c) = some (.ref C) ∧ H p = some (.ins C dx fs') ∧ RepF G.K φ H fs' fs
theorem RepO.keep {G : Pg} {φ φ' : List Addr} {H H' : Hp} {p : Addr} {o : O} (r : RepO G φ H p o) (e : Keeps G.K φ H φ' H') (hp : H' p = H p) : RepO G φ' H' p o := by
  cases o with
  | lst ds => obtain ⟨xs, h, r⟩ := r; exact ⟨xs, hp.trans h, r.keep e⟩
  | frz ds => obtain ⟨o, xs, h, r⟩ := r; exact ⟨o, xs, hp.trans h, r.keep e⟩
  | dK kvs => obtain ⟨xs, h, r⟩ := r; exact ⟨xs, hp.trans h, r.keep e⟩
  | ins c fs => obtain ⟨C, dx, xs, g, h, r⟩ := r; exact ⟨C, dx, xs, g, hp.trans h, r.keep e⟩
theorem RepO.mono {G : Pg} {φ φ' : List Addr} {H H' : Hp} {p : Addr} {o : O} (r : RepO G φ H p o) (e : Ext φ H φ' H') (hp : H' p = H p) : RepO G φ' H' p o := r.keep e.keeps hp
theorem RepO.there {G : Pg} {φ : List Addr} {H : Hp} {p : Addr} {o : O} (r : RepO G φ H p o) : ∃ u, H p = some u ∧ ∀ xs, u ≠ .tup xs := by
  cases o with
  | lst ds => obtain ⟨xs, h, r⟩ := r; exact ⟨_, h, fun xs z => by cases z⟩
  | frz ds => obtain ⟨o, xs, h, r⟩ := r; exact ⟨_, h, fun xs z => by cases z⟩
  | dK kvs => obtain ⟨xs, h, r⟩ := r; exact ⟨_, h, fun xs z => by cases z⟩
  | ins c fs => obtain ⟨C, dx, xs, g, h, r⟩ := r; exact ⟨_, h, fun xs z => by cases z⟩

structure RelM (G : Pg) (φ : List Addr) (H : Hp) (M : Mem) : Prop where
  len : φ.length = M.length
  nd : φ.Nodup
  at_ : ∀ (i : Nat) (p : Addr) (o : O), φ[i]? = some p → M[i]? = some o → RepO G φ H p o
section
variable {G : Pg} {φ φ' : List Addr} {H H' : Hp} {M M' : Mem}
theorem RelM.obj (r : RelM G φ H M) {i : Nat} {p : Addr} (h : φ[i]? = some p) : ∃ o, M[i]? = some o ∧ RepO G φ H p o := by
  have hi : i < M.length := by
    rw [← r.len]
    exact (List.getElem?_eq_some_iff.mp h).1
  exact ⟨M[i], by rw [List.getElem?_eq_getElem hi], r.at_ i p _ h (by rw [List.getElem?_eq_getElem hi])⟩
theorem RelM.adr (r : RelM G φ H M) {i : Nat} {o : O} (h : M[i]? = some o) : ∃ p, φ[i]? = some p ∧ RepO G φ H p o := by
  have hi : i < φ.length := by
    rw [r.len]
    exact (List.getElem?_eq_some_iff.mp h).1
  exact ⟨φ[i], by rw [List.getElem?_eq_getElem hi], r.at_ i _ o (by rw [List.getElem?_eq_getElem hi]) h⟩
theorem RelM.tracked (r : RelM G φ H M) {p : Addr} (h : p ∈ φ) : ∃ u, H p = some u ∧ ∀ xs, u ≠ .tup xs := by
  obtain ⟨i, hi⟩ := List.getElem?_of_mem h
  obtain ⟨o, _, q⟩ := r.obj hi
  exact q.there
theorem RelM.fresh (r : RelM G φ H M) {p : Addr} (h : H p = none) : p ∉ φ := fun z => by
  obtain ⟨u, q, _⟩ := r.tracked z
  rw [h] at q
  cases q
/-- something new, not tracked -/
theorem Ext.laid (r : RelM G φ H M) {p : Addr} {u : HO} (hp : H p = none) : Ext φ H φ (upd H p u) :=
  ⟨⟨[], by simp⟩, fun q o h n => ⟨by rw [upd_ne (ne_of_none h hp)]; exact h, n⟩⟩
theorem RelM.laid (r : RelM G φ H M) {p : Addr} {u : HO} (hp : H p = none) : RelM G φ (upd H p u) M :=
  ⟨r.len, r.nd, fun i q o h1 h2 => (r.at_ i q o h1 h2).mono (Ext.laid r hp) (by
    have : q ≠ p := fun z => by
      subst z
      exact r.fresh hp (List.mem_of_getElem? h1)
    rw [upd_ne this])⟩
/-- an untracked thing, no tuple, gets tracked; or changes -/
theorem Keeps.track {K : PySem.W.Frag} {p : Addr} (hT : ∀ xs, H p ≠ some (.tup xs)) : Keeps K φ H (φ ++ [p]) H := by
  refine ⟨fun i q h => ?_, fun q xs h => ?_⟩
  · rw [List.getElem?_append_left (List.getElem?_eq_some_iff.mp h).1]
    exact h
  · rcases h with ⟨h, n'⟩ | h
    · refine .inl ⟨h, fun z => ?_⟩
      rcases List.mem_append.mp z with z | z
      · exact n' z
      · have e : q = p := by simpa using z
        subst e
        exact hT _ h
    · exact .inr h
theorem Keeps.poke {K : PySem.W.Frag} {p : Addr} {u : HO} (hT : ∀ xs, H p ≠ some (.tup xs)) : Keeps K φ H φ (upd H p u) := by
  refine ⟨fun i q h => h, fun q xs h => ?_⟩
  rcases h with ⟨h, n'⟩ | h
  · have ne : q ≠ p := fun z => hT xs (z ▸ h)
    exact .inl ⟨by rw [upd_ne ne]; exact h, n'⟩
  · exact .inr h
theorem RelM.poke (r : RelM G φ H M) {p : Addr} {u : HO} (n : p ∉ φ) (hT : ∀ xs, H p ≠ some (.tup xs)) : RelM G φ (upd H p u) M :=
  ⟨r.len, r.nd, fun i q o h1 h2 => (r.at_ i q o h1 h2).keep (Keeps.poke hT) (by
    have : q ≠ p := fun z => by
      subst z
      exact n (List.mem_of_getElem? h1)
    rw [upd_ne this])⟩
/-- what was untracked is tracked -/
theorem RelM.track (r : RelM G φ H M) {p : Addr} {o : O} (n : p ∉ φ) (ho : RepO G (φ ++ [p]) H p o) (hT : ∀ xs, H p ≠ some (.tup xs)) : RelM G (φ ++ [p]) H (M ++ [o]) := by
  refine ⟨by simp [r.len], ?_, fun i q u h1 h2 => ?_⟩
  · rw [List.nodup_append]
    refine ⟨r.nd, by simp, fun a ha b hb => ?_⟩
    have e : b = p := by simpa using hb
    subst e
    exact fun z => n (z ▸ ha)
  · by_cases hi : i < φ.length
    · rw [List.getElem?_append_left hi] at h1
      rw [List.getElem?_append_left (by rw [← r.len]; exact hi)] at h2
      exact (r.at_ i q u h1 h2).keep (Keeps.track hT) rfl
    · have hi2 : i = φ.length := by
        have := (List.getElem?_eq_some_iff.mp h1).1
        rw [List.length_append, List.length_singleton] at this
        omega
      subst hi2
      rw [List.getElem?_append_right (Nat.le_refl _), Nat.sub_self] at h1
      rw [r.len, List.getElem?_append_right (Nat.le_refl _), Nat.sub_self] at h2
      cases h1
      cases h2
      exact ho
/-- .. seen from a heap where it was not there -/
theorem Ext.track {p : Addr} (e : Ext φ H φ' H') (hp : H p = none) : Ext φ H (φ' ++ [p]) H' := by
  obtain ⟨t, rfl⟩ := e.pre
  refine ⟨⟨t ++ [p], by rw [List.append_assoc]⟩, fun q o h n => ?_⟩
  obtain ⟨h1, n1⟩ := e.un q o h n
  refine ⟨h1, fun z => ?_⟩
  rcases List.mem_append.mp z with z | z
  · exact n1 z
  · have z' : q = p := by simpa using z
    subst z'
    rw [hp] at h
    cases h
/-- a tracked object is written -/
theorem Ext.put (r : RelM G φ H M) {i : Nat} {p : Addr} {u : HO} (h : φ[i]? = some p) : Ext φ H φ (upd H p u) :=
  ⟨⟨[], by simp⟩, fun q o hq n => ⟨by
    have : q ≠ p := fun z => by
      subst z
      exact n (List.mem_of_getElem? h)
    rw [upd_ne this]
    exact hq, n⟩⟩
theorem RelM.put (r : RelM G φ H M) {i : Nat} {p : Addr} {u : HO} {o : O} (h : φ[i]? = some p) (ho : RepO G φ (upd H p u) p o) : RelM G φ (upd H p u) (M.set i o) := by
  refine ⟨by simp [r.len], r.nd, fun j q o' h1 h2 => ?_⟩
  by_cases e : j = i
  · subst e
    rw [h] at h1
    cases h1
    have hi : j < M.length := by
      rw [← r.len]
      exact (List.getElem?_eq_some_iff.mp h).1
    rw [List.getElem?_set_self hi] at h2
    cases h2
    exact ho
  · rw [List.getElem?_set_ne (Ne.symm e)] at h2
    have hne : q ≠ p := fun z => by
      subst z
      exact e (nd_ix3 r.nd h1 h)
    exact (r.at_ j q o' h1 h2).mono (Ext.put r h) (by rw [upd_ne hne])
end

/-! ### states -/
structure At (G : Pg) (φ : List Addr) (H : Hp) (σ : L2.St) (s : Sl) (M : Mem) : Prop where
  len : σ.length = s.length
  sl : ∀ (i : Nat) (d : D), s[i]? = some (some d) → ∃ v, σ[i]? = some (some v) ∧ Rep G.K φ H v d
  mem : RelM G φ H M
theorem At.to {G : Pg} {φ φ' : List Addr} {H H' : Hp} {σ : L2.St} {s : Sl} {M M' : Mem} (a : At G φ H σ s M) (e : Ext φ H φ' H') (r : RelM G φ' H' M') : At G φ' H' σ s M' :=
  ⟨a.len, fun i d h => by
    obtain ⟨v, h1, h2⟩ := a.sl i d h
    exact ⟨v, h1, h2.mono e⟩, r⟩
theorem At.set {G : Pg} {φ : List Addr} {H : Hp} {σ : L2.St} {s : Sl} {M : Mem} {v : V} {d : D} (a : At G φ H σ s M) (r : Rep G.K φ H v d) (i : Nat) : At G φ H (σ.set i (some v)) (s.set i (some d)) M := by
  refine ⟨by simp [a.len], fun j e h => ?_, a.mem⟩
  by_cases hj : j = i
  · subst hj
    have hl : j < s.length := by
      have := (List.getElem?_eq_some_iff.mp h).1
      simpa using this
    rw [List.getElem?_set_self hl] at h
    cases h
    exact ⟨v, by rw [List.getElem?_set_self (by rw [a.len]; exact hl)], r⟩
  · rw [List.getElem?_set_ne (Ne.symm hj)] at h
    obtain ⟨w, h1, h2⟩ := a.sl j e h
    exact ⟨w, by rw [List.getElem?_set_ne (Ne.symm hj)]; exact h1, h2⟩
theorem At.wipe1 {G : Pg} {φ : List Addr} {H : Hp} {σ : L2.St} {s : Sl} {M : Mem} (a : At G φ H σ s M) (i : Nat) (o : Option V) : At G φ H (σ.set i o) (s.set i none) M := by
  refine ⟨by simp [a.len], fun j e h => ?_, a.mem⟩
  by_cases hj : j = i
  · subst hj
    have hl : j < s.length := by
      have := (List.getElem?_eq_some_iff.mp h).1
      simpa using this
    rw [List.getElem?_set_self hl] at h
    cases h
  · rw [List.getElem?_set_ne (Ne.symm hj)] at h
    obtain ⟨w, h1, h2⟩ := a.sl j e h
    exact ⟨w, by rw [List.getElem?_set_ne (Ne.symm hj)]; exact h1, h2⟩

/-- how an exception with the value a lies -/
def ExcTo (G : Pg) (φ : List Addr) (H : Hp) (w : Value → Option Addr → Hp → Prop) (c : String) (a : D) (M' : Mem) : Prop :=
  ∀ φ' H' C dx v, Ext φ H φ' H' → RelM G φ' H' M' → G.mg (nm c) = some (.ref C) → H' dx = some (.xd [(nm (fldOf c), v)]) → Rep G.K φ' H' v a → w (.ref C) (some dx) H'

/-! ### expressions -/
def PostG {α : Type} (G : Pg) (φ : List Addr) (H : Hp) (w : Value → Option Addr → Hp → Prop) (Kk : List Addr → Hp → α → Prop) : R α → Prop
  | .ok a M' => ∀ φ' H', Ext φ H φ' H' → RelM G φ' H' M' → Kk φ' H' a
  | .exc c a M' => ExcTo G φ H w c a M'
  | .bad => False
abbrev kE (G : Pg) (Q : VK) : List Addr → Hp → D → Prop := fun φ' H' d => ∀ v, Rep G.K φ' H' v d → Q v H'
abbrev kB (Q : Bool → Hp → Prop) : List Addr → Hp → Bool → Prop := fun _ H' b => Q b H'
abbrev kA (G : Pg) (Q : List V → Hp → Prop) : List Addr → Hp → List D → Prop := fun φ' H' ds => ∀ vs, Reps G.K φ' H' vs ds → Q vs H'
/-- a new list that nothing tracks -/
abbrev kL (G : Pg) (H : Hp) (Q : VK) : List Addr → Hp → List D → Prop := fun φ' H' ds => ∀ p vs, H p = none → H' p = some (.lst vs) → p ∉ φ' → Reps G.K φ' H' vs ds → Q (.ref p) H'

/-- a sequence: a tuple, a list that is tracked, a list that is not -/
inductive Src where
  | tup (ds : List D) | lst (i : Nat) | tmp (ds : List D)
inductive SrcAt (K : PySem.W.Frag) (φ : List Addr) (H : Hp) : V → Src → Prop
  | tup {p : Addr} {xs : List V} {ds : List D} (h : TupAt K φ H p xs) (r : Reps K φ H xs ds) : SrcAt K φ H (.ref p) (.tup ds)
  | lst {p : Addr} {i : Nat} (h : φ[i]? = some p) : SrcAt K φ H (.ref p) (.lst i)
  | tmp {p : Addr} {xs : List V} {ds : List D} (h : H p = some (.lst xs)) (n : p ∉ φ) (r : Reps K φ H xs ds) : SrcAt K φ H (.ref p) (.tmp ds)
theorem SrcAt.mono {K : PySem.W.Frag} {φ φ' : List Addr} {H H' : Hp} {v : V} {x : Src} (r : SrcAt K φ H v x) (e : Ext φ H φ' H') : SrcAt K φ' H' v x := by
  cases r with
  | tup h r => exact .tup (h.mono e) (r.mono e)
  | lst h => exact .lst (e.ix h)
  | tmp h n r => exact .tmp (e.un _ _ h n).1 (e.un _ _ h n).2 (r.mono e)
def Src.get (M : Mem) : Src → Option (List D)
  | .tup ds => some ds
  | .tmp ds => some ds
  | .lst i => match M[i]? with
    | some (.lst ds) => some ds
    | some (.frz ds) => some ds
    | _ => none
/-- it may be read as a list or as a tuple -/
theorem SrcAt.read {G : Pg} {φ : List Addr} {H : Hp} {M : Mem} {v : V} {x : Src} {ds : List D} (r : SrcAt G.K φ H v x) (m : RelM G φ H M) (e : x.get M = some ds) :
    ∃ p xs, v = .ref p ∧ Reps G.K φ H xs ds ∧ ((∃ i, x = .lst i ∧ SqL G.K H p xs) ∨ (∃ es, x = .tmp es ∧ SqL G.K H p xs) ∨ ∃ es, x = .tup es ∧ TupAt G.K φ H p xs) := by
  cases r with
  | tup h r =>
    cases e
    exact ⟨_, _, rfl, r, .inr (.inr ⟨_, rfl, h⟩)⟩
  | tmp h n r =>
    cases e
    exact ⟨_, _, rfl, r, .inr (.inl ⟨_, rfl, .inl (.inl h)⟩)⟩
  | @lst p i h =>
    obtain ⟨o, ho, ro⟩ := m.obj h
    dsimp only [Src.get] at e
    rw [ho] at e
    cases o with
    | lst es =>
      cases e
      obtain ⟨xs, h2, r2⟩ := ro
      exact ⟨p, xs, rfl, r2, .inl ⟨i, rfl, .inl (.inl h2)⟩⟩
    | frz es =>
      cases e
      obtain ⟨o, xs, h2, r2⟩ := ro
      exact ⟨p, xs, rfl, r2, .inl ⟨i, rfl, .inl (.inr ⟨o, h2⟩)⟩⟩
    | dK kvs => cases e
    | ins c fs => cases e
theorem SrcAt.seq {G : Pg} {φ : List Addr} {H : Hp} {M : Mem} {v : V} {x : Src} {ds : List D} (r : SrcAt G.K φ H v x) (m : RelM G φ H M) (e : x.get M = some ds) :
    ∃ p xs, v = .ref p ∧ Reps G.K φ H xs ds ∧ (SqL G.K H p xs ∨ SqT G.K H p xs) := by
  obtain ⟨p, xs, h1, h2, h3⟩ := r.read m e
  rcases h3 with ⟨_, _, h3⟩ | ⟨_, _, h3⟩ | ⟨_, _, h3⟩
  · exact ⟨p, xs, h1, h2, .inl h3⟩
  · exact ⟨p, xs, h1, h2, .inl h3⟩
  · exact ⟨p, xs, h1, h2, .inr h3.sq⟩
abbrev MQ := Sl → Mem → R Src
abbrev kQ (G : Pg) (Q : VK) : List Addr → Hp → Src → Prop := fun φ' H' x => ∀ v, SrcAt G.K φ' H' v x → Q v H'

/-- a reading by a function of slots and memory -/
def tG {α β : Type} (G : Pg) (W : WX) (kk : Hp → β → List Addr → Hp → α → Prop) (m : Sl → Mem → R α) : L2.St → Hp → β → Prop := fun σ H Q =>
  ∃ φ s M, At G φ H σ s M ∧ PostG G φ H (fun c d H' => W c d σ H') (kk H Q) (m s M)
abbrev tE (G : Pg) (W : WX) (m : ME) : TE := tG G W (fun _ Q => kE G Q) m
abbrev tT (G : Pg) (W : WX) (m : MT) : TT := tG G W (fun _ Q => kB Q) m
abbrev tA (G : Pg) (W : WX) (m : MA) : TA := tG G W (fun _ Q => kA G Q) m
abbrev tL (G : Pg) (W : WX) (m : MA) : TE := tG G W (fun H Q => kL G H Q) m
abbrev tQ (G : Pg) (W : WX) (m : MQ) : TE := tG G W (fun _ Q => kQ G Q) m

structure PE3 (X : Cx) (e : Expr) (m : ME) : Prop where
  run : ∀ W, Takes X W → PE X e (tE X.g W m)
structure PT3 (X : Cx) (e : Expr) (m : MT) : Prop where
  run : ∀ W, Takes X W → PT X e (tT X.g W m)
structure PA3 (X : Cx) (es : List Expr) (m : MA) : Prop where
  run : ∀ W, Takes X W → PA X es (tA X.g W m)
structure PL3 (X : Cx) (e : Expr) (m : MA) : Prop where
  run : ∀ W, Takes X W → PE X e (tL X.g W m)
structure PQ3 (X : Cx) (e : Expr) (m : MQ) : Prop where
  run : ∀ W, Takes X W → PE X e (tQ X.g W m)

theorem PE.weak {X : Cx} {e : Expr} {t t' : TE} (h : PE X e t) (k : ∀ σ H Q, t' σ H Q → t σ H Q) : PE X e t' := ⟨fun pins s σ H Q I q => h.run pins s σ H Q I (k σ H Q q)⟩
theorem PT.weak {X : Cx} {e : Expr} {t t' : TT} (h : PT X e t) (k : ∀ σ H Q, t' σ H Q → t σ H Q) : PT X e t' := ⟨fun pins s σ H Q I q => h.run pins s σ H Q I (k σ H Q q)⟩
theorem PA.weak {X : Cx} {e : List Expr} {t t' : TA} (h : PA X e t) (k : ∀ σ H Q, t' σ H Q → t σ H Q) : PA X e t' := ⟨fun pos pins s σ H Q I q => h.run pos pins s σ H Q I (k σ H Q q)⟩

theorem ExcTo.of {G : Pg} {φ φ1 : List Addr} {H H1 : Hp} {w : Value → Option Addr → Hp → Prop} {c : String} {a : D} {M' : Mem} (h : ExcTo G φ H w c a M') (e : Ext φ H φ1 H1) : ExcTo G φ1 H1 w c a M' :=
  fun φ' H' C dx v e' => h φ' H' C dx v (e.trans e')
theorem PostG.of {α : Type} {G : Pg} {φ φ1 : List Addr} {H H1 : Hp} {w : Value → Option Addr → Hp → Prop} {Kk : List Addr → Hp → α → Prop} {r : R α} (h : PostG G φ H w Kk r) (e : Ext φ H φ1 H1) : PostG G φ1 H1 w Kk r := by
  cases r with
  | ok a M' => exact fun φ' H' e' => h φ' H' (e.trans e')
  | exc c a M' => exact ExcTo.of h e
  | bad => exact h
theorem Ext.back {G : Pg} {φ φ' : List Addr} {H H' : Hp} {M : Mem} (e : Ext φ H φ' H') (r : RelM G φ' H' M) {p : Addr} (h : H' p = none) : H p = none := by
  cases q : H p with
  | none => rfl
  | some o =>
    by_cases hp : p ∈ φ
    · obtain ⟨t, rfl⟩ := e.pre
      obtain ⟨u, z, _⟩ := r.tracked (List.mem_append_left _ hp)
      rw [h] at z
      cases z
    · have z := (e.un p o q hp).1
      rw [h] at z
      cases z

/-- THE STEP: a part is evaluated, then the rest -/
theorem bindG {α β γ : Type} {G : Pg} {W : WX} {φ : List Addr} {H : Hp} {σ : L2.St} {s : Sl} {M : Mem} {Kb : List Addr → Hp → β → Prop} {kk : Hp → γ → List Addr → Hp → α → Prop} {m : Sl → Mem → R α} {f : α → Mem → R β} (a : At G φ H σ s M)
    (h : PostG G φ H (fun c d H' => W c d σ H') Kb ((m s M).bind f)) {Q : γ}
    (k : ∀ φ1 H1 M1 d, At G φ1 H1 σ s M1 → Ext φ H φ1 H1 → PostG G φ1 H1 (fun c d H' => W c d σ H') Kb (f d M1) → kk H Q φ1 H1 d) : tG G W kk m σ H Q := by
  refine ⟨φ, s, M, a, ?_⟩
  cases e : m s M with
  | ok d M1 =>
    rw [e] at h
    have h' : PostG G φ H (fun c d H' => W c d σ H') Kb (f d M1) := h
    exact fun φ' H' ex rm => k φ' H' M1 d (a.to ex rm) ex (PostG.of h' ex)
  | exc c d M1 =>
    rw [e] at h
    exact h
  | bad =>
    rw [e] at h
    exact h
/-- .. with what is wanted as it was said at an earlier state -/
theorem bindG0 {α β γ : Type} {G : Pg} {W : WX} {φ φs : List Addr} {H Hs : Hp} {σ : L2.St} {s : Sl} {M : Mem} {Kb : List Addr → Hp → β → Prop} {kk : Hp → γ → List Addr → Hp → α → Prop} {m : Sl → Mem → R α} {f : α → Mem → R β} (a : At G φ H σ s M) (es : Ext φs Hs φ H)
    (h : PostG G φs Hs (fun c d H' => W c d σ H') Kb ((m s M).bind f)) {Q : γ}
    (k : ∀ φ1 H1 M1 d, At G φ1 H1 σ s M1 → Ext φ H φ1 H1 → PostG G φs Hs (fun c d H' => W c d σ H') Kb (f d M1) → kk H Q φ1 H1 d) : tG G W kk m σ H Q := by
  refine ⟨φ, s, M, a, ?_⟩
  cases e : m s M with
  | ok d M1 =>
    rw [e] at h
    exact fun φ' H' ex rm => k φ' H' M1 d (a.to ex rm) ex h
  | exc c d M1 =>
    rw [e] at h
    exact ExcTo.of (show ExcTo G φs Hs (fun c d H' => W c d σ H') c d M1 from h) es
  | bad =>
    rw [e] at h
    exact h
section
variable {β : Type} {G : Pg} {W : WX} {φ : List Addr} {H : Hp} {σ : L2.St} {s : Sl} {M : Mem} {Kb : List Addr → Hp → β → Prop}
theorem bindE (a : At G φ H σ s M) {m : ME} {f : D → Mem → R β} (h : PostG G φ H (fun c d H' => W c d σ H') Kb ((m s M).bind f)) {Q : VK}
    (k : ∀ φ1 H1 M1 d v, At G φ1 H1 σ s M1 → Ext φ H φ1 H1 → Rep G.K φ1 H1 v d → PostG G φ1 H1 (fun c d H' => W c d σ H') Kb (f d M1) → Q v H1) : tE G W m σ H Q :=
  bindG (kk := fun _ Q => kE G Q) a h fun φ1 H1 M1 d a1 e1 h1 v r => k φ1 H1 M1 d v a1 e1 r h1
theorem bindT (a : At G φ H σ s M) {m : MT} {f : Bool → Mem → R β} (h : PostG G φ H (fun c d H' => W c d σ H') Kb ((m s M).bind f)) {Q : Bool → Hp → Prop}
    (k : ∀ φ1 H1 M1 d, At G φ1 H1 σ s M1 → Ext φ H φ1 H1 → PostG G φ1 H1 (fun c d H' => W c d σ H') Kb (f d M1) → Q d H1) : tT G W m σ H Q :=
  bindG (kk := fun _ Q => kB Q) a h fun φ1 H1 M1 d a1 e1 h1 => k φ1 H1 M1 d a1 e1 h1
theorem bindA (a : At G φ H σ s M) {m : MA} {f : List D → Mem → R β} (h : PostG G φ H (fun c d H' => W c d σ H') Kb ((m s M).bind f)) {Q : List V → Hp → Prop}
    (k : ∀ φ1 H1 M1 d v, At G φ1 H1 σ s M1 → Ext φ H φ1 H1 → Reps G.K φ1 H1 v d → PostG G φ1 H1 (fun c d H' => W c d σ H') Kb (f d M1) → Q v H1) : tA G W m σ H Q :=
  bindG (kk := fun _ Q => kA G Q) a h fun φ1 H1 M1 d a1 e1 h1 v r => k φ1 H1 M1 d v a1 e1 r h1
theorem bindQ (a : At G φ H σ s M) {m : MQ} {f : Src → Mem → R β} (h : PostG G φ H (fun c d H' => W c d σ H') Kb ((m s M).bind f)) {Q : VK}
    (k : ∀ φ1 H1 M1 d v, At G φ1 H1 σ s M1 → Ext φ H φ1 H1 → SrcAt G.K φ1 H1 v d → PostG G φ1 H1 (fun c d H' => W c d σ H') Kb (f d M1) → Q v H1) : tQ G W m σ H Q :=
  bindG (kk := fun _ Q => kQ G Q) a h fun φ1 H1 M1 d a1 e1 h1 v r => k φ1 H1 M1 d v a1 e1 r h1
theorem bindL (a : At G φ H σ s M) {m : MA} {f : List D → Mem → R β} (h : PostG G φ H (fun c d H' => W c d σ H') Kb ((m s M).bind f)) {Q : VK}
    (k : ∀ φ1 H1 M1 d p vs, At G φ1 H1 σ s M1 → Ext φ H φ1 H1 → H p = none → H1 p = some (.lst vs) → p ∉ φ1 → Reps G.K φ1 H1 vs d → PostG G φ1 H1 (fun c d H' => W c d σ H') Kb (f d M1) → Q (.ref p) H1) : tL G W m σ H Q :=
  bindG (kk := fun H Q => kL G H Q) a h fun φ1 H1 M1 d a1 e1 h1 p vs z1 z2 z3 z4 => k φ1 H1 M1 d p vs a1 e1 z1 z2 z3 z4 h1
end
/-- from the same state, by what the function gives -/
theorem sameG {α β γ : Type} {G : Pg} {W : WX} {φ : List Addr} {H : Hp} {σ : L2.St} {s : Sl} {M : Mem} {Kb : List Addr → Hp → β → Prop} {kk : Hp → γ → List Addr → Hp → α → Prop} {m : Sl → Mem → R α} {g : R α → R β} (a : At G φ H σ s M)
    (h : PostG G φ H (fun c d H' => W c d σ H') Kb (g (m s M))) {Q : γ}
    (he : ∀ c d M1, g (.exc c d M1) = .exc c d M1) (hb : g .bad = .bad)
    (k : ∀ φ1 H1 M1 d, At G φ1 H1 σ s M1 → Ext φ H φ1 H1 → PostG G φ1 H1 (fun c d H' => W c d σ H') Kb (g (.ok d M1)) → kk H Q φ1 H1 d) : tG G W kk m σ H Q := by
  refine ⟨φ, s, M, a, ?_⟩
  cases e : m s M with
  | ok d M1 =>
    rw [e] at h
    exact fun φ' H' ex rm => k φ' H' M1 d (a.to ex rm) ex (PostG.of h ex)
  | exc c d M1 =>
    rw [e, he] at h
    exact h
  | bad =>
    rw [e, hb] at h
    exact h
/-- at the end: nothing is left to evaluate -/
theorem At.fin {α : Type} {G : Pg} {W : WX} {φ : List Addr} {H : Hp} {σ : L2.St} {s : Sl} {M : Mem} {Kb : List Addr → Hp → α → Prop} (a : At G φ H σ s M) {x : α} (h : PostG G φ H (fun c d H' => W c d σ H') Kb (.ok x M)) : Kb φ H x := h φ H Ext.refl a.mem
theorem At.finE {G : Pg} {W : WX} {φ : List Addr} {H : Hp} {σ : L2.St} {s : Sl} {M : Mem} {Q : VK} (a : At G φ H σ s M) {x : D} (h : PostG G φ H (fun c d H' => W c d σ H') (kE G Q) (.ok x M)) (v : V) (r : Rep G.K φ H v x) : Q v H := h φ H Ext.refl a.mem v r
theorem At.finL {G : Pg} {W : WX} {φ : List Addr} {H H0 : Hp} {σ : L2.St} {s : Sl} {M : Mem} {Q : VK} (a : At G φ H σ s M) {x : List D} (h : PostG G φ H (fun c d H' => W c d σ H') (kL G H0 Q) (.ok x M)) : kL G H0 Q φ H x := h φ H Ext.refl a.mem
end L3
set_option Elab.async false
set_option linter.all false
set_option maxRecDepth 100000
set_option maxHeartbeats 2000000
/-! L3b: expressions. -/
namespace L3
open PySem PySem.Spec PyProof.Rows L2

/-! ### the functions -/
def eV (i : Nat) : ME := fun s M => match s[i]? with
  | some (some d) => .ok d M
  | _ => .bad
def eC (d : D) : ME := fun _ M => .ok d M
def eBin (f : D → D → Mem → R D) (a b : ME) : ME := fun s M => (a s M).bind fun x M1 => (b s M1).bind fun y M2 => f x y M2
def eUn (f : D → Mem → R D) (a : ME) : ME := fun s M => (a s M).bind f
def opAdd : D → D → Mem → R D
  | .int i, .int j, M => .ok (.int (i + j)) M
  | .str a, .str b, M => if a.length + b.length ≤ sizeLine then .ok (.str (a ++ b)) M else .bad
  | .tup a, .tup b, M => if a.length + b.length ≤ sizeLine then .ok (.tup (a ++ b)) M else .bad
  | _, _, _ => .bad
def opSub : D → D → Mem → R D
  | .int i, .int j, M => .ok (.int (i - j)) M
  | _, _, _ => .bad
def okMul (i j : Int) : Prop := i.natAbs < 18446744073709551616 ∨ j.natAbs < 18446744073709551616 ∨ i.natAbs.log2 + j.natAbs.log2 < 1000000
instance (i j : Int) : Decidable (okMul i j) := by unfold okMul; infer_instance
def opMul : D → D → Mem → R D
  | .int i, .int j, M => if okMul i j then .ok (.int (i * j)) M else .bad
  | _, _, _ => .bad
def opDiv : D → D → Mem → R D
  | .int i, .int j, M => if 0 < j ∧ j.natAbs.log2 < 9000 then .ok (.int (i / j)) M else .bad
  | _, _, _ => .bad
def opMod : D → D → Mem → R D
  | .int i, .int j, M => if 0 < j then .ok (.int (i % j)) M else .bad
  | _, _, _ => .bad
def opPow : D → D → Mem → R D
  | .int i, .int j, M => if 0 ≤ j ∧ j ≤ 1000000 ∧ i.natAbs < 2 ^ 64 then .ok (.int (i ^ j.toNat)) M else .bad
  | _, _, _ => .bad
def opLt : D → D → Mem → R D
  | .int i, .int j, M => .ok (.bl (decide (i < j))) M
  | _, _, _ => .bad
def opLe : D → D → Mem → R D
  | .int i, .int j, M => .ok (.bl (decide (i ≤ j))) M
  | _, _, _ => .bad
def opGt : D → D → Mem → R D
  | .int i, .int j, M => .ok (.bl (decide (j < i))) M
  | _, _, _ => .bad
def opGe : D → D → Mem → R D
  | .int i, .int j, M => .ok (.bl (decide (j ≤ i))) M
  | _, _, _ => .bad
def isNon : D → Bool
  | .non => true
  | _ => false
def opIsN : D → Mem → R D := fun d M => .ok (.bl (isNon d)) M
def opNotN : D → Mem → R D := fun d M => .ok (.bl (!isNon d)) M
/-- data as the model's shaped data, to a depth -/
def pyD : Nat → Mem → D → Option PyData
  | 0, _, _ => none
  | _ + 1, _, .non => some .none
  | _ + 1, _, .bl b => some (.bool b)
  | _ + 1, _, .int i => some (.int i)
  | _ + 1, _, .str x => some (.str x)
  | n + 1, M, .tup xs => (xs.mapM (pyD n M)).map .tuple
  | n + 1, M, .ref i => match M[i]? with
    | some (.lst xs) => (xs.mapM (pyD n M)).map .list
    | some (.frz xs) => (xs.mapM (pyD n M)).map .list
    | _ => none
def opEq : D → D → Mem → R D := fun x y M => match pyD 20 M x, pyD 20 M y with
  | some p, some q => if SeqAt.shaped p = true ∧ SeqAt.shaped q = true then .ok (.bl (PyData.eqv p q)) M else .bad
  | _, _ => .bad
def opNe : D → D → Mem → R D := fun x y M => match pyD 20 M x, pyD 20 M y with
  | some p, some q => if SeqAt.shaped p = true ∧ SeqAt.shaped q = true then .ok (.bl (!PyData.eqv p q)) M else .bad
  | _, _ => .bad
def opNeg : D → Mem → R D
  | .int i, M => .ok (.int (-i)) M
  | _, _ => .bad

/-! ### the rules -/
section
variable {X : Cx}
theorem pe3_var (i : Nat) {x : Str} {pos : Pos} (hN : X.N[i]? = some x := by rfl) (hv : Vis X.env.scope x := by first | exact Or.inl rfl | exact Or.inr (Or.inl rfl) | exact Or.inr (Or.inr rfl)) (hd : (x == ("__debug__" : Str)) = false := by decide)
    (hcd : (x == ("__classdict__" : Str)) = false := by decide) : PE3 X (.Name x pos) (eV i) := ⟨fun W tk => by
  refine PE.weak (pe_var hN hv hd hcd) fun σ H Q h => ?_
  obtain ⟨φ, s, M, a, h⟩ := h
  unfold eV at h
  split at h
  · rename_i d e
    obtain ⟨v, h1, h2⟩ := a.sl i d e
    exact ⟨v, h1, a.fin h v h2⟩
  · exact h.elim⟩
theorem pe3_int {i : Int} {j : Nat} {pos : Pos} : PE3 X (.Constant (.int i) j pos) (eC (.int i)) := ⟨fun W tk => PE.weak pe_int fun σ H Q ⟨φ, s, M, a, h⟩ => a.fin h _ (.int i)⟩
theorem pe3_bl {b : Bool} {j : Nat} {pos : Pos} : PE3 X (.Constant (.bool b) j pos) (eC (.bl b)) := ⟨fun W tk => PE.weak pe_bl fun σ H Q ⟨φ, s, M, a, h⟩ => a.fin h _ (.bl b)⟩
theorem pe3_non {j : Nat} {pos : Pos} : PE3 X (.Constant .none j pos) (eC .non) := ⟨fun W tk => PE.weak pe_non fun σ H Q ⟨φ, s, M, a, h⟩ => a.fin h _ .non⟩
theorem pe3_str {x : Str} {j : Nat} {pos : Pos} : PE3 X (.Constant (.str x) j pos) (eC (.str x)) := ⟨fun W tk => PE.weak pe_str fun σ H Q ⟨φ, s, M, a, h⟩ => a.fin h _ (.str x)⟩
/-- a module's constant -/
theorem pe3_glob {x : Str} {pos : Pos} {v : V} {u : Value} {d : D} (hg : Gl X x) (hm : X.mg x = some u) (r : RelV v u) (hr : ∀ φ H, Rep X.K φ H v d) (hd : (x == ("__debug__" : Str)) = false := by decide) : PE3 X (.Name x pos) (eC d) :=
  ⟨fun W tk => PE.weak (pe_glob hg hm r hd) fun σ H Q ⟨φ, s, M, a, h⟩ => a.fin h _ (hr φ H)⟩

/-- an operation by values -/
def rO (G : Pg) (f : D → D → Mem → R D) : R2 := fun x y H Q => ∃ φ M d1 d2, RelM G φ H M ∧ Rep G.K φ H x d1 ∧ Rep G.K φ H y d2 ∧ PostG G φ H (fun _ _ _ => False) (kE G Q) (f d1 d2 M)
def rU1 (G : Pg) (f : D → Mem → R D) : V → Hp → VK → Prop := fun x H Q => ∃ φ M d1, RelM G φ H M ∧ Rep G.K φ H x d1 ∧ PostG G φ H (fun _ _ _ => False) (kE G Q) (f d1 M)
theorem OpR.weak {f : Value → Value → Sem Value} {r r' : R2} (h : OpR X f r) (k : ∀ x y H Q, r' x y H Q → r x y H Q) : OpR X f r' := fun pins s σ H x y v u Q I rx ry q => h pins s σ H x y v u Q I rx ry (k _ _ _ _ q)
/-- no operation lets an exception out -/
def NoExc {α : Type} : R α → Prop
  | .exc _ _ _ => False
  | _ => True
theorem PostG.nox {G : Pg} {α : Type} {φ : List Addr} {H : Hp} {w w' : Value → Option Addr → Hp → Prop} {Kk : List Addr → Hp → α → Prop} {r : R α} (h : PostG G φ H w Kk r) (n : NoExc r) : PostG G φ H w' Kk r := by
  cases r with
  | ok a M => exact h
  | exc c a M => exact n.elim
  | bad => exact h
theorem tOp3 {r : R2} {ma mb : ME} {W : WX} {f : D → D → Mem → R D} (k : ∀ x y H Q, rO X.g f x y H Q → r x y H Q) (n : ∀ x y M, NoExc (f x y M)) {σ : L2.St} {H : Hp} {Q : VK} (h : tE X.g W (eBin f ma mb) σ H Q) : tOp r (tE X.g W ma) (tE X.g W mb) σ H Q := by
  obtain ⟨φ, s, M, a, h⟩ := h
  refine bindE a h fun φ1 H1 M1 d v a1 e1 rv h1 => ?_
  refine bindE a1 h1 fun φ2 H2 M2 d2 v2 a2 e2 rv2 h2 => ?_
  exact k _ _ _ _ ⟨φ2, M2, d, d2, a2.mem, rv.mono e2, rv2, h2.nox (n _ _ _)⟩
theorem pe3_op {op : Operator} {f : D → D → Mem → R D} {a b : Expr} {ma mb : ME} {pos : Pos} (ho : OpR X (binaryOp op) (rO X.g f)) (n : ∀ x y M, NoExc (f x y M)) (ha : PE3 X a ma) (hb : PE3 X b mb) : PE3 X (.BinOp a op b pos) (eBin f ma mb) :=
  ⟨fun W tk => PE.weak (pe_op ho (ha.run W tk) (hb.run W tk)) fun σ H Q h => tOp3 (fun _ _ _ _ h => h) n h⟩
theorem pe3_cmp {op : CmpOp} {f : D → D → Mem → R D} {a b : Expr} {ma mb : ME} {pos : Pos} (ho : OpR X (compareOp op) (rO X.g f)) (n : ∀ x y M, NoExc (f x y M)) (ha : PE3 X a ma) (hb : PE3 X b mb) (hm : behindInMarks op b = false) : PE3 X (.Compare a [op] [b] pos) (eBin f ma mb) :=
  ⟨fun W tk => PE.weak (pe_cmpR ho (ha.run W tk) (hb.run W tk) hm) fun σ H Q h => tOp3 (fun _ _ _ _ h => h) n h⟩
theorem pe3_un {op : UnaryOp} {f : D → Mem → R D} {a : Expr} {ma : ME} {pos : Pos} (ho : UnR X (unaryOp op) (rU1 X.g f)) (n : ∀ x M, NoExc (f x M)) (ha : PE3 X a ma) : PE3 X (.UnaryOp op a pos) (eUn f ma) :=
  ⟨fun W tk => PE.weak (pe_un ho (ha.run W tk)) fun σ H Q h => by
    obtain ⟨φ, s, M, a, h⟩ := h
    refine bindE a h fun φ1 H1 M1 d v a1 e1 rv h1 => ?_
    exact ⟨φ1, M1, d, a1.mem, rv, h1.nox (n _ _)⟩⟩

theorem Rep.int_of {K : PySem.W.Frag} {φ : List Addr} {H : Hp} {v : V} {i : Int} (r : Rep K φ H v (.int i)) : v = .int i := by
  cases r
  rfl
theorem Rep.bl_of {K : PySem.W.Frag} {φ : List Addr} {H : Hp} {v : V} {i : Bool} (r : Rep K φ H v (.bl i)) : v = .bl i := by
  cases r
  rfl
theorem Rep.str_of {K : PySem.W.Frag} {φ : List Addr} {H : Hp} {v : V} {i : Str} (r : Rep K φ H v (.str i)) : v = .str i := by
  cases r
  rfl
theorem Rep.non_of {K : PySem.W.Frag} {φ : List Addr} {H : Hp} {v : V} (r : Rep K φ H v .non) : v = .non := by
  cases r
  rfl
theorem Rep.tup_of {K : PySem.W.Frag} {φ : List Addr} {H : Hp} {v : V} {ds : List D} (r : Rep K φ H v (.tup ds)) : ∃ p xs, v = .ref p ∧ TupAt K φ H p xs ∧ Reps K φ H xs ds := by
  cases r with
  | tup h r => exact ⟨_, _, rfl, h, r⟩
theorem Rep.ref_of {K : PySem.W.Frag} {φ : List Addr} {H : Hp} {v : V} {i : Nat} (r : Rep K φ H v (.ref i)) : ∃ p, v = .ref p ∧ φ[i]? = some p := by
  cases r with
  | ref h => exact ⟨_, rfl, h⟩
/-- an int operation -/
theorem op3_int {op : Value → Value → Sem Value} {C : Int → Int → Prop} [∀ i j, Decidable (C i j)] {g : Int → Int → D} {g' : Int → Int → V} {f : D → D → Mem → R D} (h : OpR X op (rI C g')) (hg : ∀ i j φ H, Rep X.K φ H (g' i j) (g i j))
    (hf : ∀ x y M, f x y M = match x, y with
      | .int i, .int j => if C i j then .ok (g i j) M else .bad
      | _, _ => .bad) : OpR X op (rO X.g f) := by
  refine OpR.weak h fun x y H Q q => ?_
  obtain ⟨φ, M, d1, d2, m, r1, r2, q⟩ := q
  rw [hf] at q
  split at q
  · rename_i i j
    cases r1
    cases r2
    split at q
    · rename_i hc
      exact ⟨i, j, rfl, rfl, hc, q φ H Ext.refl m _ (hg i j φ H)⟩
    · exact q.elim
  · exact q.elim
theorem op3_int0 {op : Value → Value → Sem Value} {g : Int → Int → D} {g' : Int → Int → V} {f : D → D → Mem → R D} (h : OpR X op (rI0 g')) (hg : ∀ i j φ H, Rep X.K φ H (g' i j) (g i j))
    (hf : ∀ x y M, f x y M = match x, y with
      | .int i, .int j => .ok (g i j) M
      | _, _ => .bad) : OpR X op (rO X.g f) := by
  refine OpR.weak h fun x y H Q q => ?_
  obtain ⟨φ, M, d1, d2, m, r1, r2, q⟩ := q
  rw [hf] at q
  split at q
  · rename_i i j
    cases r1
    cases r2
    exact ⟨i, j, rfl, rfl, q φ H Ext.refl m _ (hg i j φ H)⟩
  · exact q.elim
theorem op3_sub : OpR X (binaryOp .Sub) (rO X.g opSub) := op3_int0 op_sub (fun i j _ _ => .int _) fun x y M => by cases x <;> cases y <;> rfl
theorem op_mulX : OpR X (binaryOp .Mult) (rI okMul fun i j => .int (i * j)) := by
  intro pins s σ H x y v u Q I rx ry h
  obtain ⟨i, j, rfl, rfl, hc, q⟩ := h
  rcases hc with h1 | h1 | h1
  · exact op_mul pins s σ H _ _ v u Q I rx ry ⟨i, j, rfl, rfl, .inl (by omega), q⟩
  · exact op_mul pins s σ H _ _ v u Q I rx ry ⟨i, j, rfl, rfl, .inr (by omega), q⟩
  · exact op_mulW pins s σ H _ _ v u Q I rx ry ⟨i, j, rfl, rfl, h1, q⟩
theorem op3_mul : OpR X (binaryOp .Mult) (rO X.g opMul) := op3_int (C := okMul) op_mulX (fun i j _ _ => .int _) fun x y M => by cases x <;> cases y <;> rfl
theorem op3_div : OpR X (binaryOp .FloorDiv) (rO X.g opDiv) := op3_int (C := fun i j => 0 < j ∧ j.natAbs.log2 < 9000) op_fdivW (fun i j _ _ => .int _) fun x y M => by cases x <;> cases y <;> rfl
theorem op3_mod : OpR X (binaryOp .Mod) (rO X.g opMod) := op3_int (C := fun i j => 0 < j) op_mod (fun i j _ _ => .int _) fun x y M => by cases x <;> cases y <;> rfl
theorem op3_pow : OpR X (binaryOp .Pow) (rO X.g opPow) := op3_int (C := fun i j => 0 ≤ j ∧ j ≤ 1000000 ∧ i.natAbs < 2 ^ 64) op_pow (fun i j _ _ => .int _) fun x y M => by cases x <;> cases y <;> rfl
theorem op3_lt : OpR X (compareOp .Lt) (rO X.g opLt) := op3_int0 op_lt (fun i j _ _ => .bl _) fun x y M => by cases x <;> cases y <;> rfl
theorem op3_le : OpR X (compareOp .LtE) (rO X.g opLe) := op3_int0 op_le (fun i j _ _ => .bl _) fun x y M => by cases x <;> cases y <;> rfl
theorem op3_gt : OpR X (compareOp .Gt) (rO X.g opGt) := op3_int0 op_gt (fun i j _ _ => .bl _) fun x y M => by cases x <;> cases y <;> rfl
theorem op3_ge : OpR X (compareOp .GtE) (rO X.g opGe) := op3_int0 op_ge (fun i j _ _ => .bl _) fun x y M => by cases x <;> cases y <;> rfl
theorem nx_sub : ∀ x y M, NoExc (opSub x y M) := fun x y M => by unfold opSub; split <;> trivial
theorem nx_mul : ∀ x y M, NoExc (opMul x y M) := fun x y M => by unfold opMul; split <;> (try split) <;> trivial
theorem nx_div : ∀ x y M, NoExc (opDiv x y M) := fun x y M => by unfold opDiv; split <;> (try split) <;> trivial
theorem nx_mod : ∀ x y M, NoExc (opMod x y M) := fun x y M => by unfold opMod; split <;> (try split) <;> trivial
theorem nx_pow : ∀ x y M, NoExc (opPow x y M) := fun x y M => by unfold opPow; split <;> (try split) <;> trivial
theorem nx_lt : ∀ x y M, NoExc (opLt x y M) := fun x y M => by unfold opLt; split <;> trivial
theorem nx_le : ∀ x y M, NoExc (opLe x y M) := fun x y M => by unfold opLe; split <;> trivial
theorem nx_gt : ∀ x y M, NoExc (opGt x y M) := fun x y M => by unfold opGt; split <;> trivial
theorem nx_ge : ∀ x y M, NoExc (opGe x y M) := fun x y M => by unfold opGe; split <;> trivial
theorem nx_add : ∀ x y M, NoExc (opAdd x y M) := fun x y M => by unfold opAdd; split <;> (try split) <;> trivial
theorem nx_eq : ∀ x y M, NoExc (opEq x y M) := fun x y M => by unfold opEq; split <;> (try split) <;> trivial
theorem nx_ne : ∀ x y M, NoExc (opNe x y M) := fun x y M => by unfold opNe; split <;> (try split) <;> trivial
theorem op3_add : OpR X (binaryOp .Add) (rO X.g opAdd) := by
  refine OpR.weak (OpR.or op_add (OpR.or op_add_str op_catA)) fun x y H Q q => ?_
  obtain ⟨φ, M, d1, d2, m, r1, r2, q⟩ := q
  unfold opAdd at q
  split at q
  · rename_i i j
    cases r1
    cases r2
    exact .inl ⟨i, j, rfl, rfl, q φ H Ext.refl m _ (.int _)⟩
  · rename_i i j
    split at q
    · rename_i hz
      cases r1
      cases r2
      exact .inr (.inl ⟨i, j, rfl, rfl, hz, q φ H Ext.refl m _ (.str _)⟩)
    · exact q.elim
  · rename_i i j
    split at q
    · rename_i hz
      obtain ⟨p1, xs1, rfl, t1, s1⟩ := r1.tup_of
      obtain ⟨p2, xs2, rfl, t2, s2⟩ := r2.tup_of
      have l1 := s1.length
      have l2 := s2.length
      refine .inr (.inr ⟨p1, p2, xs1, xs2, rfl, rfl, t1.sq, t2.sq, by omega, fun e => ?_, fun e1 e2 => ?_, fun e1 e2 p hp => ?_⟩)
      · subst e
        cases s1
        exact q φ H Ext.refl m _ (.tup t2 s2)
      · subst e2
        cases s2
        exact q φ H Ext.refl m _ (.tup t1 (by rw [List.append_nil]; exact s1))
      · have ex := Ext.laid m (u := .tup (xs1 ++ xs2)) hp
        exact q φ _ ex (m.laid hp) _ (.tup (.inl ⟨upd_same, m.fresh hp⟩) ((s1.append s2).mono ex))
    · exact q.elim
  · exact q.elim
end
end L3
set_option Elab.async false
set_option linter.all false
set_option maxRecDepth 100000
set_option maxHeartbeats 2000000
/-! L3c: comparisons, tests, and, or, not. -/
namespace L3
open PySem PySem.Spec PyProof.Rows L2

def asB : D → Mem → R Bool
  | .bl b, M => .ok b M
  | _, _ => .bad
def tOf (a : ME) : MT := fun s M => (a s M).bind asB
def tAnd3 (a b : MT) : MT := fun s M => (a s M).bind fun c M1 => if c = true then b s M1 else .ok false M1
def tOr3 (a b : MT) : MT := fun s M => (a s M).bind fun c M1 => if c = true then .ok true M1 else b s M1
def tNot3 (a : MT) : MT := fun s M => (a s M).bind fun c M1 => .ok (!c) M1
def eAnd (a b : ME) : ME := fun s M => (a s M).bind fun x M1 => (asB x M1).bind fun c M1 => if c = true then b s M1 else .ok (.bl false) M1
def eOr (a b : ME) : ME := fun s M => (a s M).bind fun x M1 => (asB x M1).bind fun c M1 => if c = true then .ok (.bl true) M1 else b s M1
def eNot (a : ME) : ME := fun s M => (a s M).bind fun x M1 => (asB x M1).bind fun c M1 => .ok (.bl (!c)) M1
def eIf (t : MT) (a b : ME) : ME := fun s M => (t s M).bind fun c M1 => if c = true then a s M1 else b s M1
def eChain (f g : D → D → Mem → R D) (a b c : ME) : ME := fun s M => (a s M).bind fun x M1 => (b s M1).bind fun y M2 => (f x y M2).bind fun z M3 => (asB z M3).bind fun k M3 => if k = true then (c s M3).bind fun w M4 => g y w M4 else .ok (.bl false) M3

section
variable {X : Cx}
theorem bind_assoc3 {α β γ : Type} (r : R α) (f : α → Mem → R β) (g : β → Mem → R γ) : (r.bind f).bind g = r.bind fun a M => (f a M).bind g := by
  cases r <;> rfl
theorem asB_ok {G : Pg} {β : Type} {φ : List Addr} {H : Hp} {w : Value → Option Addr → Hp → Prop} {Kb : List Addr → Hp → β → Prop} {f : Bool → Mem → R β} {d : D} {M : Mem} (h : PostG G φ H w Kb ((asB d M).bind f)) :
    ∃ b, d = .bl b ∧ PostG G φ H w Kb (f b M) := by
  cases d with
  | bl b => exact ⟨b, rfl, h⟩
  | _ => exact h.elim
theorem asB_ok0 {G : Pg} {φ : List Addr} {H : Hp} {w : Value → Option Addr → Hp → Prop} {Kb : List Addr → Hp → Bool → Prop} {d : D} {M : Mem} (h : PostG G φ H w Kb (asB d M)) :
    ∃ b, d = .bl b ∧ PostG G φ H w Kb (.ok b M) := by
  cases d with
  | bl b => exact ⟨b, rfl, h⟩
  | _ => exact h.elim
theorem pt3_val {e : Expr} {m : ME} (h : PE3 X e m) (he : ∀ whole, isTrue e X.env whole = (do let v ← whole; standAt e.pos; holding [v] (truthy v)) := by intro _; rfl) : PT3 X e (tOf m) := ⟨fun W tk => by
  refine PT.weak (pt_val (h.run W tk) he) fun σ H Q h => ?_
  obtain ⟨φ, s, M, a, h⟩ := h
  refine bindE a h fun φ1 H1 M1 d v a1 e1 r h1 => ?_
  obtain ⟨b, rfl, h2⟩ := asB_ok0 h1
  exact ⟨b, r.bl_of, a1.fin h2⟩⟩
theorem pt3_cmp {op : CmpOp} {f : D → D → Mem → R D} {a b : Expr} {ma mb : ME} {pos : Pos} (ho : OpR X (compareOp op) (rO X.g f)) (n : ∀ x y M, NoExc (f x y M)) (ha : PE3 X a ma) (hb : PE3 X b mb) (hm : behindInMarks op b = false) : PT3 X (.Compare a [op] [b] pos) (tOf (eBin f ma mb)) := ⟨fun W tk => by
  refine PT.weak (pt_cmpR ho (ha.run W tk) (hb.run W tk) hm) fun σ H Q h => ?_
  obtain ⟨φ, s, M, a, h⟩ := h
  have h' : PostG X.g φ H (fun c d H' => W c d σ H') (kB Q) ((eBin f ma mb s M).bind asB) := h
  unfold eBin at h'
  rw [bind_assoc3] at h'
  refine bindE a h' fun φ1 H1 M1 d v a1 e1 r h1 => ?_
  rw [bind_assoc3] at h1
  refine bindE a1 h1 fun φ2 H2 M2 d2 v2 a2 e2 r2 h2 => ?_
  refine ⟨φ2, M2, d, d2, a2.mem, r.mono e2, r2, ?_⟩
  have nn := n d d2 M2
  revert h2 nn
  generalize f d d2 M2 = rr
  intro h2 nn
  cases rr with
  | ok d3 M3 =>
    intro φ' H' e' m' z rz
    obtain ⟨b, rfl, h3⟩ := asB_ok0 (show PostG X.g φ2 H2 _ _ (asB d3 M3) from h2)
    exact ⟨b, rz.bl_of, h3 φ' H' e' m'⟩
  | exc c a M3 => exact nn.elim
  | bad => exact h2⟩
theorem pw3_and1 {a : Expr} {ma : MT} {pos : Pos} (ha : PT3 X a ma) : ∀ W, Takes X W → PW X (.BoolOp .And [a] pos) (tT X.g W ma) := fun W tk => pw_and1 (ha.run W tk)
theorem pw3_or1 {a : Expr} {ma : MT} {pos : Pos} (ha : PT3 X a ma) : ∀ W, Takes X W → PW X (.BoolOp .Or [a] pos) (tT X.g W ma) := fun W tk => pw_or1 (ha.run W tk)
theorem PW.weak {e : Expr} {t t' : TT} (h : PW X e t) (k : ∀ σ H Q, t' σ H Q → t σ H Q) : PW X e t' := ⟨fun wh pins s σ H Q I q => h.run wh pins s σ H Q I (k σ H Q q)⟩
theorem pw3_and {a b : Expr} {rest : List Expr} {ma mb : MT} {pos : Pos} (ha : PT3 X a ma) (hb : ∀ W, Takes X W → PW X (.BoolOp .And (b :: rest) pos) (tT X.g W mb)) :
    ∀ W, Takes X W → PW X (.BoolOp .And (a :: b :: rest) pos) (tT X.g W (tAnd3 ma mb)) := fun W tk => by
  refine PW.weak (pw_and (ha.run W tk) (hb W tk)) fun σ H Q h => ?_
  obtain ⟨φ, s, M, a, h⟩ := h
  refine bindT a h fun φ1 H1 M1 d a1 e1 h1 => ?_
  cases d with
  | true => exact iteT ⟨φ1, s, M1, a1, by simpa using h1⟩
  | false => exact iteF (a1.fin (by simpa using h1))
theorem pw3_or {a b : Expr} {rest : List Expr} {ma mb : MT} {pos : Pos} (ha : PT3 X a ma) (hb : ∀ W, Takes X W → PW X (.BoolOp .Or (b :: rest) pos) (tT X.g W mb)) :
    ∀ W, Takes X W → PW X (.BoolOp .Or (a :: b :: rest) pos) (tT X.g W (tOr3 ma mb)) := fun W tk => by
  refine PW.weak (pw_or (ha.run W tk) (hb W tk)) fun σ H Q h => ?_
  obtain ⟨φ, s, M, a, h⟩ := h
  refine bindT a h fun φ1 H1 M1 d a1 e1 h1 => ?_
  cases d with
  | true => exact iteT (a1.fin (by simpa using h1))
  | false => exact iteF ⟨φ1, s, M1, a1, by simpa using h1⟩
theorem pt3_w {e : Expr} {m : MT} (h : ∀ W, Takes X W → PW X e (tT X.g W m)) : PT3 X e m := ⟨fun W tk => (h W tk).pt⟩
theorem pt3_not {a : Expr} {ma : MT} {pos : Pos} (ha : PT3 X a ma) : PT3 X (.UnaryOp .Not a pos) (tNot3 ma) := ⟨fun W tk => by
  refine PT.weak (pt_not (ha.run W tk)) fun σ H Q h => ?_
  obtain ⟨φ, s, M, a, h⟩ := h
  exact bindT a h fun φ1 H1 M1 d a1 e1 h1 => a1.fin h1⟩
theorem pe3_one {op : BoolOp} {a : Expr} {m : ME} {pos : Pos} (h : PE3 X a m) : PE3 X (.BoolOp op [a] pos) m := ⟨fun W tk => pe_one (h.run W tk)⟩
theorem pe3_and {a b : Expr} {rest : List Expr} {ma mb : ME} {pos : Pos} (ha : PE3 X a ma) (hb : PE3 X (.BoolOp .And (b :: rest) pos) mb) : PE3 X (.BoolOp .And (a :: b :: rest) pos) (eAnd ma mb) := ⟨fun W tk => by
  refine PE.weak (pe_and (ha.run W tk) (hb.run W tk)) fun σ H Q h => ?_
  obtain ⟨φ, s, M, a, h⟩ := h
  refine bindE a h fun φ1 H1 M1 d v a1 e1 r h1 => ?_
  obtain ⟨c, rfl, h2⟩ := asB_ok h1
  refine ⟨c, r.bl_of, ?_⟩
  cases c with
  | true => exact iteT ⟨φ1, s, M1, a1, by simpa using h2⟩
  | false => exact iteF (a1.finE (by simpa using h2) _ (.bl _))⟩
theorem pe3_or {a b : Expr} {rest : List Expr} {ma mb : ME} {pos : Pos} (ha : PE3 X a ma) (hb : PE3 X (.BoolOp .Or (b :: rest) pos) mb) : PE3 X (.BoolOp .Or (a :: b :: rest) pos) (eOr ma mb) := ⟨fun W tk => by
  refine PE.weak (pe_or (ha.run W tk) (hb.run W tk)) fun σ H Q h => ?_
  obtain ⟨φ, s, M, a, h⟩ := h
  refine bindE a h fun φ1 H1 M1 d v a1 e1 r h1 => ?_
  obtain ⟨c, rfl, h2⟩ := asB_ok h1
  refine ⟨c, r.bl_of, ?_⟩
  cases c with
  | true => exact iteT (a1.finE (by simpa using h2) _ (.bl _))
  | false => exact iteF ⟨φ1, s, M1, a1, by simpa using h2⟩⟩
theorem pe3_not {a : Expr} {ma : ME} {pos : Pos} (ha : PE3 X a ma) : PE3 X (.UnaryOp .Not a pos) (eNot ma) := ⟨fun W tk => by
  refine PE.weak (pe_not (ha.run W tk)) fun σ H Q h => ?_
  obtain ⟨φ, s, M, a, h⟩ := h
  refine bindE a h fun φ1 H1 M1 d v a1 e1 r h1 => ?_
  obtain ⟨c, rfl, h2⟩ := asB_ok h1
  exact ⟨c, r.bl_of, a1.fin h2 _ (.bl _)⟩⟩
theorem pe3_if {c a b : Expr} {t : MT} {ma mb : ME} {pos : Pos} (hc : PT3 X c t) (ha : PE3 X a ma) (hb : PE3 X b mb) : PE3 X (.IfExp c a b pos) (eIf t ma mb) := ⟨fun W tk => by
  refine PE.weak (pe_ifExp (hc.run W tk) (ha.run W tk) (hb.run W tk)) fun σ H Q h => ?_
  obtain ⟨φ, s, M, a, h⟩ := h
  refine bindT a h fun φ1 H1 M1 d a1 e1 h1 => ?_
  cases d with
  | true => exact iteT ⟨φ1, s, M1, a1, by simpa using h1⟩
  | false => exact iteF ⟨φ1, s, M1, a1, by simpa using h1⟩⟩
theorem chain3 {r r' : R2} {ma mb mc : ME} {W : WX} {f g : D → D → Mem → R D} (k : ∀ x y H Q, rO X.g f x y H Q → r x y H Q) (k' : ∀ x y H Q, rO X.g g x y H Q → r' x y H Q) (n : ∀ x y M, NoExc (f x y M)) (n' : ∀ x y M, NoExc (g x y M)) {σ : L2.St} {H : Hp} {Q : VK}
    (h : tE X.g W (eChain f g ma mb mc) σ H Q) : tChain r r' (tE X.g W ma) (tE X.g W mb) (tE X.g W mc) σ H Q := by
  obtain ⟨φ, s, M, a, h⟩ := h
  refine bindE a h fun φ1 H1 M1 d v a1 e1 rv h1 => ?_
  refine bindE a1 h1 fun φ2 H2 M2 d2 v2 a2 e2 rv2 h2 => ?_
  refine k _ _ _ _ ⟨φ2, M2, d, d2, a2.mem, rv.mono e2, rv2, ?_⟩
  have nn := n d d2 M2
  revert h2 nn
  generalize f d d2 M2 = rr
  intro h2 nn
  cases rr with
  | exc c a M3 => exact nn.elim
  | bad => exact h2
  | ok d3 M3 =>
    intro φ' H' e' m' z rz
    have h3 := PostG.of (show PostG X.g φ2 H2 (fun c d H' => W c d σ H') (kE X.g Q) ((asB d3 M3).bind fun k M3 => if k = true then (mc s M3).bind fun w M4 => g d2 w M4 else .ok (.bl false) M3) from h2) e'
    obtain ⟨b, rfl, h4⟩ := asB_ok h3
    refine ⟨b, rz.bl_of, ?_⟩
    cases b with
    | false => exact iteF ((a2.to e' m').finE (by simpa using h4) _ (.bl _))
    | true =>
      refine iteT (bindE (a2.to e' m') (by simpa using h4) fun φ5 H5 M5 d5 v5 a5 e5 r5 h5 => ?_)
      exact k' _ _ _ _ ⟨φ5, M5, d2, d5, a5.mem, (rv2.mono e').mono e5, r5, h5.nox (n' _ _ _)⟩
theorem pe3_chain {op op' : CmpOp} {f g : D → D → Mem → R D} {a b c : Expr} {ma mb mc : ME} {pos : Pos} (ho : OpR X (compareOp op) (rO X.g f)) (ho' : OpR X (compareOp op') (rO X.g g)) (n : ∀ x y M, NoExc (f x y M)) (n' : ∀ x y M, NoExc (g x y M)) (ha : PE3 X a ma) (hb : PE3 X b mb) (hc : PE3 X c mc)
    (hm : lastMarks [op, op'] [b, c] = false := by with_unfolding_all rfl) : PE3 X (.Compare a [op, op'] [b, c] pos) (eChain f g ma mb mc) := ⟨fun W tk =>
  PE.weak (pe_chain ho ho' (ha.run W tk) (hb.run W tk) (hc.run W tk) hm) fun σ H Q h => chain3 (fun _ _ _ _ h => h) (fun _ _ _ _ h => h) n n' h⟩

/-! ### is None -/
theorem isNon_of {K : PySem.W.Frag} {φ : List Addr} {H : Hp} {v : V} {d : D} (r : Rep K φ H v d) : isNon d = decide (v = .non) := by
  cases r <;> rfl
theorem pe3_isN {a : Expr} {ma : ME} {j : Nat} {pos pos' : Pos} (ha : PE3 X a ma) : PE3 X (.Compare a [.Is] [.Constant .none j pos'] pos) (eUn opIsN ma) := ⟨fun W tk => by
  refine PE.weak (pe_cmp (pc_isN (ha.run W tk))) fun σ H Q h => ?_
  obtain ⟨φ, s, M, a, h⟩ := h
  refine bindE a h fun φ1 H1 M1 d v a1 e1 r h1 => ?_
  have h2 : PostG X.g φ1 H1 (fun c d H' => W c d σ H') (kE X.g Q) (.ok (.bl (isNon d)) M1) := h1
  have := a1.fin h2 (.bl (isNon d)) (.bl _)
  rw [isNon_of r] at this
  exact this⟩
theorem pe3_notN {a : Expr} {ma : ME} {j : Nat} {pos pos' : Pos} (ha : PE3 X a ma) : PE3 X (.Compare a [.IsNot] [.Constant .none j pos'] pos) (eUn opNotN ma) := ⟨fun W tk => by
  refine PE.weak (pe_cmp (pc_notN (ha.run W tk))) fun σ H Q h => ?_
  obtain ⟨φ, s, M, a, h⟩ := h
  refine bindE a h fun φ1 H1 M1 d v a1 e1 r h1 => ?_
  have h2 : PostG X.g φ1 H1 (fun c d H' => W c d σ H') (kE X.g Q) (.ok (.bl (!isNon d)) M1) := h1
  have := a1.fin h2 (.bl (!isNon d)) (.bl _)
  rw [isNon_of r] at this
  exact this⟩
theorem pt3_isN {a : Expr} {ma : ME} {j : Nat} {pos pos' : Pos} (ha : PE3 X a ma) : PT3 X (.Compare a [.Is] [.Constant .none j pos'] pos) (tOf (eUn opIsN ma)) := ⟨fun W tk => by
  refine PT.weak (pt_cmp (pc_isN (ha.run W tk))) fun σ H Q h => ?_
  obtain ⟨φ, s, M, a, h⟩ := h
  have h' : PostG X.g φ H (fun c d H' => W c d σ H') (kB Q) ((eUn opIsN ma s M).bind asB) := h
  unfold eUn at h'
  rw [bind_assoc3] at h'
  refine bindE a h' fun φ1 H1 M1 d v a1 e1 r h1 => ⟨decide (v = .non), rfl, ?_⟩
  have h2 : PostG X.g φ1 H1 (fun c d H' => W c d σ H') (kB Q) (.ok (isNon d) M1) := h1
  have := a1.fin h2
  rw [isNon_of r] at this
  exact this⟩
theorem pt3_notN {a : Expr} {ma : ME} {j : Nat} {pos pos' : Pos} (ha : PE3 X a ma) : PT3 X (.Compare a [.IsNot] [.Constant .none j pos'] pos) (tOf (eUn opNotN ma)) := ⟨fun W tk => by
  refine PT.weak (pt_cmp (pc_notN (ha.run W tk))) fun σ H Q h => ?_
  obtain ⟨φ, s, M, a, h⟩ := h
  have h' : PostG X.g φ H (fun c d H' => W c d σ H') (kB Q) ((eUn opNotN ma s M).bind asB) := h
  unfold eUn at h'
  rw [bind_assoc3] at h'
  refine bindE a h' fun φ1 H1 M1 d v a1 e1 r h1 => ⟨!decide (v = .non), rfl, ?_⟩
  have h2 : PostG X.g φ1 H1 (fun c d H' => W c d σ H') (kB Q) (.ok (!isNon d) M1) := h1
  have := a1.fin h2
  rw [isNon_of r] at this
  exact this⟩

/-! ### == of data -/
theorem py_dp {G : Pg} {φ : List Addr} {H : Hp} {M : Mem} (m : RelM G φ H M) : ∀ (n : Nat) {d : D} {p : PyData} {v : V}, pyD n M d = some p → Rep G.K φ H v d → Dp G.K H v p := by
  intro n
  induction n with
  | zero =>
    intro d p v e r
    unfold pyD at e
    cases e
  | succ n ih =>
    have all : ∀ {ds : List D} {ps : List PyData} {vs : List V}, ds.mapM (pyD n M) = some ps → Reps G.K φ H vs ds → DpAll G.K H vs ps := by
      intro ds
      induction ds with
      | nil =>
        intro ps vs e r
        cases e
        cases r
        exact .nil
      | cons d ds ih2 =>
        intro ps vs e r
        rw [List.mapM_cons] at e
        cases h1 : pyD n M d with
        | none => rw [h1] at e; cases e
        | some p =>
          cases h2 : ds.mapM (pyD n M) with
          | none => rw [h1, h2] at e; cases e
          | some qs =>
            rw [h1, h2] at e
            cases e
            cases r with
            | cons r1 r2 => exact .cons (ih h1 r1) (ih2 h2 r2)
    intro d p v e r
    cases d with
    | non => cases e; cases r; exact .non
    | bl b => cases e; cases r; exact .bl b
    | int b => cases e; cases r; exact .int b
    | str b => cases e; cases r; exact .str b
    | tup ds =>
      obtain ⟨q, xs, rfl, t, s⟩ := r.tup_of
      unfold pyD at e
      cases h : ds.mapM (pyD n M) with
      | none => rw [h] at e; cases e
      | some ps =>
        rw [h] at e
        cases e
        exact .tup t.sq (all h s)
    | ref i =>
      obtain ⟨q, rfl, hq⟩ := r.ref_of
      obtain ⟨o, ho, ro⟩ := m.obj hq
      unfold pyD at e
      rw [ho] at e
      cases o with
      | lst ds =>
        obtain ⟨xs, h1, s⟩ := ro
        dsimp only at e
        cases h : ds.mapM (pyD n M) with
        | none => rw [h] at e; cases e
        | some ps =>
          rw [h] at e
          cases e
          exact .lst (.inl (.inl h1)) (all h s)
      | frz ds =>
        obtain ⟨o, xs, h1, s⟩ := ro
        dsimp only at e
        cases h : ds.mapM (pyD n M) with
        | none => rw [h] at e; cases e
        | some ps =>
          rw [h] at e
          cases e
          exact .lst (.inl (.inr ⟨o, h1⟩)) (all h s)
      | dK kvs => cases e
      | ins c fs => cases e
theorem op3_eq (hu : X.A.units + 64 < cLine) : OpR X (compareOp .Eq) (rO X.g opEq) := by
  refine OpR.weak (op_eqD hu) fun x y H Q q => ?_
  obtain ⟨φ, M, d1, d2, m, r1, r2, q⟩ := q
  unfold opEq at q
  split at q
  · rename_i p1 p2 h1 h2
    split at q
    · rename_i hs
      exact ⟨p1, p2, py_dp m 20 h1 r1, py_dp m 20 h2 r2, hs.1, hs.2, q φ H Ext.refl m _ (.bl _)⟩
    · exact q.elim
  · exact q.elim
theorem op3_ne (hu : X.A.units + 64 < cLine) : OpR X (compareOp .NotEq) (rO X.g opNe) := by
  refine OpR.weak (op_neD hu) fun x y H Q q => ?_
  obtain ⟨φ, M, d1, d2, m, r1, r2, q⟩ := q
  unfold opNe at q
  split at q
  · rename_i p1 p2 h1 h2
    split at q
    · rename_i hs
      exact ⟨p1, p2, py_dp m 20 h1 r1, py_dp m 20 h2 r2, hs.1, hs.2, q φ H Ext.refl m _ (.bl _)⟩
    · exact q.elim
  · exact q.elim
end
end L3
set_option Elab.async false
set_option linter.all false
set_option maxRecDepth 100000
set_option maxHeartbeats 2000000
/-! L3d: sequences, subscripts, dicts. -/
namespace L3
open PySem PySem.Spec PyProof.Rows L2

/-! ### the functions -/
def aNil : MA := fun _ M => .ok [] M
def aCons (a : ME) (r : MA) : MA := fun s M => (a s M).bind fun x M1 => (r s M1).bind fun xs M2 => .ok (x :: xs) M2
def okLen (n : Nat) : Bool := decide (n ≤ 16777216)
def eTup (a : MA) : ME := fun s M => (a s M).bind fun ds M1 => if okLen ds.length = true then .ok (.tup ds) M1 else .bad
def lLst (a : MA) : MA := fun s M => (a s M).bind fun ds M1 => if okLen ds.length = true then .ok ds M1 else .bad
def eNew (a : MA) : ME := fun s M => (a s M).bind fun ds M1 => .ok (.ref M1.length) (M1 ++ [.lst ds])
def srcOf : D → Mem → R Src
  | .tup ds, M => .ok (.tup ds) M
  | .ref i, M => .ok (.lst i) M
  | _, _ => .bad
def qE (a : ME) : MQ := fun s M => (a s M).bind srcOf
def qL (a : MA) : MQ := fun s M => (a s M).bind fun ds M1 => .ok (.tmp ds) M1
def getS {α : Type} (x : Src) (M : Mem) (f : List D → R α) : R α := match x.get M with
  | some ds => f ds
  | none => .bad
def eTupOf (q : MQ) : ME := fun s M => (q s M).bind fun x M1 => getS x M1 fun ds => .ok (.tup ds) M1
def lOf (q : MQ) : MA := fun s M => (q s M).bind fun x M1 => getS x M1 fun ds => .ok ds M1
def eLen (q : MQ) : ME := fun s M => (q s M).bind fun x M1 => getS x M1 fun ds => .ok (.int ds.length) M1
def intsOf : List D → Option (List Int)
  | [] => some []
  | .int i :: r => (intsOf r).map (i :: ·)
  | _ :: _ => none
def getI {α : Type} (ds : List D) (f : List Int → R α) : R α := match intsOf ds with
  | some ns => f ns
  | none => .bad
def isL : Src → Bool
  | .tup _ => false
  | _ => true
def eSum (q : MQ) : ME := fun s M => (q s M).bind fun x M1 => if isL x = true then getS x M1 fun ds => getI ds fun ns => .ok (.int ns.sum) M1 else .bad
/-- + of two lists -/
def Src.own (M : Mem) : Src → Option (List D)
  | .tup _ => none
  | .tmp ds => some ds
  | .lst i => match M[i]? with
    | some (.lst ds) => some ds
    | _ => none
def getW {α : Type} (x : Src) (M : Mem) (f : List D → R α) : R α := match x.own M with
  | some ds => f ds
  | none => .bad
def lCat (a b : MQ) : MA := fun s M => (a s M).bind fun x M1 => (b s M1).bind fun y M2 => getW x M2 fun ds => getW y M2 fun es => if okLen (ds.length + es.length) = true then .ok (ds ++ es) M2 else .bad
def keyOf : D → Option Key
  | .int i => some (.inl i)
  | .str x => some (.inr x)
  | _ => none
def getK (kvs : List (Key × D)) (k : Key) : Option D := (kvs.find? fun kv => decide (kv.1 = k)).map (·.2)
def putD (kvs : List (Key × D)) (k : Key) (v : D) : List (Key × D) :=
  if (kvs.any fun kv => decide (kv.1 = k)) = true then kvs.map (fun kv => if kv.1 = k then (kv.1, v) else kv) else kvs ++ [(k, v)]
def dropD (kvs : List (Key × D)) (k : Key) : List (Key × D) := kvs.filter fun kv => decide (kv.1 ≠ k)
def okO {α : Type} (o : Option α) (M : Mem) : R α := match o with
  | some d => .ok d M
  | none => .bad
def opIx : D → D → Mem → R D
  | .tup ds, .int i, M => okO (atI ds i) M
  | .ref j, y, M => match M[j]? with
    | some (.lst ds) => match y with
      | .int i => okO (atI ds i) M
      | _ => .bad
    | some (.frz ds) => match y with
      | .int i => okO (atI ds i) M
      | _ => .bad
    | some (.dK kvs) => match keyOf y with
      | some k => okO (getK kvs k) M
      | none => .bad
    | _ => .bad
  | _, _, _ => .bad
def cut {α : Type} (xs : List α) (lo hi : Option Int) : List α := (xs.drop (HT.sIx xs.length 0 lo)).take (HT.sIx xs.length xs.length hi - HT.sIx xs.length 0 lo)
abbrev MO := Sl → Mem → R (Option Int)
def oNone : MO := fun _ M => .ok none M
def oSome (a : ME) : MO := fun s M => (a s M).bind fun d M1 => match d with
  | .int i => .ok (some i) M1
  | _ => .bad
/-- a slice of a list: a new one -/
def lSl (q : MQ) (lo hi : MO) : MA := fun s M => (q s M).bind fun x M1 => (lo s M1).bind fun l M2 => (hi s M2).bind fun u M3 => if isL x = true then getS x M3 fun ds => .ok (cut ds l u) M3 else .bad
/-- a slice of a tuple -/
def eSlT (a : ME) (lo hi : MO) : ME := fun s M => (a s M).bind fun x M1 => (lo s M1).bind fun l M2 => (hi s M2).bind fun u M3 => match x with
  | .tup ds => .ok (.tup (cut ds l u)) M3
  | _ => .bad
def eIn (neg : Bool) (a : ME) (q : MQ) : ME := fun s M => (a s M).bind fun x M1 => (q s M1).bind fun y M2 => if isL y = true then
    getS y M2 fun ds => match pyD 20 M2 x, ds.mapM (pyD 19 M2) with
      | some p, some ps => if SeqAt.shaped p = true ∧ SeqAt.shaped (.list ps) = true then .ok (.bl (xor neg (ps.any fun z => PyData.eqv z p))) M2 else .bad
      | _, _ => .bad
  else getS y M2 fun ds => getI ds fun ns => match x with
      | .int i => .ok (.bl (xor neg (ns.any fun n => n == i))) M2
      | _ => .bad
/-- methods of lists -/
def isLst (d : D) (M : Mem) : Bool := match d with
  | .ref j => match M[j]? with
    | some (.lst _) => true
    | _ => false
  | _ => false
/-- what is done to a list -/
def onLst {α : Type} (d : D) (M : Mem) (f : Nat → List D → R α) : R α := match d with
  | .ref j => match M[j]? with
    | some (.lst ds) => f j ds
    | _ => .bad
  | _ => .bad
def mApp (o a : ME) : ME := fun s M => (o s M).bind fun x M1 => if isLst x M1 = true then (a s M1).bind fun y M2 => onLst x M2 fun j ds => if okLen (ds.length + 1) = true then .ok .non (M2.set j (.lst (ds ++ [y]))) else .bad else .bad
def mPopAt (o a : ME) : ME := fun s M => (o s M).bind fun x M1 => if isLst x M1 = true then (a s M1).bind fun y M2 => onLst x M2 fun j ds => match y with
    | .int i => if 0 ≤ i ∧ i < 9223372036854775808 then match ds[i.toNat]? with
        | some d => .ok d (M2.set j (.lst (ds.eraseIdx i.toNat)))
        | none => .bad
      else .bad
    | _ => .bad
  else .bad
def mExt (o : ME) (a : MQ) : ME := fun s M => (o s M).bind fun x M1 => if isLst x M1 = true then (a s M1).bind fun y M2 => onLst x M2 fun j ds => getW y M2 fun es => if okLen (ds.length + es.length) = true then .ok .non (M2.set j (.lst (ds ++ es))) else .bad else .bad

/-! ### relations -/
section
variable {K : PySem.W.Frag} {φ : List Addr} {H : Hp}
theorem Reps.cut {vs : List V} {ds : List D} (r : Reps K φ H vs ds) (lo hi : Option Int) : Reps K φ H (cutV vs lo hi) (cut ds lo hi) := by
  unfold cutV L3.cut
  rw [r.length]
  exact (r.drop _).take _
theorem Reps.atI {vs : List V} {ds : List D} (r : Reps K φ H vs ds) {i : Int} {d : D} (h : L2.atI ds i = some d) : ∃ v, L2.atI vs i = some v ∧ Rep K φ H v d := by
  unfold L2.atI at h ⊢
  rw [r.length]
  cases e : ixN ds.length i with
  | none => rw [e] at h; cases h
  | some j =>
    rw [e] at h
    exact r.get h
theorem Reps.ints : ∀ {vs : List V} {ds : List D} {ns : List Int}, Reps K φ H vs ds → intsOf ds = some ns → vs = ns.map V.int
  | _, _, ns, .nil, e => by cases e; rfl
  | _, d :: ds, ns, .cons h t, e => by
    cases d with
    | int i =>
      unfold intsOf at e
      cases q : intsOf ds with
      | none => rw [q] at e; cases e
      | some ms =>
        rw [q] at e
        cases e
        rw [h.int_of, Reps.ints t q]
        rfl
    | _ => cases e
theorem RepKV.get {vs : List (Key × V)} {ds : List (Key × D)} (r : RepKV K φ H vs ds) (k : Key) :
    (valV vs k = none ∧ getK ds k = none) ∨ ∃ v d, valV vs k = some v ∧ getK ds k = some d ∧ Rep K φ H v d := by
  induction r with
  | nil => exact .inl ⟨rfl, rfl⟩
  | @cons k' v d vs ds h t ih =>
    unfold valV getK
    rw [List.find?_cons, List.find?_cons]
    by_cases e : k' = k
    · have e' : decide (((k', v) : Key × V).1 = k) = true := decide_eq_true e
      rw [e']
      exact .inr ⟨v, d, rfl, rfl, h⟩
    · have e' : decide (((k', v) : Key × V).1 = k) = false := decide_eq_false e
      rw [e']
      exact ih
theorem RepKV.any {vs : List (Key × V)} {ds : List (Key × D)} (r : RepKV K φ H vs ds) (k : Key) : (vs.any fun kv => decide (kv.1 = k)) = ds.any fun kv => decide (kv.1 = k) := by
  induction r with
  | nil => rfl
  | cons h t ih => rw [List.any_cons, List.any_cons, ih]
theorem RepKV.append {κ : Type} {vs vs' : List (κ × V)} {ds ds' : List (κ × D)} (r : RepKV K φ H vs ds) (r' : RepKV K φ H vs' ds') : RepKV K φ H (vs ++ vs') (ds ++ ds') := by
  induction r with
  | nil => exact r'
  | cons h t ih => exact .cons h ih
theorem RepKV.put {vs : List (Key × V)} {ds : List (Key × D)} (r : RepKV K φ H vs ds) (k : Key) {v : V} {d : D} (h : Rep K φ H v d) : RepKV K φ H (putK vs k v) (putD ds k d) := by
  unfold putK putD
  rw [r.any k]
  split
  · induction r with
    | nil => exact .nil
    | @cons k' v' d' vs ds h' t ih =>
      rename_i hh
      rw [List.map_cons, List.map_cons]
      have go : RepKV K φ H (vs.map fun kv => if kv.1 = k then (kv.1, v) else kv) (ds.map fun kv => if kv.1 = k then (kv.1, d) else kv) := by
        clear ih hh h' 
        induction t with
        | nil => exact .nil
        | @cons k2 v2 d2 vs ds h2 t ih =>
          rw [List.map_cons, List.map_cons]
          by_cases e : k2 = k
          · rw [if_pos e, if_pos e]
            exact .cons h ih
          · rw [if_neg e, if_neg e]
            exact .cons h2 ih
      by_cases e : k' = k
      · rw [if_pos e, if_pos e]
        exact .cons h go
      · rw [if_neg e, if_neg e]
        exact .cons h' go
  · exact r.append (.cons h .nil)
theorem RepKV.drop {vs : List (Key × V)} {ds : List (Key × D)} (r : RepKV K φ H vs ds) (k : Key) : RepKV K φ H (dropK vs k) (dropD ds k) := by
  unfold dropK dropD
  induction r with
  | nil => exact .nil
  | @cons k' v d vs ds h t ih =>
    by_cases e : k' = k
    · rw [List.filter_cons_of_neg (by simp [e]), List.filter_cons_of_neg (by simp [e])]
      exact ih
    · rw [List.filter_cons_of_pos (by simp [e]), List.filter_cons_of_pos (by simp [e])]
      exact .cons h ih
end

section
variable {X : Cx}
theorem pa3_nil : PA3 X [] aNil := ⟨fun W tk => PA.weak pa_nil fun σ H Q ⟨φ, s, M, a, h⟩ => a.fin h _ .nil⟩
theorem pa3_cons {e : Expr} {es : List Expr} {m : ME} {r : MA} (ha : PE3 X e m) (hr : PA3 X es r) (hs : starEach (e :: es) X.env = (false, eval e X.env) :: starEach es X.env := by rfl) : PA3 X (e :: es) (aCons m r) := ⟨fun W tk => by
  refine PA.weak (pa_cons (ha.run W tk) (hr.run W tk) hs) fun σ H Q h => ?_
  obtain ⟨φ, s, M, a, h⟩ := h
  refine bindE a h fun φ1 H1 M1 d v a1 e1 rv h1 => ?_
  refine bindA a1 h1 fun φ2 H2 M2 ds vs a2 e2 rs h2 => ?_
  exact a2.fin h2 _ (.cons (rv.mono e2) rs)⟩
/-- an argument list of one -/
def PA1 (X : Cx) (e : Expr) (t : TE) : Prop := PE X e t
theorem tup_new {G : Pg} {W : WX} {φ : List Addr} {H : Hp} {σ : L2.St} {s : Sl} {M : Mem} {Q : VK} {ds : List D} {vs : List V} (a : At G φ H σ s M) (h : PostG G φ H (fun c d H' => W c d σ H') (kE G Q) (.ok (.tup ds) M)) (r : Reps G.K φ H vs ds) :
    ∀ p, H p = none → Q (.ref p) (upd H p (.tup vs)) := fun p hp =>
  h φ _ (Ext.laid a.mem hp) (a.mem.laid hp) _ (.tup (.inl ⟨upd_same, a.mem.fresh hp⟩) (r.mono (Ext.laid a.mem hp)))
theorem okLen_of {n : Nat} (h : okLen n = true) : n ≤ sizeLine := by
  rw [sizeLine_eq]
  exact of_decide_eq_true h
theorem if_ok {G : Pg} {α : Type} {φ : List Addr} {H : Hp} {w : Value → Option Addr → Hp → Prop} {Kb : List Addr → Hp → α → Prop} {c : Prop} [Decidable c] {r : R α} (h : PostG G φ H w Kb (if c then r else .bad)) : c ∧ PostG G φ H w Kb r := by
  split at h
  · rename_i hc
    exact ⟨hc, h⟩
  · exact h.elim
theorem getS_ok {G : Pg} {α : Type} {φ : List Addr} {H : Hp} {w : Value → Option Addr → Hp → Prop} {Kb : List Addr → Hp → α → Prop} {x : Src} {M : Mem} {f : List D → R α} (h : PostG G φ H w Kb (getS x M f)) : ∃ ds, x.get M = some ds ∧ PostG G φ H w Kb (f ds) := by
  unfold getS at h
  split at h
  · rename_i ds e
    exact ⟨ds, e, h⟩
  · exact h.elim
theorem getI_ok {G : Pg} {α : Type} {φ : List Addr} {H : Hp} {w : Value → Option Addr → Hp → Prop} {Kb : List Addr → Hp → α → Prop} {ds : List D} {f : List Int → R α} (h : PostG G φ H w Kb (getI ds f)) : ∃ ns, intsOf ds = some ns ∧ PostG G φ H w Kb (f ns) := by
  unfold getI at h
  split at h
  · rename_i ns e
    exact ⟨ns, e, h⟩
  · exact h.elim
theorem okO_ok {G : Pg} {α : Type} {φ : List Addr} {H : Hp} {w : Value → Option Addr → Hp → Prop} {Kb : List Addr → Hp → α → Prop} {o : Option α} {M : Mem} (h : PostG G φ H w Kb (okO o M)) : ∃ d, o = some d ∧ PostG G φ H w Kb (.ok d M) := by
  unfold okO at h
  split at h
  · rename_i d
    exact ⟨d, rfl, h⟩
  · exact h.elim
theorem pe3_tup {es : List Expr} {x1 : Nat} {pos : Pos} {m : MA} (h : PA3 X es m) : PE3 X (.Tuple es x1 pos) (eTup m) := ⟨fun W tk => by
  refine PE.weak (pe_tup (h.run W tk)) fun σ H Q h => ?_
  obtain ⟨φ, s, M, a, h⟩ := h
  refine bindA a h fun φ1 H1 M1 ds vs a1 e1 rs h1 => ?_
  obtain ⟨hz, h2⟩ := if_ok h1
  exact ⟨by rw [rs.length]; exact okLen_of hz, tup_new a1 h2 rs⟩⟩
/-- a new list that is not tracked -/
theorem lst_new {G : Pg} {W : WX} {φ : List Addr} {H H0 : Hp} {σ : L2.St} {s : Sl} {M : Mem} {Q : VK} {ds : List D} {vs : List V} (a : At G φ H σ s M) (b : ∀ p, H p = none → H0 p = none) (h : PostG G φ H (fun c d H' => W c d σ H') (kL G H0 Q) (.ok ds M)) (r : Reps G.K φ H vs ds) :
    ∀ p, H p = none → Q (.ref p) (upd H p (.lst vs)) := fun p hp =>
  h φ _ (Ext.laid a.mem hp) (a.mem.laid hp) _ _ (b p hp) upd_same (a.mem.fresh hp) (r.mono (Ext.laid a.mem hp))
theorem pl3_lst {es : List Expr} {pos : Pos} {m : MA} (h : PA3 X es m) : PL3 X (.List es pos) (lLst m) := ⟨fun W tk => by
  refine PE.weak (pe_lst (h.run W tk)) fun σ H Q h => ?_
  obtain ⟨φ, s, M, a, h⟩ := h
  refine bindA a h fun φ1 H1 M1 ds vs a1 e1 rs h1 => ?_
  obtain ⟨hz, h2⟩ := if_ok h1
  exact ⟨by rw [rs.length]; exact okLen_of hz, lst_new a1 (fun p hp => e1.back a1.mem hp) h2 rs⟩⟩
/-- it is tracked from here on -/
theorem pe3_new {e : Expr} {m : MA} (h : PL3 X e m) : PE3 X e (eNew m) := ⟨fun W tk => by
  refine PE.weak (h.run W tk) fun σ H Q h => ?_
  obtain ⟨φ, s, M, a, h⟩ := h
  refine ⟨φ, s, M, a, ?_⟩
  have h' : PostG X.g φ H (fun c d H' => W c d σ H') (kE X.g Q) ((m s M).bind fun ds M1 => .ok (.ref M1.length) (M1 ++ [.lst ds])) := h
  revert h'
  generalize m s M = r
  intro h'
  cases r with
  | exc c d M1 => exact h'
  | bad => exact h'
  | ok ds M1 =>
    intro φ' H' e' m' p vs hp hp' np rs
    have hl : φ'.length = M1.length := m'.len
    have g : (φ' ++ [p])[M1.length]? = some p := by
      rw [← hl, List.getElem?_append_right (Nat.le_refl _), Nat.sub_self]
      rfl
    refine h' (φ' ++ [p]) H' (Ext.track e' hp) ?_ (.ref p) (.ref g)
    refine m'.track np ?_ (fun xs z => by rw [hp'] at z; cases z)
    refine ⟨vs, hp', ?_⟩
    exact rs.keep (Keeps.track fun xs z => by rw [hp'] at z; cases z)⟩
theorem pq3_e {e : Expr} {m : ME} (h : PE3 X e m) : PQ3 X e (qE m) := ⟨fun W tk => by
  refine PE.weak (h.run W tk) fun σ H Q h => ?_
  obtain ⟨φ, s, M, a, h⟩ := h
  refine bindE a h fun φ1 H1 M1 d v a1 e1 r h1 => ?_
  cases d with
  | tup ds =>
    obtain ⟨p, xs, rfl, t, rs⟩ := r.tup_of
    exact a1.fin (show PostG X.g φ1 H1 (fun c d H' => W c d σ H') (kQ X.g Q) (.ok (.tup ds) M1) from h1) _ (.tup t rs)
  | ref i =>
    obtain ⟨p, rfl, hp⟩ := r.ref_of
    exact a1.fin (show PostG X.g φ1 H1 (fun c d H' => W c d σ H') (kQ X.g Q) (.ok (.lst i) M1) from h1) _ (.lst hp)
  | _ => exact h1.elim⟩
theorem pq3_l {e : Expr} {m : MA} (h : PL3 X e m) : PQ3 X e (qL m) := ⟨fun W tk => by
  refine PE.weak (h.run W tk) fun σ H Q h => ?_
  obtain ⟨φ, s, M, a, h⟩ := h
  refine bindL a h fun φ1 H1 M1 ds p vs a1 e1 h0 hp np rs h1 => ?_
  exact a1.fin (show PostG X.g φ1 H1 (fun c d H' => W c d σ H') (kQ X.g Q) (.ok (.tmp ds) M1) from h1) _ (.tmp hp np rs)⟩

/-- one argument, a sequence -/
theorem arg1 {e : Expr} {m : MQ} (h : PQ3 X e m) (hs : starEach [e] X.env = (false, eval e X.env) :: starEach [] X.env := by rfl) : ∀ W, Takes X W → PA X [e] (tCons (tQ X.g W m) tNil) := fun W tk => pa_cons (h.run W tk) pa_nil hs
theorem pe3_tupOf {e : Expr} {q : MQ} {p pos : Pos} (h : PQ3 X e q) (hg : Gl X "tuple") (hm : X.mg "tuple" = none) (hs : starEach [e] X.env = (false, eval e X.env) :: starEach [] X.env := by rfl) (hpl : (backTo pos (starEach [] X.env)).any (·.1) = false := by rfl) :
    PE3 X (.Call (.Name "tuple" p) [e] [] pos) (eTupOf q) := ⟨fun W tk => by
  refine PE.weak (pe_callTy call_tuple_of hg hm (by decide +kernel) (arg1 h hs W tk) (he := hs) (hpl := hpl)) fun σ H Q h => ?_
  obtain ⟨φ, s, M, a, h⟩ := h
  refine bindQ a h fun φ1 H1 M1 x v a1 e1 r h1 => ?_
  obtain ⟨ds, g, h2⟩ := getS_ok h1
  obtain ⟨p, xs, rfl, rs, hq⟩ := r.read a1.mem g
  rcases hq with ⟨_, _, hq⟩ | ⟨_, _, hq⟩ | ⟨_, _, hq⟩
  · exact ⟨p, xs, rfl, .inl ⟨hq, tup_new a1 h2 rs⟩⟩
  · exact ⟨p, xs, rfl, .inl ⟨hq, tup_new a1 h2 rs⟩⟩
  · exact ⟨p, xs, rfl, .inr ⟨hq.sq, a1.finE h2 _ (.tup hq rs)⟩⟩⟩
theorem pl3_listOf {e : Expr} {q : MQ} {p pos : Pos} (h : PQ3 X e q) (hg : Gl X "list") (hm : X.mg "list" = none) (hs : starEach [e] X.env = (false, eval e X.env) :: starEach [] X.env := by rfl) (hpl : (backTo pos (starEach [] X.env)).any (·.1) = false := by rfl) :
    PL3 X (.Call (.Name "list" p) [e] [] pos) (lOf q) := ⟨fun W tk => by
  refine PE.weak (pe_callTy call_list_of hg hm (by decide +kernel) (arg1 h hs W tk) (he := hs) (hpl := hpl)) fun σ H Q h => ?_
  obtain ⟨φ, s, M, a, h⟩ := h
  refine bindQ a h fun φ1 H1 M1 x v a1 e1 r h1 => ?_
  obtain ⟨ds, g, h2⟩ := getS_ok h1
  obtain ⟨p, xs, rfl, rs, hq⟩ := r.seq a1.mem g
  exact ⟨p, xs, rfl, hq, lst_new a1 (fun p hp => e1.back a1.mem hp) h2 rs⟩⟩
theorem pe3_len {e : Expr} {q : MQ} {p pos : Pos} (h : PQ3 X e q) (hg : Gl X "len") (hm : X.mg "len" = none) (hs : starEach [e] X.env = (false, eval e X.env) :: starEach [] X.env := by rfl) (hpl : (backTo pos (starEach [] X.env)).any (·.1) = false := by rfl) :
    PE3 X (.Call (.Name "len" p) [e] [] pos) (eLen q) := ⟨fun W tk => by
  refine PE.weak (pe_callB call_len_seq hg hm PySem.boot_len (arg1 h hs W tk) (he := hs) (hpl := hpl)) fun σ H Q h => ?_
  obtain ⟨φ, s, M, a, h⟩ := h
  refine bindQ a h fun φ1 H1 M1 x v a1 e1 r h1 => ?_
  obtain ⟨ds, g, h2⟩ := getS_ok h1
  obtain ⟨p, xs, rfl, rs, hq⟩ := r.seq a1.mem g
  refine ⟨p, xs, rfl, hq, ?_⟩
  rw [rs.length]
  exact a1.finE h2 _ (.int _)⟩
theorem SrcAt.lists {G : Pg} {φ : List Addr} {H : Hp} {M : Mem} {v : V} {x : Src} {ds : List D} (r : SrcAt G.K φ H v x) (m : RelM G φ H M) (e : x.get M = some ds) (hl : isL x = true) : ∃ p xs, v = .ref p ∧ Reps G.K φ H xs ds ∧ SqL G.K H p xs := by
  obtain ⟨p, xs, h1, h2, h3⟩ := r.read m e
  rcases h3 with ⟨_, _, h3⟩ | ⟨_, _, h3⟩ | ⟨_, h4, h3⟩
  · exact ⟨p, xs, h1, h2, h3⟩
  · exact ⟨p, xs, h1, h2, h3⟩
  · subst h4
    cases hl
theorem pe3_sum {e : Expr} {q : MQ} {p pos : Pos} (hc : X.calm = true) (h : PQ3 X e q) (hg : Gl X "sum") (hm : X.mg "sum" = none) (hs : starEach [e] X.env = (false, eval e X.env) :: starEach [] X.env := by rfl) (hpl : (backTo pos (starEach [] X.env)).any (·.1) = false := by rfl) :
    PE3 X (.Call (.Name "sum" p) [e] [] pos) (eSum q) := ⟨fun W tk => by
  refine PE.weak (pe_callB (cr_sum hc) hg hm (by decide +kernel) (arg1 h hs W tk) (he := hs) (hpl := hpl)) fun σ H Q h => ?_
  obtain ⟨φ, s, M, a, h⟩ := h
  refine bindQ a h fun φ1 H1 M1 x v a1 e1 r h1 => ?_
  obtain ⟨hl, h2⟩ := if_ok h1
  obtain ⟨ds, g, h3⟩ := getS_ok h2
  obtain ⟨ns, gi, h4⟩ := getI_ok h3
  obtain ⟨p, xs, rfl, rs, hq⟩ := r.lists a1.mem g hl
  exact ⟨p, ns, rfl, by rw [← rs.ints gi]; exact hq, a1.finE h4 _ (.int _)⟩⟩
/-- a list that is tracked or temporary, as + takes it -/
theorem SrcAt.own {G : Pg} {φ : List Addr} {H : Hp} {M : Mem} {v : V} {x : Src} {ds : List D} (r : SrcAt G.K φ H v x) (m : RelM G φ H M) (e : x.own M = some ds) : ∃ p xs, v = .ref p ∧ Reps G.K φ H xs ds ∧ H p = some (.lst xs) := by
  cases r with
  | tup h r => cases e
  | tmp h n r =>
    cases e
    exact ⟨_, _, rfl, r, h⟩
  | @lst p i h =>
    obtain ⟨o, ho, ro⟩ := m.obj h
    dsimp only [Src.own] at e
    rw [ho] at e
    cases o with
    | lst es =>
      cases e
      obtain ⟨xs, h2, r2⟩ := ro
      exact ⟨p, xs, rfl, r2, h2⟩
    | frz es => cases e
    | dK kvs => cases e
    | ins c fs => cases e
theorem getW_ok {G : Pg} {α : Type} {φ : List Addr} {H : Hp} {w : Value → Option Addr → Hp → Prop} {Kb : List Addr → Hp → α → Prop} {x : Src} {M : Mem} {f : List D → R α} (h : PostG G φ H w Kb (getW x M f)) : ∃ ds, x.own M = some ds ∧ PostG G φ H w Kb (f ds) := by
  unfold getW at h
  split at h
  · rename_i ds e
    exact ⟨ds, e, h⟩
  · exact h.elim
theorem pl3_cat {a b : Expr} {ma mb : MQ} {pos : Pos} (ha : PQ3 X a ma) (hb : PQ3 X b mb) : PL3 X (.BinOp a .Add b pos) (lCat ma mb) := ⟨fun W tk => by
  refine PE.weak (pe_op op_cat (ha.run W tk) (hb.run W tk)) fun σ H Q h => ?_
  obtain ⟨φ, s, M, a, h⟩ := h
  refine bindQ a h fun φ1 H1 M1 x v a1 e1 r h1 => ?_
  refine bindQ a1 h1 fun φ2 H2 M2 y v2 a2 e2 r2 h2 => ?_
  obtain ⟨ds, g1, h3⟩ := getW_ok h2
  obtain ⟨es, g2, h4⟩ := getW_ok h3
  obtain ⟨hz, h5⟩ := if_ok h4
  obtain ⟨p1, xs1, rfl, s1, q1⟩ := (r.mono e2).own a2.mem g1
  obtain ⟨p2, xs2, rfl, s2, q2⟩ := r2.own a2.mem g2
  refine ⟨p1, p2, xs1, xs2, rfl, rfl, q1, q2, ?_, lst_new a2 (fun p hp => (e1.trans e2).back a2.mem hp) h5 (s1.append s2)⟩
  rw [s1.length, s2.length]
  exact okLen_of hz⟩

/-! ### subscripts -/
theorem ix_dict (hu : X.A.units + 1 < cLine) : IxR X (fun x y H Q => ∃ a v, x = .ref a ∧ DGet H a y (some v) ∧ Q v H) := by
  intro value slice pins s σ H x y v u Q I rx ry h hs
  obtain ⟨a, z, rfl, g, q⟩ := h
  cases rx
  exact tail_any (dict_typeIs I g) PySem.F.slot_dict_getitem.lookup (d_getItem hu I g ry fun w' s3 I3 rw' => ⟨z, H, I3, rw', q⟩) hs
theorem keyOf_kV {K : PySem.W.Frag} {φ : List Addr} {H : Hp} {v : V} {d : D} {k : Key} (r : Rep K φ H v d) (e : keyOf d = some k) : v = kV k := by
  cases d with
  | int i => cases e; exact r.int_of
  | str x => cases e; exact r.str_of
  | _ => cases e
theorem pe3_ix {a b : Expr} {ma mb : ME} {pos : Pos} (hu : X.A.units + 1 < cLine) (ha : PE3 X a ma) (hb : PE3 X b mb) (hs : PlainIx b := by exact fun _ _ => rfl) : PE3 X (.Subscript a b pos) (eBin opIx ma mb) := ⟨fun W tk => by
  refine PE.weak (pe_ix (ix_tup.or (ix_list.or (ix_dict hu))) (ha.run W tk) (hb.run W tk) hs) fun σ H Q h => ?_
  obtain ⟨φ, s, M, a, h⟩ := h
  refine bindE a h fun φ1 H1 M1 d v a1 e1 rv h1 => ?_
  refine bindE a1 h1 fun φ2 H2 M2 d2 v2 a2 e2 rv2 h2 => ?_
  have rv' := rv.mono e2
  unfold opIx at h2
  split at h2
  · rename_i ds i
    obtain ⟨d3, g, h3⟩ := okO_ok h2
    obtain ⟨p, xs, rfl, t, rs⟩ := rv'.tup_of
    obtain ⟨v3, hv3, r3⟩ := rs.atI g
    exact .inl ⟨p, xs, i, v3, rfl, rv2.int_of, t.sq, hv3, a2.finE h3 _ r3⟩
  · rename_i j y
    obtain ⟨p, rfl, hp⟩ := rv'.ref_of
    obtain ⟨o, ho, ro⟩ := a2.mem.obj hp
    rw [ho] at h2
    cases o with
    | lst ds =>
      dsimp only at h2
      split at h2
      · rename_i i
        obtain ⟨d3, g, h3⟩ := okO_ok h2
        obtain ⟨xs, q, rs⟩ := ro
        obtain ⟨v3, hv3, r3⟩ := rs.atI g
        exact .inr (.inl ⟨p, xs, i, v3, rfl, rv2.int_of, .inl (.inl q), hv3, a2.finE h3 _ r3⟩)
      · exact h2.elim
    | frz ds =>
      dsimp only at h2
      split at h2
      · rename_i i
        obtain ⟨d3, g, h3⟩ := okO_ok h2
        obtain ⟨o, xs, q, rs⟩ := ro
        obtain ⟨v3, hv3, r3⟩ := rs.atI g
        exact .inr (.inl ⟨p, xs, i, v3, rfl, rv2.int_of, .inl (.inr ⟨o, q⟩), hv3, a2.finE h3 _ r3⟩)
      · exact h2.elim
    | dK kvs =>
      dsimp only at h2
      split at h2
      · rename_i k ek
        obtain ⟨d3, g, h3⟩ := okO_ok h2
        obtain ⟨kvs', q, rs⟩ := ro
        rcases rs.get k with ⟨_, n⟩ | ⟨v3, d3', hv3, g', r3⟩
        · rw [n] at g
          cases g
        · rw [g'] at g
          cases g
          have e : v2 = kV k := keyOf_kV rv2 ek
          subst e
          exact .inr (.inr ⟨p, v3, rfl, hv3 ▸ DGet.k q, a2.finE h3 _ r3⟩)
      · exact h2.elim
    | ins c fs => exact h2.elim
  · exact h2.elim⟩
abbrev kO (Q : Option Int → Hp → Prop) : List Addr → Hp → Option Int → Prop := fun _ H' x => Q x H'
/-- a part of a slice -/
structure PO3 (X : Cx) (o : Option Expr) (m : MO) : Prop where
  run : ∀ W, Takes X W → PO X o (tG X.g W (fun _ Q => kO Q) m)
theorem PO.weak {o : Option Expr} {t t' : TO} (h : PO X o t) (k : ∀ σ H Q, t' σ H Q → t σ H Q) : PO X o t' := ⟨fun pins s σ H Q I q => h.run pins s σ H Q I (k σ H Q q)⟩
theorem po3_none : PO3 X none oNone := ⟨fun W tk => PO.weak po_none fun σ H Q ⟨φ, s, M, a, h⟩ => a.fin h⟩
theorem po3_some {e : Expr} {m : ME} (h : PE3 X e m) : PO3 X (some e) (oSome m) := ⟨fun W tk => by
  refine PO.weak (po_some (h.run W tk)) fun σ H Q h => ?_
  obtain ⟨φ, s, M, a, h⟩ := h
  refine bindE a h fun φ1 H1 M1 d v a1 e1 rv h1 => ?_
  cases d with
  | int i => exact ⟨i, rv.int_of, a1.fin (show PostG X.g φ1 H1 (fun c d H' => W c d σ H') (kO Q) (.ok (some i) M1) from h1)⟩
  | _ => exact h1.elim⟩
theorem bindO {β : Type} {G : Pg} {W : WX} {φ : List Addr} {H : Hp} {σ : L2.St} {s : Sl} {M : Mem} {Kb : List Addr → Hp → β → Prop} (a : At G φ H σ s M) {m : MO} {f : Option Int → Mem → R β} (h : PostG G φ H (fun c d H' => W c d σ H') Kb ((m s M).bind f)) {Q : Option Int → Hp → Prop}
    (k : ∀ φ1 H1 M1 d, At G φ1 H1 σ s M1 → Ext φ H φ1 H1 → PostG G φ1 H1 (fun c d H' => W c d σ H') Kb (f d M1) → Q d H1) : tG G W (fun _ Q => kO Q) m σ H Q :=
  bindG (kk := fun _ Q => kO Q) a h fun φ1 H1 M1 d a1 e1 h1 => k φ1 H1 M1 d a1 e1 h1
theorem pl3_sl {e : Expr} {lo hi : Option Expr} {q : MQ} {ml mh : MO} {p2 pos : Pos} (h : PQ3 X e q) (hl : PO3 X lo ml) (hh : PO3 X hi mh) : PL3 X (.Subscript e (.Slice lo hi none p2) pos) (lSl q ml mh) := ⟨fun W tk => by
  refine PE.weak (pe_slice sl_list (h.run W tk) (hl.run W tk) (hh.run W tk)) fun σ H Q h => ?_
  obtain ⟨φ, s, M, a, h⟩ := h
  refine bindQ a h fun φ1 H1 M1 x v a1 e1 r h1 => ?_
  refine bindO a1 h1 fun φ2 H2 M2 l a2 e2 h2 => ?_
  refine bindO a2 h2 fun φ3 H3 M3 u a3 e3 h3 => ?_
  obtain ⟨hl, h4⟩ := if_ok h3
  obtain ⟨ds, g, h5⟩ := getS_ok h4
  obtain ⟨p, xs, rfl, rs, hq⟩ := ((r.mono e2).mono e3).lists a3.mem g hl
  exact ⟨p, xs, rfl, hq, lst_new a3 (fun p hp => ((e1.trans e2).trans e3).back a3.mem hp) h5 (rs.cut l u)⟩⟩
theorem cut_all {α : Type} (xs : List α) (lo hi : Option Int) (h : HT.sIx xs.length 0 lo = 0 ∧ HT.sIx xs.length xs.length hi = xs.length) : cut xs lo hi = xs := by
  unfold cut
  rw [h.1, h.2]
  simp
theorem pe3_slT {e : Expr} {lo hi : Option Expr} {m : ME} {ml mh : MO} {p2 pos : Pos} (h : PE3 X e m) (hl : PO3 X lo ml) (hh : PO3 X hi mh) : PE3 X (.Subscript e (.Slice lo hi none p2) pos) (eSlT m ml mh) := ⟨fun W tk => by
  refine PE.weak (pe_slice sl_tupA (h.run W tk) (hl.run W tk) (hh.run W tk)) fun σ H Q h => ?_
  obtain ⟨φ, s, M, a, h⟩ := h
  refine bindE a h fun φ1 H1 M1 d v a1 e1 r h1 => ?_
  refine bindO a1 h1 fun φ2 H2 M2 l a2 e2 h2 => ?_
  refine bindO a2 h2 fun φ3 H3 M3 u a3 e3 h3 => ?_
  cases d with
  | tup ds =>
    obtain ⟨p, xs, rfl, t, rs⟩ := ((r.mono e2).mono e3).tup_of
    have h4 : PostG X.g φ3 H3 (fun c d H' => W c d σ H') (kE X.g Q) (.ok (.tup (cut ds l u)) M3) := h3
    refine ⟨p, xs, rfl, t.sq, fun hw => ?_, fun _ => tup_new a3 h4 (rs.cut l u)⟩
    rw [rs.length] at hw
    rw [cut_all ds l u hw] at h4
    exact a3.finE h4 _ (.tup t rs)
  | _ => exact h3.elim⟩
end
end L3
set_option Elab.async false
set_option linter.all false
set_option maxRecDepth 100000
set_option maxHeartbeats 2000000
/-! L3e: in, isinstance, methods of lists, fields, dicts. -/
namespace L3
open PySem PySem.Spec PyProof.Rows L2

/-! ### isinstance of a built-in class -/
def kindOf (d : D) (M : Mem) : Option String := match d with
  | .non => some "NoneType"
  | .bl _ => some "bool"
  | .int _ => some "int"
  | .str _ => some "str"
  | .tup _ => some "tuple"
  | .ref j => match M[j]? with
    | some (.lst _) => some "list"
    | some (.frz _) => some "list"
    | some (.dK _) => some "dict"
    | _ => none
def isiT (t T : String) : Bool := t == T || (t == "bool" && T == "int")
def opIsi (T : String) (d : D) (M : Mem) : R D := match kindOf d M with
  | some t => .ok (.bl (isiT t T)) M
  | none => .bad
theorem kit_all : ∀ t ∈ ["NoneType", "bool", "int", "str", "tuple", "list", "dict"], ∀ T ∈ ["bool", "int", "str", "tuple", "list"], kitB t T = some (isiT t T) := by decide +kernel
/-- fields -/
def eFld (c f : String) (o : ME) : ME := fun s M => (o s M).bind fun d M1 => match d with
  | .ref j => match M1[j]? with
    | some (.ins c' fs) => if c' = c then okO (fs.lookup f) M1 else .bad
    | _ => .bad
  | _ => .bad
/-- a display of a dict -/
abbrev MP := Sl → Mem → R (List (Key × D))
def pNil : MP := fun _ M => .ok [] M
def pCons (k v : ME) (r : MP) : MP := fun s M => (k s M).bind fun x M1 => (v s M1).bind fun y M2 => (r s M2).bind fun ps M3 => match keyOf x with
  | some kk => .ok ((kk, y) :: ps) M3
  | none => .bad
def mergeD (kvs more : List (Key × D)) : List (Key × D) := more.foldl (fun acc kv => putD acc kv.1 kv.2) kvs
def eDict (m : MP) : ME := fun s M => (m s M).bind fun ps M1 => if ps.length ≤ 15 then .ok (.ref M1.length) (M1 ++ [.dK (mergeD [] ps)]) else .bad

section
variable {X : Cx}
theorem kind_ty {G : Pg} {φ : List Addr} {H : Hp} {M : Mem} {v : V} {d : D} {t : String} (r : Rep G.K φ H v d) (m : RelM G φ H M) (e : kindOf d M = some t) :
    TyX G.K H v (.type t) ∧ t ∈ ["NoneType", "bool", "int", "str", "tuple", "list", "dict"] := by
  cases d with
  | non => cases e; cases r; exact ⟨.base .non, by decide⟩
  | bl b => cases e; cases r; exact ⟨.base (.bl b), by decide⟩
  | int b => cases e; cases r; exact ⟨.base (.int b), by decide⟩
  | str b => cases e; cases r; exact ⟨.base (.str b), by decide⟩
  | tup ds =>
    cases e
    obtain ⟨p, xs, rfl, t, s⟩ := r.tup_of
    refine ⟨?_, by decide⟩
    rcases t with ⟨h, _⟩ | ⟨o, its, n, h1, h2, _⟩
    · exact .base (.tup h)
    · exact .kTuple h1 h2
  | ref i =>
    obtain ⟨p, rfl, hp⟩ := r.ref_of
    obtain ⟨o, ho, ro⟩ := m.obj hp
    dsimp only [kindOf] at e
    rw [ho] at e
    cases o with
    | lst ds =>
      cases e
      obtain ⟨xs, h, _⟩ := ro
      exact ⟨.base (.lst h), by decide⟩
    | frz ds =>
      cases e
      obtain ⟨o, xs, h, _⟩ := ro
      exact ⟨.base (.frz h), by decide⟩
    | dK kvs =>
      cases e
      obtain ⟨xs, h, _⟩ := ro
      exact ⟨.base (.dK h), by decide⟩
    | ins c fs => cases e
theorem pe3_isi {a : Expr} {m : ME} {T : String} {p p2 pos : Pos} (ha : PE3 X a m) (hT : T ∈ ["bool", "int", "str", "tuple", "list"]) (hg : Gl X "isinstance") (hm : X.mg "isinstance" = none) (hgT : Gl X (nm T)) (hmT : X.mg (nm T) = none) (hbT : bootBuiltins (nm T) = some (.type T))
    (hnT : nm T ≠ "__name__") (hdT : (nm T == ("__debug__" : Str)) = false)
    (hs : starEach [a, .Name (nm T) p2] X.env = (false, eval a X.env) :: starEach [.Name (nm T) p2] X.env := by rfl) (hs2 : starEach [.Name (nm T) p2] X.env = (false, eval (.Name (nm T) p2) X.env) :: starEach [] X.env := by rfl)
    (hpl : (backTo pos (starEach [.Name (nm T) p2] X.env)).any (·.1) = false := by rfl) :
    PE3 X (.Call (.Name "isinstance" p) [a, .Name (nm T) p2] [] pos) (eUn (opIsi T) m) := ⟨fun W tk => by
  refine PE.weak (pe_callB call_isi hg hm (by decide +kernel) (pa_cons (ha.run W tk) (pa_cons (pe_bltn (v := .ty T) hgT hmT hbT rfl hnT hdT) pa_nil hs2) hs) (he := hs) (hpl := hpl)) fun σ H Q h => ?_
  obtain ⟨φ, s, M, a, h⟩ := h
  refine bindE a h fun φ1 H1 M1 d v a1 e1 r h1 => ?_
  unfold opIsi at h1
  split at h1
  · rename_i t et
    obtain ⟨ty, ht⟩ := kind_ty r a1.mem et
    exact ⟨v, .ty T, .type t, .type T, isiT t T, rfl, .ty T, ty, kit_ty (kit_all t ht T hT), a1.finE h1 _ (.bl _)⟩
  · exact h1.elim⟩

/-! ### in -/
theorem pys_dp {G : Pg} {φ : List Addr} {H : Hp} {M : Mem} (m : RelM G φ H M) (n : Nat) : ∀ {ds : List D} {ps : List PyData} {vs : List V}, ds.mapM (pyD n M) = some ps → Reps G.K φ H vs ds → DpAll G.K H vs ps := by
  intro ds
  induction ds with
  | nil =>
    intro ps vs e r
    cases e
    cases r
    exact .nil
  | cons d ds ih2 =>
    intro ps vs e r
    rw [List.mapM_cons] at e
    cases h1 : pyD n M d with
    | none => rw [h1] at e; cases e
    | some p =>
      cases h2 : ds.mapM (pyD n M) with
      | none => rw [h1, h2] at e; cases e
      | some qs =>
        rw [h1, h2] at e
        cases e
        cases r with
        | cons r1 r2 => exact .cons (py_dp m n h1 r1) (ih2 h2 r2)
theorem any_int (ns : List Int) (i : Int) : inV (.int i) (ns.map V.int) = ns.any fun n => n == i := by
  unfold inV
  rw [List.any_map]
  rfl
theorem flat_ints (ns : List Int) : (ns.map V.int).all flatV = true := by
  rw [List.all_map]
  exact List.all_eq_true.mpr fun _ _ => rfl
def rIn3 (K : PySem.W.Frag) (neg : Bool) : R2 := fun x y H Q => (∃ d ds, Dp K H x d ∧ Dp K H y (.list ds) ∧ SeqAt.shaped d = true ∧ SeqAt.shaped (.list ds) = true ∧ Q (.bl (xor neg (ds.any fun z => PyData.eqv z d))) H) ∨ rIn K neg x y H Q
theorem op3_in (hu : X.A.units + 65 < cLine) : OpR X (compareOp .In) (rIn3 X.K false) := by
  refine OpR.weak (OpR.or (op_inD hu) op_in_seq) fun x y H Q h => ?_
  rcases h with ⟨d, ds, h1, h2, h3, h4, h5⟩ | h
  · exact .inl ⟨d, ds, h1, h2, h3, h4, by simpa using h5⟩
  · exact .inr h
theorem op3_notIn (hu : X.A.units + 65 < cLine) : OpR X (compareOp .NotIn) (rIn3 X.K true) := by
  refine OpR.weak (OpR.or (op_notInD hu) op_notIn_seq) fun x y H Q h => ?_
  rcases h with ⟨d, ds, h1, h2, h3, h4, h5⟩ | h
  · exact .inl ⟨d, ds, h1, h2, h3, h4, by simpa using h5⟩
  · exact .inr h
theorem in_ok {neg : Bool} {m : ME} {q : MQ} {W : WX} {σ : L2.St} {H : Hp} {Q : VK} (h : tE X.g W (eIn neg m q) σ H Q) : tOp (rIn3 X.K neg) (tE X.g W m) (tQ X.g W q) σ H Q := by
  obtain ⟨φ, s, M, a, h⟩ := h
  refine bindE a h fun φ1 H1 M1 d v a1 e1 r h1 => ?_
  refine bindQ a1 h1 fun φ2 H2 M2 y v2 a2 e2 r2 h2 => ?_
  have r' := r.mono e2
  split at h2
  · rename_i hl
    obtain ⟨ds, g, h3⟩ := getS_ok h2
    split at h3
    · rename_i p ps e1 e2
      obtain ⟨hs, h4⟩ := if_ok h3
      obtain ⟨q, xs, rfl, rs, hq⟩ := r2.lists a2.mem g hl
      exact .inl ⟨p, ps, py_dp a2.mem 20 e1 r', .lst hq (pys_dp a2.mem 19 e2 rs), hs.1, hs.2, a2.finE h4 _ (.bl _)⟩
    · exact h3.elim
  · rename_i hl
    obtain ⟨ds, g, h3⟩ := getS_ok h2
    obtain ⟨ns, gi, h4⟩ := getI_ok h3
    split at h4
    · rename_i i
      obtain ⟨q, xs, rfl, rs, hq⟩ := r2.seq a2.mem g
      have e := rs.ints gi
      subst e
      refine .inr ⟨q, _, rfl, hq, ?_, flat_ints ns, ?_⟩
      · rw [r'.int_of]
        rfl
      · have := a2.finE h4 _ (.bl _)
        rw [r'.int_of, any_int]
        cases neg <;> simpa using this
    · exact h4.elim
theorem pe3_in {a b : Expr} {m : ME} {q : MQ} {pos : Pos} (hu : X.A.units + 65 < cLine) (ha : PE3 X a m) (hb : PQ3 X b q) (hm : behindInMarks .In b = false := by rfl) : PE3 X (.Compare a [.In] [b] pos) (eIn false m q) :=
  ⟨fun W tk => PE.weak (pe_cmpR (op3_in hu) (ha.run W tk) (hb.run W tk) hm) fun σ H Q h => in_ok h⟩
theorem pe3_notIn {a b : Expr} {m : ME} {q : MQ} {pos : Pos} (hu : X.A.units + 65 < cLine) (ha : PE3 X a m) (hb : PQ3 X b q) (hm : behindInMarks .NotIn b = false := by rfl) : PE3 X (.Compare a [.NotIn] [b] pos) (eIn true m q) :=
  ⟨fun W tk => PE.weak (pe_cmpR (op3_notIn hu) (ha.run W tk) (hb.run W tk) hm) fun σ H Q h => in_ok h⟩
theorem nx_in {neg : Bool} {m : ME} {q : MQ} : True := trivial
/-- a comparison by a rule as a test -/
theorem pt3_of {op : CmpOp} {r : R2} {a b : Expr} {ta : WX → TE} {tb : WX → TE} {m : ME} {pos : Pos} (ho : OpR X (compareOp op) r) (ha : ∀ W, Takes X W → PE X a (ta W)) (hb : ∀ W, Takes X W → PE X b (tb W)) (hm : behindInMarks op b = false)
    (k : ∀ W σ H Q, tE X.g W m σ H Q → tOp r (ta W) (tb W) σ H Q) (kk : ∀ W σ H (Q : Bool → Hp → Prop), tT X.g W (tOf m) σ H Q → tE X.g W m σ H fun x H' => ∃ k, x = .bl k ∧ Q k H') : PT3 X (.Compare a [op] [b] pos) (tOf m) :=
  ⟨fun W tk => PT.weak (pt_cmpR ho (ha W tk) (hb W tk) hm) fun σ H Q h => k W σ H _ (kk W σ H Q h)⟩
theorem tOf_tE {m : ME} (W : WX) (σ : L2.St) (H : Hp) (Q : Bool → Hp → Prop) (h : tT X.g W (tOf m) σ H Q) : tE X.g W m σ H fun x H' => ∃ k, x = .bl k ∧ Q k H' := by
  obtain ⟨φ, s, M, a, h⟩ := h
  refine ⟨φ, s, M, a, ?_⟩
  have h' : PostG X.g φ H (fun c d H' => W c d σ H') (kB Q) ((m s M).bind asB) := h
  revert h'
  generalize m s M = rr
  intro h'
  cases rr with
  | ok d M1 =>
    intro φ' H' e' m' v rv
    obtain ⟨b, rfl, h2⟩ := asB_ok0 (show PostG X.g φ H _ _ (asB d M1) from h')
    exact ⟨b, rv.bl_of, h2 φ' H' e' m'⟩
  | exc c d M1 => exact h'
  | bad => exact h'
theorem pt3_in {a b : Expr} {m : ME} {q : MQ} {pos : Pos} (hu : X.A.units + 65 < cLine) (ha : PE3 X a m) (hb : PQ3 X b q) (hm : behindInMarks .In b = false := by rfl) : PT3 X (.Compare a [.In] [b] pos) (tOf (eIn false m q)) :=
  pt3_of (op3_in hu) ha.run hb.run hm (fun W σ H Q h => in_ok h) tOf_tE
theorem pt3_notIn {a b : Expr} {m : ME} {q : MQ} {pos : Pos} (hu : X.A.units + 65 < cLine) (ha : PE3 X a m) (hb : PQ3 X b q) (hm : behindInMarks .NotIn b = false := by rfl) : PT3 X (.Compare a [.NotIn] [b] pos) (tOf (eIn true m q)) :=
  pt3_of (op3_notIn hu) ha.run hb.run hm (fun W σ H Q h => in_ok h) tOf_tE
theorem pt3_chain {op op' : CmpOp} {f g : D → D → Mem → R D} {a b c : Expr} {ma mb mc : ME} {pos : Pos} (ho : OpR X (compareOp op) (rO X.g f)) (ho' : OpR X (compareOp op') (rO X.g g)) (n : ∀ x y M, NoExc (f x y M)) (n' : ∀ x y M, NoExc (g x y M)) (ha : PE3 X a ma) (hb : PE3 X b mb) (hc : PE3 X c mc)
    (hm : lastMarks [op, op'] [b, c] = false := by with_unfolding_all rfl) : PT3 X (.Compare a [op, op'] [b, c] pos) (tOf (eChain f g ma mb mc)) := ⟨fun W tk =>
  PT.weak (pt_chain ho ho' (ha.run W tk) (hb.run W tk) (hc.run W tk) hm) fun σ H Q h => chain3 (fun _ _ _ _ h => h) (fun _ _ _ _ h => h) n n' (tOf_tE W σ H Q h)⟩

/-! ### methods of lists -/
theorem put_lst {G : Pg} {φ : List Addr} {H : Hp} {M : Mem} {j : Nat} {p : Addr} {xs : List V} {ds : List D} (m : RelM G φ H M) (hp : φ[j]? = some p) (r : Reps G.K φ H xs ds) : Ext φ H φ (upd H p (.lst xs)) ∧ RelM G φ (upd H p (.lst xs)) (M.set j (.lst ds)) :=
  ⟨Ext.put m hp, m.put hp ⟨xs, upd_same, r.mono (Ext.put m hp)⟩⟩
theorem isLst_at {G : Pg} {φ : List Addr} {H : Hp} {M : Mem} {v : V} {d : D} (r : Rep G.K φ H v d) (m : RelM G φ H M) (e : isLst d M = true) : tyV G.K "list" v H := by
  cases d with
  | ref j =>
    obtain ⟨p, rfl, hp⟩ := r.ref_of
    obtain ⟨o1, ho1, ro1⟩ := m.obj hp
    dsimp only [isLst] at e
    rw [ho1] at e
    cases o1 with
    | lst ds =>
      obtain ⟨xs, q, _⟩ := ro1
      exact .inl ⟨rfl, xs, .inl (.inl q)⟩
    | _ => cases e
  | _ => cases e
theorem onLst_ok {G : Pg} {α : Type} {φ : List Addr} {H H0 : Hp} {w : Value → Option Addr → Hp → Prop} {Kb : List Addr → Hp → α → Prop} {d : D} {M : Mem} {f : Nat → List D → R α} {v : V} (r : Rep G.K φ H v d) (m : RelM G φ H M) (h : PostG G φ H0 w Kb (onLst d M f)) :
    ∃ j p xs ds, v = .ref p ∧ φ[j]? = some p ∧ M[j]? = some (.lst ds) ∧ H p = some (.lst xs) ∧ Reps G.K φ H xs ds ∧ PostG G φ H0 w Kb (f j ds) := by
  cases d with
  | ref j =>
    obtain ⟨p, rfl, hp⟩ := r.ref_of
    obtain ⟨o1, ho1, ro1⟩ := m.obj hp
    dsimp only [onLst] at h
    rw [ho1] at h
    cases o1 with
    | lst ds =>
      obtain ⟨xs, q, rs⟩ := ro1
      exact ⟨j, p, xs, ds, rfl, hp, ho1, q, rs, h⟩
    | _ => exact h.elim
  | _ => exact h.elim
theorem pe3_append {o a : Expr} {mo ma : ME} {apos cpos : Pos} (ho : PE3 X o mo) (ha : PE3 X a ma) (hbase : attributeBase o "append" X.env (eval o X.env) = eval o X.env := by rfl)
    (hfew : ((backTo cpos (starEach [a] X.env)).all (fun x => !x.1) && (backToKw cpos (keywordEach [] X.env)).all (fun x => x.1.isSome)
      && decide (([a] : List Expr).length + ([] : List Keyword).length + (if ([] : List Keyword).isEmpty then 0 else 1) < 30)) = true := by rfl)
    (hline : (apos.endLine == cpos.line) = true := by rfl) (hs : starEach [a] X.env = (false, eval a X.env) :: starEach [] X.env := by rfl) (hplain : (backTo cpos (starEach [] X.env)).any (·.1) = false := by rfl) :
    PE3 X (.Call (.Attribute o "append" apos) [a] [] cpos) (mApp mo ma) := ⟨fun W tk => by
  refine PE.weak (pe_bm PySem.F.plainAttrs_list PySem.F.slot_list_append PySem.F.type_list_append mt_append (ho.run W tk) (pa_cons (ha.run W tk) pa_nil hs) hbase hfew hline hs hplain) fun σ H Q h => ?_
  obtain ⟨φ, s, M, a, h⟩ := h
  refine bindE a h fun φ1 H1 M1 d v a1 e1 r h1 => ?_
  obtain ⟨hl, h2⟩ := if_ok h1
  refine ⟨isLst_at r a1.mem hl, bindE a1 h2 fun φ2 H2 M2 d2 v2 a2 e2 r2 h3 => ?_⟩
  obtain ⟨j, p, xs, ds, rfl, hp, _, q, rs, h4⟩ := onLst_ok (r.mono e2) a2.mem h3
  obtain ⟨hz, h5⟩ := if_ok h4
  obtain ⟨ex, m'⟩ := put_lst a2.mem hp (rs.append (.one r2))
  refine ⟨p, xs, v2, rfl, rfl, q, ?_, h5 _ _ ex m' _ .non⟩
  have := okLen_of hz
  rw [rs.length]
  omega⟩
theorem pe3_popAt {o a : Expr} {mo ma : ME} {apos cpos : Pos} (ho : PE3 X o mo) (ha : PE3 X a ma) (hbase : attributeBase o "pop" X.env (eval o X.env) = eval o X.env := by rfl)
    (hfew : ((backTo cpos (starEach [a] X.env)).all (fun x => !x.1) && (backToKw cpos (keywordEach [] X.env)).all (fun x => x.1.isSome)
      && decide (([a] : List Expr).length + ([] : List Keyword).length + (if ([] : List Keyword).isEmpty then 0 else 1) < 30)) = true := by rfl)
    (hline : (apos.endLine == cpos.line) = true := by rfl) (hs : starEach [a] X.env = (false, eval a X.env) :: starEach [] X.env := by rfl) (hplain : (backTo cpos (starEach [] X.env)).any (·.1) = false := by rfl) :
    PE3 X (.Call (.Attribute o "pop" apos) [a] [] cpos) (mPopAt mo ma) := ⟨fun W tk => by
  refine PE.weak (pe_bm PySem.F.plainAttrs_list PySem.F.slot_list_pop PySem.F.type_list_pop mt_popAt (ho.run W tk) (pa_cons (ha.run W tk) pa_nil hs) hbase hfew hline hs hplain) fun σ H Q h => ?_
  obtain ⟨φ, s, M, a, h⟩ := h
  refine bindE a h fun φ1 H1 M1 d v a1 e1 r h1 => ?_
  obtain ⟨hl, h2⟩ := if_ok h1
  refine ⟨isLst_at r a1.mem hl, bindE a1 h2 fun φ2 H2 M2 d2 v2 a2 e2 r2 h3 => ?_⟩
  obtain ⟨j, p, xs, ds, rfl, hp, hj, q, rs, h4⟩ := onLst_ok (r.mono e2) a2.mem h3
  split at h4
  · rename_i i
    obtain ⟨h0, h5⟩ := if_ok h4
    split at h5
    · rename_i dd hd
      obtain ⟨vv, hv, rv⟩ := rs.get hd
      obtain ⟨ex, m'⟩ := put_lst a2.mem hp (rs.eraseIdx i.toNat)
      have hlt : i.toNat < xs.length := (List.getElem?_eq_some_iff.mp hv).1
      refine ⟨p, xs, i, i.toNat, vv, rfl, ?_, q, by omega, by omega, ?_, hv, h5 _ _ ex m' _ (rv.mono ex)⟩
      · rw [r2.int_of]
      · exact PySem.StrLaws.seqIndex_nonneg h0.1 (by omega)
    · exact h5.elim
  · exact h4.elim⟩
theorem SrcAt.ownTy {G : Pg} {φ : List Addr} {H : Hp} {v : V} {x : Src} : True := trivial
theorem pe3_extend {o a : Expr} {mo : ME} {ma : MQ} {apos cpos : Pos} (ho : PE3 X o mo) (ha : PQ3 X a ma) (hbase : attributeBase o "extend" X.env (eval o X.env) = eval o X.env := by rfl)
    (hfew : ((backTo cpos (starEach [a] X.env)).all (fun x => !x.1) && (backToKw cpos (keywordEach [] X.env)).all (fun x => x.1.isSome)
      && decide (([a] : List Expr).length + ([] : List Keyword).length + (if ([] : List Keyword).isEmpty then 0 else 1) < 30)) = true := by rfl)
    (hline : (apos.endLine == cpos.line) = true := by rfl) (hs : starEach [a] X.env = (false, eval a X.env) :: starEach [] X.env := by rfl) (hplain : (backTo cpos (starEach [] X.env)).any (·.1) = false := by rfl) :
    PE3 X (.Call (.Attribute o "extend" apos) [a] [] cpos) (mExt mo ma) := ⟨fun W tk => by
  refine PE.weak (pe_bm PySem.F.plainAttrs_list PySem.F.slot_list_extend PySem.F.type_list_extend mt_extend (ho.run W tk) (pa_cons (ha.run W tk) pa_nil hs) hbase hfew hline hs hplain) fun σ H Q h => ?_
  obtain ⟨φ, s, M, a, h⟩ := h
  refine bindE a h fun φ1 H1 M1 d v a1 e1 r h1 => ?_
  obtain ⟨hl, h2⟩ := if_ok h1
  refine ⟨isLst_at r a1.mem hl, bindQ a1 h2 fun φ2 H2 M2 y v2 a2 e2 r2 h3 => ?_⟩
  obtain ⟨j, p, xs, ds, rfl, hp, _, q, rs, h4⟩ := onLst_ok (r.mono e2) a2.mem h3
  obtain ⟨es, g, h5⟩ := getW_ok h4
  obtain ⟨hz, h6⟩ := if_ok h5
  obtain ⟨b, zs, rfl, rz, qz⟩ := r2.own a2.mem g
  obtain ⟨ex, m'⟩ := put_lst a2.mem hp (rs.append rz)
  refine ⟨p, b, xs, zs, rfl, rfl, q, qz, ?_, h6 _ _ ex m' _ .non⟩
  rw [rs.length, rz.length]
  exact okLen_of hz⟩

/-! ### fields -/
/-- what of a class its fields lean on -/
structure ClsF (X : Cx) (c f : String) : Prop where
  ex : ∃ C, X.mg (nm c) = some (.ref C) ∧ Cls X.K C ∧ NoAttr X.K C (nm f)
theorem pe3_fld {o : Expr} {m : ME} {c f : String} {pos : Pos} (F : ClsF X c f) (ho : PE3 X o m) (hb : attributeBase o (nm f) X.env (eval o X.env) = eval o X.env := by rfl) : PE3 X (.Attribute o (nm f) pos) (eFld c f m) := ⟨fun W tk => by
  refine PE.weak (pe_fld (ho.run W tk) hb) fun σ H Q h => ?_
  obtain ⟨φ, s, M, a, h⟩ := h
  refine bindE a h fun φ1 H1 M1 d v a1 e1 r h1 => ?_
  cases d with
  | ref j =>
    obtain ⟨p, rfl, hp⟩ := r.ref_of
    obtain ⟨o1, ho1, ro1⟩ := a1.mem.obj hp
    dsimp only at h1
    rw [ho1] at h1
    cases o1 with
    | ins c' fs =>
      obtain ⟨hc, h2⟩ := if_ok h1
      subst hc
      obtain ⟨d3, g, h3⟩ := okO_ok h2
      obtain ⟨C, dx, fs', gC, q, rf⟩ := ro1
      obtain ⟨C', g', cl, na⟩ := F.ex
      have e : C = C' := by
        have z := gC.symm.trans g'
        cases z
        rfl
      subst e
      rcases rf.lookup f with ⟨_, n⟩ | ⟨v3, d3', hv3, g3, r3⟩
      · rw [n] at g
        cases g
      · rw [g3] at g
        cases g
        exact ⟨p, C, dx, fs', v3, rfl, q, cl, na, hv3, a1.finE h3 _ r3⟩
    | _ => exact h1.elim
  | _ => exact h1.elim⟩

/-! ### a dict's display -/
structure PP3 (X : Cx) (pos : Pos) (keys : List (Option Expr)) (values : List Expr) (m : MP) : Prop where
  run : ∀ W, Takes X W → ∃ trs, PPs X pos keys values trs ∧ ∀ φs Hs φ H σ s M β (Kb : List Addr → Hp → β → Prop) (f : List (Key × D) → Mem → R β) (Q : List (V × V) → Hp → Prop), At X.g φ H σ s M → Ext φs Hs φ H → PostG X.g φs Hs (fun c d H' => W c d σ H') Kb ((m s M).bind f) →
    (∀ φ1 H1 M1 kvs' kvs, At X.g φ1 H1 σ s M1 → Ext φ H φ1 H1 → RepKV X.K φ1 H1 kvs' kvs → PostG X.g φs Hs (fun c d H' => W c d σ H') Kb (f kvs M1) → Q (kvs'.map fun kv => (kV kv.1, kv.2)) H1) → tPairs trs σ H Q
theorem pp3_nil {pos : Pos} : PP3 X pos [] [] pNil := ⟨fun W tk => ⟨[], pps_nil, fun φs Hs φ H σ s M β Kb f Q a es h k => k φ H M [] [] a Ext.refl .nil h⟩⟩
theorem pp3_cons {pos : Pos} {k v : Expr} {ks : List (Option Expr)} {vs : List Expr} {mk mv : ME} {r : MP} (hk : PE3 X k mk) (hv : PE3 X v mv) (hr : PP3 X pos ks vs r) : PP3 X pos (some k :: ks) (v :: vs) (pCons mk mv r) := ⟨fun W tk => by
  obtain ⟨trs, h1, h2⟩ := hr.run W tk
  refine ⟨(tE X.g W mk, tE X.g W mv) :: trs, pps_cons (hk.run W tk) (hv.run W tk) h1, fun φs Hs φ H σ s M β Kb f Q a es h kk => ?_⟩
  unfold pCons at h
  rw [bind_assoc3] at h
  refine bindG0 (kk := fun _ Q => kE X.g Q) a es h fun φ1 H1 M1 d a1 e1 h v rv => ?_
  rw [bind_assoc3] at h
  refine bindG0 (kk := fun _ Q => kE X.g Q) a1 (es.trans e1) h fun φ2 H2 M2 d2 a2 e2 h v2 rv2 => ?_
  rw [bind_assoc3] at h
  refine h2 φs Hs φ2 H2 σ s M2 _ _ _ _ a2 ((es.trans e1).trans e2) h fun φ3 H3 M3 kvs' kvs a3 e3 rk h => ?_
  cases hk : keyOf d with
  | none =>
    rw [hk] at h
    exact h.elim
  | some key =>
    rw [hk] at h
    have e := keyOf_kV ((rv.mono e2).mono e3) hk
    subst e
    exact kk φ3 H3 M3 ((key, v2) :: kvs') ((key, d2) :: kvs) a3 ((e1.trans e2).trans e3) (.cons (rv2.mono e3) rk) h⟩
theorem mergeKV {K : PySem.W.Frag} {φ : List Addr} {H : Hp} {ps : List (Key × V)} {qs : List (Key × D)} (h : RepKV K φ H ps qs) : ∀ {vs : List (Key × V)} {ds : List (Key × D)}, RepKV K φ H vs ds → RepKV K φ H (mergeK vs ps) (mergeD ds qs) := by
  induction h with
  | nil => exact fun r => r
  | cons h t ih => exact fun r => ih (r.put _ h)
theorem pe3_dict {pos : Pos} {keys : List (Option Expr)} {values : List Expr} {m : MP} (h : PP3 X pos keys values m) (hall : keys.all (·.isSome) = true) (hl : keys.length = values.length) (h0 : keys ≠ []) (h15 : keys.length ≤ 15) : PE3 X (.Dict keys values pos) (eDict m) := ⟨fun W tk => by
  obtain ⟨trs, h1, h2⟩ := h.run W tk
  refine PE.weak (pe_disp h1 hall hl h0 h15) fun σ H Q h => ?_
  obtain ⟨φ, s, M, a, h⟩ := h
  intro p hp
  have ex0 := Ext.laid a.mem (u := .dK []) hp
  have np := a.mem.fresh hp
  refine h2 φ H φ _ σ s M _ _ _ _ (a.to ex0 (a.mem.laid hp)) ex0 h fun φ1 H1 M1 kvs' kvs a1 e1 rk h3 => ?_
  obtain ⟨hz, h4⟩ := if_ok h3
  obtain ⟨hp1, np1⟩ := e1.un p _ upd_same np
  refine ⟨hp1, kvs', rfl, ?_, ?_⟩
  · rw [rk.length]
    exact hz
  · have nT : ∀ xs, H1 p ≠ some (.tup xs) := fun xs z => by
      rw [hp1] at z
      cases z
    have nT2 : ∀ xs, (upd H1 p (.dK (mergeK [] kvs'))) p ≠ some (.tup xs) := fun xs z => by
      rw [upd_same] at z
      cases z
    have e2 : Ext φ H (φ1 ++ [p]) (upd H1 p (.dK (mergeK [] kvs'))) := by
      obtain ⟨t, et⟩ := (ex0.trans e1).pre
      refine ⟨⟨t ++ [p], by rw [et, List.append_assoc]⟩, fun q o h n => ?_⟩
      obtain ⟨z1, z2⟩ := (ex0.trans e1).un q o h n
      have nq : q ≠ p := ne_of_none h hp
      refine ⟨by rw [upd_ne nq]; exact z1, fun z => ?_⟩
      rcases List.mem_append.mp z with z | z
      · exact z2 z
      · exact nq (by simpa using z)
    have rk2 : RepKV X.K (φ1 ++ [p]) (upd H1 p (.dK (mergeK [] kvs'))) (mergeK [] kvs') (mergeD [] kvs) := ((mergeKV rk .nil).keep (Keeps.poke nT)).keep (Keeps.track nT2)
    refine h4 _ _ e2 ((a1.mem.poke np1 nT).track np1 ⟨_, upd_same, rk2⟩ nT2) _ (.ref ?_)
    have hl : φ1.length = M1.length := a1.mem.len
    rw [← hl, List.getElem?_append_right (Nat.le_refl _), Nat.sub_self]
    rfl⟩
end
end L3
set_option Elab.async false
set_option linter.all false
set_option maxRecDepth 100000
set_option maxHeartbeats 2000000
/-! L3f: statements. -/
namespace L3
open PySem PySem.Spec PyProof.Rows L2

inductive RS where
  | nx (s : Sl) (M : Mem) | rt (d : D) (M : Mem) | bk (s : Sl) (M : Mem) | ct (s : Sl) (M : Mem) | exc (c : String) (a : D) (s : Sl) (M : Mem) | bad
abbrev MS := Sl → Mem → RS
@[reducible] def R.bindS {α : Type} (r : R α) (s : Sl) (f : α → Mem → RS) : RS := match r with
  | .ok a M => f a M
  | .exc c a M => .exc c a s M
  | .bad => .bad
@[reducible] def RS.next (r : RS) (f : Sl → Mem → RS) : RS := match r with
  | .nx s M => f s M
  | r => r
def ExcToS (G : Pg) (φ : List Addr) (H : Hp) (W : WX) (c : String) (a : D) (s' : Sl) (M' : Mem) : Prop :=
  ∀ φ' H' σ' C dx v, Ext φ H φ' H' → At G φ' H' σ' s' M' → G.mg (nm c) = some (.ref C) → H' dx = some (.xd [(nm (fldOf c), v)]) → Rep G.K φ' H' v a → W (.ref C) (some dx) σ' H'
def PostS (G : Pg) (φ : List Addr) (H : Hp) (W : WX) (D : Ends) : RS → Prop
  | .nx s' M' => ∀ φ' H' σ', Ext φ H φ' H' → At G φ' H' σ' s' M' → D.nx σ' H'
  | .bk s' M' => ∀ φ' H' σ', Ext φ H φ' H' → At G φ' H' σ' s' M' → D.bk σ' H'
  | .ct s' M' => ∀ φ' H' σ', Ext φ H φ' H' → At G φ' H' σ' s' M' → D.ct σ' H'
  | .rt d M' => ∀ φ' H' v, Ext φ H φ' H' → RelM G φ' H' M' → Rep G.K φ' H' v d → D.rt v H'
  | .exc c a s' M' => ExcToS G φ H W c a s' M'
  | .bad => False
def tS (G : Pg) (W : WX) (m : MS) : TS := fun D σ H => ∃ φ s M, At G φ H σ s M ∧ PostS G φ H W D (m s M)
abbrev Own (X : Cx) : Prop := PassesOwn (model X.prog X.w) X.A X.env X.xe
structure PS3 (X : Cx) (st : Stmt) (m : MS) : Prop where
  run : ∀ W, Takes X W → Own X → PS X st (tS X.g W m)
structure PB3 (X : Cx) (st : List Stmt) (m : MS) : Prop where
  run : ∀ W, Takes X W → Own X → PSs X st (tS X.g W m)
theorem PS.weak {X : Cx} {e : Stmt} {t t' : TS} (h : PS X e t) (k : ∀ D σ H, t' D σ H → t D σ H) : PS X e t' := ⟨fun pins s σ H D I q => h.run pins s σ H D I (k D σ H q)⟩
theorem PSs.weak {X : Cx} {e : List Stmt} {t t' : TS} (h : PSs X e t) (k : ∀ D σ H, t' D σ H → t D σ H) : PSs X e t' := ⟨fun pins s σ H D I q => h.run pins s σ H D I (k D σ H q)⟩
theorem PostS.of {G : Pg} {φ φ1 : List Addr} {H H1 : Hp} {W : WX} {D : Ends} {r : RS} (h : PostS G φ H W D r) (e : Ext φ H φ1 H1) : PostS G φ1 H1 W D r := by
  cases r with
  | nx s M => exact fun φ' H' σ' e' a => h φ' H' σ' (e.trans e') a
  | bk s M => exact fun φ' H' σ' e' a => h φ' H' σ' (e.trans e') a
  | ct s M => exact fun φ' H' σ' e' a => h φ' H' σ' (e.trans e') a
  | rt d M => exact fun φ' H' v e' a r => h φ' H' v (e.trans e') a r
  | exc c a s M => exact fun φ' H' σ' C dx v e' => h φ' H' σ' C dx v (e.trans e')
  | bad => exact h

section
variable {G : Pg} {W : WX} {φ : List Addr} {H : Hp} {σ : L2.St} {s : Sl} {M : Mem} {D' : Ends}
theorem bindGS {α γ : Type} {kk : Hp → γ → List Addr → Hp → α → Prop} {m : Sl → Mem → R α} {f : α → Mem → RS} (a : At G φ H σ s M) (h : PostS G φ H W D' ((m s M).bindS s f)) {Q : γ}
    (k : ∀ φ1 H1 M1 d, At G φ1 H1 σ s M1 → Ext φ H φ1 H1 → PostS G φ1 H1 W D' (f d M1) → kk H Q φ1 H1 d) : tG G W kk m σ H Q := by
  refine ⟨φ, s, M, a, ?_⟩
  cases e : m s M with
  | ok d M1 =>
    rw [e] at h
    exact fun φ' H' ex rm => k φ' H' M1 d (a.to ex rm) ex (PostS.of (show PostS G φ H W D' (f d M1) from h) ex)
  | exc c d M1 =>
    rw [e] at h
    exact fun φ' H' C dx v ex rm g hd r => (show ExcToS G φ H W c d s M1 from h) φ' H' σ C dx v ex (a.to ex rm) g hd r
  | bad =>
    rw [e] at h
    exact h
theorem bindES {m : ME} {f : D → Mem → RS} (a : At G φ H σ s M) (h : PostS G φ H W D' ((m s M).bindS s f)) {Q : VK}
    (k : ∀ φ1 H1 M1 d v, At G φ1 H1 σ s M1 → Ext φ H φ1 H1 → Rep G.K φ1 H1 v d → PostS G φ1 H1 W D' (f d M1) → Q v H1) : tE G W m σ H Q :=
  bindGS (kk := fun _ Q => kE G Q) a h fun φ1 H1 M1 d a1 e1 h1 v r => k φ1 H1 M1 d v a1 e1 r h1
theorem bindTS {m : MT} {f : Bool → Mem → RS} (a : At G φ H σ s M) (h : PostS G φ H W D' ((m s M).bindS s f)) {Q : Bool → Hp → Prop}
    (k : ∀ φ1 H1 M1 d, At G φ1 H1 σ s M1 → Ext φ H φ1 H1 → PostS G φ1 H1 W D' (f d M1) → Q d H1) : tT G W m σ H Q :=
  bindGS (kk := fun _ Q => kB Q) a h fun φ1 H1 M1 d a1 e1 h1 => k φ1 H1 M1 d a1 e1 h1
end
theorem At.nx {G : Pg} {W : WX} {φ : List Addr} {H : Hp} {σ : L2.St} {s : Sl} {M : Mem} {D : Ends} (a : At G φ H σ s M) (h : PostS G φ H W D (.nx s M)) : D.nx σ H := h φ H σ Ext.refl a

/-! ### the functions -/
def sNil : MS := fun s M => .nx s M
def sq (a b : MS) : MS := fun s M => (a s M).next b
def sPass : MS := fun s M => .nx s M
def sBrk : MS := fun s M => .bk s M
def sCnt : MS := fun s M => .ct s M
def sDrop (e : ME) : MS := fun s M => (e s M).bindS s fun _ M1 => .nx s M1
def sRet (e : ME) : MS := fun s M => (e s M).bindS s fun d M1 => .rt d M1
def sRetN : MS := fun _ M => .rt .non M
def sIf (t : MT) (a b : MS) : MS := fun s M => (t s M).bindS s fun c M1 => if c = true then a s M1 else b s M1
def sSet (i : Nat) (e : ME) : MS := fun s M => (e s M).bindS s fun d M1 => .nx (s.set i (some d)) M1
/-- a target -/
abbrev GT := D → Sl → Mem → Option (Sl × Mem)
def gN (i : Nat) : GT := fun d s M => some (s.set i (some d), M)
def gFold : List GT → List D → Sl → Mem → Option (Sl × Mem)
  | [], [], s, M => some (s, M)
  | g :: gs, d :: ds, s, M => match g d s M with
    | some (s1, M1) => gFold gs ds s1 M1
    | none => none
  | _, _, _, _ => none
def gT (gs : List GT) : GT := fun d s M => match d with
  | .tup ds => gFold gs ds s M
  | .ref j => match M[j]? with
    | some (.lst ds) => gFold gs ds s M
    | _ => none
  | _ => none
def sAsg (g : GT) (e : ME) : MS := fun s M => (e s M).bindS s fun d M1 => match g d s M1 with
  | some (s2, M2) => .nx s2 M2
  | none => .bad
def onIns {α : Type} (d : D) (M : Mem) (c : String) (bad : α) (f : Nat → List (String × D) → α) : α := match d with
  | .ref j => match M[j]? with
    | some (.ins c' fs) => if c' = c then f j fs else bad
    | _ => bad
  | _ => bad
def sFld (c f : String) (o e : ME) : MS := fun s M => (e s M).bindS s fun d M1 => (o s M1).bindS s fun x M2 => onIns x M2 c .bad fun j fs => if fs.length < 1000 then .nx s (M2.set j (.ins c (putFld f d fs))) else .bad
/-- o[i] = e -/
def setIx (x y d : D) (M : Mem) : Option Mem := match x with
  | .ref j => match M[j]? with
    | some (.lst ds) => match y with
      | .int i => match ixN ds.length i with
        | some k => some (M.set j (.lst (ds.set k d)))
        | none => none
      | _ => none
    | some (.dK kvs) => match keyOf y with
      | some k => if kvs.length < 16777216 then some (M.set j (.dK (putD kvs k d))) else none
      | none => none
    | _ => none
  | _ => none
def sIx (o i e : ME) : MS := fun s M => (e s M).bindS s fun d M1 => (o s M1).bindS s fun x M2 => (i s M2).bindS s fun y M3 => match setIx x y d M3 with
  | some M4 => .nx s M4
  | none => .bad
def rdV (s : Sl) (i : Nat) (f : D → RS) : RS := match s[i]? with
  | some (some d) => f d
  | _ => .bad
def sAug (i : Nat) (op : D → D → Mem → R D) (e : ME) : MS := fun s M => rdV s i fun x => (e s M).bindS s fun y M1 => (op x y M1).bindS s fun z M2 => .nx (s.set i (some z)) M2
def sFldAug (c f : String) (op : D → D → Mem → R D) (o e : ME) : MS := fun s M => (o s M).bindS s fun x M1 => onIns x M1 c .bad fun j fs => match fs.lookup f with
  | some v => (e s M1).bindS s fun y M2 => (op v y M2).bindS s fun z M3 => onIns x M3 c .bad fun j fs' => if fs'.length < 1000 then .nx s (M3.set j (.ins c (putFld f z fs'))) else .bad
  | none => .bad
/-- += of whole numbers -/
def opAddI : D → D → Mem → R D
  | .int i, .int j, M => .ok (.int (i + j)) M
  | _, _, _ => .bad
def whileS (t : MT) (b : MS) : Nat → MS
  | 0 => fun _ _ => .bad
  | n + 1 => fun s M => (t s M).bindS s fun c M1 => if c = true then match b s M1 with
      | .nx s2 M2 => whileS t b n s2 M2
      | .ct s2 M2 => whileS t b n s2 M2
      | .bk s2 M2 => .nx s2 M2
      | .rt d M2 => .rt d M2
      | .exc c d s2 M2 => .exc c d s2 M2
      | .bad => .bad
    else .nx s M1
def sWhile (n : Nat) (t : MT) (b : MS) : MS := fun s M => whileS t b n s M

section
variable {X : Cx}
theorem pb3_nil : PB3 X [] sNil := ⟨fun W tk ow => PSs.weak pss_nil fun D σ H ⟨φ, s, M, a, h⟩ => a.nx h⟩
theorem PostS.next {G : Pg} {φ : List Addr} {H : Hp} {W : WX} {D : Ends} {r : RS} {b : MS} (h : PostS G φ H W D (r.next b)) : PostS G φ H W { D with nx := tS G W b D } r := by
  cases r with
  | nx s M => exact fun φ' H' σ' e' a => ⟨φ', s, M, a, PostS.of (show PostS G φ H W D (b s M) from h) e'⟩
  | bk s M => exact h
  | ct s M => exact h
  | rt d M => exact h
  | exc c a s M => exact h
  | bad => exact h
theorem pb3_cons {st : Stmt} {rest : List Stmt} {a b : MS} (ha : PS3 X st a) (hb : PB3 X rest b) : PB3 X (st :: rest) (sq a b) := ⟨fun W tk ow => by
  refine PSs.weak (pss_cons (ha.run W tk ow) (hb.run W tk ow)) fun D σ H h => ?_
  obtain ⟨φ, s, M, a, h⟩ := h
  exact ⟨φ, s, M, a, PostS.next h⟩⟩
theorem pb3_one {st : Stmt} {a : MS} (ha : PS3 X st a) : PB3 X [st] a := ⟨fun W tk ow => pss_one (ha.run W tk ow)⟩
theorem ps3_pass {pos : Pos} : PS3 X (.Pass pos) sPass := ⟨fun W tk ow => PS.weak ps_pass fun D σ H ⟨φ, s, M, a, h⟩ => a.nx h⟩
theorem ps3_brk {pos : Pos} : PS3 X (.Break pos) sBrk := ⟨fun W tk ow => PS.weak ps_break fun D σ H ⟨φ, s, M, a, h⟩ => h φ H σ Ext.refl a⟩
theorem ps3_cnt {pos : Pos} : PS3 X (.Continue pos) sCnt := ⟨fun W tk ow => PS.weak ps_continue fun D σ H ⟨φ, s, M, a, h⟩ => h φ H σ Ext.refl a⟩
theorem ps3_expr {e : Expr} {m : ME} {pos : Pos} (he : PE3 X e m) (hs : swapsWith e none pos.line X.env = pure false := by rfl) : PS3 X (.Expr e pos) (sDrop m) := ⟨fun W tk ow => by
  refine PS.weak (ps_expr (he.run W tk) hs) fun D σ H h => ?_
  obtain ⟨φ, s, M, a, h⟩ := h
  exact bindES a h fun φ1 H1 M1 d v a1 e1 r h1 => a1.nx h1⟩
theorem ps3_ret {e : Expr} {m : ME} {pos : Pos} (he : PE3 X e m) : PS3 X (.Return (some e) pos) (sRet m) := ⟨fun W tk ow => by
  refine PS.weak (ps_ret (he.run W tk)) fun D σ H h => ?_
  obtain ⟨φ, s, M, a, h⟩ := h
  exact bindES a h fun φ1 H1 M1 d v a1 e1 r h1 => h1 φ1 H1 v Ext.refl a1.mem r⟩
theorem ps3_retN {pos : Pos} : PS3 X (.Return none pos) sRetN := ⟨fun W tk ow => PS.weak ps_retN fun D σ H ⟨φ, s, M, a, h⟩ => h φ H .non Ext.refl a.mem .non⟩
theorem ps3_if {c : Expr} {a b : List Stmt} {t : MT} {ma mb : MS} {pos : Pos} (hc : PT3 X c t) (ha : PB3 X a ma) (hb : PB3 X b mb) : PS3 X (.If c a b pos) (sIf t ma mb) := ⟨fun W tk ow => by
  refine PS.weak (ps_if (hc.run W tk) (ha.run W tk ow) (hb.run W tk ow)) fun D σ H h => ?_
  obtain ⟨φ, s, M, a, h⟩ := h
  refine bindTS a h fun φ1 H1 M1 d a1 e1 h1 => ?_
  cases d with
  | true => exact iteT ⟨φ1, s, M1, a1, by simpa using h1⟩
  | false => exact iteF ⟨φ1, s, M1, a1, by simpa using h1⟩⟩
theorem ps3_set {i : Nat} {x : Str} {e : Expr} {m : ME} {pos pos' : Pos} (hN : X.N.Nodup) (hi : X.N[i]? = some x) (hx : Loc X.env.scope x) (he : PE3 X e m) (hs : swapsWith e (some (.Name x pos')) pos.line X.env = pure false := by rfl)
    (hf : X.fn x = true ∨ X.env.scope.names.lookup x = some .local := by first | exact .inl rfl | exact .inr rfl | assumption) : PS3 X (.Assign [.Name x pos'] e pos) (sSet i m) := ⟨fun W tk ow => by
  refine PS.weak (ps_set hN hi hx (he.run W tk) hs hf) fun D σ H h => ?_
  obtain ⟨φ, s, M, a, h⟩ := h
  exact bindES a h fun φ1 H1 M1 d v a1 e1 r h1 => (a1.set r i).nx (by exact h1)⟩
/-- a target -/
def kT (G : Pg) (g : GT) (is : List Nat) : TG := fun v σ H Q => ∃ φ s M d, At G φ H σ s M ∧ Rep G.K φ H v d ∧ ∃ s' M', g d s M = some (s', M') ∧ ∀ φ' H' σ', Ext φ H φ' H' → At G φ' H' σ' s' M' → wipe σ' is = wipe σ is → Q σ' H'
structure PG3 (X : Cx) (tg : Expr) (g : GT) (is : List Nat) : Prop where
  run : PG X tg (kT X.g g is)
theorem wipe_get : ∀ (vs : List Nat) (σ : L2.St) (i : Nat), (wipe σ vs)[i]? = if i ∈ vs ∧ i < σ.length then some none else σ[i]?
  | [], σ, i => by simp [wipe]
  | v :: vs, σ, i => by
    unfold wipe
    by_cases h : i = v
    · subst h
      by_cases hl : i < σ.length
      · rw [List.getElem?_set_self (by rw [wipe_length]; exact hl), if_pos ⟨by simp, hl⟩]
      · rw [if_neg (fun z => hl z.2)]
        rw [List.getElem?_eq_none (by rw [List.length_set, wipe_length]; omega), List.getElem?_eq_none (by omega)]
    · rw [List.getElem?_set_ne (Ne.symm h), wipe_get vs σ i]
      simp [h]
theorem wipe_ext {vs : List Nat} {σ σ' : L2.St} (hl : σ'.length = σ.length) (h : ∀ i : Nat, i ∉ vs → σ'[i]? = σ[i]?) : wipe σ' vs = wipe σ vs := by
  refine List.ext_getElem? fun i => ?_
  rw [wipe_get, wipe_get, hl]
  by_cases hi : i ∈ vs
  · by_cases hl' : i < σ.length
    · rw [if_pos ⟨hi, hl'⟩, if_pos ⟨hi, hl'⟩]
    · rw [if_neg (fun z => hl' z.2), if_neg (fun z => hl' z.2), List.getElem?_eq_none (by omega), List.getElem?_eq_none (by omega)]
  · rw [if_neg (fun z => hi z.1), if_neg (fun z => hi z.1), h i hi]
theorem wipe_out {vs : List Nat} {σ σ' : L2.St} (h : wipe σ' vs = wipe σ vs) : σ'.length = σ.length ∧ ∀ i : Nat, i ∉ vs → σ'[i]? = σ[i]? := by
  have hl : σ'.length = σ.length := by
    have := congrArg List.length h
    rwa [wipe_length, wipe_length] at this
  refine ⟨hl, fun i hi => ?_⟩
  have : (wipe σ' vs)[i]? = (wipe σ vs)[i]? := by rw [h]
  rwa [wipe_get, wipe_get, if_neg (fun z => hi z.1), if_neg (fun z => hi z.1)] at this
theorem wipe_trans {vs ws : List Nat} {σ σ1 σ2 : L2.St} (h1 : wipe σ1 vs = wipe σ vs) (h2 : wipe σ2 ws = wipe σ1 ws) : wipe σ2 (vs ++ ws) = wipe σ (vs ++ ws) := by
  obtain ⟨l1, g1⟩ := wipe_out h1
  obtain ⟨l2, g2⟩ := wipe_out h2
  exact wipe_ext (l2.trans l1) fun i hi => (g2 i fun z => hi (List.mem_append_right _ z)).trans (g1 i fun z => hi (List.mem_append_left _ z))
theorem wipe_wipe (vs : List Nat) (σ : L2.St) : wipe (wipe σ vs) vs = wipe σ vs := wipe_ext (wipe_length σ vs) fun i hi => by
  rw [wipe_get, if_neg (fun z => hi z.1)]
theorem PG.weak {e : Expr} {t t' : TG} (h : PG X e t) (k : ∀ v σ H Q, t' v σ H Q → t v σ H Q) : PG X e t' := ⟨fun pins s σ H v u Q I r q => h.run pins s σ H v u Q I r (k v σ H Q q)⟩
theorem pg3_name {i : Nat} {x : Str} {pos : Pos} (hN : X.N.Nodup) (hi : X.N[i]? = some x) (hx : Loc X.env.scope x) (hf : X.fn x = true ∨ X.env.scope.names.lookup x = some .local := by first | exact .inl rfl | exact .inr rfl | assumption) : PG3 X (.Name x pos) (gN i) [i] := ⟨by
  refine PG.weak (pg_name hN hi hx hf) fun v σ H Q h => ?_
  obtain ⟨φ, s, M, d, a, r, s', M', e, k⟩ := h
  cases e
  exact k φ H _ Ext.refl (a.set r i) (wipe_ext (by simp) fun j hj => by
    rw [List.getElem?_set_ne]
    exact fun z => hj (by simp [z]))⟩
def kTs (G : Pg) (gs : List GT) (is : List Nat) : TGs := fun vs σ H Q => ∃ φ s M ds, At G φ H σ s M ∧ Reps G.K φ H vs ds ∧ ∃ s' M', gFold gs ds s M = some (s', M') ∧ ∀ φ' H' σ', Ext φ H φ' H' → At G φ' H' σ' s' M' → wipe σ' is = wipe σ is → Q σ' H'
structure PGs3 (X : Cx) (tg : List Expr) (g : List GT) (is : List Nat) : Prop where
  run : PGs X tg (kTs X.g g is)
theorem PGs.weak {e : List Expr} {t t' : TGs} (h : PGs X e t) (k : ∀ v σ H Q, t' v σ H Q → t v σ H Q) : PGs X e t' := ⟨fun pins s σ H v u Q I r q => h.run pins s σ H v u Q I r (k v σ H Q q)⟩
theorem pgs3_nil : PGs3 X [] [] [] := ⟨by
  refine PGs.weak pgs_nil fun vs σ H Q h => ?_
  obtain ⟨φ, s, M, ds, a, r, s', M', e, k⟩ := h
  cases r with
  | nil =>
    cases e
    exact ⟨rfl, k φ H _ Ext.refl a rfl⟩
  | cons _ _ => cases e⟩
theorem pgs3_cons {e : Expr} {es : List Expr} {g : GT} {gs : List GT} {is js : List Nat} (h1 : PG3 X e g is) (h2 : PGs3 X es gs js) (hs : (assignEach (e :: es) X.env).map (·.2) = assign e X.env :: (assignEach es X.env).map (·.2) := by rfl) : PGs3 X (e :: es) (g :: gs) (is ++ js) := ⟨by
  refine PGs.weak (pgs_cons h1.run h2.run hs) fun vs σ H Q h => ?_
  obtain ⟨φ, s, M, ds, a, r, s', M', e, k⟩ := h
  cases r with
  | nil => cases e
  | @cons v d vs ds rv rs =>
    refine ⟨v, vs, rfl, φ, s, M, d, a, rv, ?_⟩
    dsimp only [gFold] at e
    cases q : g d s M with
    | none => rw [q] at e; cases e
    | some sm =>
      obtain ⟨s1, M1⟩ := sm
      rw [q] at e
      exact ⟨s1, M1, rfl, fun φ1 H1 σ1 e1 a1 w1 => ⟨φ1, s1, M1, ds, a1, rs.mono e1, s', M', e, fun φ2 H2 σ2 e2 a2 w2 => k φ2 H2 σ2 (e1.trans e2) a2 (wipe_trans w1 w2)⟩⟩⟩
theorem gFold_len : ∀ {gs : List GT} {ds : List D} {s : Sl} {M : Mem} {r : Sl × Mem}, gFold gs ds s M = some r → ds.length = gs.length
  | [], [], _, _, _, _ => rfl
  | [], _ :: _, _, _, _, e => by cases e
  | _ :: _, [], _, _, _, e => by cases e
  | g :: gs, d :: ds, s, M, r, e => by
    dsimp only [gFold] at e
    cases q : g d s M with
    | none => rw [q] at e; cases e
    | some sm =>
      obtain ⟨s1, M1⟩ := sm
      rw [q] at e
      rw [List.length_cons, List.length_cons, gFold_len e]
theorem pg3_tup {es : List Expr} {k : Nat} {gs : List GT} {is : List Nat} {pos : Pos} (hc : X.calm = true) (h : PGs3 X es gs is) (hn : (assignEach es X.env).length = gs.length := by rfl) (hst : (assignEach es X.env).findIdx? (·.1) = none := by rfl) : PG3 X (.Tuple es k pos) (gT gs) is := ⟨⟨by
  intro pins st σ H v u Q I rv hh
  obtain ⟨φ, s, M, d, a, r, s', M', e, k⟩ := hh
  cases d with
  | tup ds =>
    obtain ⟨p, xs, rfl, t, rs⟩ := r.tup_of
    exact (pg_tup hc h.run hn hst).run pins st σ H _ u Q I rv ⟨p, xs, rfl, t.sq, by rw [rs.length]; exact gFold_len e, φ, s, M, ds, a, rs, s', M', e, k⟩
  | ref j =>
    obtain ⟨p, rfl, hp⟩ := r.ref_of
    obtain ⟨o, ho, ro⟩ := a.mem.obj hp
    dsimp only [gT] at e
    rw [ho] at e
    cases o with
    | lst ds =>
      obtain ⟨xs, hx, rs⟩ := ro
      exact (pg_lst hc h.run hn hst).run pins st σ H _ u Q I rv ⟨p, xs, rfl, .inl (.inl hx), by rw [rs.length]; exact gFold_len e, φ, s, M, ds, a, rs, s', M', e, k⟩
    | _ => cases e
  | _ => cases e⟩⟩
theorem ps3_asg {tg e : Expr} {m : ME} {g : GT} {is : List Nat} {pos : Pos} (he : PE3 X e m) (hg : PG3 X tg g is) (hs : swapsWithSole [tg] e pos.line X.env = pure false := by rfl) (hw : swappedStores [tg] e X.env = pure none := by rfl)
    (h1 : (assignEach [tg] X.env).map (·.2) = [assign tg X.env] := by rfl) : PS3 X (.Assign [tg] e pos) (sAsg g m) := ⟨fun W tk ow => by
  refine PS.weak (ps_asg (he.run W tk) hg.run hs hw h1) fun D σ H h => ?_
  obtain ⟨φ, s, M, a, h⟩ := h
  refine bindES a h fun φ1 H1 M1 d v a1 e1 r h1 => ?_
  cases q : g d s M1 with
  | none => rw [q] at h1; exact h1.elim
  | some sm =>
    obtain ⟨s2, M2⟩ := sm
    rw [q] at h1
    exact ⟨φ1, s, M1, d, a1, r, s2, M2, q, fun φ' H' σ' e' a' _ => h1 φ' H' σ' e' a'⟩⟩
theorem onIns_ok {G : Pg} {φ : List Addr} {H H0 : Hp} {W : WX} {D' : Ends} {d : D} {M : Mem} {c : String} {f : Nat → List (String × D) → RS} {v : V} (r : Rep G.K φ H v d) (m : RelM G φ H M) (h : PostS G φ H0 W D' (onIns d M c .bad f)) :
    ∃ j p C dx fs' fs, d = .ref j ∧ v = .ref p ∧ φ[j]? = some p ∧ M[j]? = some (.ins c fs) ∧ G.mg (nm c) = some (.ref C) ∧ H p = some (.ins C dx fs') ∧ RepF G.K φ H fs' fs ∧ PostS G φ H0 W D' (f j fs) := by
  cases d with
  | ref j =>
    obtain ⟨p, rfl, hp⟩ := r.ref_of
    obtain ⟨o1, ho1, ro1⟩ := m.obj hp
    dsimp only [onIns] at h
    rw [ho1] at h
    cases o1 with
    | ins c' fs =>
      dsimp only at h
      split at h
      · rename_i hc
        subst hc
        obtain ⟨C, dx, fs', g, q, rf⟩ := ro1
        exact ⟨j, p, C, dx, fs', fs, rfl, rfl, hp, ho1, g, q, rf, h⟩
      · exact h.elim
    | _ => exact h.elim
  | _ => exact h.elim
theorem if_okS {G : Pg} {φ : List Addr} {H : Hp} {W : WX} {D' : Ends} {c : Prop} [Decidable c] {r : RS} (h : PostS G φ H W D' (if c then r else .bad)) : c ∧ PostS G φ H W D' r := by
  split at h
  · rename_i hc
    exact ⟨hc, h⟩
  · exact h.elim
theorem put_ins {G : Pg} {φ : List Addr} {H : Hp} {M : Mem} {j : Nat} {p C dx : Addr} {c : String} {xs : List (Str × V)} {ds : List (String × D)} (m : RelM G φ H M) (hp : φ[j]? = some p) (g : G.mg (nm c) = some (.ref C)) (r : RepF G.K φ H xs ds) :
    Ext φ H φ (upd H p (.ins C dx xs)) ∧ RelM G φ (upd H p (.ins C dx xs)) (M.set j (.ins c ds)) :=
  ⟨Ext.put m hp, m.put hp ⟨C, dx, xs, g, upd_same, r.mono (Ext.put m hp)⟩⟩
theorem ps3_fld {o e : Expr} {mo me : ME} {c f : String} {pos pos' : Pos} (F : ClsF X c f) (ho : PE3 X o mo) (he : PE3 X e me) (hs : swapsWith e (some (.Attribute o (nm f) pos')) pos.line X.env = pure false := by rfl) : PS3 X (.Assign [.Attribute o (nm f) pos'] e pos) (sFld c f mo me) := ⟨fun W tk ow => by
  refine PS.weak (L2.ps_fld (ho.run W tk) (he.run W tk) hs) fun D σ H h => ?_
  obtain ⟨φ, s, M, a, h⟩ := h
  refine bindES a h fun φ1 H1 M1 d v a1 e1 r h1 => ?_
  refine bindES a1 h1 fun φ2 H2 M2 d2 v2 a2 e2 r2 h2 => ?_
  obtain ⟨j, p, C, dx, fs', fs, rfl, rfl, hp, hj, g, q, rf, h3⟩ := onIns_ok r2 a2.mem h2
  obtain ⟨hl, h4⟩ := if_okS h3
  obtain ⟨C', g', cl, na⟩ := F.ex
  have e : C = C' := by
    have z := g.symm.trans g'
    cases z
    rfl
  subst e
  obtain ⟨ex, m'⟩ := put_ins a2.mem hp g (dx := dx) (rf.put f (r.mono e2))
  refine ⟨p, C, dx, fs', rfl, q, cl, na, ?_, h4 _ _ σ ex (a2.to ex m')⟩
  rw [rf.length]
  exact hl⟩
/-- o[i] = v by values -/
def rSet3 (G : Pg) : TSet := fun o i v H Q => ∃ φ M x y d M', RelM G φ H M ∧ Rep G.K φ H o x ∧ Rep G.K φ H i y ∧ Rep G.K φ H v d ∧ setIx x y d M = some M' ∧ ∀ φ' H', Ext φ H φ' H' → RelM G φ' H' M' → Q H'
theorem set_ix (hu : X.A.units + 1 < cLine) : PSet X (rSet3 X.g) := by
  intro pins s σ H o i v ov iv u Q I ro ri rv h
  obtain ⟨φ, M, x, y, d, M', m, rx, ry, rd, e, k⟩ := h
  cases x with
  | ref j =>
    obtain ⟨p, rfl, hp⟩ := rx.ref_of
    obtain ⟨o1, ho1, ro1⟩ := m.obj hp
    dsimp only [setIx] at e
    rw [ho1] at e
    cases o1 with
    | lst ds =>
      cases y with
      | int z =>
        dsimp only at e
        cases q : ixN ds.length z with
        | none => rw [q] at e; cases e
        | some kk =>
          rw [q] at e
          cases e
          obtain ⟨xs, hq, rs⟩ := ro1
          obtain ⟨ex, m'⟩ := put_lst m hp (rs.set rd kk)
          exact set_list pins s σ H _ _ _ ov iv u Q I ro ri rv ⟨p, xs, z, kk, rfl, ry.int_of, hq, by rw [rs.length]; exact q, k φ _ ex m'⟩
      | _ => cases e
    | dK kvs =>
      dsimp only at e
      cases q : keyOf y with
      | none => rw [q] at e; cases e
      | some kk =>
        rw [q] at e
        dsimp only at e
        split at e
        · rename_i hl
          cases e
          obtain ⟨kvs', hq, rs⟩ := ro1
          have ek := keyOf_kV ry q
          subst ek
          have hl' : kvs'.length < sizeLine := by
            rw [sizeLine_eq, rs.length]
            exact hl
          obtain rfl : ov = Value.ref p := ro
          exact d_setItem hu I (DPut.k hq hl') ri rv fun s4 I4 => ⟨_, I4, k φ _ (Ext.put m hp) (m.put hp ⟨_, upd_same, (rs.put kk rd).mono (Ext.put m hp)⟩)⟩
        · cases e
    | _ => cases e
  | _ => cases e
theorem ps3_ix {o i e : Expr} {mo mi me : ME} {pos pos' : Pos} (hu : X.A.units + 1 < cLine) (ho : PE3 X o mo) (hi : PE3 X i mi) (he : PE3 X e me) (hs : swapsWithSole [.Subscript o i pos'] e pos.line X.env = pure false := by rfl) (hw : swappedStores [.Subscript o i pos'] e X.env = pure none := by rfl)
    (h1 : (assignEach [.Subscript o i pos'] X.env).map (·.2) = [assign (.Subscript o i pos') X.env] := by rfl)
    (ha : ∀ v, assign (.Subscript o i pos') X.env v = (do
      let ov ← holding [v] (eval o X.env)
      let iv ← holding [v, ov] (eval i X.env)
      standAt pos'
      holding [v, ov, iv] (setItem ov iv v)
      PySem.release [v, ov, iv] []) := by intro _; rfl) : PS3 X (.Assign [.Subscript o i pos'] e pos) (sIx mo mi me) := ⟨fun W tk ow => by
  refine PS.weak (ps_asg (he.run W tk) (pg_sub (ho.run W tk) (hi.run W tk) (set_ix hu) ha) hs hw h1) fun D σ H h => ?_
  obtain ⟨φ, s, M, a, h⟩ := h
  refine bindES a h fun φ1 H1 M1 d v a1 e1 r h1 => ?_
  refine bindES a1 h1 fun φ2 H2 M2 d2 v2 a2 e2 r2 h2 => ?_
  refine bindES a2 h2 fun φ3 H3 M3 d3 v3 a3 e3 r3 h3 => ?_
  cases q : setIx d2 d3 d M3 with
  | none => rw [q] at h3; exact h3.elim
  | some M4 =>
    rw [q] at h3
    exact ⟨φ3, M3, d2, d3, d, M4, a3.mem, r2.mono e3, r3, (r.mono e2).mono e3, q, fun φ' H' ex m' => h3 φ' H' σ ex (a3.to ex m')⟩⟩
theorem op3_iadd : OpR X (inplaceOp .Add) (rO X.g opAddI) := op3_int0 iop_add (fun i j _ _ => .int _) fun x y M => by cases x <;> cases y <;> rfl
theorem op3_isub : OpR X (inplaceOp .Sub) (rO X.g opSub) := op3_int0 iop_sub (fun i j _ _ => .int _) fun x y M => by cases x <;> cases y <;> rfl
theorem nx_addI : ∀ x y M, NoExc (opAddI x y M) := fun x y M => by unfold opAddI; split <;> trivial
theorem ps3_aug {i : Nat} {x : Str} {e : Expr} {m : ME} {op : Operator} {f : D → D → Mem → R D} {pos pos' : Pos} (hN : X.N.Nodup) (hi : X.N[i]? = some x) (hx : Loc X.env.scope x) (he : PE3 X e m) (ho : OpR X (inplaceOp op) (rO X.g f)) (n : ∀ x y M, NoExc (f x y M))
    (hf : X.fn x = true ∨ X.env.scope.names.lookup x = some .local := by first | exact .inl rfl | exact .inr rfl | assumption) : PS3 X (.AugAssign (.Name x pos') op e pos) (sAug i f m) := ⟨fun W tk ow => by
  refine PS.weak (ps_aug (ti := rO X.g f) hN hi hx (he.run W tk) ho hf) fun D σ H h => ?_
  obtain ⟨φ, s, M, a, h⟩ := h
  dsimp only [sAug, rdV] at h
  split at h
  · rename_i d0 e0
    obtain ⟨v0, hv0, r0⟩ := a.sl i d0 e0
    refine ⟨v0, hv0, bindES a h fun φ1 H1 M1 d v a1 e1 r h1 => ?_⟩
    refine ⟨φ1, M1, d0, d, a1.mem, r0.mono e1, r, ?_⟩
    have nn := n d0 d M1
    revert h1 nn
    generalize f d0 d M1 = rr
    intro h1 nn
    cases rr with
    | ok d3 M3 =>
      intro φ' H' e' m' z rz
      exact h1 φ' H' _ e' ((a1.to e' m').set rz i)
    | exc c a M3 => exact nn.elim
    | bad => exact h1
  · exact h.elim⟩
theorem ps3_fldAug {o e : Expr} {mo me : ME} {c f : String} {op : Operator} {g : D → D → Mem → R D} {pos pos' : Pos} (F : ClsF X c f) (ho : PE3 X o mo) (he : PE3 X e me) (hop : OpR X (inplaceOp op) (rO X.g g)) (n : ∀ x y M, NoExc (g x y M)) : PS3 X (.AugAssign (.Attribute o (nm f) pos') op e pos) (sFldAug c f g mo me) := ⟨fun W tk ow => by
  refine PS.weak (ps_fldaug (rd := rO X.g g) (ho.run W tk) (he.run W tk) (fun pins s σ H x y u v Q I rx ry q => hop pins s σ H x y u v Q I rx ry q)) fun D σ H h => ?_
  obtain ⟨φ, s, M, a, h⟩ := h
  refine bindES a h fun φ1 H1 M1 d v a1 e1 r h1 => ?_
  obtain ⟨j, p, C, dx, fs', fs, rfl, rfl, hp, hj, gC, q, rf, h3⟩ := onIns_ok r a1.mem h1
  obtain ⟨C', g', cl, na⟩ := F.ex
  have e : C = C' := by
    have z := gC.symm.trans g'
    cases z
    rfl
  subst e
  rcases rf.lookup f with ⟨_, nn⟩ | ⟨v0, d0, hv0, g0, r0⟩
  · rw [nn] at h3
    exact h3.elim
  · rw [g0] at h3
    refine ⟨p, C, dx, fs', v0, rfl, q, cl, na, hv0, bindES a1 h3 fun φ2 H2 M2 d2 v2 a2 e2 r2 h4 => ?_⟩
    refine ⟨φ2, M2, d0, d2, a2.mem, r0.mono e2, r2, ?_⟩
    have nn := n d0 d2 M2
    revert h4 nn
    generalize g d0 d2 M2 = rr
    intro h4 nn
    cases rr with
    | ok d3 M3 =>
      intro φ' H' e' m' z rz
      have h5 := PostS.of (show PostS X.g φ2 H2 W D (onIns (.ref j) M3 c .bad fun j fs' => if fs'.length < 1000 then .nx s (M3.set j (.ins c (putFld f d3 fs'))) else .bad) from h4) e'
      obtain ⟨j', p', C2, dx2, fs2', fs2, ej, ep, hp2, hj2, gC2, q2, rf2, h6⟩ := onIns_ok ((r.mono e2).mono e') m' h5
      cases ej
      cases ep
      have e3 : C = C2 := by
        have z := gC.symm.trans gC2
        cases z
        rfl
      subst e3
      obtain ⟨hl, h7⟩ := if_okS h6
      obtain ⟨ex, m2⟩ := put_ins m' hp2 gC (dx := dx2) (rf2.put f rz)
      refine ⟨dx2, fs2', q2, by rw [rf2.length]; exact hl, h7 _ _ σ ex ((a2.to e' m').to ex m2)⟩
    | exc c a M3 => exact nn.elim
    | bad => exact h4⟩
theorem ps3_while {c : Expr} {body : List Stmt} {t : MT} {b : MS} {pos : Pos} (n : Nat) (hc : PT3 X c t) (hb : PB3 X body b) : PS3 X (.While c body [] pos) (sWhile n t b) := ⟨fun W tk ow => by
  refine PS.weak (ps_while ow (hc.run W tk) (hb.run W tk ow)) fun D σ H h => ?_
  obtain ⟨φ, s, M, a, h⟩ := h
  refine ⟨fun k σ1 H1 => ∃ φ1 s1 M1, At X.g φ1 H1 σ1 s1 M1 ∧ Ext φ H φ1 H1 ∧ PostS X.g φ1 H1 W D (whileS t b k s1 M1), ⟨n, φ, s, M, a, Ext.refl, h⟩, ?_⟩
  rintro k σ1 H1 ⟨φ1, s1, M1, a1, e1, h1⟩
  cases k with
  | zero => exact h1.elim
  | succ k =>
    refine bindTS a1 h1 fun φ2 H2 M2 d a2 e2 h2 => ?_
    cases d with
    | false => exact iteF (a2.nx (by simpa using h2))
    | true =>
      refine iteT ⟨fun σ' H' => ∃ φ3 s3 M3, At X.g φ3 H' σ' s3 M3 ∧ Ext φ H φ3 H' ∧ PostS X.g φ3 H' W D (whileS t b k s3 M3), fun σ' H' z => ⟨k, Nat.lt_succ_self _, z⟩, φ2, s1, M2, a2, ?_⟩
      rw [if_pos rfl] at h2
      revert h2
      generalize b s1 M2 = rr
      intro h2
      cases rr with
      | nx s3 M3 => exact fun φ' H' σ' e' a' => ⟨φ', s3, M3, a', (e1.trans e2).trans e', PostS.of (show PostS X.g φ2 H2 W D (whileS t b k s3 M3) from h2) e'⟩
      | ct s3 M3 => exact fun φ' H' σ' e' a' => ⟨φ', s3, M3, a', (e1.trans e2).trans e', PostS.of (show PostS X.g φ2 H2 W D (whileS t b k s3 M3) from h2) e'⟩
      | bk s3 M3 => exact h2
      | rt d M3 => exact h2
      | exc c d s3 M3 => exact h2
      | bad => exact h2⟩
end
end L3
set_option Elab.async false
set_option linter.all false
set_option maxRecDepth 100000
set_option maxHeartbeats 2000000
/-! L3g: loops and comprehensions. -/
namespace L3
open PySem PySem.Spec PyProof.Rows L2

/-! ### equality of data, decided -/
mutual
def D.same : D → D → Bool
  | .non, .non => true
  | .bl a, .bl b => a == b
  | .int a, .int b => a == b
  | .str a, .str b => decide (a = b)
  | .tup a, .tup b => D.sames a b
  | .ref a, .ref b => a == b
  | _, _ => false
def D.sames : List D → List D → Bool
  | [], [] => true
  | a :: as, b :: bs => D.same a b && D.sames as bs
  | _, _ => false
end
mutual
theorem D.same_eq : ∀ (a b : D), D.same a b = true → a = b
  | .non, .non, _ => rfl
  | .bl a, .bl b, h => by rw [beq_iff_eq.mp (show (a == b) = true from h)]
  | .int a, .int b, h => by rw [beq_iff_eq.mp (show (a == b) = true from h)]
  | .str a, .str b, h => by rw [of_decide_eq_true (show decide (a = b) = true from h)]
  | .tup a, .tup b, h => by rw [D.sames_eq a b h]
  | .ref a, .ref b, h => by rw [beq_iff_eq.mp (show (a == b) = true from h)]
  | .non, .bl _, h | .non, .int _, h | .non, .str _, h | .non, .tup _, h | .non, .ref _, h => nomatch h
  | .bl _, .non, h | .bl _, .int _, h | .bl _, .str _, h | .bl _, .tup _, h | .bl _, .ref _, h => nomatch h
  | .int _, .non, h | .int _, .bl _, h | .int _, .str _, h | .int _, .tup _, h | .int _, .ref _, h => nomatch h
  | .str _, .non, h | .str _, .bl _, h | .str _, .int _, h | .str _, .tup _, h | .str _, .ref _, h => nomatch h
  | .tup _, .non, h | .tup _, .bl _, h | .tup _, .int _, h | .tup _, .str _, h | .tup _, .ref _, h => nomatch h
  | .ref _, .non, h | .ref _, .bl _, h | .ref _, .int _, h | .ref _, .str _, h | .ref _, .tup _, h => nomatch h
theorem D.sames_eq : ∀ (a b : List D), D.sames a b = true → a = b
  | [], [], _ => rfl
  | a :: as, b :: bs, h => by
    have h' : (D.same a b && D.sames as bs) = true := h
    rw [Bool.and_eq_true] at h'
    rw [D.same_eq a b h'.1, D.sames_eq as bs h'.2]
  | [], _ :: _, h => nomatch h
  | _ :: _, [], h => nomatch h
end
mutual
theorem D.same_refl : ∀ a : D, D.same a a = true
  | .non => rfl
  | .bl a => beq_self_eq_true a
  | .int a => beq_self_eq_true a
  | .str a => decide_eq_true rfl
  | .tup a => D.sames_refl a
  | .ref a => beq_self_eq_true a
theorem D.sames_refl : ∀ a : List D, D.sames a a = true
  | [] => rfl
  | a :: as => by
    show (D.same a a && D.sames as as) = true
    rw [D.same_refl a, D.sames_refl as]
    rfl
end

/-! ### what is walked -/
/-- a source still has these items -/
def Src.still (M : Mem) (ds : List D) : Src → Bool
  | .lst i => match M[i]? with
    | some (.lst es) => D.sames ds es
    | some (.frz es) => D.sames ds es
    | _ => false
  | _ => true
theorem Src.still_get {M : Mem} {ds : List D} {x : Src} (h : x.still M ds = true) (hx : ∀ es, x ≠ .lst es → x.get M = some ds) : x.get M = some ds := by
  cases x with
  | tup es => exact hx 0 (fun z => nomatch z)
  | tmp es => exact hx 0 (fun z => nomatch z)
  | lst i =>
    dsimp only [Src.still, Src.get] at h ⊢
    cases q : M[i]? with
    | none => rw [q] at h; cases h
    | some o =>
      rw [q] at h
      cases o with
      | lst es =>
        dsimp only at h ⊢
        rw [D.sames_eq _ _ h]
      | frz es =>
        dsimp only at h ⊢
        rw [D.sames_eq _ _ h]
      | dK _ => cases h
      | ins _ _ => cases h
inductive It3 where
  | seq (x : Src) (ds : List D)
  | rng (lo : Int) (n : Nat)
  | zip (x y : Src) (ds es : List D)
  | enum (x : Src) (ds : List D)
def enumD (k : Nat) : List D → List D
  | [] => []
  | d :: ds => .tup [.int k, d] :: enumD (k + 1) ds
def rngD (lo : Int) (n : Nat) : List D := (List.range n).map fun k => D.int (lo + (k : Nat))
def zipD : List D → List D → List D
  | x :: xs, y :: ys => .tup [x, y] :: zipD xs ys
  | _, _ => []
def It3.items : It3 → List D
  | .seq _ ds => ds
  | .rng lo n => rngD lo n
  | .zip _ _ ds es => zipD ds es
  | .enum _ ds => enumD 0 ds
def It3.still (M : Mem) : It3 → Bool
  | .seq x ds => x.still M ds
  | .rng _ _ => true
  | .zip x y ds es => x.still M ds && y.still M es
  | .enum x ds => x.still M ds
abbrev MI := Sl → Mem → R It3
def iSeq (q : MQ) : MI := fun s M => (q s M).bind fun x M1 => getS x M1 fun ds => .ok (.seq x ds) M1
def iRng1 (a : ME) : MI := fun s M => (a s M).bind fun d M1 => match d with
  | .int j => if -4611686018427387904 ≤ j ∧ j < 4611686018427387904 then .ok (.rng 0 j.toNat) M1 else .bad
  | _ => .bad
def iRng2 (a b : ME) : MI := fun s M => (a s M).bind fun d M1 => (b s M1).bind fun e M2 => match d, e with
  | .int i, .int j => if -4611686018427387904 ≤ i ∧ i < 4611686018427387904 ∧ -4611686018427387904 ≤ j ∧ j < 4611686018427387904 then .ok (.rng i (j - i).toNat) M2 else .bad
  | _, _ => .bad
def iZip (p q : MQ) : MI := fun s M => (p s M).bind fun x M1 => (q s M1).bind fun y M2 => getS x M2 fun ds => getS y M2 fun es => .ok (.zip x y ds es) M2
def iEnum (q : MQ) : MI := fun s M => (q s M).bind fun x M1 => getS x M1 fun ds => .ok (.enum x ds) M1

/-- the walk of L2 gives these items as long as they stand -/
def ItRel (G : Pg) (φ0 : List Addr) (H0 : Hp) (it : It3) (J : It) : Prop :=
  ∀ φ H M, Ext φ0 H0 φ H → RelM G φ H M → it.still M = true → ∀ i : Nat,
    (∀ d, it.items[i]? = some d → J.go i H ∧ ∀ x H', J.yld i H x H' → Ext φ H φ H' ∧ RelM G φ H' M ∧ Rep G.K φ H' x d) ∧ (i = it.items.length → J.stop i H)
abbrev kI (G : Pg) (Rr : It → Hp → Prop) : List Addr → Hp → It3 → Prop := fun φ' H' it => ∀ J, ItRel G φ' H' it J → Rr J H'
structure PI3 (X : Cx) (tg iter : Expr) (m : MI) : Prop where
  run : ∀ W, Takes X W → PI X tg iter (tG X.g W (fun _ Q => kI X.g Q) m)
theorem PI.weak {X : Cx} {tg e : Expr} {t t' : TI} (h : PI X tg e t) (k : ∀ σ H Q, t' σ H Q → t σ H Q) : PI X tg e t' := ⟨fun pins s σ H Q I q => h.run pins s σ H Q I (k σ H Q q)⟩

/-! ### the loop -/
def loopS (it : It3) (g : GT) (b : MS) : List D → MS
  | [] => fun s M => if it.still M = true then .nx s M else .bad
  | d :: ds => fun s M => if it.still M = true then match g d s M with
    | some (s1, M1) => match b s1 M1 with
      | .nx s2 M2 => loopS it g b ds s2 M2
      | .ct s2 M2 => loopS it g b ds s2 M2
      | .bk s2 M2 => .nx s2 M2
      | .rt d M2 => .rt d M2
      | .exc c d s2 M2 => .exc c d s2 M2
      | .bad => .bad
    | none => .bad
    else .bad
def sFor (i : MI) (g : GT) (b : MS) : MS := fun s M => (i s M).bindS s fun it M1 => loopS it g b it.items s M1
section
variable {X : Cx}
theorem loop_go {G : Pg} {W : WX} {g : GT} {is : List Nat} {tb : TS} {b : MS} {D : Ends} {φ0 : List Addr} {H0 : Hp} {it : It3} {J : It} (hJ : ItRel G φ0 H0 it J) (htb : ∀ D σ H, tS G W b D σ H → tb D σ H) {φ : List Addr} {H : Hp} {σ : L2.St} {s : Sl} {M : Mem} (a : At G φ H σ s M) (e : Ext φ0 H0 φ H)
    (h : PostS G φ H W D (loopS it g b it.items s M)) :
    ∃ Wi : Nat → Nat → L2.St → Hp → Prop, (∃ m, Wi 0 m σ H) ∧ ∀ i m σ H, Wi i m σ H →
      (J.stop i H ∧ D.nx σ H) ∨ (J.go i H ∧ ∃ N : L2.St → Hp → Prop, (∀ σ' H', N σ' H' → ∃ m', m' < m ∧ Wi (i + 1) m' σ' H') ∧ ∀ x H', J.yld i H x H' → kT G g is x σ H' fun σ2 H2 => tb { D with nx := N, ct := N, bk := D.nx } σ2 H2) := by
  refine ⟨fun i m σ1 H1 => m = it.items.length - i ∧ i ≤ it.items.length ∧ ∃ φ1 s1 M1, At G φ1 H1 σ1 s1 M1 ∧ Ext φ0 H0 φ1 H1 ∧ PostS G φ1 H1 W D (loopS it g b (it.items.drop i) s1 M1), ⟨it.items.length, by simp, Nat.zero_le _, φ, s, M, a, e, by simpa using h⟩, ?_⟩
  rintro i m σ1 H1 ⟨rfl, hi, φ1, s1, M1, a1, e1, h1⟩
  by_cases hlt : i < it.items.length
  · have hd : it.items.drop i = it.items[i] :: it.items.drop (i + 1) := (List.drop_eq_getElem_cons hlt)
    rw [hd] at h1
    dsimp only [loopS] at h1
    obtain ⟨hst, h2⟩ := if_okS h1
    obtain ⟨hgo, _⟩ := hJ φ1 H1 M1 e1 a1.mem hst i
    obtain ⟨go, yl⟩ := hgo it.items[i] (List.getElem?_eq_getElem hlt)
    refine .inr ⟨go, fun σ' H' => ∃ φ3 s3 M3, At G φ3 H' σ' s3 M3 ∧ Ext φ0 H0 φ3 H' ∧ PostS G φ3 H' W D (loopS it g b (it.items.drop (i + 1)) s3 M3), fun σ' H' z => ⟨it.items.length - (i + 1), by omega, rfl, hlt, z⟩, fun x H' y => ?_⟩
    obtain ⟨ex, m', rx⟩ := yl x H' y
    have a2 := a1.to ex m'
    have h3 := PostS.of h2 ex
    split at h3
    · rename_i s2 M2 eg
      refine ⟨φ1, s1, M1, it.items[i], a2, rx, s2, M2, eg, fun φ4 H4 σ4 e4 a4 _ => htb _ _ _ ⟨φ4, s2, M2, a4, ?_⟩⟩
      have h4 := PostS.of h3 e4
      have e04 := (e1.trans ex).trans e4
      revert h4
      generalize b s2 M2 = rr
      intro h4
      cases rr with
      | nx s5 M5 => exact fun φ' H' σ' e' a' => ⟨φ', s5, M5, a', e04.trans e', PostS.of (show PostS G φ4 H4 W D (loopS it g b (it.items.drop (i + 1)) s5 M5) from h4) e'⟩
      | ct s5 M5 => exact fun φ' H' σ' e' a' => ⟨φ', s5, M5, a', e04.trans e', PostS.of (show PostS G φ4 H4 W D (loopS it g b (it.items.drop (i + 1)) s5 M5) from h4) e'⟩
      | bk s5 M5 => exact h4
      | rt d M5 => exact h4
      | exc c d s5 M5 => exact h4
      | bad => exact h4
    · exact h3.elim
  · have ei : i = it.items.length := by omega
    have hd : it.items.drop i = [] := List.drop_eq_nil_of_le (by omega)
    rw [hd] at h1
    dsimp only [loopS] at h1
    obtain ⟨hst, h2⟩ := if_okS h1
    obtain ⟨_, stop⟩ := hJ φ1 H1 M1 e1 a1.mem hst i
    exact .inl ⟨stop ei, a1.nx h2⟩
theorem ps3_for {tg iter : Expr} {body : List Stmt} {mi : MI} {g : GT} {is : List Nat} {b : MS} {pos : Pos} (hc : X.calm = true) (hi : PI3 X tg iter mi) (hg : PG3 X tg g is) (hb : PB3 X body b) (hs : ∀ x, foldedSetIterable iter X.env x = pure x := by intro _; rfl) : PS3 X (.For tg iter body [] pos) (sFor mi g b) := ⟨fun W tk ow => by
  refine PS.weak (ps_for ow hc (hi.run W tk) hg.run (hb.run W tk ow) hs) fun D σ H h => ?_
  obtain ⟨φ, s, M, a, h⟩ := h
  refine bindGS (kk := fun _ Q => kI X.g Q) a h fun φ1 H1 M1 it a1 e1 h1 J hJ => ?_
  exact loop_go hJ (fun _ _ _ z => z) a1 Ext.refl h1⟩

/-! ### what may be walked -/
theorem pi_seq {tg l : Expr} {tl : TE} (hl : PE X l tl) : PI X tg l (fun σ H R => tl σ H fun x H1 => ∃ a, x = .ref a ∧ (((∃ xs, SqL X.K H1 a xs) ∧ R (Itl X.K a) H1) ∨ ((∃ xs, SqT X.K H1 a xs) ∧ R (Itt X.K a) H1))) := by
  refine ⟨fun pins s σ H R I h => ?_⟩
  refine thn (hl.run pins s σ H _ I h) fun v s1 ⟨x, H1, I1, r1, q1⟩ => ?_
  obtain ⟨a, e, q⟩ := q1
  subst e
  cases r1
  have fp : ∀ b, b ∈ [s1.heap.objs.size] → FpOk X pins H1 b := fun b hb => by
    have e : b = s1.heap.objs.size := by simpa using hb
    subst e
    exact I1.fpOk (Nat.le_refl _) (I1.hok.fresh (Nat.le_refl _))
  rcases q with ⟨⟨xs, hq⟩, q⟩ | ⟨⟨xs, hq⟩, q⟩
  · obtain ⟨its, rv, p, hz⟩ := I1.list hq
    refine wpAny_pyIter_list p.isList ?_
    exact ⟨s1.heap.objs.size, [s1.heap.objs.size], _, _, H1, rfl, I1.kept (t' := s1.toks) fun b o e => Heap.get?_push_of_some _ e, turn_list a _, ⟨_, Heap.get?_push_size _ rfl, rfl, rfl⟩, fp, q⟩
  · obtain ⟨its, rv, p, hz⟩ := I1.tuple hq
    refine wpAny_pyIter_tuple (show s1.heap.IsTuple a its.toArray from p) ?_
    exact ⟨s1.heap.objs.size, [s1.heap.objs.size], _, _, H1, rfl, I1.kept (t' := s1.toks) fun b o e => Heap.get?_push_of_some _ e, turn_tuple a _, ⟨_, Heap.get?_push_size _ rfl, rfl, rfl⟩, fp, q⟩
end
end L3
set_option Elab.async false
set_option linter.all false
set_option maxRecDepth 100000
set_option maxHeartbeats 4000000
/-! L3z: zip and enumerate over lists and tuples in any mix. -/
namespace L3
open PySem PySem.Spec PyProof.Rows L2

/-- k: a tuple (true) or a list -/
def itK (k : Bool) (h : Heap) (it l : Addr) (i : Nat) : Prop := cond k (h.IsTupleIter it l i) (h.IsListIter it l i)
def sqK (k : Bool) (h : Heap) (l : Addr) (items : Array Value) : Prop := cond k (h.IsTuple l items) (h.IsList l items)
def svK (k : Bool) (K : PySem.W.Frag) (H : Hp) (a : Addr) (xs : List V) : Prop := cond k (SqT K H a xs) (SqL K H a xs)
def obK (k : Bool) (l : Addr) : Obj := cond k { cls := .type "tuple_iterator", data := .fields #[.ref l, .int 0 0] } { cls := .type "list_iterator", data := .fields #[.ref l, .int 0 0] }
theorem drawK {prog : Program} {w : World} {A : Around} (hh : A.handled = none) (k : Bool) (it l : Addr) (hne : l ≠ it) (items : Array Value) :
    Draws prog w A it [it, l] items.size (fun i v => items[i]? = some v) (fun i h => itK k h it l i ∧ sqK k h l items) := by
  cases k with
  | true => exact Draws.tuple hh it l hne items
  | false => exact Draws.list hh it l hne items
theorem beginK (k : Bool) (l : Addr) (items : Array Value) : Begins (.ref l) (obK k l) fun h => sqK k h l items := by
  cases k with
  | true => exact begins_tuple l items
  | false => exact begins_list l items
theorem itK_new (k : Bool) {h : Heap} {it l : Addr} (e : h.get? it = some (obK k l)) : itK k h it l 0 := by
  cases k with
  | true => exact ⟨_, e, rfl, rfl⟩
  | false => exact ⟨_, e, rfl, rfl⟩
theorem itK_at {k : Bool} {h h' : Heap} {it l : Addr} {i : Nat} (x : itK k h it l i) (q : ∀ o, h.get? it = some o → h'.get? it = some o) : itK k h' it l i := by
  cases k with
  | true => exact Heap.IsTupleIter.at x q
  | false => exact Heap.IsListIter.at x q
theorem itK_obj {k : Bool} {h : Heap} {it l : Addr} {i : Nat} (x : itK k h it l i) : ∃ o, h.get? it = some o ∧ ∀ v, o.data ≠ .cell v := by
  cases k with
  | true =>
    obtain ⟨o, e, _, d⟩ := (show h.IsTupleIter it l i from x)
    exact ⟨o, e, fun v z => by rw [d] at z; cases z⟩
  | false =>
    obtain ⟨o, e, _, d⟩ := (show h.IsListIter it l i from x)
    exact ⟨o, e, fun v z => by rw [d] at z; cases z⟩
section
variable {X : Cx} {pins : List (Addr × Obj)} {σ : L2.St} {H : Hp} {s : Shared}
theorem svK_at (I : Inv X pins σ H s) {k : Bool} {a : Addr} {xs : List V} (h : svK k X.K H a xs) : ∃ its : List Value, Vals xs its ∧ sqK k s.heap a its.toArray ∧ a < s.heap.objs.size := by
  cases k with
  | true =>
    obtain ⟨its, r, p, _⟩ := I.tuple h
    exact ⟨its, r, p, p.lt⟩
  | false =>
    obtain ⟨its, r, p, _⟩ := I.list h
    exact ⟨its, r, p.isList, p.lt⟩
theorem svK_inj (I : Inv X pins σ H s) {k : Bool} {a : Addr} {xs ys : List V} (h : svK k X.K H a xs) (h' : svK k X.K H a ys) : xs = ys := by
  cases k with
  | true => exact I.tuple_inj h h'
  | false => exact I.list_inj h h'
end
theorem sep_of {z TI TO i1 i2 a b : Addr} (D : ZipApart z TI TO i1 i2 a b) : ZipSep2 z TI TO i1 i2 [i1, a] [i2, b] where
  TIz := D.TIz
  TOz := D.TOz
  TITO := D.TITO
  TIi1 := D.TIi1
  mem1 := by simp
  zf1 := by simp [Ne.symm D.i1z, Ne.symm D.l1z]
  Tf1 := by simp [D.TOi1, Ne.symm D.l1TO]
  TIi2 := D.TIi2
  mem2 := by simp
  zf2 := by simp [Ne.symm D.i2z, Ne.symm D.l2z]
  Tf2 := by simp [D.TOi2, Ne.symm D.l2TO]
  sep1_2 := by simp [D.i12, Ne.symm D.l2i1]
  sep2_1 := by simp [Ne.symm D.i12, Ne.symm D.l1i2]
/-- zip of two of any kind -/
def ItzG (k1 k2 : Bool) (K : PySem.W.Frag) (a b : Addr) : It :=
  ⟨fun i H => ∃ (xs ys : List V) (x y : V), svK k1 K H a xs ∧ svK k2 K H b ys ∧ xs[i]? = some x ∧ ys[i]? = some y,
   fun i H v H' => ∃ T x y, v = .ref T ∧ H T = none ∧ H' = upd H T (.tup [x, y]) ∧ (∀ xs, svK k1 K H a xs → xs[i]? = some x) ∧ (∀ ys, svK k2 K H b ys → ys[i]? = some y),
   fun i H => ∃ xs ys : List V, svK k1 K H a xs ∧ svK k2 K H b ys ∧ i ≤ xs.length ∧ i ≤ ys.length ∧ (i = xs.length ∨ i = ys.length)⟩
theorem turn_zipG {P : Program} {w : World} {K : PySem.W.Frag} {elts : List Expr} {kk : Nat} {tpos : Pos} {k1 k2 : Bool} {a b z TI TO i1 i2 : Addr} (D : ZipApart z TI TO i1 i2 a b) :
    Turn P w K (.Tuple elts kk tpos) (ItzG k1 k2 K a b) [z, TI, TO, i1, i2] z (fun i h => IsZip h z TI TO .none ∧ IsTupOf2 h TI (.ref i1) (.ref i2) ∧ (∃ x y, IsTupOf2 h TO x y) ∧ itK k1 h i1 a i ∧ itK k2 h i2 b i) where
  mem := by simp
  obj := fun i h st c hc => by
    obtain ⟨hz, hTI, ⟨x, y, hTO⟩, h1, h2⟩ := st
    rcases (show c = z ∨ c = TI ∨ c = TO ∨ c = i1 ∨ c = i2 by simpa using hc) with rfl | rfl | rfl | rfl | rfl
    · exact ⟨_, hz, fun v e => nomatch e⟩
    · exact ⟨_, hTI, fun v e => nomatch e⟩
    · exact ⟨_, hTO, fun v e => nomatch e⟩
    · exact itK_obj h1
    · exact itK_obj h2
  keep := fun i h h' st k => by
    obtain ⟨hz, hTI, ⟨x, y, hTO⟩, h1, h2⟩ := st
    exact ⟨k z (by simp) _ hz, k TI (by simp) _ hTI, ⟨x, y, k TO (by simp) _ hTO⟩, itK_at h1 (fun o e => k i1 (by simp) o e), itK_at h2 (fun o e => k i2 (by simp) o e)⟩
  item := by
    intro X hP hw hK hc i pins s σ H E I hf st hg
    subst hP hw hK
    obtain ⟨hz, hTI, ⟨x0, y0, hTO⟩, h1, h2⟩ := st
    obtain ⟨xs, ys, x, y, hqx, hqy, hx, hy⟩ := hg
    obtain ⟨its, rv, p1, la⟩ := svK_at I hqx
    obtain ⟨its2, rv2, p2, lb⟩ := svK_at I hqy
    obtain ⟨u, hu, ru⟩ := rv.get hx
    obtain ⟨u2, hu2, ru2⟩ := rv2.get hy
    have hh : X.A.in1.handled = none := I.ok.hd hc
    have zl : z < s.heap.objs.size := Heap.lt_size hz
    have n1 : i < its.toArray.size := by simpa using (List.getElem?_eq_some_iff.mp hu).1
    have n2 : i < its2.toArray.size := by simpa using (List.getElem?_eq_some_iff.mp hu2).1
    refine wpAny_pyNext_zipD2_item (sep_of D) (drawK hh k1 i1 a D.l1i1 its.toArray) (drawK hh k2 i2 b D.l2i2 its2.toArray) hz hTI hTO ⟨h1, p1⟩ ⟨h2, p2⟩ n1 n2 fun y1 y2 h' tk e1 e2 z' TO' s1' s2' hT hsz hk => ?_
    have eu : y1 = u := by
      have e3 := (show its.toArray[i]? = some y1 from e1)
      rw [show its.toArray[i]? = some u by simpa using hu] at e3
      exact (Option.some.inj e3).symm
    have eu2 : y2 = u2 := by
      have e3 := (show its2.toArray[i]? = some y2 from e2)
      rw [show its2.toArray[i]? = some u2 by simpa using hu2] at e3
      exact (Option.some.inj e3).symm
    subst eu eu2
    refine ⟨_, rfl, wpAny_letOwnedTupleGo_zip (s := { s with heap := h', toks := tk }) z' fun h'' z'' sb => ?_⟩
    have hT2 : h''.get? s.heap.objs.size = some { cls := .type "tuple", data := .seq #[y1, y2] } := (sb.2 _ (Nat.ne_of_gt zl)).trans hT
    have new : ObjOk X.prog X.w (upd H s.heap.objs.size (.tup [x, y])) h'' s.heap.objs.size (.tup [x, y]) := by
      refine ⟨?_, [y1, y2], .cons ru (.cons ru2 .nil), ⟨_, hT2, rfl, _, rfl⟩⟩
      show 2 ≤ sizeLine
      decide
    have I1 : Inv X pins σ (upd H s.heap.objs.size (.tup [x, y])) { s with heap := h'', toks := tk } :=
      I.turnedNew (t' := tk) (ch := [z, TI, TO, i1, i2]) (fun c o hb q => (sb.2 c (fun e => hb (by simp [e]))).trans (hk c o (fun e => hb (by simp [e])) (fun e => hb (by simp [e])) (fun e => hb (by simp [e])) (fun e => hb (by simp [e])) q)) hf (Nat.le_refl _) new
    refine ⟨.ref s.heap.objs.size, _, I1, rfl, ⟨_, x, y, rfl, I.hok.fresh (Nat.le_refl _), rfl, fun l hl => by rw [svK_inj I hl hqx]; exact hx, fun l hl => by rw [svK_inj I hl hqy]; exact hy⟩, ⟨z'', ?_, ⟨y1, y2, ?_⟩, ?_, ?_⟩, fun c hcm => ?_⟩
    · exact (sb.2 _ D.TIz).trans (hk _ _ D.TIz D.TITO D.TIi1 D.TIi2 hTI)
    · exact (sb.2 _ D.TOz).trans TO'
    · exact itK_at s1'.1 fun o q => (sb.2 _ D.i1z).trans q
    · exact itK_at s2'.1 fun o q => (sb.2 _ D.i2z).trans q
    · have hlt : c < s.heap.objs.size := by
        rcases (show c = z ∨ c = TI ∨ c = TO ∨ c = i1 ∨ c = i2 by simpa using hcm) with rfl | rfl | rfl | rfl | rfl
        · exact zl
        · exact Heap.lt_size hTI
        · exact Heap.lt_size hTO
        · obtain ⟨o, e, _⟩ := itK_obj h1
          exact Heap.lt_size e
        · obtain ⟨o, e, _⟩ := itK_obj h2
          exact Heap.lt_size e
      rw [upd_ne (Nat.ne_of_lt hlt)]
      exact (hf c hcm).1
  done := by
    intro X hP hw hK hc i pins s σ H E I hf st hg
    subst hP hw hK
    obtain ⟨hz, hTI, ⟨x0, y0, hTO⟩, h1, h2⟩ := st
    obtain ⟨xs, ys, hqx, hqy, he1, he2, hend⟩ := hg
    obtain ⟨its, rv, p1, la⟩ := svK_at I hqx
    obtain ⟨its2, rv2, p2, lb⟩ := svK_at I hqy
    have l1 := rv.length
    have l2 := rv2.length
    have hh : X.A.in1.handled = none := I.ok.hd hc
    exact wpAny_pyNext_zipD2_end (sep_of D) (drawK hh k1 i1 a D.l1i1 its.toArray) (drawK hh k2 i2 b D.l2i2 its2.toArray) hz hTI hTO ⟨h1, p1⟩ ⟨h2, p2⟩ (by simp; omega) (by simp; omega) (by simp; omega) fun h' tk hk =>
      ⟨rfl, I.turnedL (t' := tk) (ch := [z, TI, TO, i1, i2]) (fun c o hb q => hk c o (fun e => hb (by simp [e])) (fun e => hb (by simp [e])) (fun e => hb (by simp [e])) (fun e => hb (by simp [e])) q) hf⟩
  self := fun A i s Q E st h => wpAny_pyIter_zip st.1 h
theorem pi_zipG {X : Cx} {e e2 : Expr} {ta : TA} {p pos tpos : Pos} {elts : List Expr} {kk : Nat} (hg : Gl X "zip") (hm : X.mg "zip" = none) (ha : PA X [e, e2] ta)
    (hs : starEach [e, e2] X.env = (false, eval e X.env) :: starEach [e2] X.env := by rfl) (hpl : (backTo pos (starEach [e2] X.env)).any (·.1) = false := by rfl) :
    PI X (.Tuple elts kk tpos) (.Call (.Name "zip" p) [e, e2] [] pos) (fun σ H R => ta σ H fun vs H1 => ∃ (k1 k2 : Bool) (a b : Addr) (xs ys : List V), vs = [.ref a, .ref b] ∧ svK k1 X.K H1 a xs ∧ svK k2 X.K H1 b ys ∧ R (ItzG k1 k2 X.K a b) H1) := by
  refine ⟨fun pins s σ H R I h => ?_⟩
  refine Call_ (ld_blt I hg hm PyProof.Rows.boot_zip (PyProof.Rows.callWith_type1 (thn (ha.run pos pins s σ H _ I h) fun us s1 ⟨vs, H1, I1, r1, q1⟩ => ?_) hs hpl))
  obtain ⟨k1, k2, a, b, xs, ys, rfl, hqx, hqy, q⟩ := q1
  obtain ⟨u1, u2, rfl, ra, rb⟩ := r1.two
  cases ra
  cases rb
  obtain ⟨its, rv, p1, la⟩ := svK_at I1 hqx
  obtain ⟨its2, rv2, p2, lb⟩ := svK_at I1 hqy
  refine zip_begins2 (beginK k1 a its.toArray) (beginK k2 b its2.toArray) p1 p2 fun h' hz hTI hTO g1 g2 hsz hk => wpAny_pyIter_zip hz ?_
  have I2 : Inv X pins σ H1 { s1 with heap := h' } := I1.kept (t' := s1.toks) hk
  refine ⟨s1.heap.objs.size + 4, [s1.heap.objs.size + 4, s1.heap.objs.size + 2, s1.heap.objs.size + 3, s1.heap.objs.size, s1.heap.objs.size + 1], _, _, H1, rfl, I2, turn_zipG (PySem.W.ktu_apart s1.heap.objs.size a b la lb), ⟨hz, hTI, ⟨_, _, hTO⟩, itK_new k1 g1, itK_new k2 g2⟩, fun c hcm => ?_, q⟩
  have hle : s1.heap.objs.size ≤ c := by
    have e' : c = s1.heap.objs.size + 4 ∨ c = s1.heap.objs.size + 2 ∨ c = s1.heap.objs.size + 3 ∨ c = s1.heap.objs.size ∨ c = s1.heap.objs.size + 1 := by simpa using hcm
    rcases e' with rfl | rfl | rfl | rfl | rfl
    · exact Nat.le_add_right _ _
    · exact Nat.le_add_right _ _
    · exact Nat.le_add_right _ _
    · exact Nat.le_refl _
    · exact Nat.le_add_right _ _
  exact I1.fpOk hle (I1.hok.fresh hle)

/-! ### enumerate of one thing -/
theorem meets_enum1 {v : Value} {o : Obj} {H : Heap → Prop} (B : Begins v o H) :
    Meets (Builtin.«enumerate.__new__» ⟨[.type "enumerate", v], []⟩) (fun _ R s => H s.heap ∧ R (.ok (.ret (.ref (s.heap.push o).objs.size)))
      { s with heap := (s.heap.push o).push { cls := .type "enumerate", data := .fields #[.none, .bool false, .ref s.heap.objs.size, rawInt 0, .none, .none] } }) :=
  .of_wp fun prog w A R s hr => by
    obtain ⟨hp, g, d, tk, os⟩ := s
    obtain ⟨h1, hr⟩ := hr
    have hsub := sub_enumerate
    have q1 : ∀ {A' : Around} {E' : Value → Shared → Prop} {Q' : Value → Shared → Prop}, Q' (.ref hp.objs.size) ⟨hp.push o, g, d, tk, os⟩ → wpAny (model prog w) A' (pyIter v) Q' E' ⟨hp, g, d, tk, os⟩ := fun q => B.iter prog w _ _ ⟨hp, g, d, tk, os⟩ _ h1 q
    wp_walk using q1
    refine wpAny_stack_any fun st => wpAny_pure ?_
    split
    · rename_i c _ _ _ _ _
      cases (c == Value.type "enumerate") <;> (wp_walk using q1; exact ⟨_, rfl, hr⟩)
    · (wp_walk using q1; exact ⟨_, rfl, hr⟩)
theorem enum_begins1 {prog : Program} {w : World} {A : Around} {E : Value → Shared → Prop} {s : Shared} {v : Value} {o : Obj} {H : Heap → Prop} {Q : Value → Shared → Prop} (B : Begins v o H) (h1 : H s.heap)
    (hq : ∀ h', IsEnum h' (s.heap.objs.size + 1) s.heap.objs.size 0 .none → h'.get? s.heap.objs.size = some o → (∀ b o, s.heap.get? b = some o → h'.get? b = some o) → Q (.ref (s.heap.objs.size + 1)) { s with heap := h' }) :
    wpAny (model prog w) A (call (.type "enumerate") [v]) Q E s := by
  refine callType_new F.called_enumerate (by decide) (F.typeCall_enumerate_1 _) (F.newCall_enumerate_1 _) (fun obj => F.args_object_init_2 obj _) F.entry_enumerate_new (meets_enum1 B) ⟨h1, ?_⟩
  have hz : (s.heap.push o).objs.size = s.heap.objs.size + 1 := Heap.size_push ..
  have he := Heap.get?_push_size (s.heap.push o) (o := { cls := .type "enumerate", data := .fields #[.none, .bool false, .ref s.heap.objs.size, rawInt 0, .none, .none] }) rfl
  show _ ∧ _
  rw [hz] at he ⊢
  exact ⟨⟨_, he, rfl⟩, hq _ he (Heap.get?_push_of_some _ (Heap.get?_push_size _ B.free)) fun b o x => Heap.get?_push_of_some _ (Heap.get?_push_of_some _ x)⟩
def IteG (k : Bool) (K : PySem.W.Frag) (a : Addr) : It :=
  ⟨fun i H => ∃ (xs : List V) (x : V), svK k K H a xs ∧ xs[i]? = some x,
   fun i H v H' => ∃ T x, v = .ref T ∧ H T = none ∧ H' = upd H T (.tup [.int (i : Nat), x]) ∧ ∀ xs, svK k K H a xs → xs[i]? = some x,
   fun i H => ∃ xs : List V, svK k K H a xs ∧ i = xs.length⟩
theorem turn_enumG {P : Program} {w : World} {K : PySem.W.Frag} {elts : List Expr} {kk : Nat} {tpos : Pos} {k : Bool} {a e it : Addr} (hne : e ≠ it) (hai : a ≠ it) (hea : e ≠ a) :
    Turn P w K (.Tuple elts kk tpos) (IteG k K a) [e, it] e (fun i h => (∃ old, IsEnum h e it ((i : Nat) : Int) old) ∧ itK k h it a i) where
  mem := by simp
  obj := fun i h st c hc => by
    obtain ⟨⟨old, he⟩, h1⟩ := st
    rcases (show c = e ∨ c = it by simpa using hc) with rfl | rfl
    · exact ⟨_, he, fun v z => nomatch z⟩
    · exact itK_obj h1
  keep := fun i h h' st q => by
    obtain ⟨⟨old, he⟩, h1⟩ := st
    exact ⟨⟨old, q e (by simp) _ he⟩, itK_at h1 fun o x => q it (by simp) o x⟩
  item := by
    intro X hP hw hK hc i pins s σ H E I hf st hg
    subst hP hw hK
    obtain ⟨⟨old, he⟩, h1⟩ := st
    obtain ⟨xs, x, hqx, hx⟩ := hg
    obtain ⟨its, rv, p1, la⟩ := svK_at I hqx
    obtain ⟨u, hu, ru⟩ := rv.get hx
    have hh : X.A.in1.handled = none := I.ok.hd hc
    have el : e < s.heap.objs.size := Heap.lt_size he
    have n1 : i < its.toArray.size := by simpa using (List.getElem?_eq_some_iff.mp hu).1
    refine wpAny_pyNext_enum_itemD (drawK hh k it a hai its.toArray) he ⟨h1, p1⟩ n1 hne (by simp [hne, hea]) fun y h' tk ey ho hs' hT hsz hk => ?_
    have eu : y = u := by
      have e3 := (show its.toArray[i]? = some y from ey)
      rw [show its.toArray[i]? = some u by simpa using hu] at e3
      exact (Option.some.inj e3).symm
    subst eu
    refine ⟨_, rfl, wpAny_letOwnedTupleGo_enum (s := { s with heap := h', toks := tk + 1 }) ho fun h'' he' sb => ?_⟩
    have hT2 : h''.get? s.heap.objs.size = some { cls := .type "tuple", data := .seq #[.int i tk, y] } := (sb.2 _ (Nat.ne_of_gt el)).trans hT
    have new : ObjOk X.prog X.w (upd H s.heap.objs.size (.tup [.int (i : Nat), x])) h'' s.heap.objs.size (.tup [.int (i : Nat), x]) := by
      refine ⟨?_, [.int i tk, y], .cons ⟨_, rfl⟩ (.cons ru .nil), ⟨_, hT2, rfl, _, rfl⟩⟩
      show 2 ≤ sizeLine
      decide
    have I1 : Inv X pins σ (upd H s.heap.objs.size (.tup [.int (i : Nat), x])) { s with heap := h'', toks := tk + 1 } :=
      I.turnedNew (t' := tk + 1) (ch := [e, it]) (fun c o hb q => (sb.2 c (fun z => hb (by simp [z]))).trans (hk c o (fun z => hb (by simp [z])) (fun z => hb (by simp [z])) q)) hf (Nat.le_refl _) new
    refine ⟨.ref s.heap.objs.size, _, I1, rfl, ⟨_, x, rfl, I.hok.fresh (Nat.le_refl _), rfl, fun l hl => by rw [svK_inj I hl hqx]; exact hx⟩, ⟨⟨y, ?_⟩, ?_⟩, fun c hcm => ?_⟩
    · have e1 : ((i + 1 : Nat) : Int) = (i : Int) + 1 := by omega
      rw [e1]
      exact he'
    · exact itK_at hs'.1 fun o q => (sb.2 _ (Ne.symm hne)).trans q
    · have hlt : c < s.heap.objs.size := by
        rcases (show c = e ∨ c = it by simpa using hcm) with rfl | rfl
        · exact el
        · obtain ⟨o, z, _⟩ := itK_obj h1
          exact Heap.lt_size z
      rw [upd_ne (Nat.ne_of_lt hlt)]
      exact (hf c hcm).1
  done := by
    intro X hP hw hK hc i pins s σ H E I hf st hg
    subst hP hw hK
    obtain ⟨⟨old, he⟩, h1⟩ := st
    obtain ⟨xs, hqx, hx⟩ := hg
    obtain ⟨its, rv, p1, la⟩ := svK_at I hqx
    have hl := rv.length
    have hh : X.A.in1.handled = none := I.ok.hd hc
    have ei : i = its.toArray.size := by
      simp
      omega
    obtain ⟨f0, f1, f2, f3, f4, f5⟩ := hf it (by simp)
    have st2 : itK k s.heap it a its.toArray.size ∧ sqK k s.heap a its.toArray := ⟨by rw [← ei]; exact h1, p1⟩
    exact wpAny_pyNext_enum_endD (drawK hh k it a hai its.toArray) he st2 fun h' eb => ⟨rfl, I.turned (t' := s.toks) (fun b o hb q => eb b o hb q) f0 f1 f3 f4 f5⟩
  self := fun A i s Q E st h => let ⟨⟨_, he⟩, _⟩ := st; wpAny_pyIter_enum he h
theorem pi_enumG {X : Cx} {e : Expr} {ta : TA} {p pos tpos : Pos} {elts : List Expr} {kk : Nat} (hg : Gl X "enumerate") (hm : X.mg "enumerate" = none) (ha : PA X [e] ta) (hs : starEach [e] X.env = [(false, eval e X.env)] := by rfl) :
    PI X (.Tuple elts kk tpos) (.Call (.Name "enumerate" p) [e] [] pos) (fun σ H R => ta σ H fun vs H1 => ∃ (k : Bool) (a : Addr) (xs : List V), vs = [.ref a] ∧ svK k X.K H1 a xs ∧ R (IteG k X.K a) H1) := by
  refine ⟨fun pins s σ H R I h => ?_⟩
  refine Call_ (ld_blt I hg hm boot_enumerate (PyProof.Rows.callWith_type1 (thn (ha.run pos pins s σ H _ I h) fun us s1 ⟨vs, H1, I1, r1, q1⟩ => ?_) hs rfl))
  obtain ⟨k, a, xs, rfl, hqx, q⟩ := q1
  obtain ⟨u1, rfl, ra⟩ := r1.one
  cases ra
  obtain ⟨its, rv, p1, la⟩ := svK_at I1 hqx
  refine enum_begins1 (beginK k a its.toArray) p1 fun h' he g1 hk => wpAny_pyIter_enum he ?_
  have I2 : Inv X pins σ H1 { s1 with heap := h' } := I1.kept (t' := s1.toks) hk
  refine ⟨s1.heap.objs.size + 1, [s1.heap.objs.size + 1, s1.heap.objs.size], _, _, H1, rfl, I2, turn_enumG (k := k) (a := a) (Nat.succ_ne_self _) (Nat.ne_of_lt la) (Nat.ne_of_gt (Nat.lt_succ_of_lt la)), ⟨⟨.none, he⟩, itK_new k g1⟩, fun c hcm => ?_, q⟩
  have hle : s1.heap.objs.size ≤ c := by
    rcases (show c = s1.heap.objs.size + 1 ∨ c = s1.heap.objs.size by simpa using hcm) with rfl | rfl
    · exact Nat.le_add_right _ _
    · exact Nat.le_refl _
  exact I1.fpOk hle (I1.hok.fresh hle)
end L3
set_option Elab.async false
set_option linter.all false
set_option maxRecDepth 100000
set_option maxHeartbeats 2000000
/-! L3h: what is walked; comprehensions. -/
namespace L3
open PySem PySem.Spec PyProof.Rows L2

theorem Src.again {M0 M : Mem} {ds : List D} {x : Src} (h : x.get M0 = some ds) (st : x.still M ds = true) : x.get M = some ds := by
  cases x with
  | tup es => exact h
  | tmp es => exact h
  | lst i =>
    dsimp only [Src.still, Src.get] at st ⊢
    cases q : M[i]? with
    | none => rw [q] at st; cases st
    | some o =>
      rw [q] at st
      cases o with
      | lst es =>
        dsimp only at st ⊢
        rw [D.sames_eq _ _ st]
      | frz es =>
        dsimp only at st ⊢
        rw [D.sames_eq _ _ st]
      | dK _ => cases st
      | ins _ _ => cases st
def kindS : Src → Bool
  | .tup _ => true
  | _ => false
/-- a source read later on -/
theorem SrcAt.later {G : Pg} {φ0 φ : List Addr} {H0 H : Hp} {M0 M : Mem} {p : Addr} {x : Src} {ds : List D} (r : SrcAt G.K φ0 H0 (.ref p) x) (g : x.get M0 = some ds) (e : Ext φ0 H0 φ H) (m : RelM G φ H M) (st : x.still M ds = true) :
    ∃ xs, svK (kindS x) G.K H p xs ∧ Reps G.K φ H xs ds := by
  obtain ⟨p', xs, h1, h2, h3⟩ := (r.mono e).read m (Src.again g st)
  cases h1
  rcases h3 with ⟨i, rfl, h3⟩ | ⟨es, rfl, h3⟩ | ⟨es, rfl, h3⟩
  · exact ⟨xs, h3, h2⟩
  · exact ⟨xs, h3, h2⟩
  · exact ⟨xs, h3.sq, h2⟩
theorem SrcAt.addr {K : PySem.W.Frag} {φ : List Addr} {H : Hp} {v : V} {x : Src} (r : SrcAt K φ H v x) : ∃ p, v = .ref p := by
  cases r with
  | tup h r => exact ⟨_, rfl⟩
  | lst h => exact ⟨_, rfl⟩
  | tmp h n r => exact ⟨_, rfl⟩
theorem zipD_get : ∀ (xs ys : List D) (i : Nat) (d : D), (zipD xs ys)[i]? = some d → ∃ x y, xs[i]? = some x ∧ ys[i]? = some y ∧ d = .tup [x, y]
  | [], _, _, _, h => by simp [zipD] at h
  | _ :: _, [], _, _, h => by simp [zipD] at h
  | x :: xs, y :: ys, 0, d, h => by
    simp [zipD] at h
    exact ⟨x, y, rfl, rfl, h.symm⟩
  | x :: xs, y :: ys, i + 1, d, h => by
    obtain ⟨a, b, h1, h2, h3⟩ := zipD_get xs ys i d (by simpa [zipD] using h)
    exact ⟨a, b, by simpa using h1, by simpa using h2, h3⟩
theorem zipD_len : ∀ (xs ys : List D), (zipD xs ys).length = min xs.length ys.length
  | [], _ => by simp [zipD]
  | _ :: _, [] => by simp [zipD]
  | x :: xs, y :: ys => by
    simp only [zipD, List.length_cons, zipD_len xs ys]
    omega
theorem enumD_get : ∀ (k : Nat) (xs : List D) (i : Nat) (d : D), (enumD k xs)[i]? = some d → ∃ x, xs[i]? = some x ∧ d = .tup [.int ((k + i : Nat) : Int), x]
  | _, [], _, _, h => by simp [enumD] at h
  | k, x :: xs, 0, d, h => by
    simp [enumD] at h
    exact ⟨x, rfl, h.symm⟩
  | k, x :: xs, i + 1, d, h => by
    obtain ⟨a, h1, h2⟩ := enumD_get (k + 1) xs i d (by simpa [enumD] using h)
    refine ⟨a, by simpa using h1, ?_⟩
    rw [h2]
    have : k + 1 + i = k + (i + 1) := by omega
    rw [this]
theorem enumD_len : ∀ (k : Nat) (xs : List D), (enumD k xs).length = xs.length
  | _, [] => rfl
  | k, x :: xs => by simp only [enumD, List.length_cons, enumD_len (k + 1) xs]
theorem rngD_get {lo : Int} {n i : Nat} {d : D} (h : (rngD lo n)[i]? = some d) : i < n ∧ d = .int (lo + (i : Nat)) := by
  unfold rngD at h
  rw [List.getElem?_map] at h
  cases q : (List.range n)[i]? with
  | none => rw [q] at h; cases h
  | some k =>
    rw [q] at h
    cases h
    obtain ⟨h1, h2⟩ := List.getElem?_eq_some_iff.mp q
    rw [List.getElem_range] at h2
    subst h2
    exact ⟨by simpa using h1, rfl⟩
theorem rngD_len (lo : Int) (n : Nat) : (rngD lo n).length = n := by
  unfold rngD
  simp

section
variable {X : Cx}
theorem itrel_rng {G : Pg} {φ0 : List Addr} {H0 : Hp} {lo : Int} {n : Nat} : ItRel G φ0 H0 (.rng lo n) (Itr lo n) := by
  intro φ H M e m st i
  refine ⟨fun d hd => ?_, fun h => ?_⟩
  · obtain ⟨h1, rfl⟩ := rngD_get hd
    exact ⟨h1, fun x H' y => by
      obtain ⟨rfl, rfl⟩ := y
      exact ⟨Ext.refl, m, .int _⟩⟩
  · have h' : i = (rngD lo n).length := h
    rw [rngD_len] at h'
    show n ≤ i
    omega
theorem itrel_seq {G : Pg} {φ0 : List Addr} {H0 : Hp} {M0 : Mem} {p : Addr} {x : Src} {ds : List D} (r : SrcAt G.K φ0 H0 (.ref p) x) (g : x.get M0 = some ds) :
    ItRel G φ0 H0 (.seq x ds) (cond (kindS x) (Itt G.K p) (Itl G.K p)) := by
  intro φ H M e m st i
  obtain ⟨xs, hq, rs⟩ := r.later g e m st
  cases hk : kindS x with
  | true =>
    rw [hk] at hq
    refine ⟨fun d hd => ?_, fun h => ⟨xs, hq, by rw [rs.length]; exact Nat.le_of_eq (show i = ds.length from h).symm⟩⟩
    obtain ⟨v, hv, rv⟩ := rs.get (show ds[i]? = some d from hd)
    refine ⟨⟨xs, v, hq, hv⟩, fun y H' yy => ?_⟩
    obtain ⟨rfl, z⟩ := yy
    have e2 := z xs hq
    rw [hv] at e2
    cases e2
    exact ⟨Ext.refl, m, rv⟩
  | false =>
    rw [hk] at hq
    refine ⟨fun d hd => ?_, fun h => ⟨xs, hq, by rw [rs.length]; exact Nat.le_of_eq (show i = ds.length from h).symm⟩⟩
    obtain ⟨v, hv, rv⟩ := rs.get (show ds[i]? = some d from hd)
    refine ⟨⟨xs, v, hq, hv⟩, fun y H' yy => ?_⟩
    obtain ⟨rfl, z⟩ := yy
    have e2 := z xs hq
    rw [hv] at e2
    cases e2
    exact ⟨Ext.refl, m, rv⟩
theorem pair_new {G : Pg} {φ : List Addr} {H : Hp} {M : Mem} {T : Addr} {v w : V} {d e : D} (m : RelM G φ H M) (nT : H T = none) (r1 : Rep G.K φ H v d) (r2 : Rep G.K φ H w e) :
    Ext φ H φ (upd H T (.tup [v, w])) ∧ RelM G φ (upd H T (.tup [v, w])) M ∧ Rep G.K φ (upd H T (.tup [v, w])) (.ref T) (.tup [d, e]) :=
  ⟨Ext.laid m nT, m.laid nT, .tup (.inl ⟨upd_same, m.fresh nT⟩) (.cons (r1.mono (Ext.laid m nT)) (.one (r2.mono (Ext.laid m nT))))⟩
theorem itrel_zip {G : Pg} {φ0 : List Addr} {H0 : Hp} {M0 : Mem} {p q : Addr} {x y : Src} {ds es : List D} (r : SrcAt G.K φ0 H0 (.ref p) x) (g : x.get M0 = some ds) (r2 : SrcAt G.K φ0 H0 (.ref q) y) (g2 : y.get M0 = some es) :
    ItRel G φ0 H0 (.zip x y ds es) (ItzG (kindS x) (kindS y) G.K p q) := by
  intro φ H M e m st i
  have st' : (x.still M ds && y.still M es) = true := st
  rw [Bool.and_eq_true] at st'
  obtain ⟨xs, hq, rs⟩ := r.later g e m st'.1
  obtain ⟨ys, hq2, rs2⟩ := r2.later g2 e m st'.2
  refine ⟨fun d hd => ?_, fun h => ?_⟩
  · obtain ⟨a, b, ha, hb, rfl⟩ := zipD_get ds es i d hd
    obtain ⟨v, hv, rv⟩ := rs.get ha
    obtain ⟨w, hw, rw'⟩ := rs2.get hb
    refine ⟨⟨xs, ys, v, w, hq, hq2, hv, hw⟩, fun y H' yy => ?_⟩
    obtain ⟨T, v', w', rfl, nT, rfl, z1, z2⟩ := yy
    have e1 := z1 xs hq
    have e2 := z2 ys hq2
    rw [hv] at e1
    rw [hw] at e2
    cases e1
    cases e2
    exact pair_new m nT rv rw'
  · have hl : i = (zipD ds es).length := h
    rw [zipD_len, ← rs.length, ← rs2.length] at hl
    exact ⟨xs, ys, hq, hq2, by omega, by omega, by omega⟩
theorem itrel_enum {G : Pg} {φ0 : List Addr} {H0 : Hp} {M0 : Mem} {p : Addr} {x : Src} {ds : List D} (r : SrcAt G.K φ0 H0 (.ref p) x) (g : x.get M0 = some ds) :
    ItRel G φ0 H0 (.enum x ds) (IteG (kindS x) G.K p) := by
  intro φ H M e m st i
  obtain ⟨xs, hq, rs⟩ := r.later g e m st
  refine ⟨fun d hd => ?_, fun h => ?_⟩
  · obtain ⟨a, ha, rfl⟩ := enumD_get 0 ds i d hd
    obtain ⟨v, hv, rv⟩ := rs.get ha
    refine ⟨⟨xs, v, hq, hv⟩, fun y H' yy => ?_⟩
    obtain ⟨T, v', rfl, nT, rfl, z1⟩ := yy
    have e1 := z1 xs hq
    rw [hv] at e1
    cases e1
    rw [Nat.zero_add]
    exact pair_new m nT (.int _) rv
  · have hl : i = (enumD 0 ds).length := h
    rw [enumD_len, ← rs.length] at hl
    exact ⟨xs, hq, hl⟩
theorem pi3_seq {tg e : Expr} {q : MQ} (h : PQ3 X e q) : PI3 X tg e (iSeq q) := ⟨fun W tk => by
  refine PI.weak (pi_seq (h.run W tk)) fun σ H Q h => ?_
  obtain ⟨φ, s, M, a, h⟩ := h
  refine bindQ a h fun φ1 H1 M1 x v a1 e1 r h1 => ?_
  obtain ⟨ds, g, h2⟩ := getS_ok h1
  obtain ⟨p, rfl⟩ := r.addr
  have rel := itrel_seq r g
  have st : x.still M1 ds = true := by
    cases x with
    | tup es => rfl
    | tmp es => rfl
    | lst i =>
      dsimp only [Src.still, Src.get] at g ⊢
      cases q : M1[i]? with
      | none => rw [q] at g; cases g
      | some o =>
        rw [q] at g
        cases o with
        | lst es => cases g; exact D.sames_refl _
        | frz es => cases g; exact D.sames_refl _
        | dK _ => cases g
        | ins _ _ => cases g
  obtain ⟨xs, hq, rs⟩ := r.later g Ext.refl a1.mem st
  have fin := a1.fin h2 _ rel
  cases hk : kindS x with
  | true =>
    rw [hk] at hq fin
    exact ⟨p, rfl, .inr ⟨⟨xs, hq⟩, fin⟩⟩
  | false =>
    rw [hk] at hq fin
    exact ⟨p, rfl, .inl ⟨⟨xs, hq⟩, fin⟩⟩⟩
theorem still_of {x : Src} {M : Mem} {ds : List D} (g : x.get M = some ds) : x.still M ds = true := by
  cases x with
  | tup es => rfl
  | tmp es => rfl
  | lst i =>
    dsimp only [Src.still, Src.get] at g ⊢
    cases q : M[i]? with
    | none => rw [q] at g; cases g
    | some o =>
      rw [q] at g
      cases o with
      | lst es => cases g; exact D.sames_refl _
      | frz es => cases g; exact D.sames_refl _
      | dK _ => cases g
      | ins _ _ => cases g
theorem arg1e {e : Expr} {m : ME} (h : PE3 X e m) (hs : starEach [e] X.env = (false, eval e X.env) :: starEach [] X.env := by rfl) : ∀ W, Takes X W → PA X [e] (tCons (tE X.g W m) tNil) := fun W tk => pa_cons (h.run W tk) pa_nil hs
theorem pi3_rng1 {tg a : Expr} {m : ME} {p pos : Pos} (h : PE3 X a m) (hg : Gl X "range") (hm : X.mg "range" = none) (hs : starEach [a] X.env = [(false, eval a X.env)] := by rfl) : PI3 X tg (.Call (.Name "range" p) [a] [] pos) (iRng1 m) := ⟨fun W tk => by
  refine PI.weak (pi_range1 hg hm (arg1e h hs W tk) hs) fun σ H Q h => ?_
  obtain ⟨φ, s, M, a, h⟩ := h
  refine bindE a h fun φ1 H1 M1 d v a1 e1 r h1 => ?_
  cases d with
  | int j =>
    obtain ⟨hj, h2⟩ := if_ok h1
    have := r.int_of
    subst this
    exact ⟨j, rfl, by omega, by omega, a1.fin h2 _ itrel_rng⟩
  | _ => exact h1.elim⟩
theorem pi3_rng2 {tg a b : Expr} {m n : ME} {p pos : Pos} (h : PE3 X a m) (h' : PE3 X b n) (hg : Gl X "range") (hm : X.mg "range" = none) (hs : starEach [a, b] X.env = [(false, eval a X.env), (false, eval b X.env)] := by rfl) (hs2 : starEach [b] X.env = [(false, eval b X.env)] := by rfl) : PI3 X tg (.Call (.Name "range" p) [a, b] [] pos) (iRng2 m n) := ⟨fun W tk => by
  refine PI.weak (pi_range2 hg hm (pa_cons (h.run W tk) (pa_cons (h'.run W tk) pa_nil hs2) (by rw [hs, hs2])) hs hs2) fun σ H Q h => ?_
  obtain ⟨φ, s, M, a, h⟩ := h
  refine bindE a h fun φ1 H1 M1 d v a1 e1 r h1 => ?_
  refine bindE a1 h1 fun φ2 H2 M2 d2 v2 a2 e2 r2 h2 => ?_
  cases d with
  | int i =>
    cases d2 with
    | int j =>
      obtain ⟨hj, h3⟩ := if_ok h2
      have := r.int_of
      subst this
      have := r2.int_of
      subst this
      exact ⟨i, j, rfl, by omega, a2.fin h3 _ itrel_rng⟩
    | _ => exact h2.elim
  | _ => exact h2.elim⟩
theorem pi3_zip {a b : Expr} {m n : MQ} {p pos tpos : Pos} {elts : List Expr} {kk : Nat} (h : PQ3 X a m) (h' : PQ3 X b n) (hg : Gl X "zip") (hm : X.mg "zip" = none)
    (hs : starEach [a, b] X.env = (false, eval a X.env) :: starEach [b] X.env := by rfl) (hs2 : starEach [b] X.env = (false, eval b X.env) :: starEach [] X.env := by rfl) (hpl : (backTo pos (starEach [b] X.env)).any (·.1) = false := by rfl) : PI3 X (.Tuple elts kk tpos) (.Call (.Name "zip" p) [a, b] [] pos) (iZip m n) := ⟨fun W tk => by
  refine PI.weak (pi_zipG hg hm (pa_cons (h.run W tk) (pa_cons (h'.run W tk) pa_nil hs2) hs) hs hpl) fun σ H Q h => ?_
  obtain ⟨φ, s, M, a, h⟩ := h
  refine bindQ a h fun φ1 H1 M1 x v a1 e1 r h1 => ?_
  refine bindQ a1 h1 fun φ2 H2 M2 y v2 a2 e2 r2 h2 => ?_
  obtain ⟨ds, g, h3⟩ := getS_ok h2
  obtain ⟨es, g2, h4⟩ := getS_ok h3
  have r' := r.mono e2
  obtain ⟨p, rfl⟩ := r'.addr
  obtain ⟨q, rfl⟩ := r2.addr
  obtain ⟨xs, hq, rs⟩ := r'.later g Ext.refl a2.mem (still_of g)
  obtain ⟨ys, hq2, rs2⟩ := r2.later g2 Ext.refl a2.mem (still_of g2)
  exact ⟨kindS x, kindS y, p, q, xs, ys, rfl, hq, hq2, a2.fin h4 _ (itrel_zip r' g r2 g2)⟩⟩
theorem pi3_enum {a : Expr} {m : MQ} {p pos tpos : Pos} {elts : List Expr} {kk : Nat} (h : PQ3 X a m) (hg : Gl X "enumerate") (hm : X.mg "enumerate" = none) (hs : starEach [a] X.env = [(false, eval a X.env)] := by rfl) : PI3 X (.Tuple elts kk tpos) (.Call (.Name "enumerate" p) [a] [] pos) (iEnum m) := ⟨fun W tk => by
  refine PI.weak (pi_enumG hg hm (arg1 h hs W tk) hs) fun σ H Q h => ?_
  obtain ⟨φ, s, M, a, h⟩ := h
  refine bindQ a h fun φ1 H1 M1 x v a1 e1 r h1 => ?_
  obtain ⟨ds, g, h3⟩ := getS_ok h1
  obtain ⟨p, rfl⟩ := r.addr
  obtain ⟨xs, hq, rs⟩ := r.later g Ext.refl a1.mem (still_of g)
  exact ⟨kindS x, p, xs, rfl, hq, a1.fin h3 _ (itrel_enum r g)⟩⟩

/-! ### comprehensions -/
end
/-- the tests of a comprehension -/
def mYes : MT := fun _ M => .ok true M
def wipe3 (s : Sl) : List Nat → Sl
  | [] => s
  | v :: vs => (wipe3 s vs).set v none
/-- the turns of a comprehension: the slots are those of the block at each turn -/
def lcLoop (it : It3) (g : GT) (t : MT) (e : ME) (s : Sl) : List D → List D → Mem → R (List D)
  | [], acc, M => if it.still M = true then .ok acc M else .bad
  | d :: ds, acc, M => if it.still M = true then match g d s M with
    | some (s1, M1) => match t s1 M1 with
      | .ok true M2 => match e s1 M2 with
        | .ok y M3 => if acc.length < 16777216 then lcLoop it g t e s ds (acc ++ [y]) M3 else .bad
        | _ => .bad
      | .ok false M2 => lcLoop it g t e s ds acc M2
      | _ => .bad
    | none => .bad
    else .bad
def lLC (vs : List Nat) (i : MI) (g : GT) (t : MT) (e : ME) : MA := fun s M => (i s M).bind fun it M1 => lcLoop it g t e (wipe3 s vs) it.items [] M1
abbrev noW : WX := fun _ _ _ _ => False
theorem wipe3_length (s : Sl) : ∀ vs : List Nat, (wipe3 s vs).length = s.length
  | [] => rfl
  | v :: vs => by unfold wipe3; rw [List.length_set, wipe3_length s vs]
theorem At.wipe {G : Pg} {φ : List Addr} {H : Hp} {σ : L2.St} {s : Sl} {M : Mem} (a : At G φ H σ s M) : ∀ vs : List Nat, At G φ H (L2.wipe σ vs) (wipe3 s vs) M
  | [] => a
  | v :: vs => (At.wipe a vs).wipe1 v none
theorem Ext.poke {φ0 φ : List Addr} {H0 H : Hp} (e : Ext φ0 H0 φ H) {p : Addr} {u : HO} (h : H0 p = none) : Ext φ0 H0 φ (upd H p u) :=
  ⟨e.pre, fun q o hq n => ⟨by rw [upd_ne (ne_of_none hq h)]; exact (e.un q o hq n).1, (e.un q o hq n).2⟩⟩
theorem At.poke {G : Pg} {φ : List Addr} {H : Hp} {σ : L2.St} {s : Sl} {M : Mem} (a : At G φ H σ s M) {p : Addr} {u : HO} (n : p ∉ φ) (hT : ∀ xs, H p ≠ some (.tup xs)) : At G φ (upd H p u) σ s M :=
  ⟨a.len, fun i d h => by
    obtain ⟨v, h1, h2⟩ := a.sl i d h
    exact ⟨v, h1, h2.keep (Keeps.poke hT)⟩, a.mem.poke n hT⟩
theorem lc_go {G : Pg} {g : GT} {t : MT} {e : ME} {vs : List Nat} {φ0 : List Addr} {H0 Hs : Hp} {it : It3} {J : It} {w : Value → Option Addr → Hp → Prop} {Q : VK} (hJ : ItRel G φ0 H0 it J) {σ : L2.St} {s : Sl} {M : Mem} (a : At G φ0 H0 σ s M) {Da : Addr} (hD : H0 Da = none) (hs : Hs Da = none)
    (h : PostG G φ0 H0 w (kL G Hs Q) (lcLoop it g t e (wipe3 s vs) it.items [] M)) :
    ∃ Wi : Nat → Nat → Hp → Prop, (∃ m, Wi 0 m (upd H0 Da (.lst []))) ∧ ∀ i m H, Wi i m H →
      (J.stop i H ∧ Q (.ref Da) H) ∨ (J.go i H ∧ ∃ Nx : Hp → Prop, (∀ H', Nx H' → ∃ m', m' < m ∧ Wi (i + 1) m' H') ∧ ∀ x H', J.yld i H x H' → kT G g vs x (L2.wipe σ vs) H' fun σ2 H2 => L2.wipe σ2 vs = L2.wipe σ vs ∧ tT G noW t σ2 H2 fun b H3 =>
        if b = true then tE G noW e σ2 H3 fun y H4 => ∃ acc, H4 Da = some (.lst acc) ∧ acc.length < sizeLine ∧ Nx (upd H4 Da (.lst (acc ++ [y]))) else Nx H3) := by
  refine ⟨fun i m H => m = it.items.length - i ∧ i ≤ it.items.length ∧ ∃ φ1 M1 accV acc, At G φ1 H (L2.wipe σ vs) (wipe3 s vs) M1 ∧ Ext φ0 H0 φ1 H ∧ Da ∉ φ1 ∧ H Da = some (.lst accV) ∧ Reps G.K φ1 H accV acc ∧ PostG G φ0 H0 w (kL G Hs Q) (lcLoop it g t e (wipe3 s vs) (it.items.drop i) acc M1), ⟨it.items.length, by simp, Nat.zero_le _, ?_⟩, ?_⟩
  · exact ⟨φ0, M, [], [], (a.to (Ext.laid a.mem hD) (a.mem.laid hD)).wipe vs, Ext.laid a.mem hD, a.mem.fresh hD, upd_same, .nil, by simpa using h⟩
  rintro i m H1 ⟨rfl, hi, φ1, M1, accV, acc, a1, e1, n1, d1, r1, h1⟩
  by_cases hlt : i < it.items.length
  · have hd : it.items.drop i = it.items[i] :: it.items.drop (i + 1) := (List.drop_eq_getElem_cons hlt)
    rw [hd] at h1
    dsimp only [lcLoop] at h1
    obtain ⟨hst, h2⟩ := if_ok h1
    obtain ⟨hgo, _⟩ := hJ φ1 H1 M1 e1 a1.mem hst i
    obtain ⟨go, yl⟩ := hgo it.items[i] (List.getElem?_eq_getElem hlt)
    refine .inr ⟨go, fun H' => ∃ φ3 M3 accV' acc', At G φ3 H' (L2.wipe σ vs) (wipe3 s vs) M3 ∧ Ext φ0 H0 φ3 H' ∧ Da ∉ φ3 ∧ H' Da = some (.lst accV') ∧ Reps G.K φ3 H' accV' acc' ∧ PostG G φ0 H0 w (kL G Hs Q) (lcLoop it g t e (wipe3 s vs) (it.items.drop (i + 1)) acc' M3), fun H' z => ⟨it.items.length - (i + 1), by omega, rfl, hlt, z⟩, fun x H' y => ?_⟩
    obtain ⟨ex, m', rx⟩ := yl x H' y
    have a2 := a1.to ex m'
    cases eg : g it.items[i] (wipe3 s vs) M1 with
    | none => rw [eg] at h2; exact h2.elim
    | some sm =>
      obtain ⟨s2, M2⟩ := sm
      rw [eg] at h2
      refine ⟨φ1, wipe3 s vs, M1, it.items[i], a2, rx, s2, M2, eg, fun φ4 H4 σ4 e4 a4 w4 => ⟨by rw [w4, wipe_wipe], ?_⟩⟩
      have e04 := (e1.trans ex).trans e4
      obtain ⟨d4, n4⟩ := (ex.trans e4).un Da _ d1 n1
      have r4 := r1.mono (ex.trans e4)
      have w4' : At G φ4 H4 (L2.wipe σ vs) (wipe3 s vs) M2 := by
        have := a2.to e4 a4.mem
        exact this
      refine ⟨φ4, s2, M2, a4, ?_⟩
      dsimp only at h2
      cases et : t s2 M2 with
      | exc c d M3 => rw [et] at h2; exact h2.elim
      | bad => rw [et] at h2; exact h2.elim
      | ok b M3 =>
        rw [et] at h2
        intro φ5 H5 e5 m5
        obtain ⟨d5, n5⟩ := e5.un Da _ d4 n4
        have r5 := r4.mono e5
        cases b with
        | false => exact iteF ⟨φ5, M3, accV, acc, w4'.to e5 m5, e04.trans e5, n5, d5, r5, h2⟩
        | true =>
          refine iteT ⟨φ5, s2, M3, a4.to e5 m5, ?_⟩
          dsimp only at h2
          cases ee : e s2 M3 with
          | exc c d M4 => rw [ee] at h2; exact h2.elim
          | bad => rw [ee] at h2; exact h2.elim
          | ok y M4 =>
            rw [ee] at h2
            obtain ⟨hz, h3⟩ := if_ok h2
            intro φ6 H6 e6 m6 v rv
            obtain ⟨d6, n6⟩ := e6.un Da _ d5 n5
            have r6 := r5.mono e6
            have nT : ∀ xs, H6 Da ≠ some (.tup xs) := fun xs z => by rw [d6] at z; cases z
            refine ⟨accV, d6, ?_, φ6, M4, accV ++ [v], acc ++ [y], ((w4'.to e5 m5).to e6 m6).poke n6 nT, ((e04.trans e5).trans e6).poke hD, n6, upd_same, ((r6.append (.one rv)).keep (Keeps.poke nT)), h3⟩
            rw [sizeLine_eq, r6.length]
            exact hz
  · have ei : i = it.items.length := by omega
    have hd : it.items.drop i = [] := List.drop_eq_nil_of_le (by omega)
    rw [hd] at h1
    dsimp only [lcLoop] at h1
    obtain ⟨hst, h2⟩ := if_ok h1
    obtain ⟨_, stop⟩ := hJ φ1 H1 M1 e1 a1.mem hst i
    exact .inl ⟨stop ei, h2 φ1 H1 e1 a1.mem Da accV hs d1 n1 r1⟩
section
variable {X : Cx}
structure PTs3 (X : Cx) (ifs : List Expr) (t : MT) : Prop where
  run : ∀ W, Takes X W → PTs X ifs (tT X.g W t)
theorem pts3_nil : PTs3 X [] mYes := ⟨fun W tk => ⟨fun pins s σ H Q I h => by
  obtain ⟨φ, s', M, a, h⟩ := h
  exact pts_nil.run pins s σ H Q I (a.fin h)⟩⟩
theorem pts3_one {c : Expr} {t : MT} (h : PT3 X c t) : PTs3 X [c] t := ⟨fun W tk => pts_one (h.run W tk)⟩
theorem pl3_lc {elt tg iter : Expr} {ifs : List Expr} {scope : Scope} {own : List (Str × Nat)} {pos : Pos} {mi : MI} {g : GT} {t : MT} {e : ME} {is : List Nat} (hc : X.calm = true) (hN : X.N.Nodup) (hi : PI3 X tg iter mi) (ok : BlkOk X.N X.env.scope scope own) (his : own.map (·.2) = is)
    (hg : ∀ (s : Shared) (H : Hp) (C : Addr) (cl : List (Str × Addr)) (fp : List Addr), PG3 (X.blk s H scope (compEnvC scope cl C X.env) fp) tg g is) (ht : ∀ (s : Shared) (H : Hp) (C : Addr) (cl : List (Str × Addr)) (fp : List Addr), PTs3 (X.blk s H scope (compEnvC scope cl C X.env) fp) ifs t)
    (he : ∀ (s : Shared) (H : Hp) (C : Addr) (cl : List (Str × Addr)) (fp : List Addr), PE3 (X.blk s H scope (compEnvC scope cl C X.env) fp) elt e) (hs : ∀ x, foldedSetIterable iter X.env x = pure x := by intro _; rfl) :
    PL3 X (.ListComp elt [⟨tg, iter, ifs, 0⟩] scope pos) (lLC is mi g t e) := ⟨fun W tk => by
  subst his
  refine PE.weak (pe_lc (g := kT X.g g (own.map (·.2))) (tt := tT X.g noW t) (te := tE X.g noW e) hc hN (hi.run W tk) ok (fun s H C cl fp => (hg s H C cl fp).run) (fun s H C cl fp => (ht s H C cl fp).run noW takes0) (fun s H C cl fp => (he s H C cl fp).run noW takes0) hs) fun σ H Q h => ?_
  obtain ⟨φ, s, M, a, h⟩ := h
  refine bindG (kk := fun _ Q => kI X.g Q) a h fun φ1 H1 M1 it a1 e1 h1 J hJ => ?_
  intro Da hD
  exact lc_go hJ a1 hD (e1.back a1.mem hD) h1⟩
end
end L3
set_option Elab.async false
set_option linter.all false
set_option maxRecDepth 100000
set_option maxHeartbeats 2000000
/-! L3i: defs, calls, classes. -/
namespace L3
open PySem PySem.Spec PyProof.Rows L2

/-! ### what a def promises -/
def spM (G : Pg) (n : Nat) (m : MF) : Sp := fun vs H Q E => vs.length = n ∧ ∃ φ M ds, RelM G φ H M ∧ Reps G.K φ H vs ds ∧ PostG G φ H E (kE G Q) (m ds M)
def retOf : RS → R D
  | .nx _ M => .ok .non M
  | .rt d M => .ok d M
  | .exc c a _ M => .exc c a M
  | _ => .bad
def fnB (j : Nat) (b : MS) : MF := fun ds M => retOf (b (ds.map some ++ List.replicate j none) M)

theorem startAt {G : Pg} {φ : List Addr} {H : Hp} {M : Mem} {vs : List V} {ds : List D} {N : List Str} {j : Nat} (m : RelM G φ H M) (r : Reps G.K φ H vs ds) (hN : N.length = vs.length + j) : At G φ H (L2.start N vs) (ds.map some ++ List.replicate j none) M := by
  refine ⟨?_, fun i d h => ?_, m⟩
  · unfold L2.start
    simp [r.length, hN]
  · have hi : i < ds.length := by
      by_cases hi : i < ds.length
      · exact hi
      · rw [List.getElem?_append_right (by simpa using hi), List.getElem?_replicate] at h
        split at h <;> cases h
    rw [List.getElem?_append_left (by simpa using hi), List.getElem?_map] at h
    cases e : ds[i]? with
    | none => rw [e] at h; cases h
    | some d' =>
      rw [e] at h
      cases h
      obtain ⟨v, hv, rv⟩ := r.get e
      refine ⟨v, ?_, rv⟩
      unfold L2.start
      rw [List.getElem?_append_left (by rw [List.length_map, r.length]; exact hi), List.getElem?_map, hv]
      rfl

section
variable {P : Program} {w : World} {K : PySem.W.Frag} {mg : Str → Option Value} {base : Heap}
theorem fnOk3 {x qual : Str} {st : Stmt} {f : Addr} {fd : FuncData} {N ps : List Str} {k n j : Nat} {b : MS} (F : Fun K x qual st f fd) (S : FnScope N ps (defScope st)) (hn : ps.length = n) (hj : N.length = n + j)
    (hb : ∀ (cdv : Value) (A : Around) (outer : List Env) (s : Shared) (H : Hp) (E : XK), Room k (A.deeper (envOfC qual (defScope st) s.heap.objs.size f cdv)) →
      PB3 (cxOf (L2.CX P w) P w K mg base N qual (defScope st) f cdv A outer s H E) (defBody st) b) : FnOk P w K mg base (L2.CX P w) (k + 1) f fd ps (spM ⟨K, mg⟩ n (fnB j b)) := by
  refine F.okX S (fun vs H Q E h => ?_) fun cdv A outer s H vs Q E hr h => ?_
  · exact h.1.trans hn.symm
  · obtain ⟨hl, φ, M, ds, rm, r, h⟩ := h
    refine ⟨_, (hb cdv A outer s H E hr).run (fun cls d _ H => E cls d H) (takes_of rfl rfl rfl rfl) (passes_of rfl), ?_⟩
    refine ⟨φ, _, M, startAt rm r (by rw [hl]; exact hj), ?_⟩
    dsimp only [fnB] at h
    cases e : b (ds.map some ++ List.replicate j none) M with
    | nx s1 M1 =>
      rw [e] at h
      exact fun φ' H' σ' ex a => h φ' H' ex a.mem _ .non
    | rt d M1 =>
      rw [e] at h
      exact fun φ' H' v ex m' rv => h φ' H' ex m' v rv
    | bk s1 M1 => rw [e] at h; exact h.elim
    | ct s1 M1 => rw [e] at h; exact h.elim
    | exc c a s1 M1 =>
      rw [e] at h
      exact fun φ' H' σ' C dx v ex a' g hd rv => h φ' H' C dx v ex a'.mem g hd rv
    | bad => rw [e] at h; exact h.elim

/-- a def that may be called by its name -/
structure FnAt (P : Program) (w : World) (K : PySem.W.Frag) (mg : Str → Option Value) (base : Heap) (k : Nat) (x : Str) (n : Nat) (m : MF) : Prop where
  ex : ∃ (f : Addr) (fd : FuncData) (ps : List Str), mg x = some (.ref f) ∧ PySem.W.keepIn K (.ref f) = true ∧ FnOk P w K mg base (L2.CX P w) k f fd ps (spM ⟨K, mg⟩ n m) ∧ Binds K fd ps []
structure MethAt (P : Program) (w : World) (K : PySem.W.Frag) (mg : Str → Option Value) (base : Heap) (k : Nat) (c : String) (x : Str) (n : Nat) (m : MF) : Prop where
  ex : ∃ (C f : Addr) (fd : FuncData) (ps : List Str), mg (nm c) = some (.ref C) ∧ Cls K C ∧ Meth K C x f ∧ FnOk P w K mg base (L2.CX P w) k f fd ps (spM ⟨K, mg⟩ n m) ∧ Binds K fd ps []
structure MkAt (P : Program) (w : World) (K : PySem.W.Frag) (mg : Str → Option Value) (base : Heap) (k : Nat) (c : String) (n : Nat) (m : MF) : Prop where
  ex : ∃ (C f : Addr) (fd : FuncData) (ps : List Str), mg (nm c) = some (.ref C) ∧ Mk K C f ∧ FnOk P w K mg base (L2.CX P w) k f fd ps (spM ⟨K, mg⟩ n m) ∧ Binds K fd ps []

/-- the texts -/
structure FunT (K : PySem.W.Frag) (mg : Str → Option Value) (x qual : Str) (st : Stmt) : Prop where
  ex : ∃ (f : Addr) (fd : FuncData), mg x = some (.ref f) ∧ Fun K x qual st f fd
structure MethT (K : PySem.W.Frag) (mg : Str → Option Value) (c : String) (x qual : Str) (st : Stmt) : Prop where
  ex : ∃ (C f : Addr) (fd : FuncData), mg (nm c) = some (.ref C) ∧ Cls K C ∧ Meth K C x f ∧ Fun K x qual st f fd
structure MkT (K : PySem.W.Frag) (mg : Str → Option Value) (c : String) (qual : Str) (st : Stmt) : Prop where
  ex : ∃ (C f : Addr) (fd : FuncData), mg (nm c) = some (.ref C) ∧ Mk K C f ∧ Fun K "__init__" qual st f fd
abbrev BindOk (x qual : Str) (st : Stmt) (ps : List Str) : Prop := ∀ (kV doc pm : Value) (an : Option Addr) (cdv ct : Value) (us : List Value), us.length = ps.length → bindArgs (PySem.W.fnOf x qual (defArgs st) (defBody st) (defScope st) .none kV doc pm an cdv ct) ⟨us, []⟩ = pure (ps.zip us)
abbrev BodyOk (P : Program) (w : World) (K : PySem.W.Frag) (mg : Str → Option Value) (base : Heap) (k : Nat) (N : List Str) (qual : Str) (st : Stmt) (b : MS) : Prop := ∀ (f : Addr) (cdv : Value) (A : Around) (outer : List Env) (s : Shared) (H : Hp) (E : XK), Room k (A.deeper (envOfC qual (defScope st) s.heap.objs.size f cdv)) →
      PB3 (cxOf (L2.CX P w) P w K mg base N qual (defScope st) f cdv A outer s H E) (defBody st) b
theorem fnAt {x qual : Str} {st : Stmt} {N ps : List Str} {k n j : Nat} {b : MS} (F : FunT K mg x qual st) (S : FnScope N ps (defScope st)) (hB : BindOk x qual st ps) (hb : BodyOk P w K mg base k N qual st b) (hn : ps.length = n := by rfl) (hj : N.length = n + j := by rfl) : FnAt P w K mg base (k + 1) x n (fnB j b) := by
  obtain ⟨f, fd, g, F⟩ := F.ex
  exact ⟨f, fd, ps, g, F.kp, fnOk3 F S hn hj (hb f), F.binds hB⟩
theorem methAt {c : String} {x qual : Str} {st : Stmt} {N ps : List Str} {k n j : Nat} {b : MS} (F : MethT K mg c x qual st) (S : FnScope N ps (defScope st)) (hB : BindOk x qual st ps) (hb : BodyOk P w K mg base k N qual st b) (hn : ps.length = n := by rfl) (hj : N.length = n + j := by rfl) : MethAt P w K mg base (k + 1) c x n (fnB j b) := by
  obtain ⟨C, f, fd, g, c1, c2, F⟩ := F.ex
  exact ⟨C, f, fd, ps, g, c1, c2, fnOk3 F S hn hj (hb f), F.binds hB⟩
theorem mkAt {c : String} {qual : Str} {st : Stmt} {N ps : List Str} {k n j : Nat} {b : MS} (F : MkT K mg c qual st) (S : FnScope N ps (defScope st)) (hB : BindOk "__init__" qual st ps) (hb : BodyOk P w K mg base k N qual st b) (hn : ps.length = n := by rfl) (hj : N.length = n + j := by rfl) : MkAt P w K mg base (k + 1) c n (fnB j b) := by
  obtain ⟨C, f, fd, g, c1, F⟩ := F.ex
  exact ⟨C, f, fd, ps, g, c1, fnOk3 F S hn hj (hb f), F.binds hB⟩
/-- the bottom of a recursion -/
theorem fnAt_bad {x qual : Str} {st : Stmt} {ps : List Str} {k n : Nat} (F : FunT K mg x qual st) (hB : BindOk x qual st ps) (hn : ps.length = n := by rfl) : FnAt P w K mg base k x n (fun _ _ => .bad) := by
  obtain ⟨f, fd, g, F⟩ := F.ex
  exact ⟨f, fd, ps, g, F.kp, ⟨fun vs H Q E h => h.1.trans hn.symm, fun A outer s H args us vs Q E _ _ _ _ h => by
    obtain ⟨_, _, _, _, _, _, h⟩ := h
    exact h.elim⟩, F.binds hB⟩
theorem FnAt.mono {x : Str} {j k n : Nat} {m : MF} (F : FnAt P w K mg base j x n m) (h : j ≤ k) : FnAt P w K mg base k x n m := by
  obtain ⟨f, fd, ps, g, kp, F, b⟩ := F.ex
  exact ⟨f, fd, ps, g, kp, F.mono h, b⟩
theorem MethAt.mono {c : String} {x : Str} {j k n : Nat} {m : MF} (F : MethAt P w K mg base j c x n m) (h : j ≤ k) : MethAt P w K mg base k c x n m := by
  obtain ⟨C, f, fd, ps, g, c1, c2, F, b⟩ := F.ex
  exact ⟨C, f, fd, ps, g, c1, c2, F.mono h, b⟩
theorem MkAt.mono {c : String} {j k n : Nat} {m : MF} (F : MkAt P w K mg base j c n m) (h : j ≤ k) : MkAt P w K mg base k c n m := by
  obtain ⟨C, f, fd, ps, g, c1, F, b⟩ := F.ex
  exact ⟨C, f, fd, ps, g, c1, F.mono h, b⟩
end

/-! ### calls -/
def eCall (n : Nat) (m : MF) (as : MA) : ME := fun s M => (as s M).bind fun ds M1 => if ds.length = n then m ds M1 else .bad
def onInsR {α : Type} (d : D) (M : Mem) (c : String) (f : List (String × D) → R α) : R α := match d with
  | .ref j => match M[j]? with
    | some (.ins c' fs) => if c' = c then f fs else .bad
    | _ => .bad
  | _ => .bad
def eMeth (c mn : String) (n : Nat) (m : MF) (o : ME) (as : MA) : ME := fun s M => (o s M).bind fun x M1 => onInsR x M1 c fun fs => if (fs.lookup mn).isNone = true then (as s M1).bind fun ds M2 => if ds.length + 1 = n then m (x :: ds) M2 else .bad else .bad
def eMake (c : String) (n : Nat) (m : MF) (as : MA) : ME := fun s M => (as s M).bind fun ds M1 => if ds.length + 1 = n then (m (.ref M1.length :: ds) (M1 ++ [.ins c []])).bind fun v M2 => if isNon v = true then .ok (.ref M1.length) M2 else .bad else .bad

section
variable {X : Cx} {k n : Nat} {m : MF} {x : Str} {p pos apos : Pos} {e o : Expr} {es : List Expr} {as : MA} {mo : ME}
theorem pe_callS0 {CX : CXT} {f : Addr} {fd : FuncData} {ps : List Str} {sp : Sp} {E : L2.St → XK} (F : FnOk X.prog X.w X.K X.mg X.base CX k f fd ps sp) (hr : Room k X.A) (hg : Gl X x) (hm : X.mg x = some (.ref f)) (hk : PySem.W.keepIn X.K (.ref f) = true) (hb : Binds X.K fd ps []) (hx : ∀ σ, PassesAt CX X σ (E σ))
    (hdb : (x == ("__debug__" : Str)) = false := by decide) : PE X (.Call (.Name x p) [] [] pos) (tCallS sp E tNil) := by
  refine ⟨fun pins s σ H Q I h => ?_⟩
  refine wpAny_Call_Name_kw (ld_glob I hg hm ?_ hdb)
  exact PySem.W.callWith_K0 I.kIn hk (run_fnS (us := []) F hr hb (hx σ) I .nil h)
theorem pe3_call (F : FnAt X.prog X.w X.K X.mg X.base k x n m) (hr : Room k X.A) (hg : Gl X x) (ha : PA3 X (e :: es) as)
    (hdb : (x == ("__debug__" : Str)) = false := by decide) (he : starEach (e :: es) X.env = (false, eval e X.env) :: starEach es X.env := by rfl) (hpl : (backTo pos (starEach es X.env)).any (·.1) = false := by rfl) :
    PE3 X (.Call (.Name x p) (e :: es) [] pos) (eCall n m as) := ⟨fun W tk => by
  obtain ⟨f, fd, ps, g, kp, F, b⟩ := F.ex
  refine PE.weak (pe_callS F hr hg g kp b (fun σ => passAt tk σ) (ha.run W tk) hdb he hpl) fun σ H Q h => ?_
  obtain ⟨φ, s, M, a, h⟩ := h
  refine bindA a h fun φ1 H1 M1 ds vs a1 e1 r h1 => ?_
  obtain ⟨hl, h2⟩ := if_ok h1
  exact ⟨r.length.trans hl, φ1, M1, ds, a1.mem, r, h2⟩⟩
theorem pe3_call0 (F : FnAt X.prog X.w X.K X.mg X.base k x 0 m) (hr : Room k X.A) (hg : Gl X x) (hdb : (x == ("__debug__" : Str)) = false := by decide) : PE3 X (.Call (.Name x p) [] [] pos) (eCall 0 m aNil) := ⟨fun W tk => by
  obtain ⟨f, fd, ps, g, kp, F, b⟩ := F.ex
  refine PE.weak (pe_callS0 F hr hg g kp b (fun σ => passAt tk σ) hdb) fun σ H Q h => ?_
  obtain ⟨φ, s, M, a, h⟩ := h
  exact ⟨rfl, φ, M, [], a.mem, .nil, h⟩⟩
theorem onInsR_ok {α β : Type} {G : Pg} {φ : List Addr} {H : Hp} {M : Mem} {w : Value → Option Addr → Hp → Prop} {Kb : List Addr → Hp → α → Prop} {d : D} {c : String} {f : List (String × D) → R α} (h : PostG G φ H w Kb (onInsR d M c f)) : ∃ j fs, d = .ref j ∧ M[j]? = some (.ins c fs) ∧ PostG G φ H w Kb (f fs) := by
  cases d with
  | ref j =>
    dsimp only [onInsR] at h
    cases e : M[j]? with
    | none => rw [e] at h; exact h.elim
    | some o =>
      rw [e] at h
      cases o with
      | ins c' fs =>
        obtain ⟨hc, h2⟩ := if_ok h
        subst hc
        exact ⟨j, fs, rfl, e, h2⟩
      | _ => exact h.elim
  | _ => exact h.elim
def tMethS (C : Addr) (m : Str) (sp : Sp) (E : L2.St → XK) (ta : TE) (t : TA) : TE := fun σ H Q => ta σ H fun x H1 => ∃ a dx fs, x = .ref a ∧ H1 a = some (.ins C dx fs) ∧ fs.lookup m = none ∧
  t σ H1 fun vs H2 => sp (x :: vs) H2 Q (E σ)
theorem pe_methS {CX : CXT} {C f : Addr} {fd : FuncData} {ps : List Str} {sp : Sp} {E : L2.St → XK} {ta : TE} {t : TA} {m : Str} {pl : Sem Bool} (he : PE X o ta) (c : Cls X.K C) (hm : Meth X.K C m f) (F : FnOk X.prog X.w X.K X.mg X.base CX k f fd ps sp) (hr : Room k X.A) (hb : Binds X.K fd ps []) (hx : ∀ σ, PassesAt CX X σ (E σ)) (ha : PA X (e :: es) t)
    (hst : starEach (e :: es) X.env = (false, eval e X.env) :: starEach es X.env := by rfl) (hpl : (backTo pos (starEach es X.env)).any (·.1) = false := by rfl)
    (ht : eval (.Call (.Attribute o m apos) (e :: es) [] pos) X.env = (do
      let ov ← eval o X.env
      standAt apos.atName
      let (f, first) ← holding [ov] (getMethod ov m pl)
      callWith pos f first (backTo pos (starEach (e :: es) X.env)) (backToKw pos (keywordEach [] X.env))) := by rfl) :
    PE X (.Call (.Attribute o m apos) (e :: es) [] pos) (tMethS C m sp E ta t) := by
  refine ⟨fun pins s σ H Q I h => ?_⟩
  refine PySem.W.methodCall_KW (pl := pl) (thn (he.run pins s σ H _ I h) fun u s1 ⟨x, H1, I1, rx, a, dx, fs, ex, ea, l, q⟩ => ?_) ht
  subst ex
  obtain rfl : u = Value.ref a := rx
  refine getmeth_ok I1 ea c hm l ?_
  refine PySem.W.callWith_K (first := [.ref a]) (h₀ := X.base) I.ok.mod.kin hm.kp (thn (ha.run pos pins s1 σ H1 _ I1 q) fun us s2 ⟨vs, H2, I2, r, q2⟩ => ⟨I2.kIn, ?_⟩) hst hpl
  exact run_fnS (us := .ref a :: us) (vs := .ref a :: vs) F hr hb (hx σ) I2 (.cons rfl r) q2
theorem pe_methS0 {CX : CXT} {C f : Addr} {fd : FuncData} {ps : List Str} {sp : Sp} {E : L2.St → XK} {ta : TE} {m : Str} {pl : Sem Bool} (he : PE X o ta) (c : Cls X.K C) (hm : Meth X.K C m f) (F : FnOk X.prog X.w X.K X.mg X.base CX k f fd ps sp) (hr : Room k X.A) (hb : Binds X.K fd ps []) (hx : ∀ σ, PassesAt CX X σ (E σ))
    (ht : eval (.Call (.Attribute o m apos) [] [] pos) X.env = (do
      let ov ← eval o X.env
      standAt apos.atName
      let (f, first) ← holding [ov] (getMethod ov m pl)
      callWith pos f first (backTo pos (starEach [] X.env)) (backToKw pos (keywordEach [] X.env))) := by rfl) :
    PE X (.Call (.Attribute o m apos) [] [] pos) (tMethS C m sp E ta tNil) := by
  refine ⟨fun pins s σ H Q I h => ?_⟩
  refine PySem.W.methodCall_KW (pl := pl) (thn (he.run pins s σ H _ I h) fun u s1 ⟨x, H1, I1, rx, a, dx, fs, ex, ea, l, q⟩ => ?_) ht
  subst ex
  obtain rfl : u = Value.ref a := rx
  refine getmeth_ok I1 ea c hm l ?_
  exact PySem.W.callWith_K0 (first := [.ref a]) I1.kIn hm.kp (run_fnS (us := [.ref a]) (vs := [.ref a]) F hr hb (hx σ) I1 (.cons rfl .nil) q)
theorem RelM.insAt {G : Pg} {φ : List Addr} {H : Hp} {M : Mem} (m : RelM G φ H M) {j : Nat} {c : String} {fs : List (String × D)} (h : M[j]? = some (.ins c fs)) : ∃ p C dx fs', φ[j]? = some p ∧ G.mg (nm c) = some (.ref C) ∧ H p = some (.ins C dx fs') ∧ RepF G.K φ H fs' fs := by
  obtain ⟨p, hp, ro⟩ := m.adr h
  obtain ⟨C, dx, fs', g, hH, rf⟩ := ro
  exact ⟨p, C, dx, fs', hp, g, hH, rf⟩
theorem RepF.none_of {K : PySem.W.Frag} {φ : List Addr} {H : Hp} {vs : List (Str × V)} {ds : List (String × D)} (r : RepF K φ H vs ds) {k : String} (h : (ds.lookup k).isNone = true) : vs.lookup (nm k) = none := by
  rcases r.lookup k with ⟨a, _⟩ | ⟨_, d, _, b, _⟩
  · exact a
  · rw [b] at h
    cases h
theorem pe3_meth {c mn : String} {pl : Sem Bool} (F : MethAt X.prog X.w X.K X.mg X.base k c (nm mn) n m) (hr : Room k X.A) (ho : PE3 X o mo) (ha : PA3 X (e :: es) as)
    (hst : starEach (e :: es) X.env = (false, eval e X.env) :: starEach es X.env := by rfl) (hpl : (backTo pos (starEach es X.env)).any (·.1) = false := by rfl)
    (ht : eval (.Call (.Attribute o (nm mn) apos) (e :: es) [] pos) X.env = (do
      let ov ← eval o X.env
      standAt apos.atName
      let (f, first) ← holding [ov] (getMethod ov (nm mn) pl)
      callWith pos f first (backTo pos (starEach (e :: es) X.env)) (backToKw pos (keywordEach [] X.env))) := by rfl) :
    PE3 X (.Call (.Attribute o (nm mn) apos) (e :: es) [] pos) (eMeth c mn n m mo as) := ⟨fun W tk => by
  obtain ⟨C, f, fd, ps, g, c1, c2, F, b⟩ := F.ex
  refine PE.weak (pe_methS (pl := pl) (ho.run W tk) c1 c2 F hr b (fun σ => passAt tk σ) (ha.run W tk) hst hpl ht) fun σ H Q h => ?_
  obtain ⟨φ, s, M, a, h⟩ := h
  refine bindE a h fun φ1 H1 M1 d v a1 e1 r h1 => ?_
  obtain ⟨j, fs, rfl, hM, h2⟩ := onInsR_ok (β := D) h1
  obtain ⟨hno, h3⟩ := if_ok h2
  obtain ⟨pj, rfl, hp⟩ := r.ref_of
  obtain ⟨p', C', dx, fs', hp', g', hH, rf⟩ := a1.mem.insAt hM
  rw [hp] at hp'
  cases hp'
  rw [show X.mg (nm c) = some (.ref C') from g'] at g
  cases g
  refine ⟨_, dx, fs', rfl, hH, rf.none_of hno, ?_⟩
  refine bindA a1 h3 fun φ2 H2 M2 ds vs a2 e2 r2 h4 => ?_
  obtain ⟨hl, h5⟩ := if_ok h4
  exact ⟨by rw [List.length_cons, r2.length]; exact hl, φ2, M2, _, a2.mem, .cons (r.mono e2) r2, h5⟩⟩
theorem pe3_meth0 {c mn : String} {pl : Sem Bool} (F : MethAt X.prog X.w X.K X.mg X.base k c (nm mn) 1 m) (hr : Room k X.A) (ho : PE3 X o mo)
    (ht : eval (.Call (.Attribute o (nm mn) apos) [] [] pos) X.env = (do
      let ov ← eval o X.env
      standAt apos.atName
      let (f, first) ← holding [ov] (getMethod ov (nm mn) pl)
      callWith pos f first (backTo pos (starEach [] X.env)) (backToKw pos (keywordEach [] X.env))) := by rfl) :
    PE3 X (.Call (.Attribute o (nm mn) apos) [] [] pos) (eMeth c mn 1 m mo aNil) := ⟨fun W tk => by
  obtain ⟨C, f, fd, ps, g, c1, c2, F, b⟩ := F.ex
  refine PE.weak (pe_methS0 (pl := pl) (ho.run W tk) c1 c2 F hr b (fun σ => passAt tk σ) ht) fun σ H Q h => ?_
  obtain ⟨φ, s, M, a, h⟩ := h
  refine bindE a h fun φ1 H1 M1 d v a1 e1 r h1 => ?_
  obtain ⟨j, fs, rfl, hM, h2⟩ := onInsR_ok (β := D) h1
  obtain ⟨hno, h3⟩ := if_ok h2
  obtain ⟨pj, rfl, hp⟩ := r.ref_of
  obtain ⟨p', C', dx, fs', hp', g', hH, rf⟩ := a1.mem.insAt hM
  rw [hp] at hp'
  cases hp'
  rw [show X.mg (nm c) = some (.ref C') from g'] at g
  cases g
  exact ⟨_, dx, fs', rfl, hH, rf.none_of hno, rfl, φ1, M1, _, a1.mem, .one r, h3⟩⟩

/-! ### a new instance -/
theorem run_makeS {CX : CXT} {C f : Addr} {fd : FuncData} {ps : List Str} {sp : Sp} {E : XK} {pins : List (Addr × Obj)} {σ : L2.St} {H : Hp} {s : Shared} {Q : VK} {us : List Value} {vs : List V} (M : Mk X.K C f) (F : FnOk X.prog X.w X.K X.mg X.base CX k f fd ps sp) (hr : Room (k + 1) X.A) (hb : Binds X.K fd ps [])
    (hx : PassesAt CX X σ E) (I : Inv X pins σ H s) (r : Vals vs us)
    (h : ∀ x dx, H x = none → H dx = none → dx ≠ x → sp (.ref x :: vs) (upd (upd H dx (.own x)) x (.ins C dx [])) (fun v H2 => v = .non ∧ Q (.ref x) H2) E) :
    wpAny (model X.prog X.w) X.A (call (.ref C) us) (EP X pins σ Q) X.xe s := by
  have hq := h (s.heap.objs.size + 1) s.heap.objs.size (I.hok.fresh (Nat.le_succ _)) (I.hok.fresh (Nat.le_refl _)) (Nat.ne_of_lt (Nat.lt_succ_self _))
  have I2 := Inv.made (C := C) I
  have r2 : Vals (V.ref (s.heap.objs.size + 1) :: vs) (Value.ref (s.heap.objs.size + 1) :: us) := .cons rfl r
  have hl : (Value.ref (s.heap.objs.size + 1) :: us).length = ps.length := by
    have e := r2.length
    rw [F.len _ _ _ _ hq] at e
    exact e.symm
  have bb := hb _ (Value.ref (s.heap.objs.size + 1) :: us) I2.kIn (by rw [List.append_nil]; exact hl)
  rw [List.append_nil] at bb
  refine wpAny_call (make_map (f := f) I.kIn M.makes M.init (beq_iff_eq.mp M.fn) (codeAny_mono (F.run _ X.stack _ _ ⟨Value.ref (s.heap.objs.size + 1) :: us, []⟩ (Value.ref (s.heap.objs.size + 1) :: us) _ _ E (hr.make C us [])
    (I2.env0.make C us []) bb r2 hq) fun r s' hq' => ?_))
  cases r with
  | error e => exact hx pins _ _ e s' I2 hq'
  | ok fl =>
    cases fl with
    | ret u =>
      obtain ⟨v, H', I3, rv, ev, q3⟩ := I2.after hq'
      subst ev
      exact ⟨rv, ⟨V.ref (s.heap.objs.size + 1), H', I3, rfl, q3⟩⟩
    | next => exact False.elim hq'
    | brk => exact False.elim hq'
    | cont => exact False.elim hq'
def tMakeS (C : Addr) (sp : Sp) (E : L2.St → XK) (t : TA) : TE := fun σ H Q => t σ H fun vs H1 => ∀ x dx, H1 x = none → H1 dx = none → dx ≠ x →
  sp (.ref x :: vs) (upd (upd H1 dx (.own x)) x (.ins C dx [])) (fun v H2 => v = .non ∧ Q (.ref x) H2) (E σ)
theorem pe_makeS {CX : CXT} {C f : Addr} {fd : FuncData} {ps : List Str} {sp : Sp} {E : L2.St → XK} {t : TA} (M : Mk X.K C f) (F : FnOk X.prog X.w X.K X.mg X.base CX k f fd ps sp) (hr : Room (k + 1) X.A) (hg : Gl X x) (hm : X.mg x = some (.ref C)) (hb : Binds X.K fd ps []) (hx : ∀ σ, PassesAt CX X σ (E σ))
    (ha : PA X (e :: es) t) (hdb : (x == ("__debug__" : Str)) = false := by decide) (he : starEach (e :: es) X.env = (false, eval e X.env) :: starEach es X.env := by rfl) (hpl : (backTo pos (starEach es X.env)).any (·.1) = false := by rfl) :
    PE X (.Call (.Name x p) (e :: es) [] pos) (tMakeS C sp E t) := by
  refine ⟨fun pins s σ H Q I h => ?_⟩
  refine wpAny_Call_Name_kw (ld_glob I hg hm ?_ hdb)
  refine PySem.W.callWith_K (h₀ := X.base) I.ok.mod.kin M.kp (thn (ha.run pos pins s σ H _ I h) fun us s1 ⟨vs, H1, I1, r, q⟩ => ⟨I1.kIn, ?_⟩) he hpl
  exact run_makeS M F hr hb (hx σ) I1 r q
theorem pe_makeS0 {CX : CXT} {C f : Addr} {fd : FuncData} {ps : List Str} {sp : Sp} {E : L2.St → XK} (M : Mk X.K C f) (F : FnOk X.prog X.w X.K X.mg X.base CX k f fd ps sp) (hr : Room (k + 1) X.A) (hg : Gl X x) (hm : X.mg x = some (.ref C)) (hb : Binds X.K fd ps []) (hx : ∀ σ, PassesAt CX X σ (E σ))
    (hdb : (x == ("__debug__" : Str)) = false := by decide) : PE X (.Call (.Name x p) [] [] pos) (tMakeS C sp E tNil) := by
  refine ⟨fun pins s σ H Q I h => ?_⟩
  refine wpAny_Call_Name_kw (ld_glob I hg hm ?_ hdb)
  exact PySem.W.callWith_K0 I.kIn M.kp (run_makeS (us := []) M F hr hb (hx σ) I .nil h)
theorem newIns {G : Pg} {φ : List Addr} {H : Hp} {M : Mem} (m : RelM G φ H M) {c : String} {C x dx : Addr} (g : G.mg (nm c) = some (.ref C)) (nx : H x = none) (nd : H dx = none) (ne : dx ≠ x) :
    RelM G (φ ++ [x]) (upd (upd H dx (.own x)) x (.ins C dx [])) (M ++ [.ins c []]) ∧ Ext φ H (φ ++ [x]) (upd (upd H dx (.own x)) x (.ins C dx [])) := by
  have m1 : RelM G φ (upd H dx (.own x)) M := m.laid nd
  have nx1 : upd H dx (.own x) x = none := by
    rw [upd_ne (Ne.symm ne)]
    exact nx
  have m2 : RelM G φ (upd (upd H dx (.own x)) x (.ins C dx [])) M := m1.laid nx1
  refine ⟨m2.track (m.fresh nx) ⟨C, dx, [], g, upd_same, .nil⟩ (fun xs z => by rw [upd_same] at z; cases z), ?_⟩
  exact ((Ext.laid m nd).trans (Ext.laid m1 nx1)).track nx
theorem mk_post {G : Pg} {φ : List Addr} {H : Hp} {w : Value → Option Addr → Hp → Prop} {Q : VK} {r : R D} {j : Nat} {x : Addr} {φ0 : List Addr} {H0 : Hp} (e0 : Ext φ0 H0 φ H) (hx : φ[j]? = some x) (h : PostG G φ0 H0 w (kE G Q) (r.bind fun v M2 => if isNon v = true then .ok (.ref j) M2 else .bad)) :
    PostG G φ H w (kE G fun v H2 => v = .non ∧ Q (.ref x) H2) r := by
  cases r with
  | bad => exact h.elim
  | exc c a M1 => exact ExcTo.of h e0
  | ok v M1 =>
    intro φ' H' ex m' u ru
    obtain ⟨hn, h2⟩ := if_ok (show PostG G φ0 H0 w (kE G Q) (if isNon v = true then .ok (.ref j) M1 else .bad) from h)
    cases v with
    | non =>
      cases ru
      exact ⟨rfl, h2 φ' H' (e0.trans ex) m' _ (.ref (ex.ix hx))⟩
    | _ => cases hn
theorem pe3_make {c : String} (F : MkAt X.prog X.w X.K X.mg X.base k c n m) (hr : Room (k + 1) X.A) (hg : Gl X (nm c)) (ha : PA3 X (e :: es) as)
    (hdb : (nm c == ("__debug__" : Str)) = false := by decide) (he : starEach (e :: es) X.env = (false, eval e X.env) :: starEach es X.env := by rfl) (hpl : (backTo pos (starEach es X.env)).any (·.1) = false := by rfl) :
    PE3 X (.Call (.Name (nm c) p) (e :: es) [] pos) (eMake c n m as) := ⟨fun W tk => by
  obtain ⟨C, f, fd, ps, g, c1, F, b⟩ := F.ex
  refine PE.weak (pe_makeS c1 F hr hg g b (fun σ => passAt tk σ) (ha.run W tk) hdb he hpl) fun σ H Q h => ?_
  obtain ⟨φ, s, M, a, h⟩ := h
  refine bindA a h fun φ1 H1 M1 ds vs a1 e1 r h1 => ?_
  obtain ⟨hl, h2⟩ := if_ok h1
  intro x dx nx nd ne
  obtain ⟨m2, ex⟩ := newIns (c := c) a1.mem g nx nd ne
  have hx : (φ1 ++ [x])[M1.length]? = some x := by
    rw [← a1.mem.len, List.getElem?_append_right (Nat.le_refl _), Nat.sub_self]
    rfl
  exact ⟨by rw [List.length_cons, r.length]; exact hl, φ1 ++ [x], _, _, m2, .cons (.ref hx) (r.mono ex), mk_post ex hx h2⟩⟩
theorem pe3_make0 {c : String} (F : MkAt X.prog X.w X.K X.mg X.base k c 1 m) (hr : Room (k + 1) X.A) (hg : Gl X (nm c))
    (hdb : (nm c == ("__debug__" : Str)) = false := by decide) : PE3 X (.Call (.Name (nm c) p) [] [] pos) (eMake c 1 m aNil) := ⟨fun W tk => by
  obtain ⟨C, f, fd, ps, g, c1, F, b⟩ := F.ex
  refine PE.weak (pe_makeS0 c1 F hr hg g b (fun σ => passAt tk σ) hdb) fun σ H Q h => ?_
  obtain ⟨φ, s, M, a, h⟩ := h
  intro x dx nx nd ne
  obtain ⟨m2, ex⟩ := newIns (c := c) a.mem g nx nd ne
  have hx : (φ ++ [x])[M.length]? = some x := by
    rw [← a.mem.len, List.getElem?_append_right (Nat.le_refl _), Nat.sub_self]
    rfl
  exact ⟨rfl, φ ++ [x], _, _, m2, .cons (.ref hx) .nil, mk_post ex hx h⟩⟩
end
end L3
set_option Elab.async false
set_option linter.all false
set_option maxRecDepth 100000
set_option maxHeartbeats 2000000
/-! L3j: x = [..], int(), constants of the text, raise, try. -/
namespace L3
open PySem PySem.Spec PyProof.Rows L2

section
variable {X : Cx}
/-! ### name = [.. for ..] -/
theorem lc_read {W : WX} {mi : MI} {g : GT} {t : MT} {e : ME} {is : List Nat} {σ : L2.St} {H : Hp} {Q : VK} (h : tL X.g W (lLC is mi g t e) σ H Q) : tLc (tG X.g W (fun _ Q => kI X.g Q) mi) (kT X.g g is) (tT X.g noW t) (tE X.g noW e) is σ H Q := by
  obtain ⟨φ, s, M, a, h⟩ := h
  refine bindG (kk := fun _ Q => kI X.g Q) a h fun φ1 H1 M1 it a1 e1 h1 J hJ => ?_
  intro Da hD
  exact lc_go hJ a1 hD (e1.back a1.mem hD) h1
theorem ps3_setLc {i : Nat} {y : Str} {py : Pos} {elt tg iter : Expr} {ifs : List Expr} {scope : Scope} {own : List (Str × Nat)} {pos spos : Pos} {mi : MI} {g : GT} {t : MT} {e : ME} {is : List Nat} (hc : X.calm = true) (hN : X.N.Nodup) (hy : X.N[i]? = some y) (hyl : X.env.scope.names.lookup y = some .local)
    (hsw : swapsWith (.ListComp elt [⟨tg, iter, ifs, 0⟩] scope pos) (some (.Name y py)) spos.line X.env = pure true) (hi : PI3 X tg iter mi) (ok : BlkOk X.N X.env.scope scope own) (his : own.map (·.2) = is)
    (hg : ∀ (s : Shared) (H : Hp) (C : Addr) (cl : List (Str × Addr)) (fp : List Addr), PG3 (X.blk s H scope (compEnvC scope cl C X.env) fp) tg g is) (ht : ∀ (s : Shared) (H : Hp) (C : Addr) (cl : List (Str × Addr)) (fp : List Addr), PTs3 (X.blk s H scope (compEnvC scope cl C X.env) fp) ifs t)
    (he : ∀ (s : Shared) (H : Hp) (C : Addr) (cl : List (Str × Addr)) (fp : List Addr), PE3 (X.blk s H scope (compEnvC scope cl C X.env) fp) elt e) (hs : ∀ x, foldedSetIterable iter X.env x = pure x := by intro _; rfl) :
    PS3 X (.Assign [.Name y py] (.ListComp elt [⟨tg, iter, ifs, 0⟩] scope pos) spos) (sSet i (eNew (lLC is mi g t e))) := ⟨fun W tk ow => by
  subst his
  refine PS.weak (ps_setLc (g := kT X.g g (own.map (·.2))) (tt := tT X.g noW t) (te := tE X.g noW e) hc hN hy hyl hsw (hi.run W tk) ok (fun s H C cl fp => (hg s H C cl fp).run) (fun s H C cl fp => (ht s H C cl fp).run noW takes0) (fun s H C cl fp => (he s H C cl fp).run noW takes0) hs) fun D σ H h => ?_
  obtain ⟨φ, s, M, a, h⟩ := h
  refine lc_read (W := W) ⟨φ, s, M, a, ?_⟩
  have h' : PostS X.g φ H W D (((lLC (own.map (·.2)) mi g t e s M).bind fun ds M1 => R.ok (L3.D.ref M1.length) (M1 ++ [O.lst ds])).bindS s fun d M1 => .nx (s.set i (some d)) M1) := h
  revert h'
  generalize lLC (own.map (·.2)) mi g t e s M = r
  intro h'
  cases r with
  | exc c d M1 => exact fun φ' H' C dx v ex rm g hd r => (show ExcToS X.g φ H W c d s M1 from h') φ' H' σ C dx v ex (a.to ex rm) g hd r
  | bad => exact h'
  | ok ds M1 =>
    intro φ' H' e' m' p vs hp hp' np rs
    have hl : φ'.length = M1.length := m'.len
    have g : (φ' ++ [p])[M1.length]? = some p := by
      rw [← hl, List.getElem?_append_right (Nat.le_refl _), Nat.sub_self]
      rfl
    have rm : RelM X.g (φ' ++ [p]) H' (M1 ++ [.lst ds]) := by
      refine m'.track np ?_ (fun xs z => by rw [hp'] at z; cases z)
      refine ⟨vs, hp', ?_⟩
      exact rs.keep (Keeps.track fun xs z => by rw [hp'] at z; cases z)
    have ex := Ext.track e' hp
    exact (show ∀ φ' H' σ', Ext φ H φ' H' → At X.g φ' H' σ' (s.set i (some (.ref M1.length))) (M1 ++ [.lst ds]) → D.nx σ' H' from h') (φ' ++ [p]) H' _ ex ((a.to ex rm).set (.ref g) i)⟩

/-! ### int(e) -/
def opInt : D → Mem → R D := fun d M => match d with
  | .int i => .ok (.int i) M
  | .bl b => .ok (.int (if b = true then 1 else 0)) M
  | _ => .bad
theorem pe3_intOf {e : Expr} {m : ME} {p pos : Pos} (h : PE3 X e m) (hg : Gl X "int") (hm : X.mg "int" = none) (hs : starEach [e] X.env = (false, eval e X.env) :: starEach [] X.env := by rfl) (hpl : (backTo pos (starEach [] X.env)).any (·.1) = false := by rfl) :
    PE3 X (.Call (.Name "int" p) [e] [] pos) (eUn opInt m) := ⟨fun W tk => by
  refine PE.weak (pe_callTy call_int1 hg hm PyProof.Rows.Boot.int (pa_cons (h.run W tk) pa_nil hs) (by decide) (by decide) hs hpl) fun σ H Q h => ?_
  obtain ⟨φ, s, M, a, h⟩ := h
  refine bindE a h fun φ1 H1 M1 d v a1 e1 r h1 => ?_
  cases d with
  | int i =>
    cases r
    exact .inl ⟨i, rfl, a1.finE h1 _ (.int i)⟩
  | bl b =>
    cases r
    exact .inr ⟨b, rfl, a1.finE h1 _ (.int _)⟩
  | _ => exact h1.elim⟩

/-! ### constants of the text -/
structure GlobT (K : PySem.W.Frag) (mg : Str → Option Value) (x : Str) (d : D) : Prop where
  ex : ∃ (v : V) (u : Value), mg x = some u ∧ RelV v u ∧ ∀ φ H, Rep K φ H v d
theorem pe3_globT {x : Str} {pos : Pos} {d : D} (hg : Gl X x) (F : GlobT X.K X.mg x d) (hd : (x == ("__debug__" : Str)) = false := by decide) : PE3 X (.Name x pos) (eC d) := by
  obtain ⟨v, u, hm, r, hr⟩ := F.ex
  exact pe3_glob hg hm r hr hd
theorem globT_int {K : PySem.W.Frag} {mg : Str → Option Value} {x : Str} {i : Int} {t : Tok} (h : mg x = some (.int i t)) : GlobT K mg x (.int i) := ⟨.int i, _, h, ⟨t, rfl⟩, fun _ _ => .int i⟩
theorem reps_ints {K : PySem.W.Frag} {φ : List Addr} {H : Hp} : ∀ is : List Int, Reps K φ H (is.map V.int) (is.map D.int)
  | [] => .nil
  | i :: is => .cons (.int i) (reps_ints is)
theorem globT_ints {K : PySem.W.Frag} {mg : Str → Option Value} {x : Str} {a : Addr} {is : List Int} (h : mg x = some (.ref a)) (k : KTup K a (is.map V.int)) : GlobT K mg x (.tup (is.map D.int)) :=
  ⟨.ref a, _, h, rfl, fun _ _ => .tup (.inr k) (reps_ints is)⟩
end

/-! ### own errors -/
def spExI (f : Str) (C : Addr) : Sp := fun vs H Q _ => ∃ a v, vs = [.ref a, v] ∧ H a = some (exo a C none) ∧ ∀ dx, H dx = none → dx ≠ a → Q .non (upd (upd H dx (exd dx [(f, v)])) a (exo a C (some dx)))
structure ExT (K : PySem.W.Frag) (mg : Str → Option Value) (c : String) (qual : Str) (st : Stmt) : Prop where
  ex : ∃ (C fI : Addr) (fd : FuncData), mg (nm c) = some (.ref C) ∧ OexC K C ∧ XfC K C ∧ PySem.W.findIn K (.ref C) (nm (fldOf c)) = some none ∧ PySem.W.findIn K (.ref C) "__init__" = some (some (.ref fI)) ∧ PySem.W.typeIn K (.ref fI) = some (.type "function") ∧
    PySem.W.exmOne K (.ref C) (.ref C) = some true ∧ Fun K "__init__" qual st fI fd
structure ExAt (P : Program) (w : World) (K : PySem.W.Frag) (mg : Str → Option Value) (base : Heap) (c : String) : Prop where
  ex : ∃ (C fI : Addr) (fd : FuncData) (ps : List Str), mg (nm c) = some (.ref C) ∧ OexC K C ∧ XfC K C ∧ PySem.W.findIn K (.ref C) (nm (fldOf c)) = some none ∧ PySem.W.findIn K (.ref C) "__init__" = some (some (.ref fI)) ∧ PySem.W.typeIn K (.ref fI) = some (.type "function") ∧
    PySem.W.exmOne K (.ref C) (.ref C) = some true ∧ FnOk P w K mg base (L2.CX P w) 1 fI fd ps (spExI (nm (fldOf c)) C) ∧ Binds K fd ps []
theorem exAt {P : Program} {w : World} {K : PySem.W.Frag} {mg : Str → Option Value} {base : Heap} {c : String} {qual : Str} {st : Stmt} {ps : List Str} (F : ExT K mg c qual st) (S : FnScope ps ps (defScope st)) (hB : BindOk "__init__" qual st ps) (hl : ps.length = 2)
    (hb : ∀ (f : Addr) (cdv : Value) (A : Around) (outer : List Env) (s : Shared) (H : Hp) (E : XK), PSs (cxOf (L2.CX P w) P w K mg base ps qual (defScope st) f cdv A outer s H E) (defBody st) (tOst K (nm (fldOf c)) (tVar 0) (tVar 1))) : ExAt P w K mg base c := by
  obtain ⟨C, fI, fd, g, o, xf, no, i, ty, te, F⟩ := F.ex
  refine ⟨C, fI, fd, ps, g, o, xf, no, i, ty, te, ?_, F.binds hB⟩
  refine F.okX S (fun vs H Q E h => ?_) fun cdv A outer s H vs Q E hr h => ?_
  · obtain ⟨a, v, rfl, _⟩ := h
    exact hl.symm
  · obtain ⟨a, v, rfl, ha, k⟩ := h
    exact ⟨_, hb fI cdv A outer s H E, v, rfl, .ref a, rfl, a, C, rfl, o, no, .inl ⟨ha, fun dx n ne => k dx n ne⟩⟩
def sRaise (c : String) (as : MA) : MS := fun s M => (as s M).bindS s fun ds M1 => match ds with
  | [d] => .exc c d s M1
  | _ => .bad
section
variable {X : Cx} {c : String} {e : Expr} {es : List Expr} {as : MA} {p pos pos2 : Pos}
theorem upd_del {H : Hp} {a dx : Addr} {C : Addr} {o1 o2 o3 o4 : HO} (ha : H a = none) (hd : dx ≠ a) : upd (del (upd (upd (upd H a o1) dx o2) a o3) a) dx o4 = upd H dx o4 := by
  funext b
  by_cases hb : b = dx
  · rw [hb, upd_same, upd_same]
  · rw [upd_ne hb, upd_ne hb]
    by_cases hba : b = a
    · rw [hba, del_same, ha]
    · rw [del_ne hba, upd_ne hba, upd_ne hb, upd_ne hba]
theorem ps3_raise (F : ExAt X.prog X.w X.K X.mg X.base c) (hc : X.calm = true) (hr : Room 2 X.A) (hg : Gl X (nm c)) (ha : PA3 X (e :: es) as)
    (hdb : (nm c == ("__debug__" : Str)) = false := by decide) (he : starEach (e :: es) X.env = (false, eval e X.env) :: starEach es X.env := by rfl) (hpl : (backTo pos (starEach es X.env)).any (·.1) = false := by rfl) :
    PS3 X (.Raise (some (.Call (.Name (nm c) p) (e :: es) [] pos)) none pos2) (sRaise c as) := ⟨fun W tk ow => by
  obtain ⟨C, fI, fd, ps, g, o, xf, no, i, ty, te, F, b⟩ := F.ex
  refine PS.weak (ps_raise hc tk (pmk_oex o i ty F (hr.mono (by decide)) b .nil (passes_call tk (fun _ _ _ _ h => h.elim)) hg g (ha.run W tk) hdb he hpl)) fun D σ H h => ?_
  obtain ⟨φ, s, M, a, h⟩ := h
  refine bindGS (kk := fun _ Q => kA X.g Q) a h fun φ1 H1 M1 ds a1 e1 h1 vs r => ?_
  cases r with
  | nil => exact h1.elim
  | cons r1 rt =>
    cases rt with
    | cons _ _ => exact h1.elim
    | nil =>
      rename_i v d
      refine ⟨by simp, fun x hx => ⟨x, v, rfl, upd_same, fun dx n ne => ⟨rfl, dx, _, upd_same, by rw [upd_ne ne, upd_same], ?_, ?_⟩⟩⟩
      · rw [upd_ne ne] at n
        exact n
      · rw [upd_ne ne] at n
        rw [upd_del (C := C) hx ne]
        exact (show ExcToS X.g φ1 H1 W c d s M1 from h1) φ1 _ σ C dx v (Ext.laid a1.mem n) (a1.to (Ext.laid a1.mem n) (a1.mem.laid n)) g upd_same (r1.mono (Ext.laid a1.mem n))⟩
end

/-! ### try: .. except C as n: x = n.f -/
def sTryGet (c : String) (i ie : Nat) (b : MS) : MS := fun s M => match b s M with
  | .exc c' a s' M' => if c' = c ∧ ie < s'.length then .nx (((s'.set ie none).set i (some a)).set ie none) M' else .bad
  | r => r
theorem ps3_tryGet {X : Cx} {c f : String} {i ie : Nat} {x n : Str} {body : List Stmt} {b : MS} {p1 p2 p3 p4 p5 pos pos' : Pos} (F : ExAt X.prog X.w X.K X.mg X.base c) (hf : fldOf c = f) (hs : X.stack = X.env :: X.outer) (hfr : X.env.frame = some X.env.locals) (hN : X.N.Nodup) (hie : X.N[ie]? = some n) (hi : X.N[i]? = some x) (hne : i ≠ ie)
    (hln : X.env.kindOf n = some .local) (hlx : X.env.scope.names.lookup x = some .local) (hg : Gl X (nm c)) (hb : ∀ (pn : List (Addr × Obj)) (xe : Value → Shared → Prop), PB3 (X.tr pn xe) body b) (hdn : (n == ("__debug__" : Str)) = false := by decide) (hcn : (n == ("__classdict__" : Str)) = false := by decide)
    (hdb : (nm c == ("__debug__" : Str)) = false := by decide) (hsw : swapsWith (.Attribute (.Name n p2) (nm f) p3) (some (.Name x p1)) p4.line X.env = pure false := by rfl) (hab : attributeBase (.Name n p2) (nm f) X.env (eval (.Name n p2) X.env) = eval (.Name n p2) X.env := by rfl) :
    PS3 X (.Try body [.ExceptHandler (some (.Name (nm c) p5)) (some n) [.Assign [.Name x p1] (.Attribute (.Name n p2) (nm f) p3) p4] pos'] [] [] pos) (sTryGet c i ie b) := ⟨fun W tk ow => by
  subst hf
  obtain ⟨C, fI, fd, ps, g, o, xf, no, _, ty, te, _, _⟩ := F.ex
  refine PS.weak (ps_try_as (c := .ref C) (tb := fun W => tS X.g W b) (ts := fun a cls d => tAsg (tXf a cls d C (nm (fldOf c)) (tVar ie)) (gName i)) hs hfr hN hie hln ⟨hg, hdb, .inl g⟩ tk (fun W pn xe tk' ow' => (hb pn xe).run W tk' ow') fun a oe cls d pn hz hd => pss_one (ps_set hN hi (.inl hlx) (pe_xf xf no hz hd (pe_var hie (.inl hln) hdn hcn) hab) hsw (.inr hlx))) fun D σ H h => ?_
  obtain ⟨φ, s, M, a, h⟩ := h
  refine ⟨φ, s, M, a, ?_⟩
  dsimp only [sTryGet] at h
  cases e : b s M with
  | nx s1 M1 => rw [e] at h; exact h
  | bk s1 M1 => rw [e] at h; exact h
  | ct s1 M1 => rw [e] at h; exact h
  | rt d M1 => rw [e] at h; exact h
  | bad => rw [e] at h; exact h
  | exc c' d s1 M1 =>
    rw [e] at h
    dsimp only at h
    by_cases hc : c' = c ∧ ie < s1.length
    · rw [if_pos hc] at h
      obtain ⟨hc, hie'⟩ := hc
      subst hc
      intro φ' H' σ' C' dx v ex a' g' hd rv
      rw [show X.mg (nm c') = some (.ref C') from g'] at g
      cases g
      refine ⟨true, te, fun _ p hp => ?_, fun z => nomatch z⟩
      have lk : (σ'.set ie (some (V.ref p)))[ie]? = some (some (V.ref p)) := by
        have hl : ie < σ'.length := by rw [a'.len]; exact hie'
        rw [List.getElem?_set_self hl]
      refine ⟨.ref p, lk, rfl, rfl, dx, _, v, rfl, hd, ?_, ?_⟩
      · simp [List.lookup]
      · exact (show ∀ φ' H' σ', Ext φ H φ' H' → At X.g φ' H' σ' (((s1.set ie none).set i (some d)).set ie none) M1 → D.nx σ' H' from h) φ' H' _ ex (((a'.wipe1 ie _).set rv i).wipe1 ie none)
    · rw [if_neg hc] at h
      exact h.elim⟩
end L3
namespace L3
open PySem PySem.Spec PyProof.Rows L2
structure ClsFT (K : PySem.W.Frag) (mg : Str → Option Value) (c f : String) : Prop where
  ex : ∃ C, mg (nm c) = some (.ref C) ∧ Cls K C ∧ NoAttr K C (nm f)
end L3
set_option Elab.async false
set_option linter.all false
set_option maxRecDepth 100000
set_option maxHeartbeats 2000000
/-! L3k: what the head tells, the law's end. -/
namespace L3
open PySem PySem.Spec PyProof.Rows L2
open He (ga ma)

/-! ### facts -/
def oexB (K : PySem.W.Frag) (C : Addr) : Bool := match K.lookup C with
  | some ⟨.type "type", _, .cls cd, sl⟩ => (match cd.mro, sl.toList with
    | .ref C' :: bm, [_, _, _, _, some (.builtin n), _] => decide (C' = C) && (decide (n = "ValueError.__new__") && (!cd.hasDel && (cd.hasDict && PySem.HandSPX.refsVE bm)))
    | _, _ => false)
  | _ => false
theorem oexB_ok {K : PySem.W.Frag} {C : Addr} (q : oexB K C = true) : ∃ nm q N bs bm sn sub ab col dd k0 k1 k2 k3 k5, K.lookup C = some (excClassObj nm q C N bs bm true sn sub ab col dd k0 k1 k2 k3 k5 "ValueError.__new__") ∧ PySem.HandSPX.refsVE bm = true := by
  unfold oexB at q
  split at q
  · rename_i dd cd sl ho
    split at q
    · rename_i C' bm k0 k1 k2 k3 n k5 hm hs
      simp only [Bool.and_eq_true, decide_eq_true_eq, Bool.not_eq_true'] at q
      obtain ⟨rfl, rfl, hdel, hd, hr⟩ := q
      obtain ⟨nm, bs, mro, ns, qn, hdc, sn, sub, ab, col, del⟩ := cd
      dsimp only at hm hdel hd
      subst hm hdel hd
      have hsl : sl = #[k0, k1, k2, k3, some (.builtin "ValueError.__new__"), k5] := by
        obtain ⟨l⟩ := sl
        simp only at hs
        rw [hs]
      subst hsl
      exact ⟨nm, qn, ns, bs, bm, sn, sub, ab, col, dd, k0, k1, k2, k3, k5, ho, hr⟩
    · cases q
  · cases q
def isListO (o : Obj) : Bool := match o.cls with
  | .type c => decide (c = "list")
  | _ => false
inductive Fx where
  | he (f : He.Fa)
  | exc (c f : Str)
  | tup (x : Str) (vs : List He.Dv)
  | nolist
def eqV (a b : Option Value) : Bool := decide (a = b)
def Fx.ok (K : PySem.W.Frag) : Fx → Bool
  | .he f => f.ok K
  | .exc c f => He.eqO (PySem.W.nsIn K mainGlobals c) (some (some (.ref (ga K c)))) && (oexB K (ga K c) && (xfB K (ga K c) && (He.eqO (PySem.W.findIn K (.ref (ga K c)) f) (some none) && (He.eqO (PySem.W.findIn K (.ref (ga K c)) "__init__") (some (some (.ref (ma K (ga K c) "__init__")))) &&
    (eqV (PySem.W.typeIn K (.ref (ma K (ga K c) "__init__"))) (some (.type "function")) && (decide (PySem.W.exmOne K (.ref (ga K c)) (.ref (ga K c)) = some true) && (He.eqO (PySem.W.findIn K (.ref (ga K c)) "__setattr__") (some (some (.builtin "object.__setattr__"))) &&
    (decide (PySem.W.subIn K (.ref (ga K c)) (.type "BaseException") = some true) && (eqV (PySem.W.typeIn K (.ref (ga K c))) (some (.type "type")) && PySem.W.keepIn K (.ref (ga K c)))))))))))
  | .tup x vs => He.eqO (PySem.W.nsIn K mainGlobals x) (some (some (.ref (ga K x)))) && He.tupB K x vs
  | .nolist => K.all fun p => !isListO p.2
def obsX (fx : List Fx) (fn : List He.DefD) (K : PySem.W.Frag) : He.AlD := ((fx.all fun f => f.ok K) && fn.all fun d => d.ok K, fn.map fun d => He.fnW K d.at_)
def SaysX (fx : List Fx) (fn : List He.DefD) (K : PySem.W.Frag) : Prop := obsX fx fn K = He.valD fn
def obsXG (n : Nat) (fx : List Fx) (fn : List He.DefD) (g : Addr → Option Obj) : He.AlD := obsX fx fn (He.frG g (He.asD g n))
def hookX (n : Nat) (fx : List Fx) (fn : List He.DefD) : PySem.W.Hook where
  α := He.AlD
  obs := fun s => obsXG n fx fn s.heap.get?
  val := fun _ => He.valD fn
  says := fun _ h => ∃ K : PySem.W.Frag, K.In h ∧ SaysX fx fn K
  of := fun _ _ e => ⟨_, He.frG_in, e⟩
  keeps := fun _ _ _ ⟨K, hK, c⟩ k => ⟨K, PySem.W.Frag.In.keeps hK k, c⟩
theorem obsXG_eq {n : Nat} {fx : List Fx} {fn : List He.DefD} {g : Addr → Option Obj} {s : Shared} (h : ∀ a, g a = s.heap.get? a) : obsXG n fx fn g = (hookX n fx fn).obs s := by
  have e : g = s.heap.get? := funext h
  rw [e] <;> rfl
section
variable {fx : List Fx} {fn : List He.DefD} {K : PySem.W.Frag} {h : Heap} {mg : Str → Option Value}
theorem SaysX.fact (c : SaysX fx fn K) {f : Fx} (i : Nat) (h : fx[i]? = some f := by rfl) : f.ok K = true := by
  have c1 := (He.ba (show ((fx.all fun f => f.ok K) && fn.all fun d => d.ok K) = true from congrArg (fun z : He.AlD => z.1) c)).1
  exact List.all_eq_true.mp c1 f (List.mem_of_getElem? h)
theorem SaysX.he (c : SaysX fx fn K) {f : He.Fa} (i : Nat) (h : fx[i]? = some (.he f) := by rfl) : f.ok K = true := c.fact i h
theorem SaysX.def_ (c : SaysX fx fn K) {d : He.DefD} (i : Nat) (h : fn[i]? = some d := by rfl) : ∃ fd, FunD K d.name d.qual d.params d.body d.scope (d.dvs K) (d.kws K) (He.fAd K d.at_) fd := by
  have c2 := (He.ba (show ((fx.all fun f => f.ok K) && fn.all fun d => d.ok K) = true from congrArg (fun z : He.AlD => z.1) c)).2
  have e : fn.map (fun d => He.fnW K d.at_) = fn.map He.DefD.val := congrArg (fun z : He.AlD => z.2) c
  have e2 : (fn.map fun d => He.fnW K d.at_)[i]? = (fn.map He.DefD.val)[i]? := by rw [e]
  rw [List.getElem?_map, List.getElem?_map, h] at e2
  exact He.DefD.funD (Option.some.inj e2) (List.all_eq_true.mp c2 d (List.mem_of_getElem? h))
/-- a datum of a def without defaults -/
abbrev dD (at_ : Str × Option Str) (x qual : Str) (st : Stmt) : He.DefD := ⟨at_, x, qual, defArgs st, defBody st, defScope st, [], []⟩
theorem fun_ofD {x qual : Str} {st : Stmt} {f : Addr} {fd : FuncData} (F : FunD K x qual (defArgs st) (defBody st) (defScope st) [] [] f fd) : Fun K x qual st f fd := by
  obtain ⟨⟨oc, od, dV, kV, doc, pm, an, cdv, ct, osl, rfl, lk, hcd, hd, _⟩, kp⟩ := F
  rcases hd with ⟨_, rfl⟩ | ⟨n, _⟩
  · exact ⟨⟨oc, od, kV, doc, pm, an, cdv, ct, osl, rfl, lk, hcd⟩, kp⟩
  · exact absurd rfl n
theorem SaysX.fun_ (c : SaysX fx fn K) {at_ : Str × Option Str} {x qual : Str} {st : Stmt} (i : Nat) (h : fn[i]? = some (dD at_ x qual st) := by rfl) : ∃ fd, Fun K x qual st (He.fAd K at_) fd := by
  obtain ⟨fd, F⟩ := c.def_ i h
  exact ⟨fd, fun_ofD F⟩
theorem SaysX.fnT (c : SaysX fx fn K) (X : K.In h) (G : h.Ns mainGlobals mg) {x qual : Str} {st : Stmt} (i j : Nat) (h : fn[i]? = some (dD (x, none) x qual st) := by rfl) (hj : fx[j]? = some (.he (.glo x)) := by rfl) : FunT K mg x qual st := by
  obtain ⟨fd, F⟩ := c.fun_ i h
  exact ⟨_, fd, He.glo_ok X G (c.he j hj), F⟩
theorem SaysX.methT (c : SaysX fx fn K) (X : K.In h) (G : h.Ns mainGlobals mg) {cl : String} {x qual : Str} {st : Stmt} (i j k l : Nat) (h : fn[i]? = some (dD (nm cl, some x) x qual st) := by rfl) (hj : fx[j]? = some (.he (.glo (nm cl))) := by rfl) (hk : fx[k]? = some (.he (.cls (nm cl))) := by rfl) (hl : fx[l]? = some (.he (.meth (nm cl) x)) := by rfl) : MethT K mg cl x qual st := by
  obtain ⟨fd, F⟩ := c.fun_ i h
  exact ⟨_, _, fd, He.glo_ok X G (c.he j hj), He.cls_ok (c.he k hk), He.meth_ok (c.he l hl), F⟩
theorem SaysX.mkT (c : SaysX fx fn K) (X : K.In h) (G : h.Ns mainGlobals mg) {cl : String} {qual : Str} {st : Stmt} (i j k : Nat) (h : fn[i]? = some (dD (nm cl, some "__init__") "__init__" qual st) := by rfl) (hj : fx[j]? = some (.he (.glo (nm cl))) := by rfl) (hk : fx[k]? = some (.he (.mkr (nm cl))) := by rfl) : MkT K mg cl qual st := by
  obtain ⟨fd, F⟩ := c.fun_ i h
  exact ⟨_, _, fd, He.glo_ok X G (c.he j hj), He.mkr_ok (c.he k hk), F⟩
theorem SaysX.fldT (c : SaysX fx fn K) (X : K.In h) (G : h.Ns mainGlobals mg) {cl f : String} (j k l : Nat) (hj : fx[j]? = some (.he (.glo (nm cl))) := by rfl) (hk : fx[k]? = some (.he (.cls (nm cl))) := by rfl) (hl : fx[l]? = some (.he (.noat (nm cl) (nm f))) := by rfl) : ClsFT K mg cl f :=
  ⟨_, He.glo_ok X G (c.he j hj), He.cls_ok (c.he k hk), He.noat_ok (c.he l hl)⟩
theorem SaysX.free (c : SaysX fx fn K) (X : K.In h) (G : h.Ns mainGlobals mg) {x : Str} (j : Nat) (hj : fx[j]? = some (.he (.free x)) := by rfl) : mg x = none := He.free_ok X G (c.he j hj)
theorem SaysX.gint (c : SaysX fx fn K) (X : K.In h) (G : h.Ns mainGlobals mg) {x : Str} {i : Int} (j : Nat) (hj : fx[j]? = some (.he (.int x i)) := by rfl) : GlobT K mg x (.int i) := by
  obtain ⟨t, e⟩ := He.int_ok X G (c.he j hj)
  exact globT_int e
theorem SaysX.gstr (c : SaysX fx fn K) (X : K.In h) (G : h.Ns mainGlobals mg) {x z : Str} (j : Nat) (hj : fx[j]? = some (.he (.str x z)) := by rfl) : GlobT K mg x (.str z) := by
  obtain ⟨t, e⟩ := He.str_ok X G (c.he j hj)
  exact ⟨.str z, _, e, ⟨t, rfl⟩, fun _ _ => .str z⟩
theorem SaysX.gtup (c : SaysX fx fn K) (X : K.In h) (G : h.Ns mainGlobals mg) {x : Str} {is : List Int} (j : Nat) (hj : fx[j]? = some (.tup x (is.map He.Dv.int)) := by rfl) : GlobT K mg x (.tup (is.map D.int)) := by
  obtain ⟨c1, c2⟩ := He.ba (show (He.eqO (PySem.W.nsIn K mainGlobals x) (some (some (.ref (ga K x)))) && He.tupB K x (is.map He.Dv.int)) = true from c.fact j hj)
  refine globT_ints (PySem.W.mg_of X G (He.eqO_ok c1)) ?_
  have z := He.tupB_ok c2 (fun _ => none)
  have e : (is.map He.Dv.int).map (He.Dv.v K) = is.map V.int := by rw [List.map_map]; rfl
  rw [e] at z
  rcases z with z | z
  · rcases z with z | ⟨o, z⟩ <;> cases z
  · exact z
theorem SaysX.exT (c : SaysX fx fn K) (X : K.In h) (G : h.Ns mainGlobals mg) {cl : String} {qual : Str} {st : Stmt} (i j : Nat) (h : fn[i]? = some (dD (nm cl, some "__init__") "__init__" qual st) := by rfl) (hj : fx[j]? = some (.exc (nm cl) (nm (fldOf cl))) := by rfl) : ExT K mg cl qual st := by
  obtain ⟨fd, F⟩ := c.fun_ i h
  have q := c.fact j hj
  simp only [Fx.ok, Bool.and_eq_true] at q
  obtain ⟨q1, q2, q3, q4, q5, q6, q7, q8, q9, q10, q11⟩ := q
  exact ⟨_, _, fd, PySem.W.mg_of X G (He.eqO_ok q1), ⟨oexB_ok q2, He.eqO_ok q8, of_decide_eq_true q9, of_decide_eq_true q10, q11⟩, xfB_ok q3, He.eqO_ok q4, He.eqO_ok q5, of_decide_eq_true q6, of_decide_eq_true q7, F⟩
theorem SaysX.nolist (c : SaysX fx fn K) (j : Nat) (hj : fx[j]? = some .nolist := by rfl) {a : Addr} {o : Obj} (l : K.lookup a = some o) : o.cls ≠ .type "list" := fun e => by
  have q : (K.all fun p => !isListO p.2) = true := c.fact j hj
  have m : (a, o) ∈ K := by
    have : ∀ K : PySem.W.Frag, K.lookup a = some o → (a, o) ∈ K := by
      intro K
      induction K with
      | nil => intro l; cases l
      | cons p r ih =>
        intro l
        obtain ⟨b, u⟩ := p
        have l2 : (match a == b with | true => some u | false => r.lookup a) = some o := l
        cases e : (a == b) with
        | true =>
          rw [e] at l2
          have : u = o := Option.some.inj l2
          rw [beq_iff_eq.mp e, this]
          exact List.mem_cons_self
        | false =>
          rw [e] at l2
          exact List.mem_cons_of_mem _ (ih l2)
    exact this K l
  have z := List.all_eq_true.mp q _ m
  simp [isListO, e] at z
end

/-! ### the end -/
theorem law_sp {K : PySem.W.Frag} {mg : Str → Option Value} {m : MF} {H : Hp} {a : Addr} {ns : List Int} (nl : ∀ {a : Addr} {o : Obj}, K.lookup a = some o → o.cls ≠ .type "list") (hO : Only H) (hS : SqL K H a (ns.map V.int))
    (hm : ∃ M, m [.ref 0] [.frz (ns.map D.int)] = .ok (.bl true) M) : spM ⟨K, mg⟩ 1 m [.ref a] H (fun v _ => v = .bl true) fun _ _ _ => False := by
  have hf : ∃ o, H a = some (.frz o (.lst (ns.map V.int))) := by
    rcases hS with (h | h) | ⟨o, _, _, l, c, _⟩
    · rcases hO a with z | ⟨o, xs, z⟩
      · rw [h] at z; cases z
      · rw [h] at z; cases z
    · exact h
    · exact absurd c (nl l)
  obtain ⟨o, hf⟩ := hf
  obtain ⟨M', e⟩ := hm
  refine ⟨rfl, [a], [.frz (ns.map D.int)], [.ref 0], ⟨rfl, by simp, fun i p u h1 h2 => ?_⟩, .one (.ref rfl), ?_⟩
  · cases i with
    | zero =>
      cases h1
      cases h2
      exact ⟨o, _, hf, reps_ints ns⟩
    | succ i => cases h1
  · rw [e]
    exact fun φ' H' _ _ v r => by cases r; rfl
theorem walk_ofEw {l : PySem.W.OpenLaw} {n k : Nat} {q : Program} {loose : List Str} {XP : (Str → Option Value) → Heap → Prop} {YP : World → Heap → Prop} {d : DefRec} {CX : World → CXT} {x : Str}
    (hn : l.most = some n) (hn2 : n ≤ sizeLine) (hdf : d.params.defaults = []) (hr : Room k callerA)
    (F : ∀ (w : World) (mg : Str → Option Value) (fa : Addr) (h : Heap), YP w h → h.Ns mainGlobals mg → mg d.name = some (.ref fa) →
      ∃ (K : PySem.W.Frag) (fd : FuncData) (sp : Sp), K.In h ∧ (∀ (s : Shared) (u : Value), BindsTo s fd ⟨[u], []⟩ [(x, u)]) ∧
        (∀ (H : Hp) (a : Addr) (ns : List Int), ns.length ≤ n → Only H → SqL K H a (ns.map V.int) → sp [.ref a] H (fun v _ => v = .bl true) fun _ _ _ => False) ∧
        ∀ base : Heap, K.In base → base.Ns mainGlobals mg → FnOk l.prog w K mg base (CX w) k fa fd [x] sp)
    (hCX : ∀ (w : World) (H : Hp) (s : Shared) (e : Value) (s' : Shared), CX w [] H s (fun _ _ _ => False) e s' → False) :
    PySem.W.WalkO q loose XP YP l.row.toRowW d [] (fun f vs => PySem.call f vs) := by
  refine Att.attach_call hn hdf fun w s₀ s₁ mg mb fa o pm cd doc a vs ns G Y ho hd hcd hmg hobj hints hlen hg => ?_
  obtain ⟨K, fd, sp, KX, hb, hsp, hF⟩ := F w mg fa _ Y G.T.g hmg
  exact law_call KX G.T.g G.T.b G.T.builtins G.T.nolimit hg hobj hints (Nat.le_trans hlen hn2) hr hF hb (fun H hO hS => hsp H a ns hlen hO hS) fun H e s' => hCX w H s₁ e s'
theorem cx_none {P : Program} {w : World} (H : Hp) (s : Shared) (e : Value) (s' : Shared) (h : L2.CX P w [] H s (fun _ _ _ => False) e s') : False := by
  obtain ⟨a, B, H', cls, d, _, _, _, _, _, _, _, hE⟩ := h
  exact hE
end L3
set_option Elab.async false
set_option linter.all false
set_option maxRecDepth 100000
set_option maxHeartbeats 2000000
namespace Law
open PySem PySem.Spec PyProof.Rows L2 L3
def g_FIRST : D := (.int 3)
def g_KEY : D := (.int 1)
def g_PRIMES : D := (.tup [(.int 2), (.int 3), (.int 5), (.int 7), (.int 11), (.int 13), (.int 17), (.int 19), (.int 23), (.int 29), (.int 31), (.int 37), (.int 41), (.int 43), (.int 47), (.int 53), (.int 59), (.int 61), (.int 67), (.int 71), (.int 73), (.int 79), (.int 83), (.int 89), (.int 97)])
def g_QUERY : D := (.int 0)
def g_SECOND : D := (.int 4)
def g_VALUE : D := (.int 2)
def b__law_pool : MS :=
  (sRet (eNew (lLst (aCons (eNew (lLC [1] (iSeq (qL (lSl (qE (eV 0)) oNone (oSome (eC (.int 63)))))) (gN 1) mYes (eUn opInt (eV 1)))) (aCons (eC (.int 0)) (aCons (eC (.int 0)) (aCons (eC (.int 0)) (aCons (eC (.int 7)) aNil))))))))
@[irreducible] def m__law_pool : MF := fnB 1 b__law_pool
def b__law_draw : MS :=
  (sq (sIx (eV 0) (eC (.int 3)) (eBin opAdd (eBin opIx (eV 0) (eC (.int 3))) (eC (.int 1))))
  (sq (sIf (tOf (eBin opGt (eBin opIx (eV 0) (eC (.int 2))) (eC (.int 0))))
  (sq (sSet 2 (eBin opMod (eUn opInt (eBin opIx (eV 0) (eC (.int 2)))) (eV 1)))
  (sq (sIx (eV 0) (eC (.int 2)) (eBin opDiv (eBin opIx (eV 0) (eC (.int 2))) (eV 1)))
  (sRet (eV 2))))
  sNil)
  (sq (sSet 3 (eC (.int 0)))
  (sq (sIf (tOf (eBin opLt (eBin opIx (eV 0) (eC (.int 1))) (eLen (qE (eBin opIx (eV 0) (eC (.int 0)))))))
  (sq (sSet 3 (eBin opIx (eBin opIx (eV 0) (eC (.int 0))) (eBin opIx (eV 0) (eC (.int 1)))))
  (sIx (eV 0) (eC (.int 1)) (eBin opAdd (eBin opIx (eV 0) (eC (.int 1))) (eC (.int 1)))))
  sNil)
  (sq (sIf (tOf (eBin opGe (eV 3) (eBin opPow (eC (.int 10)) (eC (.int 18)))))
  (sq (sSet 3 (eBin opMod (eUn opInt (eV 3)) (eBin opPow (eC (.int 10)) (eC (.int 64)))))
  (sq (sIx (eV 0) (eC (.int 2)) (eBin opDiv (eV 3) (eV 1)))
  (sRet (eBin opMod (eUn opInt (eV 3)) (eV 1)))))
  sNil)
  (sq (sSet 4 (eBin opMod (eUn opInt (eBin opAdd (eBin opAdd (eBin opMul (eBin opIx (eV 0) (eC (.int 4))) (eC (.int 48271))) (eBin opMul (eBin opMod (eUn opInt (eV 3)) (eC (.int 1000003))) (eC (.int 69621)))) (eBin opMul (eBin opIx (eV 0) (eC (.int 3))) (eC (.int 40692))))) (eC (.int 2147483647))))
  (sq (sIx (eV 0) (eC (.int 4)) (eV 4))
  (sRet (eBin opMod (eUn opInt (eBin opAdd (eBin opDiv (eV 4) (eC (.int 128))) (eBin opDiv (eBin opMul (eV 4) (eV 4)) (eC (.int 65536))))) (eV 1))))))))))
@[irreducible] def m__law_draw : MF := fnB 3 b__law_draw
def b__law_numbers : MS :=
  (sRet (eTupOf (qL (lLC [3] (iRng1 (eV 1)) (gN 3) mYes (eCall 2 m__law_draw (aCons (eV 0) (aCons (eV 2) aNil)))))))
@[irreducible] def m__law_numbers : MF := fnB 1 b__law_numbers
def b__law_net : MS :=
  (sq (sSet 5 (eTup (aCons (eC (.int 2)) (aCons (eC (.int 3)) (aCons (eC (.int 5)) (aCons (eC (.int 7)) (aCons (eC (.int 11)) (aCons (eC (.int 13)) (aCons (eC (.int 17)) (aCons (eC (.int 19)) (aCons (eC (.int 23)) (aCons (eC (.int 29)) (aCons (eC (.int 31)) (aCons (eC (.int 37)) (aCons (eC (.int 41)) (aCons (eC (.int 43)) (aCons (eC (.int 47)) (aCons (eC (.int 53)) (aCons (eC (.int 59)) (aCons (eC (.int 61)) (aCons (eC (.int 67)) (aCons (eC (.int 71)) (aCons (eC (.int 73)) (aCons (eC (.int 79)) (aCons (eC (.int 83)) (aCons (eC (.int 89)) (aCons (eC (.int 97)) aNil)))))))))))))))))))))))))))
  (sq (sSet 6 (eBin opIx (eV 5) (eCall 2 m__law_draw (aCons (eV 0) (aCons (eC (.int 25)) aNil)))))
  (sq (sSet 7 (eTupOf (qL (lLC [10] (iRng1 (eV 1)) (gN 10) mYes (eCall 3 m__law_numbers (aCons (eV 0) (aCons (eV 2) (aCons (eV 6) aNil))))))))
  (sq (sSet 8 (eCall 3 m__law_numbers (aCons (eV 0) (aCons (eV 2) (aCons (eV 6) aNil)))))
  (sq (sSet 9 (eNew (lLst aNil)))
  (sq (sFor (iRng1 (eV 3)) (gN 10)
  (sq (sSet 11 (eNew (lLst aNil)))
  (sq (sFor (iRng1 (eC (.int 5))) (gN 12)
  (sDrop (mApp (eV 11) (eTupOf (qL (lLC [15] (iRng1 (eV 2)) (gN 15) mYes (eCall 3 m__law_numbers (aCons (eV 0) (aCons (eV 2) (aCons (eV 6) aNil))))))))))
  (sDrop (mApp (eV 9) (eTupOf (qE (eV 11))))))))
  (sq (sSet 13 (eTupOf (qL (lLC [10] (iRng1 (eV 1)) (gN 10) mYes (eCall 3 m__law_numbers (aCons (eV 0) (aCons (eV 2) (aCons (eV 6) aNil))))))))
  (sq (sSet 14 (eC .non))
  (sq (sIf (tOf (eV 4))
  (sSet 14 (eCall 2 m__law_draw (aCons (eV 0) (aCons (eV 1) aNil))))
  sNil)
  (sRet (eTup (aCons (eV 6) (aCons (eV 7) (aCons (eV 8) (aCons (eTupOf (qE (eV 9))) (aCons (eV 13) (aCons (eV 14) aNil)))))))))))))))))
@[irreducible] def m__law_net : MF := fnB 11 b__law_net
def b_is_between : MS :=
  (sRet (eAnd (eUn (opIsi "int") (eV 0)) (eAnd (eNot (eUn (opIsi "bool") (eV 0))) (eChain opLe opLe (eV 1) (eV 0) (eV 2)))))
@[irreducible] def m_is_between : MF := fnB 0 b_is_between
def b_vector_of : MS :=
  (sRet (eTupOf (qE (eV 0))))
@[irreducible] def m_vector_of : MF := fnB 0 b_vector_of
def b_matrix_of : MS :=
  (sRet (eTupOf (qL (lLC [1] (iSeq (qE (eV 0))) (gN 1) mYes (eCall 1 m_vector_of (aCons (eV 1) aNil))))))
@[irreducible] def m_matrix_of : MF := fnB 1 b_matrix_of
def b_Net___init__ : MS :=
  (sq (sIf (tOr3 (tNot3 (tOf (eCall 3 m_is_between (aCons (eV 1) (aCons (eC (.int 2)) (aCons (eC (.int 97)) aNil)))))) (tOf (eIn true (eV 1) (qE (eC g_PRIMES)))))
  (sRaise "InvalidNumber" (aCons (eV 1) aNil))
  sNil)
  (sq (sFld "Net" "prime" (eV 0) (eV 1))
  (sq (sFld "Net" "embed" (eV 0) (eCall 1 m_matrix_of (aCons (eV 2) aNil)))
  (sq (sFld "Net" "shift" (eV 0) (eCall 1 m_vector_of (aCons (eV 3) aNil)))
  (sq (sFld "Net" "layers" (eV 0) (eTupOf (qL (lLC [7] (iSeq (qE (eV 4))) (gN 7) mYes (eTupOf (qL (lLC [8] (iSeq (qE (eV 7))) (gN 8) mYes (eCall 1 m_matrix_of (aCons (eV 8) aNil)))))))))
  (sq (sFld "Net" "out" (eV 0) (eCall 1 m_matrix_of (aCons (eV 5) aNil)))
  (sFld "Net" "end" (eV 0) (eV 6))))))))
@[irreducible] def m_Net___init__ : MF := fnB 2 b_Net___init__
def b__law_dot : MS :=
  (sRet (eSum (qL (lLC [2] (iRng1 (eLen (qE (eV 0)))) (gN 2) mYes (eBin opMul (eBin opIx (eV 0) (eV 2)) (eBin opIx (eV 1) (eV 2)))))))
@[irreducible] def m__law_dot : MF := fnB 1 b__law_dot
def b__law_times : MS :=
  (sRet (eTupOf (qL (lLC [3] (iSeq (qE (eV 0))) (gN 3) mYes (eBin opMod (eUn opInt (eCall 2 m__law_dot (aCons (eV 3) (aCons (eV 1) aNil)))) (eV 2))))))
@[irreducible] def m__law_times : MF := fnB 1 b__law_times
def b__law_row : MS :=
  (sq (sSet 3 (eBin opIx (eV 0) (eC (.int 0))))
  (sq (sSet 4 (eLen (qE (eBin opIx (eV 0) (eC (.int 2))))))
  (sq (sSet 5 (eNew (lLC [15] (iRng1 (eV 4)) (gN 15) mYes (eBin opMod (eUn opInt (eBin opAdd (eBin opIx (eBin opIx (eBin opIx (eV 0) (eC (.int 1))) (eV 2)) (eV 15)) (eBin opMul (eLen (qE (eV 1))) (eBin opIx (eBin opIx (eV 0) (eC (.int 2))) (eV 15))))) (eV 3)))))
  (sq (sSet 6 (eNew (lLst aNil)))
  (sq (sFor (iRng1 (eLen (qE (eBin opIx (eV 0) (eC (.int 3)))))) (gN 7)
  (sq (sSet 8 (eBin opIx (eBin opIx (eV 0) (eC (.int 3))) (eV 7)))
  (sq (sSet 9 (eCall 3 m__law_times (aCons (eBin opIx (eV 8) (eC (.int 0))) (aCons (eV 5) (aCons (eV 3) aNil)))))
  (sq (sDrop (mApp (eV 6) (eTup (aCons (eCall 3 m__law_times (aCons (eBin opIx (eV 8) (eC (.int 1))) (aCons (eV 5) (aCons (eV 3) aNil)))) (aCons (eCall 3 m__law_times (aCons (eBin opIx (eV 8) (eC (.int 2))) (aCons (eV 5) (aCons (eV 3) aNil)))) aNil)))))
  (sq (sSet 10 (eNew (lOf (qE (eV 5)))))
  (sq (sFor (iSeq (qL (lCat (qL (lLC [16] (iSeq (qE (eV 1))) (gN 16) mYes (eBin opIx (eBin opIx (eV 16) (eC (.int 0))) (eV 7)))) (qL (lLst (aCons (eBin opIx (eV 6) (eV 7)) aNil)))))) (gN 11)
  (sq (sSet 12 (eBin opMod (eUn opInt (eCall 2 m__law_dot (aCons (eV 9) (aCons (eBin opIx (eV 11) (eC (.int 0))) aNil)))) (eV 3)))
  (sSet 10 (eNew (lLC [15] (iRng1 (eV 4)) (gN 15) mYes (eBin opAdd (eBin opIx (eV 10) (eV 15)) (eBin opMul (eV 12) (eBin opIx (eBin opIx (eV 11) (eC (.int 1))) (eV 15)))))))))
  (sq (sSet 5 (eNew (lLC [17] (iSeq (qE (eV 10))) (gN 17) mYes (eBin opMod (eUn opInt (eV 17)) (eV 3)))))
  (sq (sSet 13 (eCall 3 m__law_times (aCons (eBin opIx (eV 8) (eC (.int 3))) (aCons (eV 5) (aCons (eV 3) aNil)))))
  (sq (sSet 14 (eCall 3 m__law_times (aCons (eBin opIx (eV 8) (eC (.int 4))) (aCons (eNew (lLC [17] (iSeq (qE (eV 13))) (gN 17) mYes (eBin opMul (eV 17) (eV 17)))) (aCons (eV 3) aNil)))))
  (sSet 5 (eNew (lLC [15] (iRng1 (eV 4)) (gN 15) mYes (eBin opMod (eUn opInt (eBin opAdd (eBin opIx (eV 5) (eV 15)) (eBin opIx (eV 14) (eV 15)))) (eV 3))))))))))))))
  (sRet (eTup (aCons (eTupOf (qE (eV 6))) (aCons (eTupOf (qL (lLC [17] (iSeq (qE (eCall 3 m__law_times (aCons (eBin opIx (eV 0) (eC (.int 4))) (aCons (eV 5) (aCons (eV 3) aNil)))))) (gN 17) mYes (eBin opAdd (eV 17) (eC (.int 1)))))) aNil)))))))))
@[irreducible] def m__law_row : MF := fnB 15 b__law_row
def b__law_rows : MS :=
  (sq (sSet 2 (eNew (lLst aNil)))
  (sq (sFor (iSeq (qE (eV 1))) (gN 3)
  (sDrop (mApp (eV 2) (eCall 3 m__law_row (aCons (eV 0) (aCons (eV 2) (aCons (eV 3) aNil)))))))
  (sRet (eV 2))))
@[irreducible] def m__law_rows : MF := fnB 2 b__law_rows
def b_Crew_begin_round : MS :=
  (sq (sFld "Crew" "had" (eV 0) (eNew (lLst aNil)))
  (sFld "Crew" "sum" (eV 0) (eTupOf (qL (lLC [1] (iSeq (qE (eFld "Net" "shift" (eFld "Crew" "net" (eV 0))))) (gN 1) mYes (eC (.int 0)))))))
@[irreducible] def m_Crew_begin_round : MF := fnB 1 b_Crew_begin_round
def b_Crew___init__ : MS :=
  (sq (sIf (tNot3 (tOf (eCall 3 m_is_between (aCons (eV 2) (aCons (eC (.int 1)) (aCons (eLen (qE (eFld "Net" "shift" (eV 1)))) aNil))))))
  (sRaise "InvalidNumber" (aCons (eV 2) aNil))
  sNil)
  (sq (sFld "Crew" "net" (eV 0) (eV 1))
  (sq (sFld "Crew" "many" (eV 0) (eV 2))
  (sq (sFld "Crew" "sent" (eV 0) (eNew (lLst aNil)))
  (sq (sFld "Crew" "ahead" (eV 0) (eTup aNil))
  (sq (sFld "Crew" "vector" (eV 0) (eC .non))
  (sq (sFld "Crew" "own" (eV 0) (eTup aNil))
  (sq (sFld "Crew" "results" (eV 0) (eTup aNil))
  (sq (sFld "Crew" "number" (eV 0) (eC (.int 0)))
  (sDrop (eMeth "Crew" "begin_round" 1 m_Crew_begin_round (eV 0) aNil)))))))))))
@[irreducible] def m_Crew___init__ : MF := fnB 0 b_Crew___init__
def b_Crew_is_done : MS :=
  (sRet (eBin opEq (eFld "Crew" "number" (eV 0)) (eBin opMul (eC (.int 5)) (eLen (qE (eFld "Net" "layers" (eFld "Crew" "net" (eV 0))))))))
@[irreducible] def m_Crew_is_done : MF := fnB 0 b_Crew_is_done
def b_Net_rest : MS :=
  (sRet (eBin opMod (eUn opInt (eV 1)) (eFld "Net" "prime" (eV 0))))
@[irreducible] def m_Net_rest : MF := fnB 0 b_Net_rest
def b_product_sum : MS :=
  (sq (sSet 2 (eC (.int 0)))
  (sq (sFor (iZip (qE (eV 0)) (qE (eV 1))) (gT [(gN 3), (gN 4)])
  (sAug 2 opAddI (eBin opMul (eV 3) (eV 4))))
  (sRet (eV 2))))
@[irreducible] def m_product_sum : MF := fnB 3 b_product_sum
def b_Crew_row : MS :=
  (sq (sIf (tOr3 (tOf (eUn opIsN (eFld "Crew" "vector" (eV 0)))) (tNot3 (tOf (eMeth "Crew" "is_done" 1 m_Crew_is_done (eV 0) aNil))))
  (sRet (eC .non))
  sNil)
  (sq (sSet 1 (eNew (lLC [2] (iSeq (qE (eFld "Net" "out" (eFld "Crew" "net" (eV 0))))) (gN 2) mYes (eBin opAdd (eC (.int 1)) (eMeth "Net" "rest" 2 m_Net_rest (eFld "Crew" "net" (eV 0)) (aCons (eCall 2 m_product_sum (aCons (eV 2) (aCons (eFld "Crew" "vector" (eV 0)) aNil))) aNil))))))
  (sRet (eTup (aCons (eFld "Crew" "own" (eV 0)) (aCons (eTupOf (qE (eV 1))) aNil))))))
@[irreducible] def m_Crew_row : MF := fnB 2 b_Crew_row
def b_Crew_waiting : MS :=
  (sRet (eTupOf (qE (eFld "Crew" "sent" (eV 0)))))
@[irreducible] def m_Crew_waiting : MF := fnB 0 b_Crew_waiting
def r__law_same : Nat → MF
  | 0 => fun _ _ => .bad
  | n + 1 => fnB 1 (sq (sIf (tOf (eUn (opIsi "tuple") (eV 1)))
  (sq (sIf (tOr3 (tNot3 (tOf (eUn (opIsi "tuple") (eV 0)))) (tOf (eBin opNe (eLen (qE (eV 0))) (eLen (qE (eV 1))))))
  (sRet (eC (.bl false)))
  sNil)
  (sq (sFor (iRng1 (eLen (qE (eV 1)))) (gN 2)
  (sIf (tNot3 (tOf (eCall 2 (r__law_same n) (aCons (eBin opIx (eV 0) (eV 2)) (aCons (eBin opIx (eV 1) (eV 2)) aNil)))))
  (sRet (eC (.bl false)))
  sNil))
  (sRet (eC (.bl true)))))
  sNil)
  (sq (sIf (tOf (eUn opIsN (eV 1)))
  (sRet (eUn opIsN (eV 0)))
  sNil)
  (sq (sIf (tOf (eUn (opIsi "bool") (eV 1)))
  (sRet (eAnd (eUn (opIsi "bool") (eV 0)) (eBin opEq (eV 0) (eV 1))))
  sNil)
  (sq (sIf (tOf (eUn (opIsi "int") (eV 1)))
  (sRet (eAnd (eUn (opIsi "int") (eV 0)) (eAnd (eNot (eUn (opIsi "bool") (eV 0))) (eBin opEq (eV 0) (eV 1)))))
  sNil)
  (sRet (eAnd (eUn (opIsi "str") (eV 0)) (eBin opEq (eV 0) (eV 1))))))))
@[irreducible] def m__law_same (n : Nat) : MF := r__law_same n
theorem m__law_same_0 : m__law_same 0 = fun _ _ => .bad := by
  unfold m__law_same
  rfl
theorem m__law_same_s (n : Nat) : m__law_same (n + 1) = fnB 1 (sq (sIf (tOf (eUn (opIsi "tuple") (eV 1)))
  (sq (sIf (tOr3 (tNot3 (tOf (eUn (opIsi "tuple") (eV 0)))) (tOf (eBin opNe (eLen (qE (eV 0))) (eLen (qE (eV 1))))))
  (sRet (eC (.bl false)))
  sNil)
  (sq (sFor (iRng1 (eLen (qE (eV 1)))) (gN 2)
  (sIf (tNot3 (tOf (eCall 2 (m__law_same n) (aCons (eBin opIx (eV 0) (eV 2)) (aCons (eBin opIx (eV 1) (eV 2)) aNil)))))
  (sRet (eC (.bl false)))
  sNil))
  (sRet (eC (.bl true)))))
  sNil)
  (sq (sIf (tOf (eUn opIsN (eV 1)))
  (sRet (eUn opIsN (eV 0)))
  sNil)
  (sq (sIf (tOf (eUn (opIsi "bool") (eV 1)))
  (sRet (eAnd (eUn (opIsi "bool") (eV 0)) (eBin opEq (eV 0) (eV 1))))
  sNil)
  (sq (sIf (tOf (eUn (opIsi "int") (eV 1)))
  (sRet (eAnd (eUn (opIsi "int") (eV 0)) (eAnd (eNot (eUn (opIsi "bool") (eV 0))) (eBin opEq (eV 0) (eV 1)))))
  sNil)
  (sRet (eAnd (eUn (opIsi "str") (eV 0)) (eBin opEq (eV 0) (eV 1)))))))) := by
  unfold m__law_same
  rfl
def b_Net_is_letter : MS :=
  (sRet (eCall 3 m_is_between (aCons (eV 1) (aCons (eC (.int 0)) (aCons (eBin opSub (eLen (qE (eFld "Net" "embed" (eV 0)))) (eC (.int 1))) aNil)))))
@[irreducible] def m_Net_is_letter : MF := fnB 0 b_Net_is_letter
def b_Net_plus : MS :=
  (sRet (eTupOf (qL (lLC [3, 4] (iZip (qE (eV 1)) (qE (eV 2))) (gT [(gN 3), (gN 4)]) mYes (eMeth "Net" "rest" 2 m_Net_rest (eV 0) (aCons (eBin opAdd (eV 3) (eV 4)) aNil))))))
@[irreducible] def m_Net_plus : MF := fnB 2 b_Net_plus
def b_Crew_send_all : MS :=
  (sIf (tNot3 (tOf (eMeth "Crew" "is_done" 1 m_Crew_is_done (eV 0) aNil)))
  (sDrop (mExt (eFld "Crew" "sent" (eV 0)) (qL (lLC [1] (iRng1 (eFld "Crew" "many" (eV 0))) (gN 1) mYes (eTup (aCons (eFld "Crew" "number" (eV 0)) (aCons (eV 1) aNil)))))))
  sNil)
@[irreducible] def m_Crew_send_all : MF := fnB 1 b_Crew_send_all
def b_Crew_begin : MS :=
  (sq (sIf (tNot3 (tOf (eMeth "Net" "is_letter" 2 m_Net_is_letter (eFld "Crew" "net" (eV 0)) (aCons (eV 2) aNil))))
  (sRaise "InvalidLetter" (aCons (eV 2) aNil))
  sNil)
  (sq (sFld "Crew" "ahead" (eV 0) (eTupOf (qE (eV 1))))
  (sq (sFld "Crew" "vector" (eV 0) (eMeth "Net" "plus" 3 m_Net_plus (eFld "Crew" "net" (eV 0)) (aCons (eBin opIx (eFld "Net" "embed" (eFld "Crew" "net" (eV 0))) (eV 2)) (aCons (eNew (lLC [3] (iSeq (qE (eFld "Net" "shift" (eFld "Crew" "net" (eV 0))))) (gN 3) mYes (eBin opMul (eLen (qE (eFld "Crew" "ahead" (eV 0)))) (eV 3)))) aNil))))
  (sq (sFld "Crew" "own" (eV 0) (eTup aNil))
  (sq (sFld "Crew" "results" (eV 0) (eTup aNil))
  (sq (sFld "Crew" "number" (eV 0) (eC (.int 0)))
  (sq (sFld "Crew" "sent" (eV 0) (eNew (lLst aNil)))
  (sq (sDrop (eMeth "Crew" "begin_round" 1 m_Crew_begin_round (eV 0) aNil))
  (sDrop (eMeth "Crew" "send_all" 1 m_Crew_send_all (eV 0) aNil))))))))))
@[irreducible] def m_Crew_begin : MF := fnB 1 b_Crew_begin
def b__law_begins : MS :=
  (sq (sIx (eV 0) (eC (.str "waiting")) (eNew (lLst aNil)))
  (sq (sIf (tOf (eBin opGt (eBin opIx (eV 0) (eC (.str "rounds"))) (eC (.int 0))))
  (sIx (eV 0) (eC (.str "waiting")) (eNew (lLC [1] (iRng1 (eBin opIx (eV 0) (eC (.str "many")))) (gN 1) mYes (eTup (aCons (eC (.int 0)) (aCons (eV 1) aNil))))))
  sNil)
  (sq (sIx (eV 0) (eC (.str "present")) (eC (.int 0)))
  (sIx (eV 0) (eC (.str "added")) (eNew (lLst aNil))))))
@[irreducible] def m__law_begins : MF := fnB 1 b__law_begins
def b_Crew_double : MS :=
  (sq (sIf (tNot3 (tOf (eCall 3 m_is_between (aCons (eV 1) (aCons (eC (.int 0)) (aCons (eBin opSub (eLen (qE (eFld "Crew" "sent" (eV 0)))) (eC (.int 1))) aNil))))))
  (sRaise "InvalidNumber" (aCons (eV 1) aNil))
  sNil)
  (sDrop (mApp (eFld "Crew" "sent" (eV 0)) (eBin opIx (eFld "Crew" "sent" (eV 0)) (eV 1)))))
@[irreducible] def m_Crew_double : MF := fnB 0 b_Crew_double
def b__law_is_wanted : MS :=
  (sRet (eAnd (eBin opEq (eBin opIx (eV 1) (eC (.int 0))) (eBin opIx (eV 0) (eC (.str "present")))) (eIn true (eBin opIx (eV 1) (eC (.int 1))) (qE (eBin opIx (eV 0) (eC (.str "added")))))))
@[irreducible] def m__law_is_wanted : MF := fnB 0 b__law_is_wanted
def b_Crew_take_out : MS :=
  (sq (sIf (tNot3 (tOf (eCall 3 m_is_between (aCons (eV 1) (aCons (eC (.int 0)) (aCons (eBin opSub (eLen (qE (eFld "Crew" "sent" (eV 0)))) (eC (.int 1))) aNil))))))
  (sRaise "InvalidNumber" (aCons (eV 1) aNil))
  sNil)
  (sRet (mPopAt (eFld "Crew" "sent" (eV 0)) (eV 1))))
@[irreducible] def m_Crew_take_out : MF := fnB 0 b_Crew_take_out
def b_Crew_is_wanted : MS :=
  (sRet (eAnd (eNot (eMeth "Crew" "is_done" 1 m_Crew_is_done (eV 0) aNil)) (eAnd (eBin opEq (eBin opIx (eV 1) (eC (.int 0))) (eFld "Crew" "number" (eV 0))) (eIn true (eBin opIx (eV 1) (eC (.int 1))) (qE (eFld "Crew" "had" (eV 0)))))))
@[irreducible] def m_Crew_is_wanted : MF := fnB 0 b_Crew_is_wanted
def b_Crew_lose : MS :=
  (sq (sSet 2 (eMeth "Crew" "take_out" 2 m_Crew_take_out (eV 0) (aCons (eV 1) aNil)))
  (sIf (tAnd3 (tOf (eMeth "Crew" "is_wanted" 2 m_Crew_is_wanted (eV 0) (aCons (eV 2) aNil))) (tOf (eIn true (eV 2) (qE (eFld "Crew" "sent" (eV 0))))))
  (sDrop (mApp (eFld "Crew" "sent" (eV 0)) (eV 2)))
  sNil))
@[irreducible] def m_Crew_lose : MF := fnB 1 b_Crew_lose
def b__law_arrives : MS :=
  (sq (sSet 2 (mPopAt (eBin opIx (eV 0) (eC (.str "waiting"))) (eV 1)))
  (sq (sIf (tNot3 (tOf (eCall 2 m__law_is_wanted (aCons (eV 0) (aCons (eV 2) aNil)))))
  (sRet (eC (.bl false)))
  sNil)
  (sq (sDrop (mApp (eBin opIx (eV 0) (eC (.str "added"))) (eBin opIx (eV 2) (eC (.int 1)))))
  (sq (sIf (tOf (eBin opEq (eLen (qE (eBin opIx (eV 0) (eC (.str "added"))))) (eBin opIx (eV 0) (eC (.str "many")))))
  (sq (sIx (eV 0) (eC (.str "present")) (eBin opAdd (eBin opIx (eV 0) (eC (.str "present"))) (eC (.int 1))))
  (sq (sIx (eV 0) (eC (.str "added")) (eNew (lLst aNil)))
  (sIf (tOf (eBin opLt (eBin opIx (eV 0) (eC (.str "present"))) (eBin opIx (eV 0) (eC (.str "rounds")))))
  (sIx (eV 0) (eC (.str "waiting")) (eNew (lCat (qE (eBin opIx (eV 0) (eC (.str "waiting")))) (qL (lLC [3] (iRng1 (eBin opIx (eV 0) (eC (.str "many")))) (gN 3) mYes (eTup (aCons (eBin opIx (eV 0) (eC (.str "present"))) (aCons (eV 3) aNil))))))))
  sNil)))
  sNil)
  (sRet (eC (.bl true)))))))
@[irreducible] def m__law_arrives : MF := fnB 2 b__law_arrives
def b_Net_looked_at : MS :=
  (sq (sSet 3 (eTupOf (qL (lLC [7] (iSeq (qE (eV 1))) (gN 7) mYes (eC (.int 0))))))
  (sq (sFor (iSeq (qE (eV 2))) (gT [(gN 4), (gN 5)])
  (sq (sSet 6 (eCall 2 m_product_sum (aCons (eV 1) (aCons (eV 4) aNil))))
  (sSet 3 (eMeth "Net" "plus" 3 m_Net_plus (eV 0) (aCons (eV 3) (aCons (eNew (lLC [8] (iSeq (qE (eV 5))) (gN 8) mYes (eBin opMul (eV 6) (eV 8)))) aNil))))))
  (sRet (eV 3))))
@[irreducible] def m_Net_looked_at : MF := fnB 6 b_Net_looked_at
def b_Crew_inner : MS :=
  (sq (sSet 1 (eBin opDiv (eFld "Crew" "number" (eV 0)) (eC (.int 5))))
  (sq (sSet 2 (eNew (lCat (qL (lLC [3] (iSeq (qE (eFld "Crew" "ahead" (eV 0)))) (gN 3) mYes (eBin opIx (eBin opIx (eV 3) (eC (.int 0))) (eV 1)))) (qL (lLst (aCons (eTup (aCons (eBin opIx (eFld "Crew" "results" (eV 0)) (eC g_KEY)) (aCons (eBin opIx (eFld "Crew" "results" (eV 0)) (eC g_VALUE)) aNil))) aNil))))))
  (sRet (eMeth "Net" "plus" 3 m_Net_plus (eFld "Crew" "net" (eV 0)) (aCons (eFld "Crew" "vector" (eV 0)) (aCons (eMeth "Net" "looked_at" 3 m_Net_looked_at (eFld "Crew" "net" (eV 0)) (aCons (eBin opIx (eFld "Crew" "results" (eV 0)) (eC g_QUERY)) (aCons (eV 2) aNil))) aNil))))))
@[irreducible] def m_Crew_inner : MF := fnB 3 b_Crew_inner
def b_Crew_factor : MS :=
  (sq (sSet 1 (eBin opMod (eFld "Crew" "number" (eV 0)) (eC (.int 5))))
  (sq (sIf (tOf (eBin opLt (eV 1) (eC g_FIRST)))
  (sRet (eFld "Crew" "vector" (eV 0)))
  sNil)
  (sq (sIf (tOf (eBin opEq (eV 1) (eC g_FIRST)))
  (sRet (eMeth "Crew" "inner" 1 m_Crew_inner (eV 0) aNil))
  sNil)
  (sRet (eNew (lLC [2] (iSeq (qE (eBin opIx (eFld "Crew" "results" (eV 0)) (eC g_FIRST)))) (gN 2) mYes (eBin opMul (eV 2) (eV 2))))))))
@[irreducible] def m_Crew_factor : MF := fnB 2 b_Crew_factor
def b_Crew_part : MS :=
  (sq (sSet 2 (eBin opIx (eBin opIx (eFld "Net" "layers" (eFld "Crew" "net" (eV 0))) (eBin opDiv (eFld "Crew" "number" (eV 0)) (eC (.int 5)))) (eBin opMod (eFld "Crew" "number" (eV 0)) (eC (.int 5)))))
  (sq (sSet 3 (eMeth "Crew" "factor" 1 m_Crew_factor (eV 0) aNil))
  (sq (sSet 4 (eNew (lLC [5] (iRng1 (eLen (qE (eV 3)))) (gN 5) (tOf (eBin opEq (eBin opMod (eV 5) (eFld "Crew" "many" (eV 0))) (eV 1))) (eV 5))))
  (sRet (eNew (lLC [6] (iSeq (qE (eV 2))) (gN 6) mYes (eSum (qL (lLC [5] (iSeq (qE (eV 4))) (gN 5) mYes (eBin opMul (eBin opIx (eV 6) (eV 5)) (eBin opIx (eV 3) (eV 5))))))))))))
@[irreducible] def m_Crew_part : MF := fnB 5 b_Crew_part
def b_Crew_end_round : MS :=
  (sq (sSet 1 (eBin opMod (eFld "Crew" "number" (eV 0)) (eC (.int 5))))
  (sq (sIf (tOf (eBin opEq (eV 1) (eC g_SECOND)))
  (sq (sSet 2 (eTup (aCons (eBin opIx (eFld "Crew" "results" (eV 0)) (eC g_KEY)) (aCons (eBin opIx (eFld "Crew" "results" (eV 0)) (eC g_VALUE)) aNil))))
  (sq (sFld "Crew" "vector" (eV 0) (eMeth "Net" "plus" 3 m_Net_plus (eFld "Crew" "net" (eV 0)) (aCons (eMeth "Crew" "inner" 1 m_Crew_inner (eV 0) aNil) (aCons (eFld "Crew" "sum" (eV 0)) aNil))))
  (sq (sFld "Crew" "own" (eV 0) (eBin opAdd (eFld "Crew" "own" (eV 0)) (eTup (aCons (eV 2) aNil))))
  (sFld "Crew" "results" (eV 0) (eTup aNil)))))
  (sFld "Crew" "results" (eV 0) (eBin opAdd (eFld "Crew" "results" (eV 0)) (eTup (aCons (eFld "Crew" "sum" (eV 0)) aNil)))))
  (sq (sFldAug "Crew" "number" opAddI (eV 0) (eC (.int 1)))
  (sq (sDrop (eMeth "Crew" "begin_round" 1 m_Crew_begin_round (eV 0) aNil))
  (sDrop (eMeth "Crew" "send_all" 1 m_Crew_send_all (eV 0) aNil))))))
@[irreducible] def m_Crew_end_round : MF := fnB 2 b_Crew_end_round
def b_Crew_deliver : MS :=
  (sq (sSet 2 (eMeth "Crew" "take_out" 2 m_Crew_take_out (eV 0) (aCons (eV 1) aNil)))
  (sq (sIf (tNot3 (tOf (eMeth "Crew" "is_wanted" 2 m_Crew_is_wanted (eV 0) (aCons (eV 2) aNil))))
  (sRet (eC (.bl false)))
  sNil)
  (sq (sFld "Crew" "sum" (eV 0) (eMeth "Net" "plus" 3 m_Net_plus (eFld "Crew" "net" (eV 0)) (aCons (eFld "Crew" "sum" (eV 0)) (aCons (eMeth "Crew" "part" 2 m_Crew_part (eV 0) (aCons (eBin opIx (eV 2) (eC (.int 1))) aNil)) aNil))))
  (sq (sDrop (mApp (eFld "Crew" "had" (eV 0)) (eBin opIx (eV 2) (eC (.int 1)))))
  (sq (sIf (tOf (eBin opEq (eLen (qE (eFld "Crew" "had" (eV 0)))) (eFld "Crew" "many" (eV 0))))
  (sDrop (eMeth "Crew" "end_round" 1 m_Crew_end_round (eV 0) aNil))
  sNil)
  (sRet (eC (.bl true))))))))
@[irreducible] def m_Crew_deliver : MF := fnB 1 b_Crew_deliver
def b__law_some_deeds : MS :=
  (sq (sFor (iRng1 (eV 3)) (gN 4)
  (sIf (tOf (eBin opGt (eLen (qE (eBin opIx (eV 2) (eC (.str "waiting"))))) (eC (.int 0))))
  (sq (sSet 5 (eCall 2 m__law_draw (aCons (eV 0) (aCons (eLen (qE (eBin opIx (eV 2) (eC (.str "waiting"))))) aNil))))
  (sq (sSet 6 (eCall 2 m__law_draw (aCons (eV 0) (aCons (eC (.int 5)) aNil))))
  (sq (sSet 7 (eC .non))
  (sq (sIf (tOf (eBin opEq (eV 6) (eC (.int 0))))
  (sq (sDrop (mApp (eBin opIx (eV 2) (eC (.str "waiting"))) (eBin opIx (eBin opIx (eV 2) (eC (.str "waiting"))) (eV 5))))
  (sSet 8 (eMeth "Crew" "double" 2 m_Crew_double (eV 1) (aCons (eV 5) aNil))))
  (sIf (tOf (eBin opEq (eV 6) (eC (.int 1))))
  (sq (sSet 9 (mPopAt (eBin opIx (eV 2) (eC (.str "waiting"))) (eV 5)))
  (sq (sIf (tAnd3 (tOf (eCall 2 m__law_is_wanted (aCons (eV 2) (aCons (eV 9) aNil)))) (tOf (eIn true (eV 9) (qE (eBin opIx (eV 2) (eC (.str "waiting")))))))
  (sDrop (mApp (eBin opIx (eV 2) (eC (.str "waiting"))) (eV 9)))
  sNil)
  (sSet 8 (eMeth "Crew" "lose" 2 m_Crew_lose (eV 1) (aCons (eV 5) aNil)))))
  (sq (sSet 7 (eCall 2 m__law_arrives (aCons (eV 2) (aCons (eV 5) aNil))))
  (sSet 8 (eMeth "Crew" "deliver" 2 m_Crew_deliver (eV 1) (aCons (eV 5) aNil))))))
  (sIf (tNot3 (tOf (eCall 2 (m__law_same 12) (aCons (eTup (aCons (eV 8) (aCons (eMeth "Crew" "waiting" 1 m_Crew_waiting (eV 1) aNil) aNil))) (aCons (eTup (aCons (eV 7) (aCons (eTupOf (qE (eBin opIx (eV 2) (eC (.str "waiting"))))) aNil))) aNil)))))
  (sRet (eC (.bl false)))
  sNil)))))
  sNil))
  (sRet (eC (.bl true))))
@[irreducible] def m__law_some_deeds : MF := fnB 6 b__law_some_deeds
def b__law_listed : MS :=
  (sRet (eNew (lLst (aCons (eNew (lLC [1] (iSeq (qE (eBin opIx (eV 0) (eC (.int 0))))) (gN 1) mYes (eNew (lLst (aCons (eNew (lOf (qE (eBin opIx (eV 1) (eC (.int 0)))))) (aCons (eNew (lOf (qE (eBin opIx (eV 1) (eC (.int 1)))))) aNil)))))) (aCons (eNew (lOf (qE (eBin opIx (eV 0) (eC (.int 1)))))) aNil)))))
@[irreducible] def m__law_listed : MF := fnB 1 b__law_listed
def b__law_refused : MS :=
  (sq (sSet 3 (eC .non))
  (sq (sTryGet "InvalidLetter" 3 4 (sDrop (eMeth "Crew" "begin" 3 m_Crew_begin (eV 0) (aCons (eV 1) (aCons (eV 2) aNil)))))
  (sRet (eCall 2 (m__law_same 12) (aCons (eV 3) (aCons (eV 2) aNil))))))
@[irreducible] def m__law_refused : MF := fnB 2 b__law_refused
def b__law_delivered : MS :=
  (sq (sFor (iRng1 (eBin opMul (eBin opIx (eV 2) (eC (.str "rounds"))) (eBin opIx (eV 2) (eC (.str "many"))))) (gN 3)
  (sq (sSet 4 (eNew (lLC [5] (iRng1 (eLen (qE (eBin opIx (eV 2) (eC (.str "waiting")))))) (gN 5) (tOf (eCall 2 m__law_is_wanted (aCons (eV 2) (aCons (eBin opIx (eBin opIx (eV 2) (eC (.str "waiting"))) (eV 5)) aNil)))) (eV 5))))
  (sIf (tOf (eBin opGt (eLen (qE (eV 4))) (eC (.int 0))))
  (sq (sSet 5 (eBin opIx (eV 4) (eCall 2 m__law_draw (aCons (eV 0) (aCons (eLen (qE (eV 4))) aNil)))))
  (sIf (tOr3 (tOf (eUn opNotN (eMeth "Crew" "row" 1 m_Crew_row (eV 1) aNil))) (tNot3 (tOf (eCall 2 (m__law_same 12) (aCons (eMeth "Crew" "deliver" 2 m_Crew_deliver (eV 1) (aCons (eV 5) aNil)) (aCons (eCall 2 m__law_arrives (aCons (eV 2) (aCons (eV 5) aNil))) aNil))))))
  (sRet (eC (.bl false)))
  sNil))
  sNil)))
  (sRet (eCall 2 (m__law_same 12) (aCons (eMeth "Crew" "waiting" 1 m_Crew_waiting (eV 1) aNil) (aCons (eTupOf (qE (eBin opIx (eV 2) (eC (.str "waiting"))))) aNil)))))
@[irreducible] def m__law_delivered : MF := fnB 3 b__law_delivered
def b_Net_times : MS :=
  (sRet (eTupOf (qL (lLC [3] (iSeq (qE (eV 1))) (gN 3) mYes (eMeth "Net" "rest" 2 m_Net_rest (eV 0) (aCons (eCall 2 m_product_sum (aCons (eV 3) (aCons (eV 2) aNil))) aNil))))))
@[irreducible] def m_Net_times : MF := fnB 1 b_Net_times
def b_Net_row : MS :=
  (sq (sIf (tNot3 (tOf (eMeth "Net" "is_letter" 2 m_Net_is_letter (eV 0) (aCons (eV 2) aNil))))
  (sRaise "InvalidLetter" (aCons (eV 2) aNil))
  sNil)
  (sq (sSet 3 (eMeth "Net" "plus" 3 m_Net_plus (eV 0) (aCons (eBin opIx (eFld "Net" "embed" (eV 0)) (eV 2)) (aCons (eNew (lLC [14] (iSeq (qE (eFld "Net" "shift" (eV 0)))) (gN 14) mYes (eBin opMul (eLen (qE (eV 1))) (eV 14)))) aNil))))
  (sq (sSet 4 (eNew (lLst aNil)))
  (sq (sFor (iEnum (qE (eFld "Net" "layers" (eV 0)))) (gT [(gN 5), (gT [(gN 6), (gN 7), (gN 8), (gN 9), (gN 10)])])
  (sq (sSet 11 (eTup (aCons (eMeth "Net" "times" 3 m_Net_times (eV 0) (aCons (eV 7) (aCons (eV 3) aNil))) (aCons (eMeth "Net" "times" 3 m_Net_times (eV 0) (aCons (eV 8) (aCons (eV 3) aNil))) aNil))))
  (sq (sSet 12 (eNew (lCat (qL (lLC [15] (iSeq (qE (eV 1))) (gN 15) mYes (eBin opIx (eBin opIx (eV 15) (eC (.int 0))) (eV 5)))) (qL (lLst (aCons (eV 11) aNil))))))
  (sq (sSet 3 (eMeth "Net" "plus" 3 m_Net_plus (eV 0) (aCons (eV 3) (aCons (eMeth "Net" "looked_at" 3 m_Net_looked_at (eV 0) (aCons (eMeth "Net" "times" 3 m_Net_times (eV 0) (aCons (eV 6) (aCons (eV 3) aNil))) (aCons (eV 12) aNil))) aNil))))
  (sq (sSet 3 (eMeth "Net" "plus" 3 m_Net_plus (eV 0) (aCons (eV 3) (aCons (eMeth "Net" "times" 3 m_Net_times (eV 0) (aCons (eV 10) (aCons (eNew (lLC [14] (iSeq (qE (eMeth "Net" "times" 3 m_Net_times (eV 0) (aCons (eV 9) (aCons (eV 3) aNil))))) (gN 14) mYes (eBin opMul (eV 14) (eV 14)))) aNil))) aNil))))
  (sDrop (mApp (eV 4) (eV 11))))))))
  (sq (sSet 13 (eNew (lLC [16] (iSeq (qE (eFld "Net" "out" (eV 0)))) (gN 16) mYes (eBin opAdd (eC (.int 1)) (eMeth "Net" "rest" 2 m_Net_rest (eV 0) (aCons (eCall 2 m_product_sum (aCons (eV 16) (aCons (eV 3) aNil))) aNil))))))
  (sRet (eTup (aCons (eTupOf (qE (eV 4))) (aCons (eTupOf (qE (eV 13))) aNil)))))))))
@[irreducible] def m_Net_row : MF := fnB 14 b_Net_row
def b_rows_of : MS :=
  (sq (sSet 2 (eNew (lLst aNil)))
  (sq (sFor (iSeq (qE (eV 1))) (gN 3)
  (sDrop (mApp (eV 2) (eMeth "Net" "row" 3 m_Net_row (eV 0) (aCons (eV 2) (aCons (eV 3) aNil))))))
  (sRet (eTupOf (qE (eV 2))))))
@[irreducible] def m_rows_of : MF := fnB 2 b_rows_of
def b__law_jobs : MS :=
  (sq (sSet 4 (eNew (lLst aNil)))
  (sq (sFor (iRng1 (eBin opAdd (eC (.int 2)) (eCall 2 m__law_draw (aCons (eV 0) (aCons (eC (.int 3)) aNil))))) (gN 5)
  (sq (sSet 6 (eCall 2 m__law_draw (aCons (eV 0) (aCons (eBin opAdd (eLen (qE (eV 1))) (eC (.int 1))) aNil))))
  (sq (sSet 7 (eSlT (eV 1) (oSome (eV 6)) (oSome (eBin opAdd (eV 6) (eCall 2 m__law_draw (aCons (eV 0) (aCons (eC (.int 4)) aNil)))))))
  (sq (sIf (tOf (eBin opEq (eCall 2 m__law_draw (aCons (eV 0) (aCons (eC (.int 3)) aNil))) (eC (.int 0))))
  (sSet 7 (eBin opAdd (eV 7) (eCall 3 m__law_numbers (aCons (eV 0) (aCons (eC (.int 1)) (aCons (eV 3) aNil))))))
  sNil)
  (sq (sSet 8 (eNew (lLC [9] (iRng1 (eV 6)) (gN 9) mYes (eBin opIx (eV 2) (eV 9)))))
  (sq (sIf (tOf (eBin opEq (eCall 2 m__law_draw (aCons (eV 0) (aCons (eC (.int 2)) aNil))) (eC (.int 0))))
  (sSet 8 (eNew (lLC [10] (iSeq (qE (eV 8))) (gN 10) mYes (eCall 1 m__law_listed (aCons (eV 10) aNil)))))
  sNil)
  (sDrop (mApp (eV 4) (eTup (aCons (eV 6) (aCons (eV 8) (aCons (eV 7) aNil))))))))))))
  (sRet (eV 4))))
@[irreducible] def m__law_jobs : MF := fnB 7 b__law_jobs
def b_Job___init__ : MS :=
  (sq (sFld "Job" "ahead" (eV 0) (eTupOf (qE (eV 2))))
  (sq (sFld "Job" "vectors" (eV 0) (eNew (lLst aNil)))
  (sq (sFor (iEnum (qE (eV 3))) (gT [(gN 4), (gN 5)])
  (sq (sSet 6 (eBin opAdd (eLen (qE (eFld "Job" "ahead" (eV 0)))) (eV 4)))
  (sDrop (mApp (eFld "Job" "vectors" (eV 0)) (eMeth "Net" "plus" 3 m_Net_plus (eV 1) (aCons (eBin opIx (eFld "Net" "embed" (eV 1)) (eV 5)) (aCons (eNew (lLC [7] (iSeq (qE (eFld "Net" "shift" (eV 1)))) (gN 7) mYes (eBin opMul (eV 6) (eV 7)))) aNil)))))))
  (sFld "Job" "pairs" (eV 0) (eNew (lLC [8] (iSeq (qE (eV 3))) (gN 8) mYes (eTup aNil)))))))
@[irreducible] def m_Job___init__ : MF := fnB 5 b_Job___init__
def b_Job_go_through : MS :=
  (sq (sAsg (gT [(gN 3), (gN 4), (gN 5), (gN 6), (gN 7)]) (eBin opIx (eFld "Net" "layers" (eV 1)) (eV 2)))
  (sq (sSet 8 (eNew (lLC [12] (iSeq (qE (eFld "Job" "vectors" (eV 0)))) (gN 12) mYes (eTup (aCons (eMeth "Net" "times" 3 m_Net_times (eV 1) (aCons (eV 4) (aCons (eV 12) aNil))) (aCons (eMeth "Net" "times" 3 m_Net_times (eV 1) (aCons (eV 5) (aCons (eV 12) aNil))) aNil))))))
  (sq (sSet 9 (eNew (lCat (qL (lLC [15] (iSeq (qE (eFld "Job" "ahead" (eV 0)))) (gN 15) mYes (eBin opIx (eBin opIx (eV 15) (eC (.int 0))) (eV 2)))) (qE (eV 8)))))
  (sq (sSet 10 (eNew (lLst aNil)))
  (sq (sFor (iEnum (qE (eFld "Job" "vectors" (eV 0)))) (gT [(gN 11), (gN 12)])
  (sq (sSet 13 (eNew (lSl (qE (eV 9)) oNone (oSome (eBin opAdd (eBin opAdd (eLen (qE (eFld "Job" "ahead" (eV 0)))) (eV 11)) (eC (.int 1)))))))
  (sq (sSet 12 (eMeth "Net" "plus" 3 m_Net_plus (eV 1) (aCons (eV 12) (aCons (eMeth "Net" "looked_at" 3 m_Net_looked_at (eV 1) (aCons (eMeth "Net" "times" 3 m_Net_times (eV 1) (aCons (eV 3) (aCons (eV 12) aNil))) (aCons (eV 13) aNil))) aNil))))
  (sq (sSet 14 (eNew (lLC [16] (iSeq (qE (eMeth "Net" "times" 3 m_Net_times (eV 1) (aCons (eV 6) (aCons (eV 12) aNil))))) (gN 16) mYes (eBin opMul (eV 16) (eV 16)))))
  (sDrop (mApp (eV 10) (eMeth "Net" "plus" 3 m_Net_plus (eV 1) (aCons (eV 12) (aCons (eMeth "Net" "times" 3 m_Net_times (eV 1) (aCons (eV 7) (aCons (eV 14) aNil))) aNil)))))))))
  (sq (sFld "Job" "vectors" (eV 0) (eV 10))
  (sFld "Job" "pairs" (eV 0) (eNew (lLC [15, 17] (iZip (qE (eFld "Job" "pairs" (eV 0))) (qE (eV 8))) (gT [(gN 15), (gN 17)]) mYes (eBin opAdd (eV 15) (eTup (aCons (eV 17) aNil))))))))))))
@[irreducible] def m_Job_go_through : MF := fnB 15 b_Job_go_through
def b_Job_rows : MS :=
  (sq (sSet 2 (eNew (lLst aNil)))
  (sq (sFor (iZip (qE (eFld "Job" "pairs" (eV 0))) (qE (eFld "Job" "vectors" (eV 0)))) (gT [(gN 3), (gN 4)])
  (sq (sSet 5 (eNew (lLC [6] (iSeq (qE (eFld "Net" "out" (eV 1)))) (gN 6) mYes (eBin opAdd (eC (.int 1)) (eMeth "Net" "rest" 2 m_Net_rest (eV 1) (aCons (eCall 2 m_product_sum (aCons (eV 6) (aCons (eV 4) aNil))) aNil))))))
  (sDrop (mApp (eV 2) (eTup (aCons (eV 3) (aCons (eTupOf (qE (eV 5))) aNil)))))))
  (sRet (eTupOf (qE (eV 2))))))
@[irreducible] def m_Job_rows : MF := fnB 5 b_Job_rows
def b_rows_in_batch : MS :=
  (sq (sFor (iSeq (qE (eV 1))) (gT [(gN 2), (gN 3)])
  (sFor (iSeq (qE (eV 3))) (gN 4)
  (sIf (tNot3 (tOf (eMeth "Net" "is_letter" 2 m_Net_is_letter (eV 0) (aCons (eV 4) aNil))))
  (sRaise "InvalidLetter" (aCons (eV 4) aNil))
  sNil)))
  (sq (sSet 5 (eNew (lLC [8, 3] (iSeq (qE (eV 1))) (gT [(gN 8), (gN 3)]) mYes (eMake "Job" 4 m_Job___init__ (aCons (eV 0) (aCons (eV 8) (aCons (eV 3) aNil)))))))
  (sq (sFor (iRng1 (eLen (qE (eFld "Net" "layers" (eV 0))))) (gN 6)
  (sFor (iSeq (qE (eV 5))) (gN 7)
  (sDrop (eMeth "Job" "go_through" 3 m_Job_go_through (eV 7) (aCons (eV 0) (aCons (eV 6) aNil))))))
  (sRet (eTupOf (qL (lLC [7] (iSeq (qE (eV 5))) (gN 7) mYes (eMeth "Job" "rows" 2 m_Job_rows (eV 7) (aCons (eV 0) aNil)))))))))
@[irreducible] def m_rows_in_batch : MF := fnB 7 b_rows_in_batch
def b__law_in_batch : MS :=
  (sq (sSet 5 (eCall 4 m__law_jobs (aCons (eV 0) (aCons (eV 3) (aCons (eV 4) (aCons (eLen (qE (eBin opIx (eV 2) (eC (.int 1))))) aNil))))))
  (sq (sSet 6 (eNew (lLst aNil)))
  (sq (sFor (iSeq (qE (eV 5))) (gN 7)
  (sDrop (mApp (eV 6) (eTupOf (qL (lSl (qE (eCall 2 m__law_rows (aCons (eV 2) (aCons (eBin opAdd (eSlT (eV 3) oNone (oSome (eBin opIx (eV 7) (eC (.int 0))))) (eBin opIx (eV 7) (eC (.int 2)))) aNil)))) (oSome (eBin opIx (eV 7) (eC (.int 0)))) oNone))))))
  (sq (sSet 8 (eNew (lLC [7] (iSeq (qE (eV 5))) (gN 7) mYes (eTup (aCons (eBin opIx (eV 7) (eC (.int 1))) (aCons (eNew (lOf (qE (eBin opIx (eV 7) (eC (.int 2)))))) aNil))))))
  (sRet (eCall 2 (m__law_same 12) (aCons (eCall 2 m_rows_in_batch (aCons (eV 1) (aCons (eV 8) aNil))) (aCons (eTupOf (qE (eV 6))) aNil))))))))
@[irreducible] def m__law_in_batch : MF := fnB 4 b__law_in_batch
def b_law : MS :=
  (sq (sSet 1 (eCall 1 m__law_pool (aCons (eV 0) aNil)))
  (sq (sSet 2 (eTup (aCons (eTup (aCons (eC (.int 3)) (aCons (eC (.int 2)) (aCons (eC (.int 1)) (aCons (eC (.int 4)) aNil))))) (aCons (eTup (aCons (eC (.int 12)) (aCons (eC (.int 1)) (aCons (eC (.int 1)) (aCons (eC (.int 4)) aNil))))) (aCons (eTup (aCons (eC (.int 2)) (aCons (eC (.int 3)) (aCons (eC (.int 1)) (aCons (eC (.int 3)) aNil))))) (aCons (eTup (aCons (eC (.int 4)) (aCons (eC (.int 2)) (aCons (eC (.int 2)) (aCons (eC (.int 3)) aNil))))) (aCons (eTup (aCons (eC (.int 5)) (aCons (eC (.int 4)) (aCons (eC (.int 1)) (aCons (eC (.int 2)) aNil))))) (aCons (eTup (aCons (eC (.int 3)) (aCons (eC (.int 3)) (aCons (eC (.int 2)) (aCons (eC (.int 2)) aNil))))) (aCons (eTup (aCons (eC (.int 12)) (aCons (eC (.int 2)) (aCons (eC (.int 1)) (aCons (eC (.int 3)) aNil))))) (aCons (eTup (aCons (eC (.int 2)) (aCons (eC (.int 2)) (aCons (eC (.int 0)) (aCons (eC (.int 4)) aNil))))) (aCons (eTup (aCons (eC (.int 3)) (aCons (eC (.int 4)) (aCons (eC (.int 3)) (aCons (eC (.int 2)) aNil))))) (aCons (eTup (aCons (eC (.int 7)) (aCons (eC (.int 4)) (aCons (eC (.int 1)) (aCons (eC (.int 3)) aNil))))) aNil))))))))))))
  (sq (sAsg (gT [(gN 3), (gN 4), (gN 5), (gN 6)]) (eBin opIx (eV 2) (eCall 2 m__law_draw (aCons (eV 1) (aCons (eC (.int 10)) aNil)))))
  (sq (sSet 7 (eCall 5 m__law_net (aCons (eV 1) (aCons (eV 3) (aCons (eV 4) (aCons (eV 5) (aCons (eBin opEq (eCall 2 m__law_draw (aCons (eV 1) (aCons (eC (.int 3)) aNil))) (eC (.int 0))) aNil)))))))
  (sq (sSet 8 (eMake "Net" 7 m_Net___init__ (aCons (eBin opIx (eV 7) (eC (.int 0))) (aCons (eBin opIx (eV 7) (eC (.int 1))) (aCons (eBin opIx (eV 7) (eC (.int 2))) (aCons (eBin opIx (eV 7) (eC (.int 3))) (aCons (eBin opIx (eV 7) (eC (.int 4))) (aCons (eBin opIx (eV 7) (eC (.int 5))) aNil))))))))
  (sq (sSet 9 (eCall 3 m__law_numbers (aCons (eV 1) (aCons (eV 6) (aCons (eV 3) aNil)))))
  (sq (sSet 10 (eCall 2 m__law_rows (aCons (eV 7) (aCons (eV 9) aNil))))
  (sq (sSet 11 (eNew (lLst aNil)))
  (sq (sSet 12 (eNew (lLst aNil)))
  (sq (sFor (iRng1 (eC (.int 2))) (gN 13)
  (sq (sSet 14 (eBin opAdd (eC (.int 1)) (eCall 2 m__law_draw (aCons (eV 1) (aCons (eV 4) aNil)))))
  (sq (sDrop (mApp (eV 11) (eMake "Crew" 3 m_Crew___init__ (aCons (eV 8) (aCons (eV 14) aNil)))))
  (sq (sDrop (mApp (eV 12) (eDict (pCons (eC (.str "many")) (eV 14) (pCons (eC (.str "rounds")) (eBin opMul (eC (.int 5)) (eV 5)) (pCons (eC (.str "waiting")) (eNew (lLst aNil)) (pCons (eC (.str "present")) (eC (.int 0)) (pCons (eC (.str "added")) (eNew (lLst aNil)) pNil))))))))
  (sIf (tNot3 (tOf (eCall 2 (m__law_same 12) (aCons (eTup (aCons (eMeth "Crew" "row" 1 m_Crew_row (eBin opIx (eV 11) (eV 13)) aNil) (aCons (eMeth "Crew" "waiting" 1 m_Crew_waiting (eBin opIx (eV 11) (eV 13)) aNil) aNil))) (aCons (eTup (aCons (eC .non) (aCons (eTup aNil) aNil))) aNil)))))
  (sRet (eC (.bl false)))
  sNil)))))
  (sq (sSet 15 (eNew (lLst aNil)))
  (sq (sFor (iRng1 (eV 6)) (gN 13)
  (sq (sSet 16 (eCall 2 m__law_draw (aCons (eV 1) (aCons (eC (.int 2)) aNil))))
  (sq (sSet 17 (eBin opIx (eV 11) (eV 16)))
  (sq (sIf (tOf (eBin opEq (eCall 2 m__law_draw (aCons (eV 1) (aCons (eC (.int 3)) aNil))) (eC (.int 0))))
  (sq (sDrop (eMeth "Crew" "begin" 3 m_Crew_begin (eBin opIx (eV 11) (eBin opSub (eC (.int 1)) (eV 16))) (aCons (eV 15) (aCons (eCall 2 m__law_draw (aCons (eV 1) (aCons (eV 3) aNil))) aNil))))
  (sq (sDrop (eCall 1 m__law_begins (aCons (eBin opIx (eV 12) (eBin opSub (eC (.int 1)) (eV 16))) aNil)))
  (sIf (tNot3 (tOf (eCall 4 m__law_some_deeds (aCons (eV 1) (aCons (eBin opIx (eV 11) (eBin opSub (eC (.int 1)) (eV 16))) (aCons (eBin opIx (eV 12) (eBin opSub (eC (.int 1)) (eV 16))) (aCons (eC (.int 2)) aNil)))))))
  (sRet (eC (.bl false)))
  sNil)))
  sNil)
  (sq (sSet 18 (eNew (lLC [19] (iSeq (qE (eV 15))) (gN 19) mYes (eCall 1 m__law_listed (aCons (eV 19) aNil)))))
  (sq (sIf (tOf (eBin opEq (eCall 2 m__law_draw (aCons (eV 1) (aCons (eC (.int 2)) aNil))) (eC (.int 0))))
  (sSet 18 (eNew (lOf (qE (eV 15)))))
  sNil)
  (sq (sIf (tOf (eUn opNotN (eMeth "Crew" "begin" 3 m_Crew_begin (eV 17) (aCons (eV 18) (aCons (eBin opIx (eV 9) (eV 13)) aNil)))))
  (sRet (eC (.bl false)))
  sNil)
  (sq (sDrop (mApp (eV 18) (eBin opIx (eV 10) (eC (.int 0)))))
  (sq (sDrop (eCall 1 m__law_begins (aCons (eBin opIx (eV 12) (eV 16)) aNil)))
  (sq (sIf (tNot3 (tOf (eCall 4 m__law_some_deeds (aCons (eV 1) (aCons (eV 17) (aCons (eBin opIx (eV 12) (eV 16)) (aCons (eCall 2 m__law_draw (aCons (eV 1) (aCons (eC (.int 8)) aNil))) aNil)))))))
  (sRet (eC (.bl false)))
  sNil)
  (sq (sIf (tAnd3 (tOf (eBin opEq (eCall 2 m__law_draw (aCons (eV 1) (aCons (eC (.int 2)) aNil))) (eC (.int 0)))) (tNot3 (tOf (eCall 3 m__law_refused (aCons (eV 17) (aCons (eV 15) (aCons (eBin opAdd (eV 3) (eCall 2 m__law_draw (aCons (eV 1) (aCons (eC (.int 3)) aNil)))) aNil)))))))
  (sRet (eC (.bl false)))
  sNil)
  (sq (sIf (tOr3 (tNot3 (tOf (eCall 3 m__law_delivered (aCons (eV 1) (aCons (eV 17) (aCons (eBin opIx (eV 12) (eV 16)) aNil)))))) (tNot3 (tOf (eCall 2 (m__law_same 12) (aCons (eTup (aCons (eMeth "Crew" "row" 1 m_Crew_row (eV 17) aNil) (aCons (eMeth "Crew" "row" 1 m_Crew_row (eV 17) aNil) aNil))) (aCons (eTup (aCons (eBin opIx (eV 10) (eV 13)) (aCons (eBin opIx (eV 10) (eV 13)) aNil))) aNil))))))
  (sRet (eC (.bl false)))
  sNil)
  (sDrop (mApp (eV 15) (eMeth "Crew" "row" 1 m_Crew_row (eV 17) aNil)))))))))))))))
  (sq (sIf (tNot3 (tOf (eCall 2 (m__law_same 12) (aCons (eTup (aCons (eMeth "Net" "row" 3 m_Net_row (eV 8) (aCons (eNew (lSl (qE (eV 15)) oNone (oSome (eBin opSub (eV 6) (eC (.int 1)))))) (aCons (eBin opIx (eV 9) (eBin opSub (eV 6) (eC (.int 1)))) aNil))) (aCons (eCall 2 m_rows_of (aCons (eV 8) (aCons (eNew (lOf (qE (eV 9)))) aNil))) aNil))) (aCons (eTup (aCons (eBin opIx (eV 10) (eBin opSub (eV 6) (eC (.int 1)))) (aCons (eTupOf (qE (eV 10))) aNil))) aNil)))))
  (sRet (eC (.bl false)))
  sNil)
  (sRet (eCall 5 m__law_in_batch (aCons (eV 1) (aCons (eV 8) (aCons (eV 7) (aCons (eV 9) (aCons (eV 15) aNil))))))))))))))))))))
def m_law : MF := fnB 19 b_law
end Law
set_option Elab.async false
set_option linter.all false
set_option maxRecDepth 100000
set_option maxHeartbeats 2000000
namespace Law
open PySem PySem.Spec PyProof.Rows L2 L3
def txTop (i : Nat) : Stmt := PySem.Challenge.pw_servedalone_k00_whole_rows_by_crews_and.main.body.getD i (.Pass ⟨0, 0, 0, 0⟩)
theorem hu65 {A : Around} {k : Nat} (hr : Room k A) : A.units + 65 < cLine := by have := hr.un; omega
abbrev st__law_pool : Stmt := (txTop 24)
abbrev st__law_draw : Stmt := (txTop 25)
abbrev st__law_numbers : Stmt := (txTop 26)
abbrev st__law_net : Stmt := (txTop 27)
abbrev st_is_between : Stmt := (txTop 6)
abbrev st_vector_of : Stmt := (txTop 7)
abbrev st_matrix_of : Stmt := (txTop 8)
abbrev st_Net___init__ : Stmt := (inClass (txTop 10) 0)
abbrev st__law_dot : Stmt := (txTop 28)
abbrev st__law_times : Stmt := (txTop 29)
abbrev st__law_row : Stmt := (txTop 30)
abbrev st__law_rows : Stmt := (txTop 31)
abbrev st_Crew_begin_round : Stmt := (inClass (txTop 17) 1)
abbrev st_Crew___init__ : Stmt := (inClass (txTop 17) 0)
abbrev st_Crew_is_done : Stmt := (inClass (txTop 17) 2)
abbrev st_Net_rest : Stmt := (inClass (txTop 10) 3)
abbrev st_product_sum : Stmt := (txTop 9)
abbrev st_Crew_row : Stmt := (inClass (txTop 17) 15)
abbrev st_Crew_waiting : Stmt := (inClass (txTop 17) 5)
abbrev st__law_same : Stmt := (txTop 32)
abbrev st_Net_is_letter : Stmt := (inClass (txTop 10) 2)
abbrev st_Net_plus : Stmt := (inClass (txTop 10) 5)
abbrev st_Crew_send_all : Stmt := (inClass (txTop 17) 4)
abbrev st_Crew_begin : Stmt := (inClass (txTop 17) 3)
abbrev st__law_begins : Stmt := (txTop 34)
abbrev st_Crew_double : Stmt := (inClass (txTop 17) 13)
abbrev st__law_is_wanted : Stmt := (txTop 35)
abbrev st_Crew_take_out : Stmt := (inClass (txTop 17) 9)
abbrev st_Crew_is_wanted : Stmt := (inClass (txTop 17) 10)
abbrev st_Crew_lose : Stmt := (inClass (txTop 17) 14)
abbrev st__law_arrives : Stmt := (txTop 36)
abbrev st_Net_looked_at : Stmt := (inClass (txTop 10) 6)
abbrev st_Crew_inner : Stmt := (inClass (txTop 17) 7)
abbrev st_Crew_factor : Stmt := (inClass (txTop 17) 6)
abbrev st_Crew_part : Stmt := (inClass (txTop 17) 8)
abbrev st_Crew_end_round : Stmt := (inClass (txTop 17) 12)
abbrev st_Crew_deliver : Stmt := (inClass (txTop 17) 11)
abbrev st__law_some_deeds : Stmt := (txTop 37)
abbrev st__law_listed : Stmt := (txTop 33)
abbrev st__law_refused : Stmt := (txTop 38)
abbrev st__law_delivered : Stmt := (txTop 39)
abbrev st_Net_times : Stmt := (inClass (txTop 10) 4)
abbrev st_Net_row : Stmt := (inClass (txTop 10) 7)
abbrev st_rows_of : Stmt := (txTop 22)
abbrev st__law_jobs : Stmt := (txTop 40)
abbrev st_Job___init__ : Stmt := (inClass (txTop 19) 0)
abbrev st_Job_go_through : Stmt := (inClass (txTop 19) 1)
abbrev st_Job_rows : Stmt := (inClass (txTop 19) 2)
abbrev st_rows_in_batch : Stmt := (txTop 20)
abbrev st__law_in_batch : Stmt := (txTop 41)
abbrev st_law : Stmt := (txTop 42)
abbrev st_InvalidLetter___init__ : Stmt := (inClass (txTop 3) 0)
abbrev st_InvalidNumber___init__ : Stmt := (inClass (txTop 2) 0)
/-- what the text says -/
structure Txt (K : PySem.W.Frag) (mg : Str → Option Value) : Prop where
  b_bool : mg "bool" = none
  b_enumerate : mg "enumerate" = none
  b_int : mg "int" = none
  b_isinstance : mg "isinstance" = none
  b_len : mg "len" = none
  b_list : mg "list" = none
  b_range : mg "range" = none
  b_str : mg "str" = none
  b_sum : mg "sum" = none
  b_tuple : mg "tuple" = none
  b_zip : mg "zip" = none
  f_Crew_ahead : ClsFT K mg "Crew" "ahead"
  f_Crew_had : ClsFT K mg "Crew" "had"
  f_Crew_many : ClsFT K mg "Crew" "many"
  f_Crew_net : ClsFT K mg "Crew" "net"
  f_Crew_number : ClsFT K mg "Crew" "number"
  f_Crew_own : ClsFT K mg "Crew" "own"
  f_Crew_results : ClsFT K mg "Crew" "results"
  f_Crew_sent : ClsFT K mg "Crew" "sent"
  f_Crew_sum : ClsFT K mg "Crew" "sum"
  f_Crew_vector : ClsFT K mg "Crew" "vector"
  f_Job_ahead : ClsFT K mg "Job" "ahead"
  f_Job_pairs : ClsFT K mg "Job" "pairs"
  f_Job_vectors : ClsFT K mg "Job" "vectors"
  f_Net_embed : ClsFT K mg "Net" "embed"
  f_Net_end : ClsFT K mg "Net" "end"
  f_Net_layers : ClsFT K mg "Net" "layers"
  f_Net_out : ClsFT K mg "Net" "out"
  f_Net_prime : ClsFT K mg "Net" "prime"
  f_Net_shift : ClsFT K mg "Net" "shift"
  g_FIRST : GlobT K mg "FIRST" g_FIRST
  g_KEY : GlobT K mg "KEY" g_KEY
  g_PRIMES : GlobT K mg "PRIMES" g_PRIMES
  g_QUERY : GlobT K mg "QUERY" g_QUERY
  g_SECOND : GlobT K mg "SECOND" g_SECOND
  g_VALUE : GlobT K mg "VALUE" g_VALUE
  e_InvalidLetter : ExT K mg "InvalidLetter" "InvalidLetter.__init__" st_InvalidLetter___init__
  e_InvalidNumber : ExT K mg "InvalidNumber" "InvalidNumber.__init__" st_InvalidNumber___init__
  d__law_pool : FunT K mg "_law_pool" "_law_pool" st__law_pool
  d__law_draw : FunT K mg "_law_draw" "_law_draw" st__law_draw
  d__law_numbers : FunT K mg "_law_numbers" "_law_numbers" st__law_numbers
  d__law_net : FunT K mg "_law_net" "_law_net" st__law_net
  d_is_between : FunT K mg "is_between" "is_between" st_is_between
  d_vector_of : FunT K mg "vector_of" "vector_of" st_vector_of
  d_matrix_of : FunT K mg "matrix_of" "matrix_of" st_matrix_of
  d_Net___init__ : MkT K mg "Net" "Net.__init__" st_Net___init__
  d__law_dot : FunT K mg "_law_dot" "_law_dot" st__law_dot
  d__law_times : FunT K mg "_law_times" "_law_times" st__law_times
  d__law_row : FunT K mg "_law_row" "_law_row" st__law_row
  d__law_rows : FunT K mg "_law_rows" "_law_rows" st__law_rows
  d_Crew_begin_round : MethT K mg "Crew" (nm "begin_round") "Crew.begin_round" st_Crew_begin_round
  d_Crew___init__ : MkT K mg "Crew" "Crew.__init__" st_Crew___init__
  d_Crew_is_done : MethT K mg "Crew" (nm "is_done") "Crew.is_done" st_Crew_is_done
  d_Net_rest : MethT K mg "Net" (nm "rest") "Net.rest" st_Net_rest
  d_product_sum : FunT K mg "product_sum" "product_sum" st_product_sum
  d_Crew_row : MethT K mg "Crew" (nm "row") "Crew.row" st_Crew_row
  d_Crew_waiting : MethT K mg "Crew" (nm "waiting") "Crew.waiting" st_Crew_waiting
  d__law_same : FunT K mg "_law_same" "_law_same" st__law_same
  d_Net_is_letter : MethT K mg "Net" (nm "is_letter") "Net.is_letter" st_Net_is_letter
  d_Net_plus : MethT K mg "Net" (nm "plus") "Net.plus" st_Net_plus
  d_Crew_send_all : MethT K mg "Crew" (nm "send_all") "Crew.send_all" st_Crew_send_all
  d_Crew_begin : MethT K mg "Crew" (nm "begin") "Crew.begin" st_Crew_begin
  d__law_begins : FunT K mg "_law_begins" "_law_begins" st__law_begins
  d_Crew_double : MethT K mg "Crew" (nm "double") "Crew.double" st_Crew_double
  d__law_is_wanted : FunT K mg "_law_is_wanted" "_law_is_wanted" st__law_is_wanted
  d_Crew_take_out : MethT K mg "Crew" (nm "take_out") "Crew.take_out" st_Crew_take_out
  d_Crew_is_wanted : MethT K mg "Crew" (nm "is_wanted") "Crew.is_wanted" st_Crew_is_wanted
  d_Crew_lose : MethT K mg "Crew" (nm "lose") "Crew.lose" st_Crew_lose
  d__law_arrives : FunT K mg "_law_arrives" "_law_arrives" st__law_arrives
  d_Net_looked_at : MethT K mg "Net" (nm "looked_at") "Net.looked_at" st_Net_looked_at
  d_Crew_inner : MethT K mg "Crew" (nm "inner") "Crew.inner" st_Crew_inner
  d_Crew_factor : MethT K mg "Crew" (nm "factor") "Crew.factor" st_Crew_factor
  d_Crew_part : MethT K mg "Crew" (nm "part") "Crew.part" st_Crew_part
  d_Crew_end_round : MethT K mg "Crew" (nm "end_round") "Crew.end_round" st_Crew_end_round
  d_Crew_deliver : MethT K mg "Crew" (nm "deliver") "Crew.deliver" st_Crew_deliver
  d__law_some_deeds : FunT K mg "_law_some_deeds" "_law_some_deeds" st__law_some_deeds
  d__law_listed : FunT K mg "_law_listed" "_law_listed" st__law_listed
  d__law_refused : FunT K mg "_law_refused" "_law_refused" st__law_refused
  d__law_delivered : FunT K mg "_law_delivered" "_law_delivered" st__law_delivered
  d_Net_times : MethT K mg "Net" (nm "times") "Net.times" st_Net_times
  d_Net_row : MethT K mg "Net" (nm "row") "Net.row" st_Net_row
  d_rows_of : FunT K mg "rows_of" "rows_of" st_rows_of
  d__law_jobs : FunT K mg "_law_jobs" "_law_jobs" st__law_jobs
  d_Job___init__ : MkT K mg "Job" "Job.__init__" st_Job___init__
  d_Job_go_through : MethT K mg "Job" (nm "go_through") "Job.go_through" st_Job_go_through
  d_Job_rows : MethT K mg "Job" (nm "rows") "Job.rows" st_Job_rows
  d_rows_in_batch : FunT K mg "rows_in_batch" "rows_in_batch" st_rows_in_batch
  d__law_in_batch : FunT K mg "_law_in_batch" "_law_in_batch" st__law_in_batch
  d_law : FunT K mg "law" "law" st_law
section
variable {P : Program} {w : World} {K : PySem.W.Frag} {mg : Str → Option Value} {base : Heap}
theorem x_InvalidLetter (T : Txt K mg) : ExAt P w K mg base "InvalidLetter" := exAt (ps := ["self", "letter"]) T.e_InvalidLetter ⟨rfl, rfl, rfl, by decide +kernel, rfl, by decide +kernel, by decide +kernel⟩ (fun _ _ _ _ _ _ us hl => match us, hl with | [_, _], _ => rfl) rfl fun f cdv A outer s H E => pss_one (ps_ost (pv 0) (pv 1))
theorem x_InvalidNumber (T : Txt K mg) : ExAt P w K mg base "InvalidNumber" := exAt (ps := ["self", "number"]) T.e_InvalidNumber ⟨rfl, rfl, rfl, by decide +kernel, rfl, by decide +kernel, by decide +kernel⟩ (fun _ _ _ _ _ _ us hl => match us, hl with | [_, _], _ => rfl) rfl fun f cdv A outer s H E => pss_one (ps_ost (pv 0) (pv 1))
abbrev N__law_pool : List Str := ["script", "cell"]
theorem sc__law_pool : FnScope N__law_pool ["script"] (defScope st__law_pool) := ⟨rfl, rfl, rfl, by decide +kernel, rfl, by decide +kernel, by decide +kernel⟩
theorem nd__law_pool : N__law_pool.Nodup := sc__law_pool.nd
theorem w__law_pool (T : Txt K mg) : FnAt P w K mg base 1 "_law_pool" 1 m__law_pool := by
  unfold m__law_pool
  exact (fnAt T.d__law_pool sc__law_pool (fun _ _ _ _ _ _ us hl => match us, hl with | [_], _ => rfl) fun f cdv A outer s H E hr =>
  (pb3_one (ps3_ret (pe3_new (pl3_lst (pa3_cons (pe3_new (pl3_lc rfl nd__law_pool (pi3_seq (pq3_l (pl3_sl (pq3_e (pe3_var 0)) po3_none (po3_some pe3_int)))) (blkOk_by (own := [("cell", 1)]) (by kernel_rfl)) rfl (fun _ _ _ _ _ => (pg3_name nd__law_pool rfl (by first | exact .inl rfl | exact .inr rfl))) (fun _ _ _ _ _ => pts3_nil) (fun _ _ _ _ _ => (pe3_intOf (pe3_var 1) (by rfl) T.b_int)))) (pa3_cons pe3_int (pa3_cons pe3_int (pa3_cons pe3_int (pa3_cons pe3_int pa3_nil))))))))))
abbrev N__law_draw : List Str := ["pool", "many", "told", "cell", "mixed"]
theorem sc__law_draw : FnScope N__law_draw ["pool", "many"] (defScope st__law_draw) := ⟨rfl, rfl, rfl, by decide +kernel, rfl, by decide +kernel, by decide +kernel⟩
theorem nd__law_draw : N__law_draw.Nodup := sc__law_draw.nd
theorem w__law_draw (T : Txt K mg) : FnAt P w K mg base 1 "_law_draw" 2 m__law_draw := by
  unfold m__law_draw
  exact (fnAt T.d__law_draw sc__law_draw (fun _ _ _ _ _ _ us hl => match us, hl with | [_, _], _ => rfl) fun f cdv A outer s H E hr =>
  (pb3_cons (ps3_ix (hu_of hr) (pe3_var 0) pe3_int (pe3_op op3_add nx_add (pe3_ix (hu_of hr) (pe3_var 0) pe3_int) pe3_int))
  (pb3_cons (ps3_if (pt3_cmp op3_gt nx_gt (pe3_ix (hu_of hr) (pe3_var 0) pe3_int) pe3_int (nomark _))
  (pb3_cons (ps3_set nd__law_draw rfl (by first | exact .inl rfl | exact .inr rfl) (pe3_op op3_mod nx_mod (pe3_intOf (pe3_ix (hu_of hr) (pe3_var 0) pe3_int) (by rfl) T.b_int) (pe3_var 1)))
  (pb3_cons (ps3_ix (hu_of hr) (pe3_var 0) pe3_int (pe3_op op3_div nx_div (pe3_ix (hu_of hr) (pe3_var 0) pe3_int) (pe3_var 1)))
  (pb3_one (ps3_ret (pe3_var 2)))))
  pb3_nil)
  (pb3_cons (ps3_set nd__law_draw rfl (by first | exact .inl rfl | exact .inr rfl) pe3_int)
  (pb3_cons (ps3_if (pt3_cmp op3_lt nx_lt (pe3_ix (hu_of hr) (pe3_var 0) pe3_int) (pe3_len (pq3_e (pe3_ix (hu_of hr) (pe3_var 0) pe3_int)) (by rfl) T.b_len) (nomark _))
  (pb3_cons (ps3_set nd__law_draw rfl (by first | exact .inl rfl | exact .inr rfl) (pe3_ix (hu_of hr) (pe3_ix (hu_of hr) (pe3_var 0) pe3_int) (pe3_ix (hu_of hr) (pe3_var 0) pe3_int)))
  (pb3_one (ps3_ix (hu_of hr) (pe3_var 0) pe3_int (pe3_op op3_add nx_add (pe3_ix (hu_of hr) (pe3_var 0) pe3_int) pe3_int))))
  pb3_nil)
  (pb3_cons (ps3_if (pt3_cmp op3_ge nx_ge (pe3_var 3) (pe3_op op3_pow nx_pow pe3_int pe3_int) (nomark _))
  (pb3_cons (ps3_set nd__law_draw rfl (by first | exact .inl rfl | exact .inr rfl) (pe3_op op3_mod nx_mod (pe3_intOf (pe3_var 3) (by rfl) T.b_int) (pe3_op op3_pow nx_pow pe3_int pe3_int)))
  (pb3_cons (ps3_ix (hu_of hr) (pe3_var 0) pe3_int (pe3_op op3_div nx_div (pe3_var 3) (pe3_var 1)))
  (pb3_one (ps3_ret (pe3_op op3_mod nx_mod (pe3_intOf (pe3_var 3) (by rfl) T.b_int) (pe3_var 1))))))
  pb3_nil)
  (pb3_cons (ps3_set nd__law_draw rfl (by first | exact .inl rfl | exact .inr rfl) (pe3_op op3_mod nx_mod (pe3_intOf (pe3_op op3_add nx_add (pe3_op op3_add nx_add (pe3_op op3_mul nx_mul (pe3_ix (hu_of hr) (pe3_var 0) pe3_int) pe3_int) (pe3_op op3_mul nx_mul (pe3_op op3_mod nx_mod (pe3_intOf (pe3_var 3) (by rfl) T.b_int) pe3_int) pe3_int)) (pe3_op op3_mul nx_mul (pe3_ix (hu_of hr) (pe3_var 0) pe3_int) pe3_int)) (by rfl) T.b_int) pe3_int))
  (pb3_cons (ps3_ix (hu_of hr) (pe3_var 0) pe3_int (pe3_var 4))
  (pb3_one (ps3_ret (pe3_op op3_mod nx_mod (pe3_intOf (pe3_op op3_add nx_add (pe3_op op3_div nx_div (pe3_var 4) pe3_int) (pe3_op op3_div nx_div (pe3_op op3_mul nx_mul (pe3_var 4) (pe3_var 4)) pe3_int)) (by rfl) T.b_int) (pe3_var 1))))))))))))
abbrev N__law_numbers : List Str := ["pool", "count", "below", "k"]
theorem sc__law_numbers : FnScope N__law_numbers ["pool", "count", "below"] (defScope st__law_numbers) := ⟨rfl, rfl, rfl, by decide +kernel, rfl, by decide +kernel, by decide +kernel⟩
theorem nd__law_numbers : N__law_numbers.Nodup := sc__law_numbers.nd
theorem w__law_numbers (T : Txt K mg) : FnAt P w K mg base 2 "_law_numbers" 3 m__law_numbers := by
  unfold m__law_numbers
  exact (fnAt T.d__law_numbers sc__law_numbers (fun _ _ _ _ _ _ us hl => match us, hl with | [_, _, _], _ => rfl) fun f cdv A outer s H E hr =>
  (pb3_one (ps3_ret (pe3_tupOf (pq3_l (pl3_lc rfl nd__law_numbers (pi3_rng1 (pe3_var 1) (by rfl) T.b_range) (blkOk_by (own := [("k", 3)]) (by kernel_rfl)) rfl (fun _ _ _ _ _ => (pg3_name nd__law_numbers rfl (by first | exact .inl rfl | exact .inr rfl))) (fun _ _ _ _ _ => pts3_nil) (fun _ _ _ _ _ => (pe3_call (w__law_draw T) (hr.mono (by decide)) (by rfl) (pa3_cons (pe3_var 0) (pa3_cons (pe3_var 2) pa3_nil)))))) (by rfl) T.b_tuple))))
abbrev N__law_net : List Str := ["pool", "letters", "width", "deep", "ended", "primes", "prime", "embed", "shift", "layers", "k", "layer", "j", "out", "end", "i"]
theorem sc__law_net : FnScope N__law_net ["pool", "letters", "width", "deep", "ended"] (defScope st__law_net) := ⟨rfl, rfl, rfl, by decide +kernel, rfl, by decide +kernel, by decide +kernel⟩
theorem nd__law_net : N__law_net.Nodup := sc__law_net.nd
theorem w__law_net (T : Txt K mg) : FnAt P w K mg base 3 "_law_net" 5 m__law_net := by
  unfold m__law_net
  exact (fnAt T.d__law_net sc__law_net (fun _ _ _ _ _ _ us hl => match us, hl with | [_, _, _, _, _], _ => rfl) fun f cdv A outer s H E hr =>
  (pb3_cons (ps3_set nd__law_net rfl (by first | exact .inl rfl | exact .inr rfl) (pe3_tup (pa3_cons pe3_int (pa3_cons pe3_int (pa3_cons pe3_int (pa3_cons pe3_int (pa3_cons pe3_int (pa3_cons pe3_int (pa3_cons pe3_int (pa3_cons pe3_int (pa3_cons pe3_int (pa3_cons pe3_int (pa3_cons pe3_int (pa3_cons pe3_int (pa3_cons pe3_int (pa3_cons pe3_int (pa3_cons pe3_int (pa3_cons pe3_int (pa3_cons pe3_int (pa3_cons pe3_int (pa3_cons pe3_int (pa3_cons pe3_int (pa3_cons pe3_int (pa3_cons pe3_int (pa3_cons pe3_int (pa3_cons pe3_int (pa3_cons pe3_int pa3_nil)))))))))))))))))))))))))))
  (pb3_cons (ps3_set nd__law_net rfl (by first | exact .inl rfl | exact .inr rfl) (pe3_ix (hu_of hr) (pe3_var 5) (pe3_call (w__law_draw T) (hr.mono (by decide)) (by rfl) (pa3_cons (pe3_var 0) (pa3_cons pe3_int pa3_nil)))))
  (pb3_cons (ps3_set nd__law_net rfl (by first | exact .inl rfl | exact .inr rfl) (pe3_tupOf (pq3_l (pl3_lc rfl nd__law_net (pi3_rng1 (pe3_var 1) (by rfl) T.b_range) (blkOk_by (own := [("k", 10)]) (by kernel_rfl)) rfl (fun _ _ _ _ _ => (pg3_name nd__law_net rfl (by first | exact .inl rfl | exact .inr rfl))) (fun _ _ _ _ _ => pts3_nil) (fun _ _ _ _ _ => (pe3_call (w__law_numbers T) (hr.mono (by decide)) (by rfl) (pa3_cons (pe3_var 0) (pa3_cons (pe3_var 2) (pa3_cons (pe3_var 6) pa3_nil))))))) (by rfl) T.b_tuple))
  (pb3_cons (ps3_set nd__law_net rfl (by first | exact .inl rfl | exact .inr rfl) (pe3_call (w__law_numbers T) (hr.mono (by decide)) (by rfl) (pa3_cons (pe3_var 0) (pa3_cons (pe3_var 2) (pa3_cons (pe3_var 6) pa3_nil)))))
  (pb3_cons (ps3_set nd__law_net rfl (by first | exact .inl rfl | exact .inr rfl) (pe3_new (pl3_lst pa3_nil)))
  (pb3_cons (ps3_for rfl (pi3_rng1 (pe3_var 3) (by rfl) T.b_range) (pg3_name nd__law_net rfl (by first | exact .inl rfl | exact .inr rfl))
  (pb3_cons (ps3_set nd__law_net rfl (by first | exact .inl rfl | exact .inr rfl) (pe3_new (pl3_lst pa3_nil)))
  (pb3_cons (ps3_for rfl (pi3_rng1 pe3_int (by rfl) T.b_range) (pg3_name nd__law_net rfl (by first | exact .inl rfl | exact .inr rfl))
  (pb3_one (ps3_expr (pe3_append (pe3_var 11) (pe3_tupOf (pq3_l (pl3_lc rfl nd__law_net (pi3_rng1 (pe3_var 2) (by rfl) T.b_range) (blkOk_by (own := [("i", 15)]) (by kernel_rfl)) rfl (fun _ _ _ _ _ => (pg3_name nd__law_net rfl (by first | exact .inl rfl | exact .inr rfl))) (fun _ _ _ _ _ => pts3_nil) (fun _ _ _ _ _ => (pe3_call (w__law_numbers T) (hr.mono (by decide)) (by rfl) (pa3_cons (pe3_var 0) (pa3_cons (pe3_var 2) (pa3_cons (pe3_var 6) pa3_nil))))))) (by rfl) T.b_tuple)))))
  (pb3_one (ps3_expr (pe3_append (pe3_var 9) (pe3_tupOf (pq3_e (pe3_var 11)) (by rfl) T.b_tuple)))))))
  (pb3_cons (ps3_set nd__law_net rfl (by first | exact .inl rfl | exact .inr rfl) (pe3_tupOf (pq3_l (pl3_lc rfl nd__law_net (pi3_rng1 (pe3_var 1) (by rfl) T.b_range) (blkOk_by (own := [("k", 10)]) (by kernel_rfl)) rfl (fun _ _ _ _ _ => (pg3_name nd__law_net rfl (by first | exact .inl rfl | exact .inr rfl))) (fun _ _ _ _ _ => pts3_nil) (fun _ _ _ _ _ => (pe3_call (w__law_numbers T) (hr.mono (by decide)) (by rfl) (pa3_cons (pe3_var 0) (pa3_cons (pe3_var 2) (pa3_cons (pe3_var 6) pa3_nil))))))) (by rfl) T.b_tuple))
  (pb3_cons (ps3_set nd__law_net rfl (by first | exact .inl rfl | exact .inr rfl) pe3_non)
  (pb3_cons (ps3_if (pt3_val (pe3_var 4))
  (pb3_one (ps3_set nd__law_net rfl (by first | exact .inl rfl | exact .inr rfl) (pe3_call (w__law_draw T) (hr.mono (by decide)) (by rfl) (pa3_cons (pe3_var 0) (pa3_cons (pe3_var 1) pa3_nil)))))
  pb3_nil)
  (pb3_one (ps3_ret (pe3_tup (pa3_cons (pe3_var 6) (pa3_cons (pe3_var 7) (pa3_cons (pe3_var 8) (pa3_cons (pe3_tupOf (pq3_e (pe3_var 9)) (by rfl) T.b_tuple) (pa3_cons (pe3_var 13) (pa3_cons (pe3_var 14) pa3_nil)))))))))))))))))))
abbrev N_is_between : List Str := ["value", "least", "most"]
theorem sc_is_between : FnScope N_is_between ["value", "least", "most"] (defScope st_is_between) := ⟨rfl, rfl, rfl, by decide +kernel, rfl, by decide +kernel, by decide +kernel⟩
theorem nd_is_between : N_is_between.Nodup := sc_is_between.nd
theorem w_is_between (T : Txt K mg) : FnAt P w K mg base 1 "is_between" 3 m_is_between := by
  unfold m_is_between
  exact (fnAt T.d_is_between sc_is_between (fun _ _ _ _ _ _ us hl => match us, hl with | [_, _, _], _ => rfl) fun f cdv A outer s H E hr =>
  (pb3_one (ps3_ret (pe3_and (pe3_isi (T := "int") (pe3_var 0) (by decide) (by rfl) T.b_isinstance (by rfl) T.b_int PyProof.Rows.Boot.int (by decide) (by decide)) (pe3_and (pe3_not (pe3_isi (T := "bool") (pe3_var 0) (by decide) (by rfl) T.b_isinstance (by rfl) T.b_bool PyProof.Rows.Boot.bool (by decide) (by decide))) (pe3_one (pe3_chain op3_le op3_le nx_le nx_le (pe3_var 1) (pe3_var 0) (pe3_var 2))))))))
abbrev N_vector_of : List Str := ["numbers"]
theorem sc_vector_of : FnScope N_vector_of ["numbers"] (defScope st_vector_of) := ⟨rfl, rfl, rfl, by decide +kernel, rfl, by decide +kernel, by decide +kernel⟩
theorem nd_vector_of : N_vector_of.Nodup := sc_vector_of.nd
theorem w_vector_of (T : Txt K mg) : FnAt P w K mg base 1 "vector_of" 1 m_vector_of := by
  unfold m_vector_of
  exact (fnAt T.d_vector_of sc_vector_of (fun _ _ _ _ _ _ us hl => match us, hl with | [_], _ => rfl) fun f cdv A outer s H E hr =>
  (pb3_one (ps3_ret (pe3_tupOf (pq3_e (pe3_var 0)) (by rfl) T.b_tuple))))
abbrev N_matrix_of : List Str := ["rows", "row"]
theorem sc_matrix_of : FnScope N_matrix_of ["rows"] (defScope st_matrix_of) := ⟨rfl, rfl, rfl, by decide +kernel, rfl, by decide +kernel, by decide +kernel⟩
theorem nd_matrix_of : N_matrix_of.Nodup := sc_matrix_of.nd
theorem w_matrix_of (T : Txt K mg) : FnAt P w K mg base 2 "matrix_of" 1 m_matrix_of := by
  unfold m_matrix_of
  exact (fnAt T.d_matrix_of sc_matrix_of (fun _ _ _ _ _ _ us hl => match us, hl with | [_], _ => rfl) fun f cdv A outer s H E hr =>
  (pb3_one (ps3_ret (pe3_tupOf (pq3_l (pl3_lc rfl nd_matrix_of (pi3_seq (pq3_e (pe3_var 0))) (blkOk_by (own := [("row", 1)]) (by kernel_rfl)) rfl (fun _ _ _ _ _ => (pg3_name nd_matrix_of rfl (by first | exact .inl rfl | exact .inr rfl))) (fun _ _ _ _ _ => pts3_nil) (fun _ _ _ _ _ => (pe3_call (w_vector_of T) (hr.mono (by decide)) (by rfl) (pa3_cons (pe3_var 1) pa3_nil))))) (by rfl) T.b_tuple))))
abbrev N_Net___init__ : List Str := ["self", "prime", "embed", "shift", "layers", "out", "end", "layer", "matrix"]
theorem sc_Net___init__ : FnScope N_Net___init__ ["self", "prime", "embed", "shift", "layers", "out", "end"] (defScope st_Net___init__) := ⟨rfl, rfl, rfl, by decide +kernel, rfl, by decide +kernel, by decide +kernel⟩
theorem nd_Net___init__ : N_Net___init__.Nodup := sc_Net___init__.nd
theorem w_Net___init__ (T : Txt K mg) : MkAt P w K mg base 3 "Net" 7 m_Net___init__ := by
  unfold m_Net___init__
  exact (mkAt T.d_Net___init__ sc_Net___init__ (fun _ _ _ _ _ _ us hl => match us, hl with | [_, _, _, _, _, _, _], _ => rfl) fun f cdv A outer s H E hr =>
  (pb3_cons (ps3_if (pt3_w (pw3_or (pt3_not (pt3_val (pe3_call (w_is_between T) (hr.mono (by decide)) (by rfl) (pa3_cons (pe3_var 1) (pa3_cons pe3_int (pa3_cons pe3_int pa3_nil)))))) (pw3_or1 (pt3_notIn (hu65 hr) (pe3_var 1) (pq3_e (pe3_globT (by rfl) T.g_PRIMES)) (by with_unfolding_all rfl)))))
  (pb3_one (ps3_raise (x_InvalidNumber T) rfl (hr.mono (by decide)) (by rfl) (pa3_cons (pe3_var 1) pa3_nil)))
  pb3_nil)
  (pb3_cons (ps3_fld ⟨T.f_Net_prime.ex⟩ (pe3_var 0) (pe3_var 1))
  (pb3_cons (ps3_fld ⟨T.f_Net_embed.ex⟩ (pe3_var 0) (pe3_call (w_matrix_of T) (hr.mono (by decide)) (by rfl) (pa3_cons (pe3_var 2) pa3_nil)))
  (pb3_cons (ps3_fld ⟨T.f_Net_shift.ex⟩ (pe3_var 0) (pe3_call (w_vector_of T) (hr.mono (by decide)) (by rfl) (pa3_cons (pe3_var 3) pa3_nil)))
  (pb3_cons (ps3_fld ⟨T.f_Net_layers.ex⟩ (pe3_var 0) (pe3_tupOf (pq3_l (pl3_lc rfl nd_Net___init__ (pi3_seq (pq3_e (pe3_var 4))) (blkOk_by (own := [("layer", 7)]) (by kernel_rfl)) rfl (fun _ _ _ _ _ => (pg3_name nd_Net___init__ rfl (by first | exact .inl rfl | exact .inr rfl))) (fun _ _ _ _ _ => pts3_nil) (fun _ _ _ _ _ => (pe3_tupOf (pq3_l (pl3_lc rfl nd_Net___init__ (pi3_seq (pq3_e (pe3_var 7))) (blkOk_by (own := [("matrix", 8)]) (by kernel_rfl)) rfl (fun _ _ _ _ _ => (pg3_name nd_Net___init__ rfl (by first | exact .inl rfl | exact .inr rfl))) (fun _ _ _ _ _ => pts3_nil) (fun _ _ _ _ _ => (pe3_call (w_matrix_of T) (hr.mono (by decide)) (by rfl) (pa3_cons (pe3_var 8) pa3_nil))))) (by rfl) T.b_tuple)))) (by rfl) T.b_tuple))
  (pb3_cons (ps3_fld ⟨T.f_Net_out.ex⟩ (pe3_var 0) (pe3_call (w_matrix_of T) (hr.mono (by decide)) (by rfl) (pa3_cons (pe3_var 5) pa3_nil)))
  (pb3_one (ps3_fld ⟨T.f_Net_end.ex⟩ (pe3_var 0) (pe3_var 6))))))))))
abbrev N__law_dot : List Str := ["first", "second", "k"]
theorem sc__law_dot : FnScope N__law_dot ["first", "second"] (defScope st__law_dot) := ⟨rfl, rfl, rfl, by decide +kernel, rfl, by decide +kernel, by decide +kernel⟩
theorem nd__law_dot : N__law_dot.Nodup := sc__law_dot.nd
theorem w__law_dot (T : Txt K mg) : FnAt P w K mg base 1 "_law_dot" 2 m__law_dot := by
  unfold m__law_dot
  exact (fnAt T.d__law_dot sc__law_dot (fun _ _ _ _ _ _ us hl => match us, hl with | [_, _], _ => rfl) fun f cdv A outer s H E hr =>
  (pb3_one (ps3_ret (pe3_sum rfl (pq3_l (pl3_lc rfl nd__law_dot (pi3_rng1 (pe3_len (pq3_e (pe3_var 0)) (by rfl) T.b_len) (by rfl) T.b_range) (blkOk_by (own := [("k", 2)]) (by kernel_rfl)) rfl (fun _ _ _ _ _ => (pg3_name nd__law_dot rfl (by first | exact .inl rfl | exact .inr rfl))) (fun _ _ _ _ _ => pts3_nil) (fun _ _ _ _ _ => (pe3_op op3_mul nx_mul (pe3_ix (hu_of hr) (pe3_var 0) (pe3_var 2)) (pe3_ix (hu_of hr) (pe3_var 1) (pe3_var 2)))))) (by rfl) T.b_sum))))
abbrev N__law_times : List Str := ["matrix", "vector", "prime", "line"]
theorem sc__law_times : FnScope N__law_times ["matrix", "vector", "prime"] (defScope st__law_times) := ⟨rfl, rfl, rfl, by decide +kernel, rfl, by decide +kernel, by decide +kernel⟩
theorem nd__law_times : N__law_times.Nodup := sc__law_times.nd
theorem w__law_times (T : Txt K mg) : FnAt P w K mg base 2 "_law_times" 3 m__law_times := by
  unfold m__law_times
  exact (fnAt T.d__law_times sc__law_times (fun _ _ _ _ _ _ us hl => match us, hl with | [_, _, _], _ => rfl) fun f cdv A outer s H E hr =>
  (pb3_one (ps3_ret (pe3_tupOf (pq3_l (pl3_lc rfl nd__law_times (pi3_seq (pq3_e (pe3_var 0))) (blkOk_by (own := [("line", 3)]) (by kernel_rfl)) rfl (fun _ _ _ _ _ => (pg3_name nd__law_times rfl (by first | exact .inl rfl | exact .inr rfl))) (fun _ _ _ _ _ => pts3_nil) (fun _ _ _ _ _ => (pe3_op op3_mod nx_mod (pe3_intOf (pe3_call (w__law_dot T) (hr.mono (by decide)) (by rfl) (pa3_cons (pe3_var 3) (pa3_cons (pe3_var 1) pa3_nil))) (by rfl) T.b_int) (pe3_var 2))))) (by rfl) T.b_tuple))))
abbrev N__law_row : List Str := ["model", "ahead", "letter", "prime", "wide", "x", "told", "at", "layer", "asked", "grown", "pair", "near", "y", "more", "k", "row", "number"]
theorem sc__law_row : FnScope N__law_row ["model", "ahead", "letter"] (defScope st__law_row) := ⟨rfl, rfl, rfl, by decide +kernel, rfl, by decide +kernel, by decide +kernel⟩
theorem nd__law_row : N__law_row.Nodup := sc__law_row.nd
theorem w__law_row (T : Txt K mg) : FnAt P w K mg base 3 "_law_row" 3 m__law_row := by
  unfold m__law_row
  exact (fnAt T.d__law_row sc__law_row (fun _ _ _ _ _ _ us hl => match us, hl with | [_, _, _], _ => rfl) fun f cdv A outer s H E hr =>
  (pb3_cons (ps3_set nd__law_row rfl (by first | exact .inl rfl | exact .inr rfl) (pe3_ix (hu_of hr) (pe3_var 0) pe3_int))
  (pb3_cons (ps3_set nd__law_row rfl (by first | exact .inl rfl | exact .inr rfl) (pe3_len (pq3_e (pe3_ix (hu_of hr) (pe3_var 0) pe3_int)) (by rfl) T.b_len))
  (pb3_cons (ps3_set nd__law_row rfl (by first | exact .inl rfl | exact .inr rfl) (pe3_new (pl3_lc rfl nd__law_row (pi3_rng1 (pe3_var 4) (by rfl) T.b_range) (blkOk_by (own := [("k", 15)]) (by kernel_rfl)) rfl (fun _ _ _ _ _ => (pg3_name nd__law_row rfl (by first | exact .inl rfl | exact .inr rfl))) (fun _ _ _ _ _ => pts3_nil) (fun _ _ _ _ _ => (pe3_op op3_mod nx_mod (pe3_intOf (pe3_op op3_add nx_add (pe3_ix (hu_of hr) (pe3_ix (hu_of hr) (pe3_ix (hu_of hr) (pe3_var 0) pe3_int) (pe3_var 2)) (pe3_var 15)) (pe3_op op3_mul nx_mul (pe3_len (pq3_e (pe3_var 1)) (by rfl) T.b_len) (pe3_ix (hu_of hr) (pe3_ix (hu_of hr) (pe3_var 0) pe3_int) (pe3_var 15)))) (by rfl) T.b_int) (pe3_var 3))))))
  (pb3_cons (ps3_set nd__law_row rfl (by first | exact .inl rfl | exact .inr rfl) (pe3_new (pl3_lst pa3_nil)))
  (pb3_cons (ps3_for rfl (pi3_rng1 (pe3_len (pq3_e (pe3_ix (hu_of hr) (pe3_var 0) pe3_int)) (by rfl) T.b_len) (by rfl) T.b_range) (pg3_name nd__law_row rfl (by first | exact .inl rfl | exact .inr rfl))
  (pb3_cons (ps3_set nd__law_row rfl (by first | exact .inl rfl | exact .inr rfl) (pe3_ix (hu_of hr) (pe3_ix (hu_of hr) (pe3_var 0) pe3_int) (pe3_var 7)))
  (pb3_cons (ps3_set nd__law_row rfl (by first | exact .inl rfl | exact .inr rfl) (pe3_call (w__law_times T) (hr.mono (by decide)) (by rfl) (pa3_cons (pe3_ix (hu_of hr) (pe3_var 8) pe3_int) (pa3_cons (pe3_var 5) (pa3_cons (pe3_var 3) pa3_nil)))))
  (pb3_cons (ps3_expr (pe3_append (pe3_var 6) (pe3_tup (pa3_cons (pe3_call (w__law_times T) (hr.mono (by decide)) (by rfl) (pa3_cons (pe3_ix (hu_of hr) (pe3_var 8) pe3_int) (pa3_cons (pe3_var 5) (pa3_cons (pe3_var 3) pa3_nil)))) (pa3_cons (pe3_call (w__law_times T) (hr.mono (by decide)) (by rfl) (pa3_cons (pe3_ix (hu_of hr) (pe3_var 8) pe3_int) (pa3_cons (pe3_var 5) (pa3_cons (pe3_var 3) pa3_nil)))) pa3_nil)))))
  (pb3_cons (ps3_set nd__law_row rfl (by first | exact .inl rfl | exact .inr rfl) (pe3_new (pl3_listOf (pq3_e (pe3_var 5)) (by rfl) T.b_list)))
  (pb3_cons (ps3_for rfl (pi3_seq (pq3_l (pl3_cat (pq3_l (pl3_lc rfl nd__law_row (pi3_seq (pq3_e (pe3_var 1))) (blkOk_by (own := [("row", 16)]) (by kernel_rfl)) rfl (fun _ _ _ _ _ => (pg3_name nd__law_row rfl (by first | exact .inl rfl | exact .inr rfl))) (fun _ _ _ _ _ => pts3_nil) (fun _ _ _ _ _ => (pe3_ix (hu_of hr) (pe3_ix (hu_of hr) (pe3_var 16) pe3_int) (pe3_var 7))))) (pq3_l (pl3_lst (pa3_cons (pe3_ix (hu_of hr) (pe3_var 6) (pe3_var 7)) pa3_nil)))))) (pg3_name nd__law_row rfl (by first | exact .inl rfl | exact .inr rfl))
  (pb3_cons (ps3_set nd__law_row rfl (by first | exact .inl rfl | exact .inr rfl) (pe3_op op3_mod nx_mod (pe3_intOf (pe3_call (w__law_dot T) (hr.mono (by decide)) (by rfl) (pa3_cons (pe3_var 9) (pa3_cons (pe3_ix (hu_of hr) (pe3_var 11) pe3_int) pa3_nil))) (by rfl) T.b_int) (pe3_var 3)))
  (pb3_one (ps3_set nd__law_row rfl (by first | exact .inl rfl | exact .inr rfl) (pe3_new (pl3_lc rfl nd__law_row (pi3_rng1 (pe3_var 4) (by rfl) T.b_range) (blkOk_by (own := [("k", 15)]) (by kernel_rfl)) rfl (fun _ _ _ _ _ => (pg3_name nd__law_row rfl (by first | exact .inl rfl | exact .inr rfl))) (fun _ _ _ _ _ => pts3_nil) (fun _ _ _ _ _ => (pe3_op op3_add nx_add (pe3_ix (hu_of hr) (pe3_var 10) (pe3_var 15)) (pe3_op op3_mul nx_mul (pe3_var 12) (pe3_ix (hu_of hr) (pe3_ix (hu_of hr) (pe3_var 11) pe3_int) (pe3_var 15)))))))))))
  (pb3_cons (ps3_set nd__law_row rfl (by first | exact .inl rfl | exact .inr rfl) (pe3_new (pl3_lc rfl nd__law_row (pi3_seq (pq3_e (pe3_var 10))) (blkOk_by (own := [("number", 17)]) (by kernel_rfl)) rfl (fun _ _ _ _ _ => (pg3_name nd__law_row rfl (by first | exact .inl rfl | exact .inr rfl))) (fun _ _ _ _ _ => pts3_nil) (fun _ _ _ _ _ => (pe3_op op3_mod nx_mod (pe3_intOf (pe3_var 17) (by rfl) T.b_int) (pe3_var 3))))))
  (pb3_cons (ps3_set nd__law_row rfl (by first | exact .inl rfl | exact .inr rfl) (pe3_call (w__law_times T) (hr.mono (by decide)) (by rfl) (pa3_cons (pe3_ix (hu_of hr) (pe3_var 8) pe3_int) (pa3_cons (pe3_var 5) (pa3_cons (pe3_var 3) pa3_nil)))))
  (pb3_cons (ps3_set nd__law_row rfl (by first | exact .inl rfl | exact .inr rfl) (pe3_call (w__law_times T) (hr.mono (by decide)) (by rfl) (pa3_cons (pe3_ix (hu_of hr) (pe3_var 8) pe3_int) (pa3_cons (pe3_new (pl3_lc rfl nd__law_row (pi3_seq (pq3_e (pe3_var 13))) (blkOk_by (own := [("number", 17)]) (by kernel_rfl)) rfl (fun _ _ _ _ _ => (pg3_name nd__law_row rfl (by first | exact .inl rfl | exact .inr rfl))) (fun _ _ _ _ _ => pts3_nil) (fun _ _ _ _ _ => (pe3_op op3_mul nx_mul (pe3_var 17) (pe3_var 17))))) (pa3_cons (pe3_var 3) pa3_nil)))))
  (pb3_one (ps3_set nd__law_row rfl (by first | exact .inl rfl | exact .inr rfl) (pe3_new (pl3_lc rfl nd__law_row (pi3_rng1 (pe3_var 4) (by rfl) T.b_range) (blkOk_by (own := [("k", 15)]) (by kernel_rfl)) rfl (fun _ _ _ _ _ => (pg3_name nd__law_row rfl (by first | exact .inl rfl | exact .inr rfl))) (fun _ _ _ _ _ => pts3_nil) (fun _ _ _ _ _ => (pe3_op op3_mod nx_mod (pe3_intOf (pe3_op op3_add nx_add (pe3_ix (hu_of hr) (pe3_var 5) (pe3_var 15)) (pe3_ix (hu_of hr) (pe3_var 14) (pe3_var 15))) (by rfl) T.b_int) (pe3_var 3))))))))))))))))
  (pb3_one (ps3_ret (pe3_tup (pa3_cons (pe3_tupOf (pq3_e (pe3_var 6)) (by rfl) T.b_tuple) (pa3_cons (pe3_tupOf (pq3_l (pl3_lc rfl nd__law_row (pi3_seq (pq3_e (pe3_call (w__law_times T) (hr.mono (by decide)) (by rfl) (pa3_cons (pe3_ix (hu_of hr) (pe3_var 0) pe3_int) (pa3_cons (pe3_var 5) (pa3_cons (pe3_var 3) pa3_nil)))))) (blkOk_by (own := [("number", 17)]) (by kernel_rfl)) rfl (fun _ _ _ _ _ => (pg3_name nd__law_row rfl (by first | exact .inl rfl | exact .inr rfl))) (fun _ _ _ _ _ => pts3_nil) (fun _ _ _ _ _ => (pe3_op op3_add nx_add (pe3_var 17) pe3_int)))) (by rfl) T.b_tuple) pa3_nil)))))))))))
abbrev N__law_rows : List Str := ["model", "letters", "rows", "letter"]
theorem sc__law_rows : FnScope N__law_rows ["model", "letters"] (defScope st__law_rows) := ⟨rfl, rfl, rfl, by decide +kernel, rfl, by decide +kernel, by decide +kernel⟩
theorem nd__law_rows : N__law_rows.Nodup := sc__law_rows.nd
theorem w__law_rows (T : Txt K mg) : FnAt P w K mg base 4 "_law_rows" 2 m__law_rows := by
  unfold m__law_rows
  exact (fnAt T.d__law_rows sc__law_rows (fun _ _ _ _ _ _ us hl => match us, hl with | [_, _], _ => rfl) fun f cdv A outer s H E hr =>
  (pb3_cons (ps3_set nd__law_rows rfl (by first | exact .inl rfl | exact .inr rfl) (pe3_new (pl3_lst pa3_nil)))
  (pb3_cons (ps3_for rfl (pi3_seq (pq3_e (pe3_var 1))) (pg3_name nd__law_rows rfl (by first | exact .inl rfl | exact .inr rfl))
  (pb3_one (ps3_expr (pe3_append (pe3_var 2) (pe3_call (w__law_row T) (hr.mono (by decide)) (by rfl) (pa3_cons (pe3_var 0) (pa3_cons (pe3_var 2) (pa3_cons (pe3_var 3) pa3_nil))))))))
  (pb3_one (ps3_ret (pe3_var 2))))))
abbrev N_Crew_begin_round : List Str := ["self", "_"]
theorem sc_Crew_begin_round : FnScope N_Crew_begin_round ["self"] (defScope st_Crew_begin_round) := ⟨rfl, rfl, rfl, by decide +kernel, rfl, by decide +kernel, by decide +kernel⟩
theorem nd_Crew_begin_round : N_Crew_begin_round.Nodup := sc_Crew_begin_round.nd
theorem w_Crew_begin_round (T : Txt K mg) : MethAt P w K mg base 1 "Crew" (nm "begin_round") 1 m_Crew_begin_round := by
  unfold m_Crew_begin_round
  exact (methAt T.d_Crew_begin_round sc_Crew_begin_round (fun _ _ _ _ _ _ us hl => match us, hl with | [_], _ => rfl) fun f cdv A outer s H E hr =>
  (pb3_cons (ps3_fld ⟨T.f_Crew_had.ex⟩ (pe3_var 0) (pe3_new (pl3_lst pa3_nil)))
  (pb3_one (ps3_fld ⟨T.f_Crew_sum.ex⟩ (pe3_var 0) (pe3_tupOf (pq3_l (pl3_lc rfl nd_Crew_begin_round (pi3_seq (pq3_e (pe3_fld ⟨T.f_Net_shift.ex⟩ (pe3_fld ⟨T.f_Crew_net.ex⟩ (pe3_var 0))))) (blkOk_by (own := [("_", 1)]) (by kernel_rfl)) rfl (fun _ _ _ _ _ => (pg3_name nd_Crew_begin_round rfl (by first | exact .inl rfl | exact .inr rfl))) (fun _ _ _ _ _ => pts3_nil) (fun _ _ _ _ _ => pe3_int))) (by rfl) T.b_tuple)))))
abbrev N_Crew___init__ : List Str := ["self", "net", "many"]
theorem sc_Crew___init__ : FnScope N_Crew___init__ ["self", "net", "many"] (defScope st_Crew___init__) := ⟨rfl, rfl, rfl, by decide +kernel, rfl, by decide +kernel, by decide +kernel⟩
theorem nd_Crew___init__ : N_Crew___init__.Nodup := sc_Crew___init__.nd
theorem w_Crew___init__ (T : Txt K mg) : MkAt P w K mg base 3 "Crew" 3 m_Crew___init__ := by
  unfold m_Crew___init__
  exact (mkAt T.d_Crew___init__ sc_Crew___init__ (fun _ _ _ _ _ _ us hl => match us, hl with | [_, _, _], _ => rfl) fun f cdv A outer s H E hr =>
  (pb3_cons (ps3_if (pt3_not (pt3_val (pe3_call (w_is_between T) (hr.mono (by decide)) (by rfl) (pa3_cons (pe3_var 2) (pa3_cons pe3_int (pa3_cons (pe3_len (pq3_e (pe3_fld ⟨T.f_Net_shift.ex⟩ (pe3_var 1))) (by rfl) T.b_len) pa3_nil))))))
  (pb3_one (ps3_raise (x_InvalidNumber T) rfl (hr.mono (by decide)) (by rfl) (pa3_cons (pe3_var 2) pa3_nil)))
  pb3_nil)
  (pb3_cons (ps3_fld ⟨T.f_Crew_net.ex⟩ (pe3_var 0) (pe3_var 1))
  (pb3_cons (ps3_fld ⟨T.f_Crew_many.ex⟩ (pe3_var 0) (pe3_var 2))
  (pb3_cons (ps3_fld ⟨T.f_Crew_sent.ex⟩ (pe3_var 0) (pe3_new (pl3_lst pa3_nil)))
  (pb3_cons (ps3_fld ⟨T.f_Crew_ahead.ex⟩ (pe3_var 0) (pe3_tup pa3_nil))
  (pb3_cons (ps3_fld ⟨T.f_Crew_vector.ex⟩ (pe3_var 0) pe3_non)
  (pb3_cons (ps3_fld ⟨T.f_Crew_own.ex⟩ (pe3_var 0) (pe3_tup pa3_nil))
  (pb3_cons (ps3_fld ⟨T.f_Crew_results.ex⟩ (pe3_var 0) (pe3_tup pa3_nil))
  (pb3_cons (ps3_fld ⟨T.f_Crew_number.ex⟩ (pe3_var 0) pe3_int)
  (pb3_one (ps3_expr (pe3_meth0 (w_Crew_begin_round T) (hr.mono (by decide)) (pe3_var 0))))))))))))))
abbrev N_Crew_is_done : List Str := ["self"]
theorem sc_Crew_is_done : FnScope N_Crew_is_done ["self"] (defScope st_Crew_is_done) := ⟨rfl, rfl, rfl, by decide +kernel, rfl, by decide +kernel, by decide +kernel⟩
theorem nd_Crew_is_done : N_Crew_is_done.Nodup := sc_Crew_is_done.nd
theorem w_Crew_is_done (T : Txt K mg) : MethAt P w K mg base 1 "Crew" (nm "is_done") 1 m_Crew_is_done := by
  unfold m_Crew_is_done
  exact (methAt T.d_Crew_is_done sc_Crew_is_done (fun _ _ _ _ _ _ us hl => match us, hl with | [_], _ => rfl) fun f cdv A outer s H E hr =>
  (pb3_one (ps3_ret (pe3_cmp (op3_eq hr.units) nx_eq (pe3_fld ⟨T.f_Crew_number.ex⟩ (pe3_var 0)) (pe3_op op3_mul nx_mul pe3_int (pe3_len (pq3_e (pe3_fld ⟨T.f_Net_layers.ex⟩ (pe3_fld ⟨T.f_Crew_net.ex⟩ (pe3_var 0)))) (by rfl) T.b_len)) (nomark _)))))
abbrev N_Net_rest : List Str := ["self", "number"]
theorem sc_Net_rest : FnScope N_Net_rest ["self", "number"] (defScope st_Net_rest) := ⟨rfl, rfl, rfl, by decide +kernel, rfl, by decide +kernel, by decide +kernel⟩
theorem nd_Net_rest : N_Net_rest.Nodup := sc_Net_rest.nd
theorem w_Net_rest (T : Txt K mg) : MethAt P w K mg base 1 "Net" (nm "rest") 2 m_Net_rest := by
  unfold m_Net_rest
  exact (methAt T.d_Net_rest sc_Net_rest (fun _ _ _ _ _ _ us hl => match us, hl with | [_, _], _ => rfl) fun f cdv A outer s H E hr =>
  (pb3_one (ps3_ret (pe3_op op3_mod nx_mod (pe3_intOf (pe3_var 1) (by rfl) T.b_int) (pe3_fld ⟨T.f_Net_prime.ex⟩ (pe3_var 0))))))
abbrev N_product_sum : List Str := ["one", "two", "total", "number", "other"]
theorem sc_product_sum : FnScope N_product_sum ["one", "two"] (defScope st_product_sum) := ⟨rfl, rfl, rfl, by decide +kernel, rfl, by decide +kernel, by decide +kernel⟩
theorem nd_product_sum : N_product_sum.Nodup := sc_product_sum.nd
theorem w_product_sum (T : Txt K mg) : FnAt P w K mg base 1 "product_sum" 2 m_product_sum := by
  unfold m_product_sum
  exact (fnAt T.d_product_sum sc_product_sum (fun _ _ _ _ _ _ us hl => match us, hl with | [_, _], _ => rfl) fun f cdv A outer s H E hr =>
  (pb3_cons (ps3_set nd_product_sum rfl (by first | exact .inl rfl | exact .inr rfl) pe3_int)
  (pb3_cons (ps3_for rfl (pi3_zip (pq3_e (pe3_var 0)) (pq3_e (pe3_var 1)) (by rfl) T.b_zip) (pg3_tup rfl (pgs3_cons (pg3_name nd_product_sum rfl (by first | exact .inl rfl | exact .inr rfl)) (pgs3_cons (pg3_name nd_product_sum rfl (by first | exact .inl rfl | exact .inr rfl)) pgs3_nil)))
  (pb3_one (ps3_aug nd_product_sum rfl (by first | exact .inl rfl | exact .inr rfl) (pe3_op op3_mul nx_mul (pe3_var 3) (pe3_var 4)) op3_iadd nx_addI)))
  (pb3_one (ps3_ret (pe3_var 2))))))
abbrev N_Crew_row : List Str := ["self", "weights", "other"]
theorem sc_Crew_row : FnScope N_Crew_row ["self"] (defScope st_Crew_row) := ⟨rfl, rfl, rfl, by decide +kernel, rfl, by decide +kernel, by decide +kernel⟩
theorem nd_Crew_row : N_Crew_row.Nodup := sc_Crew_row.nd
theorem w_Crew_row (T : Txt K mg) : MethAt P w K mg base 2 "Crew" (nm "row") 1 m_Crew_row := by
  unfold m_Crew_row
  exact (methAt T.d_Crew_row sc_Crew_row (fun _ _ _ _ _ _ us hl => match us, hl with | [_], _ => rfl) fun f cdv A outer s H E hr =>
  (pb3_cons (ps3_if (pt3_w (pw3_or (pt3_isN (pe3_fld ⟨T.f_Crew_vector.ex⟩ (pe3_var 0))) (pw3_or1 (pt3_not (pt3_val (pe3_meth0 (w_Crew_is_done T) (hr.mono (by decide)) (pe3_var 0)))))))
  (pb3_one (ps3_ret pe3_non))
  pb3_nil)
  (pb3_cons (ps3_setLc rfl nd_Crew_row rfl rfl (sw_true rfl rfl rfl rfl) (pi3_seq (pq3_e (pe3_fld ⟨T.f_Net_out.ex⟩ (pe3_fld ⟨T.f_Crew_net.ex⟩ (pe3_var 0))))) (blkOk_by (own := [("other", 2)]) (by kernel_rfl)) rfl (fun _ _ _ _ _ => (pg3_name nd_Crew_row rfl (by first | exact .inl rfl | exact .inr rfl))) (fun _ _ _ _ _ => pts3_nil) (fun _ _ _ _ _ => (pe3_op op3_add nx_add pe3_int (pe3_meth (w_Net_rest T) (hr.mono (by decide)) (pe3_fld ⟨T.f_Crew_net.ex⟩ (pe3_var 0)) (pa3_cons (pe3_call (w_product_sum T) (hr.mono (by decide)) (by rfl) (pa3_cons (pe3_var 2) (pa3_cons (pe3_fld ⟨T.f_Crew_vector.ex⟩ (pe3_var 0)) pa3_nil))) pa3_nil)))))
  (pb3_one (ps3_ret (pe3_tup (pa3_cons (pe3_fld ⟨T.f_Crew_own.ex⟩ (pe3_var 0)) (pa3_cons (pe3_tupOf (pq3_e (pe3_var 1)) (by rfl) T.b_tuple) pa3_nil))))))))
abbrev N_Crew_waiting : List Str := ["self"]
theorem sc_Crew_waiting : FnScope N_Crew_waiting ["self"] (defScope st_Crew_waiting) := ⟨rfl, rfl, rfl, by decide +kernel, rfl, by decide +kernel, by decide +kernel⟩
theorem nd_Crew_waiting : N_Crew_waiting.Nodup := sc_Crew_waiting.nd
theorem w_Crew_waiting (T : Txt K mg) : MethAt P w K mg base 1 "Crew" (nm "waiting") 1 m_Crew_waiting := by
  unfold m_Crew_waiting
  exact (methAt T.d_Crew_waiting sc_Crew_waiting (fun _ _ _ _ _ _ us hl => match us, hl with | [_], _ => rfl) fun f cdv A outer s H E hr =>
  (pb3_one (ps3_ret (pe3_tupOf (pq3_e (pe3_fld ⟨T.f_Crew_sent.ex⟩ (pe3_var 0))) (by rfl) T.b_tuple))))
abbrev N__law_same : List Str := ["told", "due", "k"]
theorem sc__law_same : FnScope N__law_same ["told", "due"] (defScope st__law_same) := ⟨rfl, rfl, rfl, by decide +kernel, rfl, by decide +kernel, by decide +kernel⟩
theorem nd__law_same : N__law_same.Nodup := sc__law_same.nd
theorem w__law_same (T : Txt K mg) : ∀ n : Nat, FnAt P w K mg base (0 + n) "_law_same" 2 (m__law_same n)
  | 0 => by
    rw [m__law_same_0]
    exact fnAt_bad (ps := ["told", "due"]) T.d__law_same (fun _ _ _ _ _ _ us hl => match us, hl with | [_, _], _ => rfl)
  | n + 1 => by
    rw [m__law_same_s]
    exact (fnAt (b := (sq (sIf (tOf (eUn (opIsi "tuple") (eV 1)))
  (sq (sIf (tOr3 (tNot3 (tOf (eUn (opIsi "tuple") (eV 0)))) (tOf (eBin opNe (eLen (qE (eV 0))) (eLen (qE (eV 1))))))
  (sRet (eC (.bl false)))
  sNil)
  (sq (sFor (iRng1 (eLen (qE (eV 1)))) (gN 2)
  (sIf (tNot3 (tOf (eCall 2 (m__law_same n) (aCons (eBin opIx (eV 0) (eV 2)) (aCons (eBin opIx (eV 1) (eV 2)) aNil)))))
  (sRet (eC (.bl false)))
  sNil))
  (sRet (eC (.bl true)))))
  sNil)
  (sq (sIf (tOf (eUn opIsN (eV 1)))
  (sRet (eUn opIsN (eV 0)))
  sNil)
  (sq (sIf (tOf (eUn (opIsi "bool") (eV 1)))
  (sRet (eAnd (eUn (opIsi "bool") (eV 0)) (eBin opEq (eV 0) (eV 1))))
  sNil)
  (sq (sIf (tOf (eUn (opIsi "int") (eV 1)))
  (sRet (eAnd (eUn (opIsi "int") (eV 0)) (eAnd (eNot (eUn (opIsi "bool") (eV 0))) (eBin opEq (eV 0) (eV 1)))))
  sNil)
  (sRet (eAnd (eUn (opIsi "str") (eV 0)) (eBin opEq (eV 0) (eV 1))))))))) T.d__law_same sc__law_same (fun _ _ _ _ _ _ us hl => match us, hl with | [_, _], _ => rfl) fun f cdv A outer s H E hr =>
  (pb3_cons (ps3_if (pt3_val (pe3_isi (T := "tuple") (pe3_var 1) (by decide) (by rfl) T.b_isinstance (by rfl) T.b_tuple PyProof.Rows.Boot.tuple (by decide) (by decide)))
  (pb3_cons (ps3_if (pt3_w (pw3_or (pt3_not (pt3_val (pe3_isi (T := "tuple") (pe3_var 0) (by decide) (by rfl) T.b_isinstance (by rfl) T.b_tuple PyProof.Rows.Boot.tuple (by decide) (by decide)))) (pw3_or1 (pt3_cmp (op3_ne hr.units) nx_ne (pe3_len (pq3_e (pe3_var 0)) (by rfl) T.b_len) (pe3_len (pq3_e (pe3_var 1)) (by rfl) T.b_len) (nomark _)))))
  (pb3_one (ps3_ret pe3_bl))
  pb3_nil)
  (pb3_cons (ps3_for rfl (pi3_rng1 (pe3_len (pq3_e (pe3_var 1)) (by rfl) T.b_len) (by rfl) T.b_range) (pg3_name nd__law_same rfl (by first | exact .inl rfl | exact .inr rfl))
  (pb3_one (ps3_if (pt3_not (pt3_val (pe3_call (w__law_same T n) hr (by rfl) (pa3_cons (pe3_ix (hu_of hr) (pe3_var 0) (pe3_var 2)) (pa3_cons (pe3_ix (hu_of hr) (pe3_var 1) (pe3_var 2)) pa3_nil)))))
  (pb3_one (ps3_ret pe3_bl))
  pb3_nil)))
  (pb3_one (ps3_ret pe3_bl))))
  pb3_nil)
  (pb3_cons (ps3_if (pt3_isN (pe3_var 1))
  (pb3_one (ps3_ret (pe3_isN (pe3_var 0))))
  pb3_nil)
  (pb3_cons (ps3_if (pt3_val (pe3_isi (T := "bool") (pe3_var 1) (by decide) (by rfl) T.b_isinstance (by rfl) T.b_bool PyProof.Rows.Boot.bool (by decide) (by decide)))
  (pb3_one (ps3_ret (pe3_and (pe3_isi (T := "bool") (pe3_var 0) (by decide) (by rfl) T.b_isinstance (by rfl) T.b_bool PyProof.Rows.Boot.bool (by decide) (by decide)) (pe3_one (pe3_cmp (op3_eq hr.units) nx_eq (pe3_var 0) (pe3_var 1) (nomark _))))))
  pb3_nil)
  (pb3_cons (ps3_if (pt3_val (pe3_isi (T := "int") (pe3_var 1) (by decide) (by rfl) T.b_isinstance (by rfl) T.b_int PyProof.Rows.Boot.int (by decide) (by decide)))
  (pb3_one (ps3_ret (pe3_and (pe3_isi (T := "int") (pe3_var 0) (by decide) (by rfl) T.b_isinstance (by rfl) T.b_int PyProof.Rows.Boot.int (by decide) (by decide)) (pe3_and (pe3_not (pe3_isi (T := "bool") (pe3_var 0) (by decide) (by rfl) T.b_isinstance (by rfl) T.b_bool PyProof.Rows.Boot.bool (by decide) (by decide))) (pe3_one (pe3_cmp (op3_eq hr.units) nx_eq (pe3_var 0) (pe3_var 1) (nomark _)))))))
  pb3_nil)
  (pb3_one (ps3_ret (pe3_and (pe3_isi (T := "str") (pe3_var 0) (by decide) (by rfl) T.b_isinstance (by rfl) T.b_str PyProof.Rows.Boot.str (by decide) (by decide)) (pe3_one (pe3_cmp (op3_eq hr.units) nx_eq (pe3_var 0) (pe3_var 1) (nomark _)))))))))))
abbrev N_Net_is_letter : List Str := ["self", "value"]
theorem sc_Net_is_letter : FnScope N_Net_is_letter ["self", "value"] (defScope st_Net_is_letter) := ⟨rfl, rfl, rfl, by decide +kernel, rfl, by decide +kernel, by decide +kernel⟩
theorem nd_Net_is_letter : N_Net_is_letter.Nodup := sc_Net_is_letter.nd
theorem w_Net_is_letter (T : Txt K mg) : MethAt P w K mg base 2 "Net" (nm "is_letter") 2 m_Net_is_letter := by
  unfold m_Net_is_letter
  exact (methAt T.d_Net_is_letter sc_Net_is_letter (fun _ _ _ _ _ _ us hl => match us, hl with | [_, _], _ => rfl) fun f cdv A outer s H E hr =>
  (pb3_one (ps3_ret (pe3_call (w_is_between T) (hr.mono (by decide)) (by rfl) (pa3_cons (pe3_var 1) (pa3_cons pe3_int (pa3_cons (pe3_op op3_sub nx_sub (pe3_len (pq3_e (pe3_fld ⟨T.f_Net_embed.ex⟩ (pe3_var 0))) (by rfl) T.b_len) pe3_int) pa3_nil)))))))
abbrev N_Net_plus : List Str := ["self", "one", "two", "number", "other"]
theorem sc_Net_plus : FnScope N_Net_plus ["self", "one", "two"] (defScope st_Net_plus) := ⟨rfl, rfl, rfl, by decide +kernel, rfl, by decide +kernel, by decide +kernel⟩
theorem nd_Net_plus : N_Net_plus.Nodup := sc_Net_plus.nd
theorem w_Net_plus (T : Txt K mg) : MethAt P w K mg base 2 "Net" (nm "plus") 3 m_Net_plus := by
  unfold m_Net_plus
  exact (methAt T.d_Net_plus sc_Net_plus (fun _ _ _ _ _ _ us hl => match us, hl with | [_, _, _], _ => rfl) fun f cdv A outer s H E hr =>
  (pb3_one (ps3_ret (pe3_tupOf (pq3_l (pl3_lc rfl nd_Net_plus (pi3_zip (pq3_e (pe3_var 1)) (pq3_e (pe3_var 2)) (by rfl) T.b_zip) (blkOk_by (own := [("number", 3), ("other", 4)]) (by kernel_rfl)) rfl (fun _ _ _ _ _ => (pg3_tup rfl (pgs3_cons (pg3_name nd_Net_plus rfl (by first | exact .inl rfl | exact .inr rfl)) (pgs3_cons (pg3_name nd_Net_plus rfl (by first | exact .inl rfl | exact .inr rfl)) pgs3_nil)))) (fun _ _ _ _ _ => pts3_nil) (fun _ _ _ _ _ => (pe3_meth (w_Net_rest T) (hr.mono (by decide)) (pe3_var 0) (pa3_cons (pe3_op op3_add nx_add (pe3_var 3) (pe3_var 4)) pa3_nil))))) (by rfl) T.b_tuple))))
abbrev N_Crew_send_all : List Str := ["self", "member"]
theorem sc_Crew_send_all : FnScope N_Crew_send_all ["self"] (defScope st_Crew_send_all) := ⟨rfl, rfl, rfl, by decide +kernel, rfl, by decide +kernel, by decide +kernel⟩
theorem nd_Crew_send_all : N_Crew_send_all.Nodup := sc_Crew_send_all.nd
theorem w_Crew_send_all (T : Txt K mg) : MethAt P w K mg base 2 "Crew" (nm "send_all") 1 m_Crew_send_all := by
  unfold m_Crew_send_all
  exact (methAt T.d_Crew_send_all sc_Crew_send_all (fun _ _ _ _ _ _ us hl => match us, hl with | [_], _ => rfl) fun f cdv A outer s H E hr =>
  (pb3_one (ps3_if (pt3_not (pt3_val (pe3_meth0 (w_Crew_is_done T) (hr.mono (by decide)) (pe3_var 0))))
  (pb3_one (ps3_expr (pe3_extend (pe3_fld ⟨T.f_Crew_sent.ex⟩ (pe3_var 0)) (pq3_l (pl3_lc rfl nd_Crew_send_all (pi3_rng1 (pe3_fld ⟨T.f_Crew_many.ex⟩ (pe3_var 0)) (by rfl) T.b_range) (blkOk_by (own := [("member", 1)]) (by kernel_rfl)) rfl (fun _ _ _ _ _ => (pg3_name nd_Crew_send_all rfl (by first | exact .inl rfl | exact .inr rfl))) (fun _ _ _ _ _ => pts3_nil) (fun _ _ _ _ _ => (pe3_tup (pa3_cons (pe3_fld ⟨T.f_Crew_number.ex⟩ (pe3_var 0)) (pa3_cons (pe3_var 1) pa3_nil)))))))))
  pb3_nil)))
abbrev N_Crew_begin : List Str := ["self", "rows", "letter", "number"]
theorem sc_Crew_begin : FnScope N_Crew_begin ["self", "rows", "letter"] (defScope st_Crew_begin) := ⟨rfl, rfl, rfl, by decide +kernel, rfl, by decide +kernel, by decide +kernel⟩
theorem nd_Crew_begin : N_Crew_begin.Nodup := sc_Crew_begin.nd
theorem w_Crew_begin (T : Txt K mg) : MethAt P w K mg base 3 "Crew" (nm "begin") 3 m_Crew_begin := by
  unfold m_Crew_begin
  exact (methAt T.d_Crew_begin sc_Crew_begin (fun _ _ _ _ _ _ us hl => match us, hl with | [_, _, _], _ => rfl) fun f cdv A outer s H E hr =>
  (pb3_cons (ps3_if (pt3_not (pt3_val (pe3_meth (w_Net_is_letter T) (hr.mono (by decide)) (pe3_fld ⟨T.f_Crew_net.ex⟩ (pe3_var 0)) (pa3_cons (pe3_var 2) pa3_nil))))
  (pb3_one (ps3_raise (x_InvalidLetter T) rfl (hr.mono (by decide)) (by rfl) (pa3_cons (pe3_var 2) pa3_nil)))
  pb3_nil)
  (pb3_cons (ps3_fld ⟨T.f_Crew_ahead.ex⟩ (pe3_var 0) (pe3_tupOf (pq3_e (pe3_var 1)) (by rfl) T.b_tuple))
  (pb3_cons (ps3_fld ⟨T.f_Crew_vector.ex⟩ (pe3_var 0) (pe3_meth (w_Net_plus T) (hr.mono (by decide)) (pe3_fld ⟨T.f_Crew_net.ex⟩ (pe3_var 0)) (pa3_cons (pe3_ix (hu_of hr) (pe3_fld ⟨T.f_Net_embed.ex⟩ (pe3_fld ⟨T.f_Crew_net.ex⟩ (pe3_var 0))) (pe3_var 2)) (pa3_cons (pe3_new (pl3_lc rfl nd_Crew_begin (pi3_seq (pq3_e (pe3_fld ⟨T.f_Net_shift.ex⟩ (pe3_fld ⟨T.f_Crew_net.ex⟩ (pe3_var 0))))) (blkOk_by (own := [("number", 3)]) (by kernel_rfl)) rfl (fun _ _ _ _ _ => (pg3_name nd_Crew_begin rfl (by first | exact .inl rfl | exact .inr rfl))) (fun _ _ _ _ _ => pts3_nil) (fun _ _ _ _ _ => (pe3_op op3_mul nx_mul (pe3_len (pq3_e (pe3_fld ⟨T.f_Crew_ahead.ex⟩ (pe3_var 0))) (by rfl) T.b_len) (pe3_var 3))))) pa3_nil))))
  (pb3_cons (ps3_fld ⟨T.f_Crew_own.ex⟩ (pe3_var 0) (pe3_tup pa3_nil))
  (pb3_cons (ps3_fld ⟨T.f_Crew_results.ex⟩ (pe3_var 0) (pe3_tup pa3_nil))
  (pb3_cons (ps3_fld ⟨T.f_Crew_number.ex⟩ (pe3_var 0) pe3_int)
  (pb3_cons (ps3_fld ⟨T.f_Crew_sent.ex⟩ (pe3_var 0) (pe3_new (pl3_lst pa3_nil)))
  (pb3_cons (ps3_expr (pe3_meth0 (w_Crew_begin_round T) (hr.mono (by decide)) (pe3_var 0)))
  (pb3_one (ps3_expr (pe3_meth0 (w_Crew_send_all T) (hr.mono (by decide)) (pe3_var 0)))))))))))))
abbrev N__law_begins : List Str := ["c", "member"]
theorem sc__law_begins : FnScope N__law_begins ["c"] (defScope st__law_begins) := ⟨rfl, rfl, rfl, by decide +kernel, rfl, by decide +kernel, by decide +kernel⟩
theorem nd__law_begins : N__law_begins.Nodup := sc__law_begins.nd
theorem w__law_begins (T : Txt K mg) : FnAt P w K mg base 1 "_law_begins" 1 m__law_begins := by
  unfold m__law_begins
  exact (fnAt T.d__law_begins sc__law_begins (fun _ _ _ _ _ _ us hl => match us, hl with | [_], _ => rfl) fun f cdv A outer s H E hr =>
  (pb3_cons (ps3_ix (hu_of hr) (pe3_var 0) pe3_str (pe3_new (pl3_lst pa3_nil)))
  (pb3_cons (ps3_if (pt3_cmp op3_gt nx_gt (pe3_ix (hu_of hr) (pe3_var 0) pe3_str) pe3_int (nomark _))
  (pb3_one (ps3_ix (hu_of hr) (pe3_var 0) pe3_str (pe3_new (pl3_lc rfl nd__law_begins (pi3_rng1 (pe3_ix (hu_of hr) (pe3_var 0) pe3_str) (by rfl) T.b_range) (blkOk_by (own := [("member", 1)]) (by kernel_rfl)) rfl (fun _ _ _ _ _ => (pg3_name nd__law_begins rfl (by first | exact .inl rfl | exact .inr rfl))) (fun _ _ _ _ _ => pts3_nil) (fun _ _ _ _ _ => (pe3_tup (pa3_cons pe3_int (pa3_cons (pe3_var 1) pa3_nil))))))))
  pb3_nil)
  (pb3_cons (ps3_ix (hu_of hr) (pe3_var 0) pe3_str pe3_int)
  (pb3_one (ps3_ix (hu_of hr) (pe3_var 0) pe3_str (pe3_new (pl3_lst pa3_nil))))))))
abbrev N_Crew_double : List Str := ["self", "number"]
theorem sc_Crew_double : FnScope N_Crew_double ["self", "number"] (defScope st_Crew_double) := ⟨rfl, rfl, rfl, by decide +kernel, rfl, by decide +kernel, by decide +kernel⟩
theorem nd_Crew_double : N_Crew_double.Nodup := sc_Crew_double.nd
theorem w_Crew_double (T : Txt K mg) : MethAt P w K mg base 3 "Crew" (nm "double") 2 m_Crew_double := by
  unfold m_Crew_double
  exact (methAt T.d_Crew_double sc_Crew_double (fun _ _ _ _ _ _ us hl => match us, hl with | [_, _], _ => rfl) fun f cdv A outer s H E hr =>
  (pb3_cons (ps3_if (pt3_not (pt3_val (pe3_call (w_is_between T) (hr.mono (by decide)) (by rfl) (pa3_cons (pe3_var 1) (pa3_cons pe3_int (pa3_cons (pe3_op op3_sub nx_sub (pe3_len (pq3_e (pe3_fld ⟨T.f_Crew_sent.ex⟩ (pe3_var 0))) (by rfl) T.b_len) pe3_int) pa3_nil))))))
  (pb3_one (ps3_raise (x_InvalidNumber T) rfl (hr.mono (by decide)) (by rfl) (pa3_cons (pe3_var 1) pa3_nil)))
  pb3_nil)
  (pb3_one (ps3_expr (pe3_append (pe3_fld ⟨T.f_Crew_sent.ex⟩ (pe3_var 0)) (pe3_ix (hu_of hr) (pe3_fld ⟨T.f_Crew_sent.ex⟩ (pe3_var 0)) (pe3_var 1)))))))
abbrev N__law_is_wanted : List Str := ["c", "part"]
theorem sc__law_is_wanted : FnScope N__law_is_wanted ["c", "part"] (defScope st__law_is_wanted) := ⟨rfl, rfl, rfl, by decide +kernel, rfl, by decide +kernel, by decide +kernel⟩
theorem nd__law_is_wanted : N__law_is_wanted.Nodup := sc__law_is_wanted.nd
theorem w__law_is_wanted (T : Txt K mg) : FnAt P w K mg base 1 "_law_is_wanted" 2 m__law_is_wanted := by
  unfold m__law_is_wanted
  exact (fnAt T.d__law_is_wanted sc__law_is_wanted (fun _ _ _ _ _ _ us hl => match us, hl with | [_, _], _ => rfl) fun f cdv A outer s H E hr =>
  (pb3_one (ps3_ret (pe3_and (pe3_cmp (op3_eq hr.units) nx_eq (pe3_ix (hu_of hr) (pe3_var 1) pe3_int) (pe3_ix (hu_of hr) (pe3_var 0) pe3_str) (nomark _)) (pe3_one (pe3_notIn (hu65 hr) (pe3_ix (hu_of hr) (pe3_var 1) pe3_int) (pq3_e (pe3_ix (hu_of hr) (pe3_var 0) pe3_str)) (by with_unfolding_all rfl)))))))
abbrev N_Crew_take_out : List Str := ["self", "number"]
theorem sc_Crew_take_out : FnScope N_Crew_take_out ["self", "number"] (defScope st_Crew_take_out) := ⟨rfl, rfl, rfl, by decide +kernel, rfl, by decide +kernel, by decide +kernel⟩
theorem nd_Crew_take_out : N_Crew_take_out.Nodup := sc_Crew_take_out.nd
theorem w_Crew_take_out (T : Txt K mg) : MethAt P w K mg base 3 "Crew" (nm "take_out") 2 m_Crew_take_out := by
  unfold m_Crew_take_out
  exact (methAt T.d_Crew_take_out sc_Crew_take_out (fun _ _ _ _ _ _ us hl => match us, hl with | [_, _], _ => rfl) fun f cdv A outer s H E hr =>
  (pb3_cons (ps3_if (pt3_not (pt3_val (pe3_call (w_is_between T) (hr.mono (by decide)) (by rfl) (pa3_cons (pe3_var 1) (pa3_cons pe3_int (pa3_cons (pe3_op op3_sub nx_sub (pe3_len (pq3_e (pe3_fld ⟨T.f_Crew_sent.ex⟩ (pe3_var 0))) (by rfl) T.b_len) pe3_int) pa3_nil))))))
  (pb3_one (ps3_raise (x_InvalidNumber T) rfl (hr.mono (by decide)) (by rfl) (pa3_cons (pe3_var 1) pa3_nil)))
  pb3_nil)
  (pb3_one (ps3_ret (pe3_popAt (pe3_fld ⟨T.f_Crew_sent.ex⟩ (pe3_var 0)) (pe3_var 1))))))
abbrev N_Crew_is_wanted : List Str := ["self", "part"]
theorem sc_Crew_is_wanted : FnScope N_Crew_is_wanted ["self", "part"] (defScope st_Crew_is_wanted) := ⟨rfl, rfl, rfl, by decide +kernel, rfl, by decide +kernel, by decide +kernel⟩
theorem nd_Crew_is_wanted : N_Crew_is_wanted.Nodup := sc_Crew_is_wanted.nd
theorem w_Crew_is_wanted (T : Txt K mg) : MethAt P w K mg base 2 "Crew" (nm "is_wanted") 2 m_Crew_is_wanted := by
  unfold m_Crew_is_wanted
  exact (methAt T.d_Crew_is_wanted sc_Crew_is_wanted (fun _ _ _ _ _ _ us hl => match us, hl with | [_, _], _ => rfl) fun f cdv A outer s H E hr =>
  (pb3_one (ps3_ret (pe3_and (pe3_not (pe3_meth0 (w_Crew_is_done T) (hr.mono (by decide)) (pe3_var 0))) (pe3_and (pe3_cmp (op3_eq hr.units) nx_eq (pe3_ix (hu_of hr) (pe3_var 1) pe3_int) (pe3_fld ⟨T.f_Crew_number.ex⟩ (pe3_var 0)) (nomark _)) (pe3_one (pe3_notIn (hu65 hr) (pe3_ix (hu_of hr) (pe3_var 1) pe3_int) (pq3_e (pe3_fld ⟨T.f_Crew_had.ex⟩ (pe3_var 0))) (by with_unfolding_all rfl))))))))
abbrev N_Crew_lose : List Str := ["self", "number", "part"]
theorem sc_Crew_lose : FnScope N_Crew_lose ["self", "number"] (defScope st_Crew_lose) := ⟨rfl, rfl, rfl, by decide +kernel, rfl, by decide +kernel, by decide +kernel⟩
theorem nd_Crew_lose : N_Crew_lose.Nodup := sc_Crew_lose.nd
theorem w_Crew_lose (T : Txt K mg) : MethAt P w K mg base 4 "Crew" (nm "lose") 2 m_Crew_lose := by
  unfold m_Crew_lose
  exact (methAt T.d_Crew_lose sc_Crew_lose (fun _ _ _ _ _ _ us hl => match us, hl with | [_, _], _ => rfl) fun f cdv A outer s H E hr =>
  (pb3_cons (ps3_set nd_Crew_lose rfl (by first | exact .inl rfl | exact .inr rfl) (pe3_meth (w_Crew_take_out T) (hr.mono (by decide)) (pe3_var 0) (pa3_cons (pe3_var 1) pa3_nil)))
  (pb3_one (ps3_if (pt3_w (pw3_and (pt3_val (pe3_meth (w_Crew_is_wanted T) (hr.mono (by decide)) (pe3_var 0) (pa3_cons (pe3_var 2) pa3_nil))) (pw3_and1 (pt3_notIn (hu65 hr) (pe3_var 2) (pq3_e (pe3_fld ⟨T.f_Crew_sent.ex⟩ (pe3_var 0))) (by with_unfolding_all rfl)))))
  (pb3_one (ps3_expr (pe3_append (pe3_fld ⟨T.f_Crew_sent.ex⟩ (pe3_var 0)) (pe3_var 2))))
  pb3_nil))))
abbrev N__law_arrives : List Str := ["c", "at", "part", "member"]
theorem sc__law_arrives : FnScope N__law_arrives ["c", "at"] (defScope st__law_arrives) := ⟨rfl, rfl, rfl, by decide +kernel, rfl, by decide +kernel, by decide +kernel⟩
theorem nd__law_arrives : N__law_arrives.Nodup := sc__law_arrives.nd
theorem w__law_arrives (T : Txt K mg) : FnAt P w K mg base 2 "_law_arrives" 2 m__law_arrives := by
  unfold m__law_arrives
  exact (fnAt T.d__law_arrives sc__law_arrives (fun _ _ _ _ _ _ us hl => match us, hl with | [_, _], _ => rfl) fun f cdv A outer s H E hr =>
  (pb3_cons (ps3_set nd__law_arrives rfl (by first | exact .inl rfl | exact .inr rfl) (pe3_popAt (pe3_ix (hu_of hr) (pe3_var 0) pe3_str) (pe3_var 1)))
  (pb3_cons (ps3_if (pt3_not (pt3_val (pe3_call (w__law_is_wanted T) (hr.mono (by decide)) (by rfl) (pa3_cons (pe3_var 0) (pa3_cons (pe3_var 2) pa3_nil)))))
  (pb3_one (ps3_ret pe3_bl))
  pb3_nil)
  (pb3_cons (ps3_expr (pe3_append (pe3_ix (hu_of hr) (pe3_var 0) pe3_str) (pe3_ix (hu_of hr) (pe3_var 2) pe3_int)))
  (pb3_cons (ps3_if (pt3_cmp (op3_eq hr.units) nx_eq (pe3_len (pq3_e (pe3_ix (hu_of hr) (pe3_var 0) pe3_str)) (by rfl) T.b_len) (pe3_ix (hu_of hr) (pe3_var 0) pe3_str) (nomark _))
  (pb3_cons (ps3_ix (hu_of hr) (pe3_var 0) pe3_str (pe3_op op3_add nx_add (pe3_ix (hu_of hr) (pe3_var 0) pe3_str) pe3_int))
  (pb3_cons (ps3_ix (hu_of hr) (pe3_var 0) pe3_str (pe3_new (pl3_lst pa3_nil)))
  (pb3_one (ps3_if (pt3_cmp op3_lt nx_lt (pe3_ix (hu_of hr) (pe3_var 0) pe3_str) (pe3_ix (hu_of hr) (pe3_var 0) pe3_str) (nomark _))
  (pb3_one (ps3_ix (hu_of hr) (pe3_var 0) pe3_str (pe3_new (pl3_cat (pq3_e (pe3_ix (hu_of hr) (pe3_var 0) pe3_str)) (pq3_l (pl3_lc rfl nd__law_arrives (pi3_rng1 (pe3_ix (hu_of hr) (pe3_var 0) pe3_str) (by rfl) T.b_range) (blkOk_by (own := [("member", 3)]) (by kernel_rfl)) rfl (fun _ _ _ _ _ => (pg3_name nd__law_arrives rfl (by first | exact .inl rfl | exact .inr rfl))) (fun _ _ _ _ _ => pts3_nil) (fun _ _ _ _ _ => (pe3_tup (pa3_cons (pe3_ix (hu_of hr) (pe3_var 0) pe3_str) (pa3_cons (pe3_var 3) pa3_nil))))))))))
  pb3_nil))))
  pb3_nil)
  (pb3_one (ps3_ret pe3_bl)))))))
abbrev N_Net_looked_at : List Str := ["self", "query", "pairs", "found", "key", "value", "part", "_", "number"]
theorem sc_Net_looked_at : FnScope N_Net_looked_at ["self", "query", "pairs"] (defScope st_Net_looked_at) := ⟨rfl, rfl, rfl, by decide +kernel, rfl, by decide +kernel, by decide +kernel⟩
theorem nd_Net_looked_at : N_Net_looked_at.Nodup := sc_Net_looked_at.nd
theorem w_Net_looked_at (T : Txt K mg) : MethAt P w K mg base 3 "Net" (nm "looked_at") 3 m_Net_looked_at := by
  unfold m_Net_looked_at
  exact (methAt T.d_Net_looked_at sc_Net_looked_at (fun _ _ _ _ _ _ us hl => match us, hl with | [_, _, _], _ => rfl) fun f cdv A outer s H E hr =>
  (pb3_cons (ps3_set nd_Net_looked_at rfl (by first | exact .inl rfl | exact .inr rfl) (pe3_tupOf (pq3_l (pl3_lc rfl nd_Net_looked_at (pi3_seq (pq3_e (pe3_var 1))) (blkOk_by (own := [("_", 7)]) (by kernel_rfl)) rfl (fun _ _ _ _ _ => (pg3_name nd_Net_looked_at rfl (by first | exact .inl rfl | exact .inr rfl))) (fun _ _ _ _ _ => pts3_nil) (fun _ _ _ _ _ => pe3_int))) (by rfl) T.b_tuple))
  (pb3_cons (ps3_for rfl (pi3_seq (pq3_e (pe3_var 2))) (pg3_tup rfl (pgs3_cons (pg3_name nd_Net_looked_at rfl (by first | exact .inl rfl | exact .inr rfl)) (pgs3_cons (pg3_name nd_Net_looked_at rfl (by first | exact .inl rfl | exact .inr rfl)) pgs3_nil)))
  (pb3_cons (ps3_set nd_Net_looked_at rfl (by first | exact .inl rfl | exact .inr rfl) (pe3_call (w_product_sum T) (hr.mono (by decide)) (by rfl) (pa3_cons (pe3_var 1) (pa3_cons (pe3_var 4) pa3_nil))))
  (pb3_one (ps3_set nd_Net_looked_at rfl (by first | exact .inl rfl | exact .inr rfl) (pe3_meth (w_Net_plus T) (hr.mono (by decide)) (pe3_var 0) (pa3_cons (pe3_var 3) (pa3_cons (pe3_new (pl3_lc rfl nd_Net_looked_at (pi3_seq (pq3_e (pe3_var 5))) (blkOk_by (own := [("number", 8)]) (by kernel_rfl)) rfl (fun _ _ _ _ _ => (pg3_name nd_Net_looked_at rfl (by first | exact .inl rfl | exact .inr rfl))) (fun _ _ _ _ _ => pts3_nil) (fun _ _ _ _ _ => (pe3_op op3_mul nx_mul (pe3_var 6) (pe3_var 8))))) pa3_nil)))))))
  (pb3_one (ps3_ret (pe3_var 3))))))
abbrev N_Crew_inner : List Str := ["self", "layer", "pairs", "row"]
theorem sc_Crew_inner : FnScope N_Crew_inner ["self"] (defScope st_Crew_inner) := ⟨rfl, rfl, rfl, by decide +kernel, rfl, by decide +kernel, by decide +kernel⟩
theorem nd_Crew_inner : N_Crew_inner.Nodup := sc_Crew_inner.nd
theorem w_Crew_inner (T : Txt K mg) : MethAt P w K mg base 4 "Crew" (nm "inner") 1 m_Crew_inner := by
  unfold m_Crew_inner
  exact (methAt T.d_Crew_inner sc_Crew_inner (fun _ _ _ _ _ _ us hl => match us, hl with | [_], _ => rfl) fun f cdv A outer s H E hr =>
  (pb3_cons (ps3_set nd_Crew_inner rfl (by first | exact .inl rfl | exact .inr rfl) (pe3_op op3_div nx_div (pe3_fld ⟨T.f_Crew_number.ex⟩ (pe3_var 0)) pe3_int))
  (pb3_cons (ps3_set nd_Crew_inner rfl (by first | exact .inl rfl | exact .inr rfl) (pe3_new (pl3_cat (pq3_l (pl3_lc rfl nd_Crew_inner (pi3_seq (pq3_e (pe3_fld ⟨T.f_Crew_ahead.ex⟩ (pe3_var 0)))) (blkOk_by (own := [("row", 3)]) (by kernel_rfl)) rfl (fun _ _ _ _ _ => (pg3_name nd_Crew_inner rfl (by first | exact .inl rfl | exact .inr rfl))) (fun _ _ _ _ _ => pts3_nil) (fun _ _ _ _ _ => (pe3_ix (hu_of hr) (pe3_ix (hu_of hr) (pe3_var 3) pe3_int) (pe3_var 1))))) (pq3_l (pl3_lst (pa3_cons (pe3_tup (pa3_cons (pe3_ix (hu_of hr) (pe3_fld ⟨T.f_Crew_results.ex⟩ (pe3_var 0)) (pe3_globT (by rfl) T.g_KEY)) (pa3_cons (pe3_ix (hu_of hr) (pe3_fld ⟨T.f_Crew_results.ex⟩ (pe3_var 0)) (pe3_globT (by rfl) T.g_VALUE)) pa3_nil))) pa3_nil))))))
  (pb3_one (ps3_ret (pe3_meth (w_Net_plus T) (hr.mono (by decide)) (pe3_fld ⟨T.f_Crew_net.ex⟩ (pe3_var 0)) (pa3_cons (pe3_fld ⟨T.f_Crew_vector.ex⟩ (pe3_var 0)) (pa3_cons (pe3_meth (w_Net_looked_at T) (hr.mono (by decide)) (pe3_fld ⟨T.f_Crew_net.ex⟩ (pe3_var 0)) (pa3_cons (pe3_ix (hu_of hr) (pe3_fld ⟨T.f_Crew_results.ex⟩ (pe3_var 0)) (pe3_globT (by rfl) T.g_QUERY)) (pa3_cons (pe3_var 2) pa3_nil))) pa3_nil))))))))
abbrev N_Crew_factor : List Str := ["self", "kind", "number"]
theorem sc_Crew_factor : FnScope N_Crew_factor ["self"] (defScope st_Crew_factor) := ⟨rfl, rfl, rfl, by decide +kernel, rfl, by decide +kernel, by decide +kernel⟩
theorem nd_Crew_factor : N_Crew_factor.Nodup := sc_Crew_factor.nd
theorem w_Crew_factor (T : Txt K mg) : MethAt P w K mg base 5 "Crew" (nm "factor") 1 m_Crew_factor := by
  unfold m_Crew_factor
  exact (methAt T.d_Crew_factor sc_Crew_factor (fun _ _ _ _ _ _ us hl => match us, hl with | [_], _ => rfl) fun f cdv A outer s H E hr =>
  (pb3_cons (ps3_set nd_Crew_factor rfl (by first | exact .inl rfl | exact .inr rfl) (pe3_op op3_mod nx_mod (pe3_fld ⟨T.f_Crew_number.ex⟩ (pe3_var 0)) pe3_int))
  (pb3_cons (ps3_if (pt3_cmp op3_lt nx_lt (pe3_var 1) (pe3_globT (by rfl) T.g_FIRST) (nomark _))
  (pb3_one (ps3_ret (pe3_fld ⟨T.f_Crew_vector.ex⟩ (pe3_var 0))))
  pb3_nil)
  (pb3_cons (ps3_if (pt3_cmp (op3_eq hr.units) nx_eq (pe3_var 1) (pe3_globT (by rfl) T.g_FIRST) (nomark _))
  (pb3_one (ps3_ret (pe3_meth0 (w_Crew_inner T) (hr.mono (by decide)) (pe3_var 0))))
  pb3_nil)
  (pb3_one (ps3_ret (pe3_new (pl3_lc rfl nd_Crew_factor (pi3_seq (pq3_e (pe3_ix (hu_of hr) (pe3_fld ⟨T.f_Crew_results.ex⟩ (pe3_var 0)) (pe3_globT (by rfl) T.g_FIRST)))) (blkOk_by (own := [("number", 2)]) (by kernel_rfl)) rfl (fun _ _ _ _ _ => (pg3_name nd_Crew_factor rfl (by first | exact .inl rfl | exact .inr rfl))) (fun _ _ _ _ _ => pts3_nil) (fun _ _ _ _ _ => (pe3_op op3_mul nx_mul (pe3_var 2) (pe3_var 2)))))))))))
abbrev N_Crew_part : List Str := ["self", "member", "matrix", "factor", "columns", "k", "row"]
theorem sc_Crew_part : FnScope N_Crew_part ["self", "member"] (defScope st_Crew_part) := ⟨rfl, rfl, rfl, by decide +kernel, rfl, by decide +kernel, by decide +kernel⟩
theorem nd_Crew_part : N_Crew_part.Nodup := sc_Crew_part.nd
theorem w_Crew_part (T : Txt K mg) : MethAt P w K mg base 6 "Crew" (nm "part") 2 m_Crew_part := by
  unfold m_Crew_part
  exact (methAt T.d_Crew_part sc_Crew_part (fun _ _ _ _ _ _ us hl => match us, hl with | [_, _], _ => rfl) fun f cdv A outer s H E hr =>
  (pb3_cons (ps3_set nd_Crew_part rfl (by first | exact .inl rfl | exact .inr rfl) (pe3_ix (hu_of hr) (pe3_ix (hu_of hr) (pe3_fld ⟨T.f_Net_layers.ex⟩ (pe3_fld ⟨T.f_Crew_net.ex⟩ (pe3_var 0))) (pe3_op op3_div nx_div (pe3_fld ⟨T.f_Crew_number.ex⟩ (pe3_var 0)) pe3_int)) (pe3_op op3_mod nx_mod (pe3_fld ⟨T.f_Crew_number.ex⟩ (pe3_var 0)) pe3_int)))
  (pb3_cons (ps3_set nd_Crew_part rfl (by first | exact .inl rfl | exact .inr rfl) (pe3_meth0 (w_Crew_factor T) (hr.mono (by decide)) (pe3_var 0)))
  (pb3_cons (ps3_set nd_Crew_part rfl (by first | exact .inl rfl | exact .inr rfl) (pe3_new (pl3_lc rfl nd_Crew_part (pi3_rng1 (pe3_len (pq3_e (pe3_var 3)) (by rfl) T.b_len) (by rfl) T.b_range) (blkOk_by (own := [("k", 5)]) (by kernel_rfl)) rfl (fun _ _ _ _ _ => (pg3_name nd_Crew_part rfl (by first | exact .inl rfl | exact .inr rfl))) (fun _ _ _ _ _ => (pts3_one (pt3_cmp (op3_eq hr.units) nx_eq (pe3_op op3_mod nx_mod (pe3_var 5) (pe3_fld ⟨T.f_Crew_many.ex⟩ (pe3_var 0))) (pe3_var 1) (nomark _)))) (fun _ _ _ _ _ => (pe3_var 5)))))
  (pb3_one (ps3_ret (pe3_new (pl3_lc rfl nd_Crew_part (pi3_seq (pq3_e (pe3_var 2))) (blkOk_by (own := [("row", 6)]) (by kernel_rfl)) rfl (fun _ _ _ _ _ => (pg3_name nd_Crew_part rfl (by first | exact .inl rfl | exact .inr rfl))) (fun _ _ _ _ _ => pts3_nil) (fun _ _ _ _ _ => (pe3_sum rfl (pq3_l (pl3_lc rfl nd_Crew_part (pi3_seq (pq3_e (pe3_var 4))) (blkOk_by (own := [("k", 5)]) (by kernel_rfl)) rfl (fun _ _ _ _ _ => (pg3_name nd_Crew_part rfl (by first | exact .inl rfl | exact .inr rfl))) (fun _ _ _ _ _ => pts3_nil) (fun _ _ _ _ _ => (pe3_op op3_mul nx_mul (pe3_ix (hu_of hr) (pe3_var 6) (pe3_var 5)) (pe3_ix (hu_of hr) (pe3_var 3) (pe3_var 5)))))) (by rfl) T.b_sum))))))))))
abbrev N_Crew_end_round : List Str := ["self", "kind", "layer_pair"]
theorem sc_Crew_end_round : FnScope N_Crew_end_round ["self"] (defScope st_Crew_end_round) := ⟨rfl, rfl, rfl, by decide +kernel, rfl, by decide +kernel, by decide +kernel⟩
theorem nd_Crew_end_round : N_Crew_end_round.Nodup := sc_Crew_end_round.nd
theorem w_Crew_end_round (T : Txt K mg) : MethAt P w K mg base 5 "Crew" (nm "end_round") 1 m_Crew_end_round := by
  unfold m_Crew_end_round
  exact (methAt T.d_Crew_end_round sc_Crew_end_round (fun _ _ _ _ _ _ us hl => match us, hl with | [_], _ => rfl) fun f cdv A outer s H E hr =>
  (pb3_cons (ps3_set nd_Crew_end_round rfl (by first | exact .inl rfl | exact .inr rfl) (pe3_op op3_mod nx_mod (pe3_fld ⟨T.f_Crew_number.ex⟩ (pe3_var 0)) pe3_int))
  (pb3_cons (ps3_if (pt3_cmp (op3_eq hr.units) nx_eq (pe3_var 1) (pe3_globT (by rfl) T.g_SECOND) (nomark _))
  (pb3_cons (ps3_set nd_Crew_end_round rfl (by first | exact .inl rfl | exact .inr rfl) (pe3_tup (pa3_cons (pe3_ix (hu_of hr) (pe3_fld ⟨T.f_Crew_results.ex⟩ (pe3_var 0)) (pe3_globT (by rfl) T.g_KEY)) (pa3_cons (pe3_ix (hu_of hr) (pe3_fld ⟨T.f_Crew_results.ex⟩ (pe3_var 0)) (pe3_globT (by rfl) T.g_VALUE)) pa3_nil))))
  (pb3_cons (ps3_fld ⟨T.f_Crew_vector.ex⟩ (pe3_var 0) (pe3_meth (w_Net_plus T) (hr.mono (by decide)) (pe3_fld ⟨T.f_Crew_net.ex⟩ (pe3_var 0)) (pa3_cons (pe3_meth0 (w_Crew_inner T) (hr.mono (by decide)) (pe3_var 0)) (pa3_cons (pe3_fld ⟨T.f_Crew_sum.ex⟩ (pe3_var 0)) pa3_nil))))
  (pb3_cons (ps3_fld ⟨T.f_Crew_own.ex⟩ (pe3_var 0) (pe3_op op3_add nx_add (pe3_fld ⟨T.f_Crew_own.ex⟩ (pe3_var 0)) (pe3_tup (pa3_cons (pe3_var 2) pa3_nil))))
  (pb3_one (ps3_fld ⟨T.f_Crew_results.ex⟩ (pe3_var 0) (pe3_tup pa3_nil))))))
  (pb3_one (ps3_fld ⟨T.f_Crew_results.ex⟩ (pe3_var 0) (pe3_op op3_add nx_add (pe3_fld ⟨T.f_Crew_results.ex⟩ (pe3_var 0)) (pe3_tup (pa3_cons (pe3_fld ⟨T.f_Crew_sum.ex⟩ (pe3_var 0)) pa3_nil))))))
  (pb3_cons (ps3_fldAug ⟨T.f_Crew_number.ex⟩ (pe3_var 0) pe3_int op3_iadd nx_addI)
  (pb3_cons (ps3_expr (pe3_meth0 (w_Crew_begin_round T) (hr.mono (by decide)) (pe3_var 0)))
  (pb3_one (ps3_expr (pe3_meth0 (w_Crew_send_all T) (hr.mono (by decide)) (pe3_var 0)))))))))
abbrev N_Crew_deliver : List Str := ["self", "number", "part"]
theorem sc_Crew_deliver : FnScope N_Crew_deliver ["self", "number"] (defScope st_Crew_deliver) := ⟨rfl, rfl, rfl, by decide +kernel, rfl, by decide +kernel, by decide +kernel⟩
theorem nd_Crew_deliver : N_Crew_deliver.Nodup := sc_Crew_deliver.nd
theorem w_Crew_deliver (T : Txt K mg) : MethAt P w K mg base 7 "Crew" (nm "deliver") 2 m_Crew_deliver := by
  unfold m_Crew_deliver
  exact (methAt T.d_Crew_deliver sc_Crew_deliver (fun _ _ _ _ _ _ us hl => match us, hl with | [_, _], _ => rfl) fun f cdv A outer s H E hr =>
  (pb3_cons (ps3_set nd_Crew_deliver rfl (by first | exact .inl rfl | exact .inr rfl) (pe3_meth (w_Crew_take_out T) (hr.mono (by decide)) (pe3_var 0) (pa3_cons (pe3_var 1) pa3_nil)))
  (pb3_cons (ps3_if (pt3_not (pt3_val (pe3_meth (w_Crew_is_wanted T) (hr.mono (by decide)) (pe3_var 0) (pa3_cons (pe3_var 2) pa3_nil))))
  (pb3_one (ps3_ret pe3_bl))
  pb3_nil)
  (pb3_cons (ps3_fld ⟨T.f_Crew_sum.ex⟩ (pe3_var 0) (pe3_meth (w_Net_plus T) (hr.mono (by decide)) (pe3_fld ⟨T.f_Crew_net.ex⟩ (pe3_var 0)) (pa3_cons (pe3_fld ⟨T.f_Crew_sum.ex⟩ (pe3_var 0)) (pa3_cons (pe3_meth (w_Crew_part T) (hr.mono (by decide)) (pe3_var 0) (pa3_cons (pe3_ix (hu_of hr) (pe3_var 2) pe3_int) pa3_nil)) pa3_nil))))
  (pb3_cons (ps3_expr (pe3_append (pe3_fld ⟨T.f_Crew_had.ex⟩ (pe3_var 0)) (pe3_ix (hu_of hr) (pe3_var 2) pe3_int)))
  (pb3_cons (ps3_if (pt3_cmp (op3_eq hr.units) nx_eq (pe3_len (pq3_e (pe3_fld ⟨T.f_Crew_had.ex⟩ (pe3_var 0))) (by rfl) T.b_len) (pe3_fld ⟨T.f_Crew_many.ex⟩ (pe3_var 0)) (nomark _))
  (pb3_one (ps3_expr (pe3_meth0 (w_Crew_end_round T) (hr.mono (by decide)) (pe3_var 0))))
  pb3_nil)
  (pb3_one (ps3_ret pe3_bl))))))))
abbrev N__law_some_deeds : List Str := ["pool", "crew", "c", "deeds", "k", "at", "kind", "due", "told", "part"]
theorem sc__law_some_deeds : FnScope N__law_some_deeds ["pool", "crew", "c", "deeds"] (defScope st__law_some_deeds) := ⟨rfl, rfl, rfl, by decide +kernel, rfl, by decide +kernel, by decide +kernel⟩
theorem nd__law_some_deeds : N__law_some_deeds.Nodup := sc__law_some_deeds.nd
theorem w__law_some_deeds (T : Txt K mg) : FnAt P w K mg base 13 "_law_some_deeds" 4 m__law_some_deeds := by
  unfold m__law_some_deeds
  exact (fnAt T.d__law_some_deeds sc__law_some_deeds (fun _ _ _ _ _ _ us hl => match us, hl with | [_, _, _, _], _ => rfl) fun f cdv A outer s H E hr =>
  (pb3_cons (ps3_for rfl (pi3_rng1 (pe3_var 3) (by rfl) T.b_range) (pg3_name nd__law_some_deeds rfl (by first | exact .inl rfl | exact .inr rfl))
  (pb3_one (ps3_if (pt3_cmp op3_gt nx_gt (pe3_len (pq3_e (pe3_ix (hu_of hr) (pe3_var 2) pe3_str)) (by rfl) T.b_len) pe3_int (nomark _))
  (pb3_cons (ps3_set nd__law_some_deeds rfl (by first | exact .inl rfl | exact .inr rfl) (pe3_call (w__law_draw T) (hr.mono (by decide)) (by rfl) (pa3_cons (pe3_var 0) (pa3_cons (pe3_len (pq3_e (pe3_ix (hu_of hr) (pe3_var 2) pe3_str)) (by rfl) T.b_len) pa3_nil))))
  (pb3_cons (ps3_set nd__law_some_deeds rfl (by first | exact .inl rfl | exact .inr rfl) (pe3_call (w__law_draw T) (hr.mono (by decide)) (by rfl) (pa3_cons (pe3_var 0) (pa3_cons pe3_int pa3_nil))))
  (pb3_cons (ps3_set nd__law_some_deeds rfl (by first | exact .inl rfl | exact .inr rfl) pe3_non)
  (pb3_cons (ps3_if (pt3_cmp (op3_eq hr.units) nx_eq (pe3_var 6) pe3_int (nomark _))
  (pb3_cons (ps3_expr (pe3_append (pe3_ix (hu_of hr) (pe3_var 2) pe3_str) (pe3_ix (hu_of hr) (pe3_ix (hu_of hr) (pe3_var 2) pe3_str) (pe3_var 5))))
  (pb3_one (ps3_set nd__law_some_deeds rfl (by first | exact .inl rfl | exact .inr rfl) (pe3_meth (w_Crew_double T) (hr.mono (by decide)) (pe3_var 1) (pa3_cons (pe3_var 5) pa3_nil)))))
  (pb3_one (ps3_if (pt3_cmp (op3_eq hr.units) nx_eq (pe3_var 6) pe3_int (nomark _))
  (pb3_cons (ps3_set nd__law_some_deeds rfl (by first | exact .inl rfl | exact .inr rfl) (pe3_popAt (pe3_ix (hu_of hr) (pe3_var 2) pe3_str) (pe3_var 5)))
  (pb3_cons (ps3_if (pt3_w (pw3_and (pt3_val (pe3_call (w__law_is_wanted T) (hr.mono (by decide)) (by rfl) (pa3_cons (pe3_var 2) (pa3_cons (pe3_var 9) pa3_nil)))) (pw3_and1 (pt3_notIn (hu65 hr) (pe3_var 9) (pq3_e (pe3_ix (hu_of hr) (pe3_var 2) pe3_str)) (by with_unfolding_all rfl)))))
  (pb3_one (ps3_expr (pe3_append (pe3_ix (hu_of hr) (pe3_var 2) pe3_str) (pe3_var 9))))
  pb3_nil)
  (pb3_one (ps3_set nd__law_some_deeds rfl (by first | exact .inl rfl | exact .inr rfl) (pe3_meth (w_Crew_lose T) (hr.mono (by decide)) (pe3_var 1) (pa3_cons (pe3_var 5) pa3_nil))))))
  (pb3_cons (ps3_set nd__law_some_deeds rfl (by first | exact .inl rfl | exact .inr rfl) (pe3_call (w__law_arrives T) (hr.mono (by decide)) (by rfl) (pa3_cons (pe3_var 2) (pa3_cons (pe3_var 5) pa3_nil))))
  (pb3_one (ps3_set nd__law_some_deeds rfl (by first | exact .inl rfl | exact .inr rfl) (pe3_meth (w_Crew_deliver T) (hr.mono (by decide)) (pe3_var 1) (pa3_cons (pe3_var 5) pa3_nil))))))))
  (pb3_one (ps3_if (pt3_not (pt3_val (pe3_call (w__law_same T 12) (hr.mono (by decide)) (by rfl) (pa3_cons (pe3_tup (pa3_cons (pe3_var 8) (pa3_cons (pe3_meth0 (w_Crew_waiting T) (hr.mono (by decide)) (pe3_var 1)) pa3_nil))) (pa3_cons (pe3_tup (pa3_cons (pe3_var 7) (pa3_cons (pe3_tupOf (pq3_e (pe3_ix (hu_of hr) (pe3_var 2) pe3_str)) (by rfl) T.b_tuple) pa3_nil))) pa3_nil)))))
  (pb3_one (ps3_ret pe3_bl))
  pb3_nil))))))
  pb3_nil)))
  (pb3_one (ps3_ret pe3_bl))))
abbrev N__law_listed : List Str := ["row", "pair"]
theorem sc__law_listed : FnScope N__law_listed ["row"] (defScope st__law_listed) := ⟨rfl, rfl, rfl, by decide +kernel, rfl, by decide +kernel, by decide +kernel⟩
theorem nd__law_listed : N__law_listed.Nodup := sc__law_listed.nd
theorem w__law_listed (T : Txt K mg) : FnAt P w K mg base 1 "_law_listed" 1 m__law_listed := by
  unfold m__law_listed
  exact (fnAt T.d__law_listed sc__law_listed (fun _ _ _ _ _ _ us hl => match us, hl with | [_], _ => rfl) fun f cdv A outer s H E hr =>
  (pb3_one (ps3_ret (pe3_new (pl3_lst (pa3_cons (pe3_new (pl3_lc rfl nd__law_listed (pi3_seq (pq3_e (pe3_ix (hu_of hr) (pe3_var 0) pe3_int))) (blkOk_by (own := [("pair", 1)]) (by kernel_rfl)) rfl (fun _ _ _ _ _ => (pg3_name nd__law_listed rfl (by first | exact .inl rfl | exact .inr rfl))) (fun _ _ _ _ _ => pts3_nil) (fun _ _ _ _ _ => (pe3_new (pl3_lst (pa3_cons (pe3_new (pl3_listOf (pq3_e (pe3_ix (hu_of hr) (pe3_var 1) pe3_int)) (by rfl) T.b_list)) (pa3_cons (pe3_new (pl3_listOf (pq3_e (pe3_ix (hu_of hr) (pe3_var 1) pe3_int)) (by rfl) T.b_list)) pa3_nil))))))) (pa3_cons (pe3_new (pl3_listOf (pq3_e (pe3_ix (hu_of hr) (pe3_var 0) pe3_int)) (by rfl) T.b_list)) pa3_nil)))))))
abbrev N__law_refused : List Str := ["crew", "rows", "letter", "told", "e"]
theorem sc__law_refused : FnScope N__law_refused ["crew", "rows", "letter"] (defScope st__law_refused) := ⟨rfl, rfl, rfl, by decide +kernel, rfl, by decide +kernel, by decide +kernel⟩
theorem nd__law_refused : N__law_refused.Nodup := sc__law_refused.nd
theorem w__law_refused (T : Txt K mg) : FnAt P w K mg base 13 "_law_refused" 3 m__law_refused := by
  unfold m__law_refused
  exact (fnAt T.d__law_refused sc__law_refused (fun _ _ _ _ _ _ us hl => match us, hl with | [_, _, _], _ => rfl) fun f cdv A outer s H E hr =>
  (pb3_cons (ps3_set nd__law_refused rfl (by first | exact .inl rfl | exact .inr rfl) pe3_non)
  (pb3_cons (ps3_tryGet (x_InvalidLetter T) (f := "letter") (by rfl) rfl rfl nd__law_refused rfl rfl (by decide) rfl rfl (by rfl) (fun _ _ => (pb3_one (ps3_expr (pe3_meth (w_Crew_begin T) (hr.mono (by decide)) (pe3_var 0) (pa3_cons (pe3_var 1) (pa3_cons (pe3_var 2) pa3_nil)))))))
  (pb3_one (ps3_ret (pe3_call (w__law_same T 12) (hr.mono (by decide)) (by rfl) (pa3_cons (pe3_var 3) (pa3_cons (pe3_var 2) pa3_nil))))))))
abbrev N__law_delivered : List Str := ["pool", "crew", "c", "k", "wanted", "at"]
theorem sc__law_delivered : FnScope N__law_delivered ["pool", "crew", "c"] (defScope st__law_delivered) := ⟨rfl, rfl, rfl, by decide +kernel, rfl, by decide +kernel, by decide +kernel⟩
theorem nd__law_delivered : N__law_delivered.Nodup := sc__law_delivered.nd
theorem w__law_delivered (T : Txt K mg) : FnAt P w K mg base 13 "_law_delivered" 3 m__law_delivered := by
  unfold m__law_delivered
  exact (fnAt T.d__law_delivered sc__law_delivered (fun _ _ _ _ _ _ us hl => match us, hl with | [_, _, _], _ => rfl) fun f cdv A outer s H E hr =>
  (pb3_cons (ps3_for rfl (pi3_rng1 (pe3_op op3_mul nx_mul (pe3_ix (hu_of hr) (pe3_var 2) pe3_str) (pe3_ix (hu_of hr) (pe3_var 2) pe3_str)) (by rfl) T.b_range) (pg3_name nd__law_delivered rfl (by first | exact .inl rfl | exact .inr rfl))
  (pb3_cons (ps3_setLc rfl nd__law_delivered rfl rfl (sw_true rfl rfl rfl rfl) (pi3_rng1 (pe3_len (pq3_e (pe3_ix (hu_of hr) (pe3_var 2) pe3_str)) (by rfl) T.b_len) (by rfl) T.b_range) (blkOk_by (own := [("at", 5)]) (by kernel_rfl)) rfl (fun _ _ _ _ _ => (pg3_name nd__law_delivered rfl (by first | exact .inl rfl | exact .inr rfl))) (fun _ _ _ _ _ => (pts3_one (pt3_val (pe3_call (w__law_is_wanted T) (hr.mono (by decide)) (by rfl) (pa3_cons (pe3_var 2) (pa3_cons (pe3_ix (hu_of hr) (pe3_ix (hu_of hr) (pe3_var 2) pe3_str) (pe3_var 5)) pa3_nil)))))) (fun _ _ _ _ _ => (pe3_var 5)))
  (pb3_one (ps3_if (pt3_cmp op3_gt nx_gt (pe3_len (pq3_e (pe3_var 4)) (by rfl) T.b_len) pe3_int (nomark _))
  (pb3_cons (ps3_set nd__law_delivered rfl (by first | exact .inl rfl | exact .inr rfl) (pe3_ix (hu_of hr) (pe3_var 4) (pe3_call (w__law_draw T) (hr.mono (by decide)) (by rfl) (pa3_cons (pe3_var 0) (pa3_cons (pe3_len (pq3_e (pe3_var 4)) (by rfl) T.b_len) pa3_nil)))))
  (pb3_one (ps3_if (pt3_w (pw3_or (pt3_notN (pe3_meth0 (w_Crew_row T) (hr.mono (by decide)) (pe3_var 1))) (pw3_or1 (pt3_not (pt3_val (pe3_call (w__law_same T 12) (hr.mono (by decide)) (by rfl) (pa3_cons (pe3_meth (w_Crew_deliver T) (hr.mono (by decide)) (pe3_var 1) (pa3_cons (pe3_var 5) pa3_nil)) (pa3_cons (pe3_call (w__law_arrives T) (hr.mono (by decide)) (by rfl) (pa3_cons (pe3_var 2) (pa3_cons (pe3_var 5) pa3_nil))) pa3_nil))))))))
  (pb3_one (ps3_ret pe3_bl))
  pb3_nil)))
  pb3_nil))))
  (pb3_one (ps3_ret (pe3_call (w__law_same T 12) (hr.mono (by decide)) (by rfl) (pa3_cons (pe3_meth0 (w_Crew_waiting T) (hr.mono (by decide)) (pe3_var 1)) (pa3_cons (pe3_tupOf (pq3_e (pe3_ix (hu_of hr) (pe3_var 2) pe3_str)) (by rfl) T.b_tuple) pa3_nil)))))))
abbrev N_Net_times : List Str := ["self", "matrix", "vector", "row"]
theorem sc_Net_times : FnScope N_Net_times ["self", "matrix", "vector"] (defScope st_Net_times) := ⟨rfl, rfl, rfl, by decide +kernel, rfl, by decide +kernel, by decide +kernel⟩
theorem nd_Net_times : N_Net_times.Nodup := sc_Net_times.nd
theorem w_Net_times (T : Txt K mg) : MethAt P w K mg base 2 "Net" (nm "times") 3 m_Net_times := by
  unfold m_Net_times
  exact (methAt T.d_Net_times sc_Net_times (fun _ _ _ _ _ _ us hl => match us, hl with | [_, _, _], _ => rfl) fun f cdv A outer s H E hr =>
  (pb3_one (ps3_ret (pe3_tupOf (pq3_l (pl3_lc rfl nd_Net_times (pi3_seq (pq3_e (pe3_var 1))) (blkOk_by (own := [("row", 3)]) (by kernel_rfl)) rfl (fun _ _ _ _ _ => (pg3_name nd_Net_times rfl (by first | exact .inl rfl | exact .inr rfl))) (fun _ _ _ _ _ => pts3_nil) (fun _ _ _ _ _ => (pe3_meth (w_Net_rest T) (hr.mono (by decide)) (pe3_var 0) (pa3_cons (pe3_call (w_product_sum T) (hr.mono (by decide)) (by rfl) (pa3_cons (pe3_var 3) (pa3_cons (pe3_var 2) pa3_nil))) pa3_nil))))) (by rfl) T.b_tuple))))
abbrev N_Net_row : List Str := ["self", "rows", "letter", "x", "own", "layer", "query", "key", "value", "first", "second", "pair", "pairs", "weights", "number", "row", "vector"]
theorem sc_Net_row : FnScope N_Net_row ["self", "rows", "letter"] (defScope st_Net_row) := ⟨rfl, rfl, rfl, by decide +kernel, rfl, by decide +kernel, by decide +kernel⟩
theorem nd_Net_row : N_Net_row.Nodup := sc_Net_row.nd
theorem w_Net_row (T : Txt K mg) : MethAt P w K mg base 4 "Net" (nm "row") 3 m_Net_row := by
  unfold m_Net_row
  exact (methAt T.d_Net_row sc_Net_row (fun _ _ _ _ _ _ us hl => match us, hl with | [_, _, _], _ => rfl) fun f cdv A outer s H E hr =>
  (pb3_cons (ps3_if (pt3_not (pt3_val (pe3_meth (w_Net_is_letter T) (hr.mono (by decide)) (pe3_var 0) (pa3_cons (pe3_var 2) pa3_nil))))
  (pb3_one (ps3_raise (x_InvalidLetter T) rfl (hr.mono (by decide)) (by rfl) (pa3_cons (pe3_var 2) pa3_nil)))
  pb3_nil)
  (pb3_cons (ps3_set nd_Net_row rfl (by first | exact .inl rfl | exact .inr rfl) (pe3_meth (w_Net_plus T) (hr.mono (by decide)) (pe3_var 0) (pa3_cons (pe3_ix (hu_of hr) (pe3_fld ⟨T.f_Net_embed.ex⟩ (pe3_var 0)) (pe3_var 2)) (pa3_cons (pe3_new (pl3_lc rfl nd_Net_row (pi3_seq (pq3_e (pe3_fld ⟨T.f_Net_shift.ex⟩ (pe3_var 0)))) (blkOk_by (own := [("number", 14)]) (by kernel_rfl)) rfl (fun _ _ _ _ _ => (pg3_name nd_Net_row rfl (by first | exact .inl rfl | exact .inr rfl))) (fun _ _ _ _ _ => pts3_nil) (fun _ _ _ _ _ => (pe3_op op3_mul nx_mul (pe3_len (pq3_e (pe3_var 1)) (by rfl) T.b_len) (pe3_var 14))))) pa3_nil))))
  (pb3_cons (ps3_set nd_Net_row rfl (by first | exact .inl rfl | exact .inr rfl) (pe3_new (pl3_lst pa3_nil)))
  (pb3_cons (ps3_for rfl (pi3_enum (pq3_e (pe3_fld ⟨T.f_Net_layers.ex⟩ (pe3_var 0))) (by rfl) T.b_enumerate) (pg3_tup rfl (pgs3_cons (pg3_name nd_Net_row rfl (by first | exact .inl rfl | exact .inr rfl)) (pgs3_cons (pg3_tup rfl (pgs3_cons (pg3_name nd_Net_row rfl (by first | exact .inl rfl | exact .inr rfl)) (pgs3_cons (pg3_name nd_Net_row rfl (by first | exact .inl rfl | exact .inr rfl)) (pgs3_cons (pg3_name nd_Net_row rfl (by first | exact .inl rfl | exact .inr rfl)) (pgs3_cons (pg3_name nd_Net_row rfl (by first | exact .inl rfl | exact .inr rfl)) (pgs3_cons (pg3_name nd_Net_row rfl (by first | exact .inl rfl | exact .inr rfl)) pgs3_nil)))))) pgs3_nil)))
  (pb3_cons (ps3_set nd_Net_row rfl (by first | exact .inl rfl | exact .inr rfl) (pe3_tup (pa3_cons (pe3_meth (w_Net_times T) (hr.mono (by decide)) (pe3_var 0) (pa3_cons (pe3_var 7) (pa3_cons (pe3_var 3) pa3_nil))) (pa3_cons (pe3_meth (w_Net_times T) (hr.mono (by decide)) (pe3_var 0) (pa3_cons (pe3_var 8) (pa3_cons (pe3_var 3) pa3_nil))) pa3_nil))))
  (pb3_cons (ps3_set nd_Net_row rfl (by first | exact .inl rfl | exact .inr rfl) (pe3_new (pl3_cat (pq3_l (pl3_lc rfl nd_Net_row (pi3_seq (pq3_e (pe3_var 1))) (blkOk_by (own := [("row", 15)]) (by kernel_rfl)) rfl (fun _ _ _ _ _ => (pg3_name nd_Net_row rfl (by first | exact .inl rfl | exact .inr rfl))) (fun _ _ _ _ _ => pts3_nil) (fun _ _ _ _ _ => (pe3_ix (hu_of hr) (pe3_ix (hu_of hr) (pe3_var 15) pe3_int) (pe3_var 5))))) (pq3_l (pl3_lst (pa3_cons (pe3_var 11) pa3_nil))))))
  (pb3_cons (ps3_set nd_Net_row rfl (by first | exact .inl rfl | exact .inr rfl) (pe3_meth (w_Net_plus T) (hr.mono (by decide)) (pe3_var 0) (pa3_cons (pe3_var 3) (pa3_cons (pe3_meth (w_Net_looked_at T) (hr.mono (by decide)) (pe3_var 0) (pa3_cons (pe3_meth (w_Net_times T) (hr.mono (by decide)) (pe3_var 0) (pa3_cons (pe3_var 6) (pa3_cons (pe3_var 3) pa3_nil))) (pa3_cons (pe3_var 12) pa3_nil))) pa3_nil))))
  (pb3_cons (ps3_set nd_Net_row rfl (by first | exact .inl rfl | exact .inr rfl) (pe3_meth (w_Net_plus T) (hr.mono (by decide)) (pe3_var 0) (pa3_cons (pe3_var 3) (pa3_cons (pe3_meth (w_Net_times T) (hr.mono (by decide)) (pe3_var 0) (pa3_cons (pe3_var 10) (pa3_cons (pe3_new (pl3_lc rfl nd_Net_row (pi3_seq (pq3_e (pe3_meth (w_Net_times T) (hr.mono (by decide)) (pe3_var 0) (pa3_cons (pe3_var 9) (pa3_cons (pe3_var 3) pa3_nil))))) (blkOk_by (own := [("number", 14)]) (by kernel_rfl)) rfl (fun _ _ _ _ _ => (pg3_name nd_Net_row rfl (by first | exact .inl rfl | exact .inr rfl))) (fun _ _ _ _ _ => pts3_nil) (fun _ _ _ _ _ => (pe3_op op3_mul nx_mul (pe3_var 14) (pe3_var 14))))) pa3_nil))) pa3_nil))))
  (pb3_one (ps3_expr (pe3_append (pe3_var 4) (pe3_var 11)))))))))
  (pb3_cons (ps3_setLc rfl nd_Net_row rfl rfl (sw_true rfl rfl rfl rfl) (pi3_seq (pq3_e (pe3_fld ⟨T.f_Net_out.ex⟩ (pe3_var 0)))) (blkOk_by (own := [("vector", 16)]) (by kernel_rfl)) rfl (fun _ _ _ _ _ => (pg3_name nd_Net_row rfl (by first | exact .inl rfl | exact .inr rfl))) (fun _ _ _ _ _ => pts3_nil) (fun _ _ _ _ _ => (pe3_op op3_add nx_add pe3_int (pe3_meth (w_Net_rest T) (hr.mono (by decide)) (pe3_var 0) (pa3_cons (pe3_call (w_product_sum T) (hr.mono (by decide)) (by rfl) (pa3_cons (pe3_var 16) (pa3_cons (pe3_var 3) pa3_nil))) pa3_nil)))))
  (pb3_one (ps3_ret (pe3_tup (pa3_cons (pe3_tupOf (pq3_e (pe3_var 4)) (by rfl) T.b_tuple) (pa3_cons (pe3_tupOf (pq3_e (pe3_var 13)) (by rfl) T.b_tuple) pa3_nil)))))))))))
abbrev N_rows_of : List Str := ["net", "letters", "rows", "letter"]
theorem sc_rows_of : FnScope N_rows_of ["net", "letters"] (defScope st_rows_of) := ⟨rfl, rfl, rfl, by decide +kernel, rfl, by decide +kernel, by decide +kernel⟩
theorem nd_rows_of : N_rows_of.Nodup := sc_rows_of.nd
theorem w_rows_of (T : Txt K mg) : FnAt P w K mg base 5 "rows_of" 2 m_rows_of := by
  unfold m_rows_of
  exact (fnAt T.d_rows_of sc_rows_of (fun _ _ _ _ _ _ us hl => match us, hl with | [_, _], _ => rfl) fun f cdv A outer s H E hr =>
  (pb3_cons (ps3_set nd_rows_of rfl (by first | exact .inl rfl | exact .inr rfl) (pe3_new (pl3_lst pa3_nil)))
  (pb3_cons (ps3_for rfl (pi3_seq (pq3_e (pe3_var 1))) (pg3_name nd_rows_of rfl (by first | exact .inl rfl | exact .inr rfl))
  (pb3_one (ps3_expr (pe3_append (pe3_var 2) (pe3_meth (w_Net_row T) (hr.mono (by decide)) (pe3_var 0) (pa3_cons (pe3_var 2) (pa3_cons (pe3_var 3) pa3_nil)))))))
  (pb3_one (ps3_ret (pe3_tupOf (pq3_e (pe3_var 2)) (by rfl) T.b_tuple))))))
abbrev N__law_jobs : List Str := ["pool", "text", "told", "letters", "jobs", "k", "at", "behind", "ahead", "j", "row"]
theorem sc__law_jobs : FnScope N__law_jobs ["pool", "text", "told", "letters"] (defScope st__law_jobs) := ⟨rfl, rfl, rfl, by decide +kernel, rfl, by decide +kernel, by decide +kernel⟩
theorem nd__law_jobs : N__law_jobs.Nodup := sc__law_jobs.nd
theorem w__law_jobs (T : Txt K mg) : FnAt P w K mg base 3 "_law_jobs" 4 m__law_jobs := by
  unfold m__law_jobs
  exact (fnAt T.d__law_jobs sc__law_jobs (fun _ _ _ _ _ _ us hl => match us, hl with | [_, _, _, _], _ => rfl) fun f cdv A outer s H E hr =>
  (pb3_cons (ps3_set nd__law_jobs rfl (by first | exact .inl rfl | exact .inr rfl) (pe3_new (pl3_lst pa3_nil)))
  (pb3_cons (ps3_for rfl (pi3_rng1 (pe3_op op3_add nx_add pe3_int (pe3_call (w__law_draw T) (hr.mono (by decide)) (by rfl) (pa3_cons (pe3_var 0) (pa3_cons pe3_int pa3_nil)))) (by rfl) T.b_range) (pg3_name nd__law_jobs rfl (by first | exact .inl rfl | exact .inr rfl))
  (pb3_cons (ps3_set nd__law_jobs rfl (by first | exact .inl rfl | exact .inr rfl) (pe3_call (w__law_draw T) (hr.mono (by decide)) (by rfl) (pa3_cons (pe3_var 0) (pa3_cons (pe3_op op3_add nx_add (pe3_len (pq3_e (pe3_var 1)) (by rfl) T.b_len) pe3_int) pa3_nil))))
  (pb3_cons (ps3_set nd__law_jobs rfl (by first | exact .inl rfl | exact .inr rfl) (pe3_slT (pe3_var 1) (po3_some (pe3_var 6)) (po3_some (pe3_op op3_add nx_add (pe3_var 6) (pe3_call (w__law_draw T) (hr.mono (by decide)) (by rfl) (pa3_cons (pe3_var 0) (pa3_cons pe3_int pa3_nil)))))))
  (pb3_cons (ps3_if (pt3_cmp (op3_eq hr.units) nx_eq (pe3_call (w__law_draw T) (hr.mono (by decide)) (by rfl) (pa3_cons (pe3_var 0) (pa3_cons pe3_int pa3_nil))) pe3_int (nomark _))
  (pb3_one (ps3_set nd__law_jobs rfl (by first | exact .inl rfl | exact .inr rfl) (pe3_op op3_add nx_add (pe3_var 7) (pe3_call (w__law_numbers T) (hr.mono (by decide)) (by rfl) (pa3_cons (pe3_var 0) (pa3_cons pe3_int (pa3_cons (pe3_var 3) pa3_nil)))))))
  pb3_nil)
  (pb3_cons (ps3_setLc rfl nd__law_jobs rfl rfl (sw_true rfl rfl rfl rfl) (pi3_rng1 (pe3_var 6) (by rfl) T.b_range) (blkOk_by (own := [("j", 9)]) (by kernel_rfl)) rfl (fun _ _ _ _ _ => (pg3_name nd__law_jobs rfl (by first | exact .inl rfl | exact .inr rfl))) (fun _ _ _ _ _ => pts3_nil) (fun _ _ _ _ _ => (pe3_ix (hu_of hr) (pe3_var 2) (pe3_var 9))))
  (pb3_cons (ps3_if (pt3_cmp (op3_eq hr.units) nx_eq (pe3_call (w__law_draw T) (hr.mono (by decide)) (by rfl) (pa3_cons (pe3_var 0) (pa3_cons pe3_int pa3_nil))) pe3_int (nomark _))
  (pb3_one (ps3_setLc rfl nd__law_jobs rfl rfl (sw_true rfl rfl rfl rfl) (pi3_seq (pq3_e (pe3_var 8))) (blkOk_by (own := [("row", 10)]) (by kernel_rfl)) rfl (fun _ _ _ _ _ => (pg3_name nd__law_jobs rfl (by first | exact .inl rfl | exact .inr rfl))) (fun _ _ _ _ _ => pts3_nil) (fun _ _ _ _ _ => (pe3_call (w__law_listed T) (hr.mono (by decide)) (by rfl) (pa3_cons (pe3_var 10) pa3_nil)))))
  pb3_nil)
  (pb3_one (ps3_expr (pe3_append (pe3_var 4) (pe3_tup (pa3_cons (pe3_var 6) (pa3_cons (pe3_var 8) (pa3_cons (pe3_var 7) pa3_nil)))))))))))))
  (pb3_one (ps3_ret (pe3_var 4))))))
abbrev N_Job___init__ : List Str := ["self", "net", "rows", "letters", "at", "letter", "place", "number", "_"]
theorem sc_Job___init__ : FnScope N_Job___init__ ["self", "net", "rows", "letters"] (defScope st_Job___init__) := ⟨rfl, rfl, rfl, by decide +kernel, rfl, by decide +kernel, by decide +kernel⟩
theorem nd_Job___init__ : N_Job___init__.Nodup := sc_Job___init__.nd
theorem w_Job___init__ (T : Txt K mg) : MkAt P w K mg base 3 "Job" 4 m_Job___init__ := by
  unfold m_Job___init__
  exact (mkAt T.d_Job___init__ sc_Job___init__ (fun _ _ _ _ _ _ us hl => match us, hl with | [_, _, _, _], _ => rfl) fun f cdv A outer s H E hr =>
  (pb3_cons (ps3_fld ⟨T.f_Job_ahead.ex⟩ (pe3_var 0) (pe3_tupOf (pq3_e (pe3_var 2)) (by rfl) T.b_tuple))
  (pb3_cons (ps3_fld ⟨T.f_Job_vectors.ex⟩ (pe3_var 0) (pe3_new (pl3_lst pa3_nil)))
  (pb3_cons (ps3_for rfl (pi3_enum (pq3_e (pe3_var 3)) (by rfl) T.b_enumerate) (pg3_tup rfl (pgs3_cons (pg3_name nd_Job___init__ rfl (by first | exact .inl rfl | exact .inr rfl)) (pgs3_cons (pg3_name nd_Job___init__ rfl (by first | exact .inl rfl | exact .inr rfl)) pgs3_nil)))
  (pb3_cons (ps3_set nd_Job___init__ rfl (by first | exact .inl rfl | exact .inr rfl) (pe3_op op3_add nx_add (pe3_len (pq3_e (pe3_fld ⟨T.f_Job_ahead.ex⟩ (pe3_var 0))) (by rfl) T.b_len) (pe3_var 4)))
  (pb3_one (ps3_expr (pe3_append (pe3_fld ⟨T.f_Job_vectors.ex⟩ (pe3_var 0)) (pe3_meth (w_Net_plus T) (hr.mono (by decide)) (pe3_var 1) (pa3_cons (pe3_ix (hu_of hr) (pe3_fld ⟨T.f_Net_embed.ex⟩ (pe3_var 1)) (pe3_var 5)) (pa3_cons (pe3_new (pl3_lc rfl nd_Job___init__ (pi3_seq (pq3_e (pe3_fld ⟨T.f_Net_shift.ex⟩ (pe3_var 1)))) (blkOk_by (own := [("number", 7)]) (by kernel_rfl)) rfl (fun _ _ _ _ _ => (pg3_name nd_Job___init__ rfl (by first | exact .inl rfl | exact .inr rfl))) (fun _ _ _ _ _ => pts3_nil) (fun _ _ _ _ _ => (pe3_op op3_mul nx_mul (pe3_var 6) (pe3_var 7))))) pa3_nil))))))))
  (pb3_one (ps3_fld ⟨T.f_Job_pairs.ex⟩ (pe3_var 0) (pe3_new (pl3_lc rfl nd_Job___init__ (pi3_seq (pq3_e (pe3_var 3))) (blkOk_by (own := [("_", 8)]) (by kernel_rfl)) rfl (fun _ _ _ _ _ => (pg3_name nd_Job___init__ rfl (by first | exact .inl rfl | exact .inr rfl))) (fun _ _ _ _ _ => pts3_nil) (fun _ _ _ _ _ => (pe3_tup pa3_nil))))))))))
abbrev N_Job_go_through : List Str := ["self", "net", "number", "query", "key", "value", "first", "second", "fresh", "known", "moved", "at", "vector", "seen", "squares", "row", "one", "pair"]
theorem sc_Job_go_through : FnScope N_Job_go_through ["self", "net", "number"] (defScope st_Job_go_through) := ⟨rfl, rfl, rfl, by decide +kernel, rfl, by decide +kernel, by decide +kernel⟩
theorem nd_Job_go_through : N_Job_go_through.Nodup := sc_Job_go_through.nd
theorem w_Job_go_through (T : Txt K mg) : MethAt P w K mg base 4 "Job" (nm "go_through") 3 m_Job_go_through := by
  unfold m_Job_go_through
  exact (methAt T.d_Job_go_through sc_Job_go_through (fun _ _ _ _ _ _ us hl => match us, hl with | [_, _, _], _ => rfl) fun f cdv A outer s H E hr =>
  (pb3_cons (ps3_asg (pe3_ix (hu_of hr) (pe3_fld ⟨T.f_Net_layers.ex⟩ (pe3_var 1)) (pe3_var 2)) (pg3_tup rfl (pgs3_cons (pg3_name nd_Job_go_through rfl (by first | exact .inl rfl | exact .inr rfl)) (pgs3_cons (pg3_name nd_Job_go_through rfl (by first | exact .inl rfl | exact .inr rfl)) (pgs3_cons (pg3_name nd_Job_go_through rfl (by first | exact .inl rfl | exact .inr rfl)) (pgs3_cons (pg3_name nd_Job_go_through rfl (by first | exact .inl rfl | exact .inr rfl)) (pgs3_cons (pg3_name nd_Job_go_through rfl (by first | exact .inl rfl | exact .inr rfl)) pgs3_nil)))))))
  (pb3_cons (ps3_setLc rfl nd_Job_go_through rfl rfl (sw_true rfl rfl rfl rfl) (pi3_seq (pq3_e (pe3_fld ⟨T.f_Job_vectors.ex⟩ (pe3_var 0)))) (blkOk_by (own := [("vector", 12)]) (by kernel_rfl)) rfl (fun _ _ _ _ _ => (pg3_name nd_Job_go_through rfl (by first | exact .inl rfl | exact .inr rfl))) (fun _ _ _ _ _ => pts3_nil) (fun _ _ _ _ _ => (pe3_tup (pa3_cons (pe3_meth (w_Net_times T) (hr.mono (by decide)) (pe3_var 1) (pa3_cons (pe3_var 4) (pa3_cons (pe3_var 12) pa3_nil))) (pa3_cons (pe3_meth (w_Net_times T) (hr.mono (by decide)) (pe3_var 1) (pa3_cons (pe3_var 5) (pa3_cons (pe3_var 12) pa3_nil))) pa3_nil)))))
  (pb3_cons (ps3_set nd_Job_go_through rfl (by first | exact .inl rfl | exact .inr rfl) (pe3_new (pl3_cat (pq3_l (pl3_lc rfl nd_Job_go_through (pi3_seq (pq3_e (pe3_fld ⟨T.f_Job_ahead.ex⟩ (pe3_var 0)))) (blkOk_by (own := [("row", 15)]) (by kernel_rfl)) rfl (fun _ _ _ _ _ => (pg3_name nd_Job_go_through rfl (by first | exact .inl rfl | exact .inr rfl))) (fun _ _ _ _ _ => pts3_nil) (fun _ _ _ _ _ => (pe3_ix (hu_of hr) (pe3_ix (hu_of hr) (pe3_var 15) pe3_int) (pe3_var 2))))) (pq3_e (pe3_var 8)))))
  (pb3_cons (ps3_set nd_Job_go_through rfl (by first | exact .inl rfl | exact .inr rfl) (pe3_new (pl3_lst pa3_nil)))
  (pb3_cons (ps3_for rfl (pi3_enum (pq3_e (pe3_fld ⟨T.f_Job_vectors.ex⟩ (pe3_var 0))) (by rfl) T.b_enumerate) (pg3_tup rfl (pgs3_cons (pg3_name nd_Job_go_through rfl (by first | exact .inl rfl | exact .inr rfl)) (pgs3_cons (pg3_name nd_Job_go_through rfl (by first | exact .inl rfl | exact .inr rfl)) pgs3_nil)))
  (pb3_cons (ps3_set nd_Job_go_through rfl (by first | exact .inl rfl | exact .inr rfl) (pe3_new (pl3_sl (pq3_e (pe3_var 9)) po3_none (po3_some (pe3_op op3_add nx_add (pe3_op op3_add nx_add (pe3_len (pq3_e (pe3_fld ⟨T.f_Job_ahead.ex⟩ (pe3_var 0))) (by rfl) T.b_len) (pe3_var 11)) pe3_int)))))
  (pb3_cons (ps3_set nd_Job_go_through rfl (by first | exact .inl rfl | exact .inr rfl) (pe3_meth (w_Net_plus T) (hr.mono (by decide)) (pe3_var 1) (pa3_cons (pe3_var 12) (pa3_cons (pe3_meth (w_Net_looked_at T) (hr.mono (by decide)) (pe3_var 1) (pa3_cons (pe3_meth (w_Net_times T) (hr.mono (by decide)) (pe3_var 1) (pa3_cons (pe3_var 3) (pa3_cons (pe3_var 12) pa3_nil))) (pa3_cons (pe3_var 13) pa3_nil))) pa3_nil))))
  (pb3_cons (ps3_setLc rfl nd_Job_go_through rfl rfl (sw_true rfl rfl rfl rfl) (pi3_seq (pq3_e (pe3_meth (w_Net_times T) (hr.mono (by decide)) (pe3_var 1) (pa3_cons (pe3_var 6) (pa3_cons (pe3_var 12) pa3_nil))))) (blkOk_by (own := [("one", 16)]) (by kernel_rfl)) rfl (fun _ _ _ _ _ => (pg3_name nd_Job_go_through rfl (by first | exact .inl rfl | exact .inr rfl))) (fun _ _ _ _ _ => pts3_nil) (fun _ _ _ _ _ => (pe3_op op3_mul nx_mul (pe3_var 16) (pe3_var 16))))
  (pb3_one (ps3_expr (pe3_append (pe3_var 10) (pe3_meth (w_Net_plus T) (hr.mono (by decide)) (pe3_var 1) (pa3_cons (pe3_var 12) (pa3_cons (pe3_meth (w_Net_times T) (hr.mono (by decide)) (pe3_var 1) (pa3_cons (pe3_var 7) (pa3_cons (pe3_var 14) pa3_nil))) pa3_nil))))))))))
  (pb3_cons (ps3_fld ⟨T.f_Job_vectors.ex⟩ (pe3_var 0) (pe3_var 10))
  (pb3_one (ps3_fld ⟨T.f_Job_pairs.ex⟩ (pe3_var 0) (pe3_new (pl3_lc rfl nd_Job_go_through (pi3_zip (pq3_e (pe3_fld ⟨T.f_Job_pairs.ex⟩ (pe3_var 0))) (pq3_e (pe3_var 8)) (by rfl) T.b_zip) (blkOk_by (own := [("row", 15), ("pair", 17)]) (by kernel_rfl)) rfl (fun _ _ _ _ _ => (pg3_tup rfl (pgs3_cons (pg3_name nd_Job_go_through rfl (by first | exact .inl rfl | exact .inr rfl)) (pgs3_cons (pg3_name nd_Job_go_through rfl (by first | exact .inl rfl | exact .inr rfl)) pgs3_nil)))) (fun _ _ _ _ _ => pts3_nil) (fun _ _ _ _ _ => (pe3_op op3_add nx_add (pe3_var 15) (pe3_tup (pa3_cons (pe3_var 17) pa3_nil)))))))))))))))
abbrev N_Job_rows : List Str := ["self", "net", "found", "pairs", "vector", "weights", "other"]
theorem sc_Job_rows : FnScope N_Job_rows ["self", "net"] (defScope st_Job_rows) := ⟨rfl, rfl, rfl, by decide +kernel, rfl, by decide +kernel, by decide +kernel⟩
theorem nd_Job_rows : N_Job_rows.Nodup := sc_Job_rows.nd
theorem w_Job_rows (T : Txt K mg) : MethAt P w K mg base 2 "Job" (nm "rows") 2 m_Job_rows := by
  unfold m_Job_rows
  exact (methAt T.d_Job_rows sc_Job_rows (fun _ _ _ _ _ _ us hl => match us, hl with | [_, _], _ => rfl) fun f cdv A outer s H E hr =>
  (pb3_cons (ps3_set nd_Job_rows rfl (by first | exact .inl rfl | exact .inr rfl) (pe3_new (pl3_lst pa3_nil)))
  (pb3_cons (ps3_for rfl (pi3_zip (pq3_e (pe3_fld ⟨T.f_Job_pairs.ex⟩ (pe3_var 0))) (pq3_e (pe3_fld ⟨T.f_Job_vectors.ex⟩ (pe3_var 0))) (by rfl) T.b_zip) (pg3_tup rfl (pgs3_cons (pg3_name nd_Job_rows rfl (by first | exact .inl rfl | exact .inr rfl)) (pgs3_cons (pg3_name nd_Job_rows rfl (by first | exact .inl rfl | exact .inr rfl)) pgs3_nil)))
  (pb3_cons (ps3_setLc rfl nd_Job_rows rfl rfl (sw_true rfl rfl rfl rfl) (pi3_seq (pq3_e (pe3_fld ⟨T.f_Net_out.ex⟩ (pe3_var 1)))) (blkOk_by (own := [("other", 6)]) (by kernel_rfl)) rfl (fun _ _ _ _ _ => (pg3_name nd_Job_rows rfl (by first | exact .inl rfl | exact .inr rfl))) (fun _ _ _ _ _ => pts3_nil) (fun _ _ _ _ _ => (pe3_op op3_add nx_add pe3_int (pe3_meth (w_Net_rest T) (hr.mono (by decide)) (pe3_var 1) (pa3_cons (pe3_call (w_product_sum T) (hr.mono (by decide)) (by rfl) (pa3_cons (pe3_var 6) (pa3_cons (pe3_var 4) pa3_nil))) pa3_nil)))))
  (pb3_one (ps3_expr (pe3_append (pe3_var 2) (pe3_tup (pa3_cons (pe3_var 3) (pa3_cons (pe3_tupOf (pq3_e (pe3_var 5)) (by rfl) T.b_tuple) pa3_nil))))))))
  (pb3_one (ps3_ret (pe3_tupOf (pq3_e (pe3_var 2)) (by rfl) T.b_tuple))))))
abbrev N_rows_in_batch : List Str := ["net", "jobs", "_", "letters", "letter", "work", "number", "job", "rows"]
theorem sc_rows_in_batch : FnScope N_rows_in_batch ["net", "jobs"] (defScope st_rows_in_batch) := ⟨rfl, rfl, rfl, by decide +kernel, rfl, by decide +kernel, by decide +kernel⟩
theorem nd_rows_in_batch : N_rows_in_batch.Nodup := sc_rows_in_batch.nd
theorem w_rows_in_batch (T : Txt K mg) : FnAt P w K mg base 5 "rows_in_batch" 2 m_rows_in_batch := by
  unfold m_rows_in_batch
  exact (fnAt T.d_rows_in_batch sc_rows_in_batch (fun _ _ _ _ _ _ us hl => match us, hl with | [_, _], _ => rfl) fun f cdv A outer s H E hr =>
  (pb3_cons (ps3_for rfl (pi3_seq (pq3_e (pe3_var 1))) (pg3_tup rfl (pgs3_cons (pg3_name nd_rows_in_batch rfl (by first | exact .inl rfl | exact .inr rfl)) (pgs3_cons (pg3_name nd_rows_in_batch rfl (by first | exact .inl rfl | exact .inr rfl)) pgs3_nil)))
  (pb3_one (ps3_for rfl (pi3_seq (pq3_e (pe3_var 3))) (pg3_name nd_rows_in_batch rfl (by first | exact .inl rfl | exact .inr rfl))
  (pb3_one (ps3_if (pt3_not (pt3_val (pe3_meth (w_Net_is_letter T) (hr.mono (by decide)) (pe3_var 0) (pa3_cons (pe3_var 4) pa3_nil))))
  (pb3_one (ps3_raise (x_InvalidLetter T) rfl (hr.mono (by decide)) (by rfl) (pa3_cons (pe3_var 4) pa3_nil)))
  pb3_nil)))))
  (pb3_cons (ps3_setLc rfl nd_rows_in_batch rfl rfl (sw_true rfl rfl rfl rfl) (pi3_seq (pq3_e (pe3_var 1))) (blkOk_by (own := [("rows", 8), ("letters", 3)]) (by kernel_rfl)) rfl (fun _ _ _ _ _ => (pg3_tup rfl (pgs3_cons (pg3_name nd_rows_in_batch rfl (by first | exact .inl rfl | exact .inr rfl)) (pgs3_cons (pg3_name nd_rows_in_batch rfl (by first | exact .inl rfl | exact .inr rfl)) pgs3_nil)))) (fun _ _ _ _ _ => pts3_nil) (fun _ _ _ _ _ => (pe3_make (w_Job___init__ T) (hr.mono (by decide)) (by rfl) (pa3_cons (pe3_var 0) (pa3_cons (pe3_var 8) (pa3_cons (pe3_var 3) pa3_nil))))))
  (pb3_cons (ps3_for rfl (pi3_rng1 (pe3_len (pq3_e (pe3_fld ⟨T.f_Net_layers.ex⟩ (pe3_var 0))) (by rfl) T.b_len) (by rfl) T.b_range) (pg3_name nd_rows_in_batch rfl (by first | exact .inl rfl | exact .inr rfl))
  (pb3_one (ps3_for rfl (pi3_seq (pq3_e (pe3_var 5))) (pg3_name nd_rows_in_batch rfl (by first | exact .inl rfl | exact .inr rfl))
  (pb3_one (ps3_expr (pe3_meth (w_Job_go_through T) (hr.mono (by decide)) (pe3_var 7) (pa3_cons (pe3_var 0) (pa3_cons (pe3_var 6) pa3_nil))))))))
  (pb3_one (ps3_ret (pe3_tupOf (pq3_l (pl3_lc rfl nd_rows_in_batch (pi3_seq (pq3_e (pe3_var 5))) (blkOk_by (own := [("job", 7)]) (by kernel_rfl)) rfl (fun _ _ _ _ _ => (pg3_name nd_rows_in_batch rfl (by first | exact .inl rfl | exact .inr rfl))) (fun _ _ _ _ _ => pts3_nil) (fun _ _ _ _ _ => (pe3_meth (w_Job_rows T) (hr.mono (by decide)) (pe3_var 7) (pa3_cons (pe3_var 0) pa3_nil))))) (by rfl) T.b_tuple)))))))
abbrev N__law_in_batch : List Str := ["pool", "net", "model", "text", "told", "jobs", "due", "job", "handed"]
theorem sc__law_in_batch : FnScope N__law_in_batch ["pool", "net", "model", "text", "told"] (defScope st__law_in_batch) := ⟨rfl, rfl, rfl, by decide +kernel, rfl, by decide +kernel, by decide +kernel⟩
theorem nd__law_in_batch : N__law_in_batch.Nodup := sc__law_in_batch.nd
theorem w__law_in_batch (T : Txt K mg) : FnAt P w K mg base 13 "_law_in_batch" 5 m__law_in_batch := by
  unfold m__law_in_batch
  exact (fnAt T.d__law_in_batch sc__law_in_batch (fun _ _ _ _ _ _ us hl => match us, hl with | [_, _, _, _, _], _ => rfl) fun f cdv A outer s H E hr =>
  (pb3_cons (ps3_set nd__law_in_batch rfl (by first | exact .inl rfl | exact .inr rfl) (pe3_call (w__law_jobs T) (hr.mono (by decide)) (by rfl) (pa3_cons (pe3_var 0) (pa3_cons (pe3_var 3) (pa3_cons (pe3_var 4) (pa3_cons (pe3_len (pq3_e (pe3_ix (hu_of hr) (pe3_var 2) pe3_int)) (by rfl) T.b_len) pa3_nil))))))
  (pb3_cons (ps3_set nd__law_in_batch rfl (by first | exact .inl rfl | exact .inr rfl) (pe3_new (pl3_lst pa3_nil)))
  (pb3_cons (ps3_for rfl (pi3_seq (pq3_e (pe3_var 5))) (pg3_name nd__law_in_batch rfl (by first | exact .inl rfl | exact .inr rfl))
  (pb3_one (ps3_expr (pe3_append (pe3_var 6) (pe3_tupOf (pq3_l (pl3_sl (pq3_e (pe3_call (w__law_rows T) (hr.mono (by decide)) (by rfl) (pa3_cons (pe3_var 2) (pa3_cons (pe3_op op3_add nx_add (pe3_slT (pe3_var 3) po3_none (po3_some (pe3_ix (hu_of hr) (pe3_var 7) pe3_int))) (pe3_ix (hu_of hr) (pe3_var 7) pe3_int)) pa3_nil)))) (po3_some (pe3_ix (hu_of hr) (pe3_var 7) pe3_int)) po3_none)) (by rfl) T.b_tuple)))))
  (pb3_cons (ps3_setLc rfl nd__law_in_batch rfl rfl (sw_true rfl rfl rfl rfl) (pi3_seq (pq3_e (pe3_var 5))) (blkOk_by (own := [("job", 7)]) (by kernel_rfl)) rfl (fun _ _ _ _ _ => (pg3_name nd__law_in_batch rfl (by first | exact .inl rfl | exact .inr rfl))) (fun _ _ _ _ _ => pts3_nil) (fun _ _ _ _ _ => (pe3_tup (pa3_cons (pe3_ix (hu_of hr) (pe3_var 7) pe3_int) (pa3_cons (pe3_new (pl3_listOf (pq3_e (pe3_ix (hu_of hr) (pe3_var 7) pe3_int)) (by rfl) T.b_list)) pa3_nil)))))
  (pb3_one (ps3_ret (pe3_call (w__law_same T 12) (hr.mono (by decide)) (by rfl) (pa3_cons (pe3_call (w_rows_in_batch T) (hr.mono (by decide)) (by rfl) (pa3_cons (pe3_var 1) (pa3_cons (pe3_var 8) pa3_nil))) (pa3_cons (pe3_tupOf (pq3_e (pe3_var 6)) (by rfl) T.b_tuple) pa3_nil))))))))))
abbrev N_law : List Str := ["script", "pool", "menu", "letters", "width", "deep", "count", "model", "net", "text", "due", "crews_there", "counts", "k", "many", "told", "at", "crew", "handed", "row"]
theorem sc_law : FnScope N_law ["script"] (defScope st_law) := ⟨rfl, rfl, rfl, by decide +kernel, rfl, by decide +kernel, by decide +kernel⟩
theorem nd_law : N_law.Nodup := sc_law.nd
theorem wb_law (T : Txt K mg) : BodyOk P w K mg base 13 N_law "law" st_law b_law := fun f cdv A outer s H E hr =>
  (pb3_cons (ps3_set nd_law rfl (by first | exact .inl rfl | exact .inr rfl) (pe3_call (w__law_pool T) (hr.mono (by decide)) (by rfl) (pa3_cons (pe3_var 0) pa3_nil)))
  (pb3_cons (ps3_set nd_law rfl (by first | exact .inl rfl | exact .inr rfl) (pe3_tup (pa3_cons (pe3_tup (pa3_cons pe3_int (pa3_cons pe3_int (pa3_cons pe3_int (pa3_cons pe3_int pa3_nil))))) (pa3_cons (pe3_tup (pa3_cons pe3_int (pa3_cons pe3_int (pa3_cons pe3_int (pa3_cons pe3_int pa3_nil))))) (pa3_cons (pe3_tup (pa3_cons pe3_int (pa3_cons pe3_int (pa3_cons pe3_int (pa3_cons pe3_int pa3_nil))))) (pa3_cons (pe3_tup (pa3_cons pe3_int (pa3_cons pe3_int (pa3_cons pe3_int (pa3_cons pe3_int pa3_nil))))) (pa3_cons (pe3_tup (pa3_cons pe3_int (pa3_cons pe3_int (pa3_cons pe3_int (pa3_cons pe3_int pa3_nil))))) (pa3_cons (pe3_tup (pa3_cons pe3_int (pa3_cons pe3_int (pa3_cons pe3_int (pa3_cons pe3_int pa3_nil))))) (pa3_cons (pe3_tup (pa3_cons pe3_int (pa3_cons pe3_int (pa3_cons pe3_int (pa3_cons pe3_int pa3_nil))))) (pa3_cons (pe3_tup (pa3_cons pe3_int (pa3_cons pe3_int (pa3_cons pe3_int (pa3_cons pe3_int pa3_nil))))) (pa3_cons (pe3_tup (pa3_cons pe3_int (pa3_cons pe3_int (pa3_cons pe3_int (pa3_cons pe3_int pa3_nil))))) (pa3_cons (pe3_tup (pa3_cons pe3_int (pa3_cons pe3_int (pa3_cons pe3_int (pa3_cons pe3_int pa3_nil))))) pa3_nil))))))))))))
  (pb3_cons (ps3_asg (pe3_ix (hu_of hr) (pe3_var 2) (pe3_call (w__law_draw T) (hr.mono (by decide)) (by rfl) (pa3_cons (pe3_var 1) (pa3_cons pe3_int pa3_nil)))) (pg3_tup rfl (pgs3_cons (pg3_name nd_law rfl (by first | exact .inl rfl | exact .inr rfl)) (pgs3_cons (pg3_name nd_law rfl (by first | exact .inl rfl | exact .inr rfl)) (pgs3_cons (pg3_name nd_law rfl (by first | exact .inl rfl | exact .inr rfl)) (pgs3_cons (pg3_name nd_law rfl (by first | exact .inl rfl | exact .inr rfl)) pgs3_nil))))))
  (pb3_cons (ps3_set nd_law rfl (by first | exact .inl rfl | exact .inr rfl) (pe3_call (w__law_net T) (hr.mono (by decide)) (by rfl) (pa3_cons (pe3_var 1) (pa3_cons (pe3_var 3) (pa3_cons (pe3_var 4) (pa3_cons (pe3_var 5) (pa3_cons (pe3_cmp (op3_eq hr.units) nx_eq (pe3_call (w__law_draw T) (hr.mono (by decide)) (by rfl) (pa3_cons (pe3_var 1) (pa3_cons pe3_int pa3_nil))) pe3_int (nomark _)) pa3_nil)))))))
  (pb3_cons (ps3_set nd_law rfl (by first | exact .inl rfl | exact .inr rfl) (pe3_make (w_Net___init__ T) (hr.mono (by decide)) (by rfl) (pa3_cons (pe3_ix (hu_of hr) (pe3_var 7) pe3_int) (pa3_cons (pe3_ix (hu_of hr) (pe3_var 7) pe3_int) (pa3_cons (pe3_ix (hu_of hr) (pe3_var 7) pe3_int) (pa3_cons (pe3_ix (hu_of hr) (pe3_var 7) pe3_int) (pa3_cons (pe3_ix (hu_of hr) (pe3_var 7) pe3_int) (pa3_cons (pe3_ix (hu_of hr) (pe3_var 7) pe3_int) pa3_nil))))))))
  (pb3_cons (ps3_set nd_law rfl (by first | exact .inl rfl | exact .inr rfl) (pe3_call (w__law_numbers T) (hr.mono (by decide)) (by rfl) (pa3_cons (pe3_var 1) (pa3_cons (pe3_var 6) (pa3_cons (pe3_var 3) pa3_nil)))))
  (pb3_cons (ps3_set nd_law rfl (by first | exact .inl rfl | exact .inr rfl) (pe3_call (w__law_rows T) (hr.mono (by decide)) (by rfl) (pa3_cons (pe3_var 7) (pa3_cons (pe3_var 9) pa3_nil))))
  (pb3_cons (ps3_set nd_law rfl (by first | exact .inl rfl | exact .inr rfl) (pe3_new (pl3_lst pa3_nil)))
  (pb3_cons (ps3_set nd_law rfl (by first | exact .inl rfl | exact .inr rfl) (pe3_new (pl3_lst pa3_nil)))
  (pb3_cons (ps3_for rfl (pi3_rng1 pe3_int (by rfl) T.b_range) (pg3_name nd_law rfl (by first | exact .inl rfl | exact .inr rfl))
  (pb3_cons (ps3_set nd_law rfl (by first | exact .inl rfl | exact .inr rfl) (pe3_op op3_add nx_add pe3_int (pe3_call (w__law_draw T) (hr.mono (by decide)) (by rfl) (pa3_cons (pe3_var 1) (pa3_cons (pe3_var 4) pa3_nil)))))
  (pb3_cons (ps3_expr (pe3_append (pe3_var 11) (pe3_make (w_Crew___init__ T) (hr.mono (by decide)) (by rfl) (pa3_cons (pe3_var 8) (pa3_cons (pe3_var 14) pa3_nil)))))
  (pb3_cons (ps3_expr (pe3_append (pe3_var 12) (pe3_dict (pp3_cons pe3_str (pe3_var 14) (pp3_cons pe3_str (pe3_op op3_mul nx_mul pe3_int (pe3_var 5)) (pp3_cons pe3_str (pe3_new (pl3_lst pa3_nil)) (pp3_cons pe3_str pe3_int (pp3_cons pe3_str (pe3_new (pl3_lst pa3_nil)) pp3_nil))))) (by rfl) (by rfl) (by intro z; cases z) (by decide))))
  (pb3_one (ps3_if (pt3_not (pt3_val (pe3_call (w__law_same T 12) (hr.mono (by decide)) (by rfl) (pa3_cons (pe3_tup (pa3_cons (pe3_meth0 (w_Crew_row T) (hr.mono (by decide)) (pe3_ix (hu_of hr) (pe3_var 11) (pe3_var 13))) (pa3_cons (pe3_meth0 (w_Crew_waiting T) (hr.mono (by decide)) (pe3_ix (hu_of hr) (pe3_var 11) (pe3_var 13))) pa3_nil))) (pa3_cons (pe3_tup (pa3_cons pe3_non (pa3_cons (pe3_tup pa3_nil) pa3_nil))) pa3_nil)))))
  (pb3_one (ps3_ret pe3_bl))
  pb3_nil))))))
  (pb3_cons (ps3_set nd_law rfl (by first | exact .inl rfl | exact .inr rfl) (pe3_new (pl3_lst pa3_nil)))
  (pb3_cons (ps3_for rfl (pi3_rng1 (pe3_var 6) (by rfl) T.b_range) (pg3_name nd_law rfl (by first | exact .inl rfl | exact .inr rfl))
  (pb3_cons (ps3_set nd_law rfl (by first | exact .inl rfl | exact .inr rfl) (pe3_call (w__law_draw T) (hr.mono (by decide)) (by rfl) (pa3_cons (pe3_var 1) (pa3_cons pe3_int pa3_nil))))
  (pb3_cons (ps3_set nd_law rfl (by first | exact .inl rfl | exact .inr rfl) (pe3_ix (hu_of hr) (pe3_var 11) (pe3_var 16)))
  (pb3_cons (ps3_if (pt3_cmp (op3_eq hr.units) nx_eq (pe3_call (w__law_draw T) (hr.mono (by decide)) (by rfl) (pa3_cons (pe3_var 1) (pa3_cons pe3_int pa3_nil))) pe3_int (nomark _))
  (pb3_cons (ps3_expr (pe3_meth (w_Crew_begin T) (hr.mono (by decide)) (pe3_ix (hu_of hr) (pe3_var 11) (pe3_op op3_sub nx_sub pe3_int (pe3_var 16))) (pa3_cons (pe3_var 15) (pa3_cons (pe3_call (w__law_draw T) (hr.mono (by decide)) (by rfl) (pa3_cons (pe3_var 1) (pa3_cons (pe3_var 3) pa3_nil))) pa3_nil))))
  (pb3_cons (ps3_expr (pe3_call (w__law_begins T) (hr.mono (by decide)) (by rfl) (pa3_cons (pe3_ix (hu_of hr) (pe3_var 12) (pe3_op op3_sub nx_sub pe3_int (pe3_var 16))) pa3_nil)))
  (pb3_one (ps3_if (pt3_not (pt3_val (pe3_call (w__law_some_deeds T) (hr.mono (by decide)) (by rfl) (pa3_cons (pe3_var 1) (pa3_cons (pe3_ix (hu_of hr) (pe3_var 11) (pe3_op op3_sub nx_sub pe3_int (pe3_var 16))) (pa3_cons (pe3_ix (hu_of hr) (pe3_var 12) (pe3_op op3_sub nx_sub pe3_int (pe3_var 16))) (pa3_cons pe3_int pa3_nil)))))))
  (pb3_one (ps3_ret pe3_bl))
  pb3_nil))))
  pb3_nil)
  (pb3_cons (ps3_setLc rfl nd_law rfl rfl (sw_true rfl rfl rfl rfl) (pi3_seq (pq3_e (pe3_var 15))) (blkOk_by (own := [("row", 19)]) (by kernel_rfl)) rfl (fun _ _ _ _ _ => (pg3_name nd_law rfl (by first | exact .inl rfl | exact .inr rfl))) (fun _ _ _ _ _ => pts3_nil) (fun _ _ _ _ _ => (pe3_call (w__law_listed T) (hr.mono (by decide)) (by rfl) (pa3_cons (pe3_var 19) pa3_nil))))
  (pb3_cons (ps3_if (pt3_cmp (op3_eq hr.units) nx_eq (pe3_call (w__law_draw T) (hr.mono (by decide)) (by rfl) (pa3_cons (pe3_var 1) (pa3_cons pe3_int pa3_nil))) pe3_int (nomark _))
  (pb3_one (ps3_set nd_law rfl (by first | exact .inl rfl | exact .inr rfl) (pe3_new (pl3_listOf (pq3_e (pe3_var 15)) (by rfl) T.b_list))))
  pb3_nil)
  (pb3_cons (ps3_if (pt3_notN (pe3_meth (w_Crew_begin T) (hr.mono (by decide)) (pe3_var 17) (pa3_cons (pe3_var 18) (pa3_cons (pe3_ix (hu_of hr) (pe3_var 9) (pe3_var 13)) pa3_nil))))
  (pb3_one (ps3_ret pe3_bl))
  pb3_nil)
  (pb3_cons (ps3_expr (pe3_append (pe3_var 18) (pe3_ix (hu_of hr) (pe3_var 10) pe3_int)))
  (pb3_cons (ps3_expr (pe3_call (w__law_begins T) (hr.mono (by decide)) (by rfl) (pa3_cons (pe3_ix (hu_of hr) (pe3_var 12) (pe3_var 16)) pa3_nil)))
  (pb3_cons (ps3_if (pt3_not (pt3_val (pe3_call (w__law_some_deeds T) (hr.mono (by decide)) (by rfl) (pa3_cons (pe3_var 1) (pa3_cons (pe3_var 17) (pa3_cons (pe3_ix (hu_of hr) (pe3_var 12) (pe3_var 16)) (pa3_cons (pe3_call (w__law_draw T) (hr.mono (by decide)) (by rfl) (pa3_cons (pe3_var 1) (pa3_cons pe3_int pa3_nil))) pa3_nil)))))))
  (pb3_one (ps3_ret pe3_bl))
  pb3_nil)
  (pb3_cons (ps3_if (pt3_w (pw3_and (pt3_cmp (op3_eq hr.units) nx_eq (pe3_call (w__law_draw T) (hr.mono (by decide)) (by rfl) (pa3_cons (pe3_var 1) (pa3_cons pe3_int pa3_nil))) pe3_int (nomark _)) (pw3_and1 (pt3_not (pt3_val (pe3_call (w__law_refused T) (hr.mono (by decide)) (by rfl) (pa3_cons (pe3_var 17) (pa3_cons (pe3_var 15) (pa3_cons (pe3_op op3_add nx_add (pe3_var 3) (pe3_call (w__law_draw T) (hr.mono (by decide)) (by rfl) (pa3_cons (pe3_var 1) (pa3_cons pe3_int pa3_nil)))) pa3_nil)))))))))
  (pb3_one (ps3_ret pe3_bl))
  pb3_nil)
  (pb3_cons (ps3_if (pt3_w (pw3_or (pt3_not (pt3_val (pe3_call (w__law_delivered T) (hr.mono (by decide)) (by rfl) (pa3_cons (pe3_var 1) (pa3_cons (pe3_var 17) (pa3_cons (pe3_ix (hu_of hr) (pe3_var 12) (pe3_var 16)) pa3_nil)))))) (pw3_or1 (pt3_not (pt3_val (pe3_call (w__law_same T 12) (hr.mono (by decide)) (by rfl) (pa3_cons (pe3_tup (pa3_cons (pe3_meth0 (w_Crew_row T) (hr.mono (by decide)) (pe3_var 17)) (pa3_cons (pe3_meth0 (w_Crew_row T) (hr.mono (by decide)) (pe3_var 17)) pa3_nil))) (pa3_cons (pe3_tup (pa3_cons (pe3_ix (hu_of hr) (pe3_var 10) (pe3_var 13)) (pa3_cons (pe3_ix (hu_of hr) (pe3_var 10) (pe3_var 13)) pa3_nil))) pa3_nil))))))))
  (pb3_one (ps3_ret pe3_bl))
  pb3_nil)
  (pb3_one (ps3_expr (pe3_append (pe3_var 15) (pe3_meth0 (w_Crew_row T) (hr.mono (by decide)) (pe3_var 17)))))))))))))))))
  (pb3_cons (ps3_if (pt3_not (pt3_val (pe3_call (w__law_same T 12) (hr.mono (by decide)) (by rfl) (pa3_cons (pe3_tup (pa3_cons (pe3_meth (w_Net_row T) (hr.mono (by decide)) (pe3_var 8) (pa3_cons (pe3_new (pl3_sl (pq3_e (pe3_var 15)) po3_none (po3_some (pe3_op op3_sub nx_sub (pe3_var 6) pe3_int)))) (pa3_cons (pe3_ix (hu_of hr) (pe3_var 9) (pe3_op op3_sub nx_sub (pe3_var 6) pe3_int)) pa3_nil))) (pa3_cons (pe3_call (w_rows_of T) (hr.mono (by decide)) (by rfl) (pa3_cons (pe3_var 8) (pa3_cons (pe3_new (pl3_listOf (pq3_e (pe3_var 9)) (by rfl) T.b_list)) pa3_nil))) pa3_nil))) (pa3_cons (pe3_tup (pa3_cons (pe3_ix (hu_of hr) (pe3_var 10) (pe3_op op3_sub nx_sub (pe3_var 6) pe3_int)) (pa3_cons (pe3_tupOf (pq3_e (pe3_var 10)) (by rfl) T.b_tuple) pa3_nil))) pa3_nil)))))
  (pb3_one (ps3_ret pe3_bl))
  pb3_nil)
  (pb3_one (ps3_ret (pe3_call (w__law_in_batch T) (hr.mono (by decide)) (by rfl) (pa3_cons (pe3_var 1) (pa3_cons (pe3_var 8) (pa3_cons (pe3_var 7) (pa3_cons (pe3_var 9) (pa3_cons (pe3_var 15) pa3_nil)))))))))))))))))))))
end
end Law
set_option Elab.async false
set_option linter.all false
set_option maxRecDepth 100000
set_option maxHeartbeats 0
namespace Law
open PySem PySem.Spec PyProof.Rows L2 L3
def fx_0 : List Fx := [.he (.free "bool"), .he (.free "enumerate"), .he (.free "int"), .he (.free "isinstance"), .he (.free "len"), .he (.free "list"), .he (.free "range"), .he (.free "str"), .he (.free "sum"), .he (.free "tuple"), .he (.free "zip"), .he (.glo "Crew"), .he (.cls "Crew"), .he (.noat "Crew" "ahead"), .he (.noat "Crew" "had"), .he (.noat "Crew" "many"), .he (.noat "Crew" "net"), .he (.noat "Crew" "number"), .he (.noat "Crew" "own"), .he (.noat "Crew" "results"), .he (.noat "Crew" "sent"), .he (.noat "Crew" "sum"), .he (.noat "Crew" "vector"), .he (.glo "Job"), .he (.cls "Job"), .he (.noat "Job" "ahead"), .he (.noat "Job" "pairs"), .he (.noat "Job" "vectors"), .he (.glo "Net"), .he (.cls "Net")]
def fx_1 : List Fx := [.he (.noat "Net" "embed"), .he (.noat "Net" "end"), .he (.noat "Net" "layers"), .he (.noat "Net" "out"), .he (.noat "Net" "prime"), .he (.noat "Net" "shift"), .he (.int "FIRST" 3), .he (.int "KEY" 1), .tup "PRIMES" [.int 2, .int 3, .int 5, .int 7, .int 11, .int 13, .int 17, .int 19, .int 23, .int 29, .int 31, .int 37, .int 41, .int 43, .int 47, .int 53, .int 59, .int 61, .int 67, .int 71, .int 73, .int 79, .int 83, .int 89, .int 97], .he (.int "QUERY" 0), .he (.int "SECOND" 4), .he (.int "VALUE" 2), .exc "InvalidLetter" (nm (fldOf "InvalidLetter")), .exc "InvalidNumber" (nm (fldOf "InvalidNumber")), .he (.glo "_law_pool"), .he (.glo "_law_draw"), .he (.glo "_law_numbers"), .he (.glo "_law_net"), .he (.glo "is_between"), .he (.glo "vector_of"), .he (.glo "matrix_of"), .he (.mkr "Net"), .he (.glo "_law_dot"), .he (.glo "_law_times"), .he (.glo "_law_row"), .he (.glo "_law_rows"), .he (.meth "Crew" "begin_round"), .he (.mkr "Crew"), .he (.meth "Crew" "is_done"), .he (.meth "Net" "rest")]
def fx_2 : List Fx := [.he (.glo "product_sum"), .he (.meth "Crew" "row"), .he (.meth "Crew" "waiting"), .he (.glo "_law_same"), .he (.meth "Net" "is_letter"), .he (.meth "Net" "plus"), .he (.meth "Crew" "send_all"), .he (.meth "Crew" "begin"), .he (.glo "_law_begins"), .he (.meth "Crew" "double"), .he (.glo "_law_is_wanted"), .he (.meth "Crew" "take_out"), .he (.meth "Crew" "is_wanted"), .he (.meth "Crew" "lose"), .he (.glo "_law_arrives"), .he (.meth "Net" "looked_at"), .he (.meth "Crew" "inner"), .he (.meth "Crew" "factor"), .he (.meth "Crew" "part"), .he (.meth "Crew" "end_round"), .he (.meth "Crew" "deliver"), .he (.glo "_law_some_deeds"), .he (.glo "_law_listed"), .he (.glo "_law_refused"), .he (.glo "_law_delivered"), .he (.meth "Net" "times"), .he (.meth "Net" "row"), .he (.glo "rows_of"), .he (.glo "_law_jobs"), .he (.mkr "Job")]
def fx_3 : List Fx := [.he (.meth "Job" "go_through"), .he (.meth "Job" "rows"), .he (.glo "rows_in_batch"), .he (.glo "_law_in_batch"), .he (.glo "law"), .nolist]
def fx : List Fx := fx_0 ++ fx_1 ++ fx_2 ++ fx_3
def fn_0 : List He.DefD := [dD (nm "InvalidLetter", some "__init__") "__init__" "InvalidLetter.__init__" st_InvalidLetter___init__, dD (nm "InvalidNumber", some "__init__") "__init__" "InvalidNumber.__init__" st_InvalidNumber___init__, dD ("_law_pool", none) "_law_pool" "_law_pool" st__law_pool, dD ("_law_draw", none) "_law_draw" "_law_draw" st__law_draw, dD ("_law_numbers", none) "_law_numbers" "_law_numbers" st__law_numbers, dD ("_law_net", none) "_law_net" "_law_net" st__law_net, dD ("is_between", none) "is_between" "is_between" st_is_between, dD ("vector_of", none) "vector_of" "vector_of" st_vector_of, dD ("matrix_of", none) "matrix_of" "matrix_of" st_matrix_of, dD (nm "Net", some "__init__") "__init__" "Net.__init__" st_Net___init__, dD ("_law_dot", none) "_law_dot" "_law_dot" st__law_dot, dD ("_law_times", none) "_law_times" "_law_times" st__law_times, dD ("_law_row", none) "_law_row" "_law_row" st__law_row, dD ("_law_rows", none) "_law_rows" "_law_rows" st__law_rows, dD (nm "Crew", some (nm "begin_round")) (nm "begin_round") "Crew.begin_round" st_Crew_begin_round, dD (nm "Crew", some "__init__") "__init__" "Crew.__init__" st_Crew___init__, dD (nm "Crew", some (nm "is_done")) (nm "is_done") "Crew.is_done" st_Crew_is_done, dD (nm "Net", some (nm "rest")) (nm "rest") "Net.rest" st_Net_rest, dD ("product_sum", none) "product_sum" "product_sum" st_product_sum, dD (nm "Crew", some (nm "row")) (nm "row") "Crew.row" st_Crew_row, dD (nm "Crew", some (nm "waiting")) (nm "waiting") "Crew.waiting" st_Crew_waiting, dD ("_law_same", none) "_law_same" "_law_same" st__law_same, dD (nm "Net", some (nm "is_letter")) (nm "is_letter") "Net.is_letter" st_Net_is_letter, dD (nm "Net", some (nm "plus")) (nm "plus") "Net.plus" st_Net_plus, dD (nm "Crew", some (nm "send_all")) (nm "send_all") "Crew.send_all" st_Crew_send_all, dD (nm "Crew", some (nm "begin")) (nm "begin") "Crew.begin" st_Crew_begin, dD ("_law_begins", none) "_law_begins" "_law_begins" st__law_begins, dD (nm "Crew", some (nm "double")) (nm "double") "Crew.double" st_Crew_double, dD ("_law_is_wanted", none) "_law_is_wanted" "_law_is_wanted" st__law_is_wanted, dD (nm "Crew", some (nm "take_out")) (nm "take_out") "Crew.take_out" st_Crew_take_out]
def fn_1 : List He.DefD := [dD (nm "Crew", some (nm "is_wanted")) (nm "is_wanted") "Crew.is_wanted" st_Crew_is_wanted, dD (nm "Crew", some (nm "lose")) (nm "lose") "Crew.lose" st_Crew_lose, dD ("_law_arrives", none) "_law_arrives" "_law_arrives" st__law_arrives, dD (nm "Net", some (nm "looked_at")) (nm "looked_at") "Net.looked_at" st_Net_looked_at, dD (nm "Crew", some (nm "inner")) (nm "inner") "Crew.inner" st_Crew_inner, dD (nm "Crew", some (nm "factor")) (nm "factor") "Crew.factor" st_Crew_factor, dD (nm "Crew", some (nm "part")) (nm "part") "Crew.part" st_Crew_part, dD (nm "Crew", some (nm "end_round")) (nm "end_round") "Crew.end_round" st_Crew_end_round, dD (nm "Crew", some (nm "deliver")) (nm "deliver") "Crew.deliver" st_Crew_deliver, dD ("_law_some_deeds", none) "_law_some_deeds" "_law_some_deeds" st__law_some_deeds, dD ("_law_listed", none) "_law_listed" "_law_listed" st__law_listed, dD ("_law_refused", none) "_law_refused" "_law_refused" st__law_refused, dD ("_law_delivered", none) "_law_delivered" "_law_delivered" st__law_delivered, dD (nm "Net", some (nm "times")) (nm "times") "Net.times" st_Net_times, dD (nm "Net", some (nm "row")) (nm "row") "Net.row" st_Net_row, dD ("rows_of", none) "rows_of" "rows_of" st_rows_of, dD ("_law_jobs", none) "_law_jobs" "_law_jobs" st__law_jobs, dD (nm "Job", some "__init__") "__init__" "Job.__init__" st_Job___init__, dD (nm "Job", some (nm "go_through")) (nm "go_through") "Job.go_through" st_Job_go_through, dD (nm "Job", some (nm "rows")) (nm "rows") "Job.rows" st_Job_rows, dD ("rows_in_batch", none) "rows_in_batch" "rows_in_batch" st_rows_in_batch, dD ("_law_in_batch", none) "_law_in_batch" "_law_in_batch" st__law_in_batch, dD ("law", none) "law" "law" st_law]
def fn : List He.DefD := fn_0 ++ fn_1
def names_0 : List PySem.Str := ["ServeError", "InvalidNumber", "InvalidLetter", "PRIMES", "is_between", "vector_of", "matrix_of", "product_sum", "Net", "QUERY", "KEY", "VALUE", "FIRST", "SECOND", "Crew", "Job", "rows_in_batch", "rows_of", "_law_pool", "_law_draw", "_law_numbers", "_law_net", "_law_dot", "_law_times", "_law_row", "_law_rows", "_law_same", "_law_listed", "_law_begins", "_law_is_wanted"]
def names_1 : List PySem.Str := ["_law_arrives", "_law_some_deeds", "_law_refused", "_law_delivered", "_law_jobs", "_law_in_batch"]
def names : List PySem.Str := names_0 ++ names_1
abbrev R : PySem.W.OpenRow := PySem.W.OpenLaw.row PySem.Challenge.rw_servedalone_k00_whole_rows_by_crews_and
abbrev hk : PySem.W.Hook := hookX 5 fx fn
def ob (s : PySem.W.SharedT) : He.AlD := obsXG 5 fx fn (HandSHeadRun.getT s)
theorem ob_eq (s : PySem.W.SharedT) : ob s = hk.obs s.abs := obsXG_eq (HandSHeadRun.getT_eq s)
theorem run (w : World) : HandSHeadRun.RunEq R (PySem.W.view R.prog [42]) hk ob 100000 names w := by
  intro os
  kernel_rfl
theorem txt {K : PySem.W.Frag} {h : Heap} {mg : Str → Option Value} (X : K.In h) (G : h.Ns mainGlobals mg) (c : SaysX fx fn K) : Txt K mg where
  b_bool := c.free X G 0
  b_enumerate := c.free X G 1
  b_int := c.free X G 2
  b_isinstance := c.free X G 3
  b_len := c.free X G 4
  b_list := c.free X G 5
  b_range := c.free X G 6
  b_str := c.free X G 7
  b_sum := c.free X G 8
  b_tuple := c.free X G 9
  b_zip := c.free X G 10
  f_Crew_ahead := c.fldT X G 11 12 13
  f_Crew_had := c.fldT X G 11 12 14
  f_Crew_many := c.fldT X G 11 12 15
  f_Crew_net := c.fldT X G 11 12 16
  f_Crew_number := c.fldT X G 11 12 17
  f_Crew_own := c.fldT X G 11 12 18
  f_Crew_results := c.fldT X G 11 12 19
  f_Crew_sent := c.fldT X G 11 12 20
  f_Crew_sum := c.fldT X G 11 12 21
  f_Crew_vector := c.fldT X G 11 12 22
  f_Job_ahead := c.fldT X G 23 24 25
  f_Job_pairs := c.fldT X G 23 24 26
  f_Job_vectors := c.fldT X G 23 24 27
  f_Net_embed := c.fldT X G 28 29 30
  f_Net_end := c.fldT X G 28 29 31
  f_Net_layers := c.fldT X G 28 29 32
  f_Net_out := c.fldT X G 28 29 33
  f_Net_prime := c.fldT X G 28 29 34
  f_Net_shift := c.fldT X G 28 29 35
  g_FIRST := c.gint X G 36
  g_KEY := c.gint X G 37
  g_PRIMES := c.gtup X G (is := [2, 3, 5, 7, 11, 13, 17, 19, 23, 29, 31, 37, 41, 43, 47, 53, 59, 61, 67, 71, 73, 79, 83, 89, 97]) 38
  g_QUERY := c.gint X G 39
  g_SECOND := c.gint X G 40
  g_VALUE := c.gint X G 41
  e_InvalidLetter := c.exT X G 0 42
  e_InvalidNumber := c.exT X G 1 43
  d__law_pool := c.fnT X G 2 44
  d__law_draw := c.fnT X G 3 45
  d__law_numbers := c.fnT X G 4 46
  d__law_net := c.fnT X G 5 47
  d_is_between := c.fnT X G 6 48
  d_vector_of := c.fnT X G 7 49
  d_matrix_of := c.fnT X G 8 50
  d_Net___init__ := c.mkT X G 9 28 51
  d__law_dot := c.fnT X G 10 52
  d__law_times := c.fnT X G 11 53
  d__law_row := c.fnT X G 12 54
  d__law_rows := c.fnT X G 13 55
  d_Crew_begin_round := c.methT X G 14 11 12 56
  d_Crew___init__ := c.mkT X G 15 11 57
  d_Crew_is_done := c.methT X G 16 11 12 58
  d_Net_rest := c.methT X G 17 28 29 59
  d_product_sum := c.fnT X G 18 60
  d_Crew_row := c.methT X G 19 11 12 61
  d_Crew_waiting := c.methT X G 20 11 12 62
  d__law_same := c.fnT X G 21 63
  d_Net_is_letter := c.methT X G 22 28 29 64
  d_Net_plus := c.methT X G 23 28 29 65
  d_Crew_send_all := c.methT X G 24 11 12 66
  d_Crew_begin := c.methT X G 25 11 12 67
  d__law_begins := c.fnT X G 26 68
  d_Crew_double := c.methT X G 27 11 12 69
  d__law_is_wanted := c.fnT X G 28 70
  d_Crew_take_out := c.methT X G 29 11 12 71
  d_Crew_is_wanted := c.methT X G 30 11 12 72
  d_Crew_lose := c.methT X G 31 11 12 73
  d__law_arrives := c.fnT X G 32 74
  d_Net_looked_at := c.methT X G 33 28 29 75
  d_Crew_inner := c.methT X G 34 11 12 76
  d_Crew_factor := c.methT X G 35 11 12 77
  d_Crew_part := c.methT X G 36 11 12 78
  d_Crew_end_round := c.methT X G 37 11 12 79
  d_Crew_deliver := c.methT X G 38 11 12 80
  d__law_some_deeds := c.fnT X G 39 81
  d__law_listed := c.fnT X G 40 82
  d__law_refused := c.fnT X G 41 83
  d__law_delivered := c.fnT X G 42 84
  d_Net_times := c.methT X G 43 28 29 85
  d_Net_row := c.methT X G 44 28 29 86
  d_rows_of := c.fnT X G 45 87
  d__law_jobs := c.fnT X G 46 88
  d_Job___init__ := c.mkT X G 47 23 89
  d_Job_go_through := c.methT X G 48 23 24 90
  d_Job_rows := c.methT X G 49 23 24 91
  d_rows_in_batch := c.fnT X G 50 92
  d__law_in_batch := c.fnT X G 51 93
  d_law := c.fnT X G 52 94
end Law
set_option Elab.async false
set_option linter.all false
set_option maxRecDepth 100000
set_option maxHeartbeats 2000000
/-! L3p: reasoning about the mirrors. -/
namespace L3
open PySem

def R.W {α : Type} (r : R α) (P : α → Mem → Prop) : Prop := match r with
  | .ok a M => P a M
  | _ => False
def RS.W (r : RS) (N : Sl → Mem → Prop) (T : D → Mem → Prop) : Prop := match r with
  | .nx s M => N s M
  | .ct s M => N s M
  | .rt d M => T d M
  | _ => False
section
variable {α β : Type} {P Q : α → Mem → Prop} {N N' : Sl → Mem → Prop} {T T' : D → Mem → Prop} {s : Sl} {M : Mem}
theorem R.W.mono {r : R α} (h : r.W P) (k : ∀ a M, P a M → Q a M) : r.W Q := by
  cases r with
  | ok a M => exact k a M h
  | _ => exact h
theorem RS.W.mono {r : RS} (h : r.W N T) (k : ∀ s M, N s M → N' s M) (k' : ∀ d M, T d M → T' d M) : r.W N' T' := by
  cases r with
  | nx s M => exact k s M h
  | ct s M => exact k s M h
  | rt d M => exact k' d M h
  | _ => exact h
theorem R.W.ex {r : R α} (h : r.W P) : ∃ a M, r = .ok a M ∧ P a M := by
  cases r with
  | ok a M => exact ⟨a, M, rfl, h⟩
  | _ => exact h.elim
theorem R.W.of {r : R α} {a : α} {M : Mem} (e : r = .ok a M) (h : P a M) : r.W P := by
  rw [e]
  exact h
theorem W_ok {a : α} : R.W (.ok a M) P ↔ P a M := Iff.rfl
theorem W_bind {r : R β} {f : β → Mem → R α} : R.W (r.bind f) P ↔ R.W r fun b M => R.W (f b M) P := by
  cases r <;> exact Iff.rfl
theorem W_bindS {r : R β} {f : β → Mem → RS} : RS.W (r.bindS s f) N T ↔ R.W r fun b M => RS.W (f b M) N T := by
  cases r <;> exact Iff.rfl
/-- no «continue» leaves these -/
def RS.calm : RS → Prop
  | .ct _ _ => False
  | _ => True
theorem W_nx : RS.W (.nx s M) N T ↔ N s M := Iff.rfl
theorem W_rt {d : D} : RS.W (.rt d M) N T ↔ T d M := Iff.rfl
end
/-- the way of statements that hold no «continue» -/
def RS.V (r : RS) (N : Sl → Mem → Prop) (T : D → Mem → Prop) : Prop := match r with
  | .nx s M => N s M
  | .rt d M => T d M
  | _ => False
section
variable {α β : Type} {P Q : α → Mem → Prop} {PD : D → Mem → Prop} {PL : List D → Mem → Prop} {PS : Src → Mem → Prop} {PB : Bool → Mem → Prop} {PI : It3 → Mem → Prop} {PO : Option Int → Mem → Prop} {N N' : Sl → Mem → Prop} {T T' : D → Mem → Prop} {s : Sl} {M : Mem}
theorem RS.V.mono {r : RS} (h : r.V N T) (k : ∀ s M, N s M → N' s M) (k' : ∀ d M, T d M → T' d M) : r.V N' T' := by
  cases r with
  | nx s M => exact k s M h
  | rt d M => exact k' d M h
  | _ => exact h
theorem V_nx : RS.V (.nx s M) N T ↔ N s M := Iff.rfl
theorem V_rt {d : D} : RS.V (.rt d M) N T ↔ T d M := Iff.rfl
theorem V_bindS {r : R β} {f : β → Mem → RS} : RS.V (r.bindS s f) N T ↔ R.W r fun b M => RS.V (f b M) N T := by
  cases r <;> exact Iff.rfl
theorem V_sq {a b : MS} : RS.V (sq a b s M) N T ↔ RS.V (a s M) (fun s1 M1 => RS.V (b s1 M1) N T) T := by
  unfold sq
  cases a s M <;> exact Iff.rfl
theorem W_fnB {j : Nat} {b : MS} {ds : List D} : R.W (fnB j b ds M) PD ↔ RS.V (b (ds.map some ++ List.replicate j none) M) (fun _ M => PD .non M) PD := by
  unfold fnB
  cases b (ds.map some ++ List.replicate j none) M <;> exact Iff.rfl
theorem V_sNil : RS.V (sNil s M) N T ↔ N s M := Iff.rfl
theorem V_sPass : RS.V (sPass s M) N T ↔ N s M := Iff.rfl
theorem V_sRet {e : ME} : RS.V (sRet e s M) N T ↔ R.W (e s M) T := by unfold sRet; rw [V_bindS]; exact Iff.rfl
theorem V_sRetN : RS.V (sRetN s M) N T ↔ T .non M := Iff.rfl
theorem V_sDrop {e : ME} : RS.V (sDrop e s M) N T ↔ R.W (e s M) fun _ M1 => N s M1 := by unfold sDrop; rw [V_bindS]; exact Iff.rfl
theorem V_sIf {t : MT} {a b : MS} : RS.V (sIf t a b s M) N T ↔ R.W (t s M) fun c M1 => if c = true then RS.V (a s M1) N T else RS.V (b s M1) N T := by
  unfold sIf; rw [V_bindS]
  have : (fun (c : Bool) M1 => RS.V (if c = true then a s M1 else b s M1) N T) = fun c M1 => if c = true then RS.V (a s M1) N T else RS.V (b s M1) N T := by
    funext c M1; split <;> rfl
  rw [this]
theorem V_sSet {i : Nat} {e : ME} : RS.V (sSet i e s M) N T ↔ R.W (e s M) fun d M1 => N (s.set i (some d)) M1 := by unfold sSet; rw [V_bindS]; exact Iff.rfl
theorem V_sAsg {g : GT} {e : ME} : RS.V (sAsg g e s M) N T ↔ R.W (e s M) fun d M1 => ∃ s2 M2, g d s M1 = some (s2, M2) ∧ N s2 M2 := by
  unfold sAsg; rw [V_bindS]
  cases e s M with
  | ok d M1 =>
    show RS.V (match g d s M1 with | some (s2, M2) => .nx s2 M2 | none => .bad) N T ↔ ∃ s2 M2, g d s M1 = some (s2, M2) ∧ N s2 M2
    cases g d s M1 with
    | none => simp [RS.V]
    | some p =>
      obtain ⟨s2, M2⟩ := p
      constructor
      · intro h; exact ⟨s2, M2, rfl, h⟩
      · rintro ⟨_, _, h, z⟩; cases h; exact z
  | _ => exact Iff.rfl
theorem V_sAug {i : Nat} {op : D → D → Mem → R D} {e : ME} : RS.V (sAug i op e s M) N T ↔ ∃ x, s[i]? = some (some x) ∧ R.W (e s M) fun y M1 => R.W (op x y M1) fun z M2 => N (s.set i (some z)) M2 := by
  unfold sAug rdV
  cases h : s[i]? with
  | none => simp [RS.V]
  | some o => cases o with
    | none => simp [RS.V]
    | some x =>
      simp only [V_bindS, Option.some.injEq]
      constructor
      · intro z; exact ⟨x, rfl, z⟩
      · rintro ⟨y, rfl, z⟩; exact z
theorem V_onIns {d : D} {c : String} {f : Nat → List (String × D) → RS} : RS.V (onIns d M c .bad f) N T ↔ ∃ j fs, d = .ref j ∧ M[j]? = some (.ins c fs) ∧ RS.V (f j fs) N T := by
  unfold onIns
  cases d with
  | ref j =>
    dsimp only
    cases e : M[j]? with
    | none => simp [RS.V, e]
    | some o => cases o with
      | ins c' fs =>
        dsimp only
        by_cases hc : c' = c
        · subst hc; rw [if_pos rfl]
          constructor
          · intro z; exact ⟨j, fs, rfl, e, z⟩
          · rintro ⟨j', fs', h1, h2, z⟩; cases h1; rw [e] at h2; cases h2; exact z
        · rw [if_neg hc]
          constructor
          · intro z; exact z.elim
          · rintro ⟨j', fs', h1, h2, z⟩; cases h1; rw [e] at h2; cases h2; exact absurd rfl hc
      | _ => simp [RS.V, e]
  | _ => simp [RS.V]
theorem V_sFld {c f : String} {o e : ME} : RS.V (sFld c f o e s M) N T ↔ R.W (e s M) fun d M1 => R.W (o s M1) fun x M2 => ∃ j, x = .ref j ∧ ∃ fs, M2[j]? = some (.ins c fs) ∧ fs.length < 1000 ∧ N s (M2.set j (.ins c (putFld f d fs))) := by
  unfold sFld
  simp only [V_bindS, V_onIns]
  have : ∀ (d : D) (x : D) (M2 : Mem), (∃ j fs, x = .ref j ∧ M2[j]? = some (.ins c fs) ∧ RS.V (if fs.length < 1000 then .nx s (M2.set j (.ins c (putFld f d fs))) else .bad) N T) ↔ (∃ j fs, x = .ref j ∧ M2[j]? = some (.ins c fs) ∧ fs.length < 1000 ∧ N s (M2.set j (.ins c (putFld f d fs)))) := by
    intro d x M2
    constructor
    · rintro ⟨j, fs, h1, h2, h3⟩
      by_cases h : fs.length < 1000
      · rw [if_pos h] at h3; exact ⟨j, fs, h1, h2, h, h3⟩
      · rw [if_neg h] at h3; exact h3.elim
    · rintro ⟨j, fs, h1, h2, h3, h4⟩
      exact ⟨j, fs, h1, h2, by rw [if_pos h3]; exact h4⟩
  simp only [this]
  simp only [exists_and_left]
theorem V_sIx {o i e : ME} : RS.V (sIx o i e s M) N T ↔ R.W (e s M) fun d M1 => R.W (o s M1) fun x M2 => R.W (i s M2) fun y M3 => ∃ M4, setIx x y d M3 = some M4 ∧ N s M4 := by
  unfold sIx
  rw [V_bindS]
  cases e s M with
  | ok d M1 =>
    show RS.V ((o s M1).bindS s _) N T ↔ R.W (o s M1) _
    rw [V_bindS]
    cases o s M1 with
    | ok x M2 =>
      show RS.V ((i s M2).bindS s _) N T ↔ R.W (i s M2) _
      rw [V_bindS]
      cases i s M2 with
      | ok y M3 =>
        show RS.V (match setIx x y d M3 with | some M4 => .nx s M4 | none => .bad) N T ↔ ∃ M4, setIx x y d M3 = some M4 ∧ N s M4
        cases setIx x y d M3 with
        | none => simp [RS.V]
        | some p =>
          constructor
          · intro h; exact ⟨p, rfl, h⟩
          · rintro ⟨_, h, z⟩; cases h; exact z
      | _ => exact Iff.rfl
    | _ => exact Iff.rfl
  | _ => exact Iff.rfl
theorem V_sFor {i : MI} {g : GT} {b : MS} : RS.V (sFor i g b s M) N T ↔ R.W (i s M) fun it M1 => RS.V (loopS it g b it.items s M1) N T := by unfold sFor; rw [V_bindS]

/-! ### expressions -/
theorem W_eV {i : Nat} : R.W (eV i s M) PD ↔ ∃ d, s[i]? = some (some d) ∧ PD d M := by
  unfold eV
  cases h : s[i]? with
  | none => simp [R.W]
  | some o => cases o <;> simp [R.W]
theorem W_eC {d : D} : R.W (eC d s M) PD ↔ PD d M := Iff.rfl
theorem W_eBin {f : D → D → Mem → R D} {a b : ME} : R.W (eBin f a b s M) PD ↔ R.W (a s M) fun x M1 => R.W (b s M1) fun y M2 => R.W (f x y M2) PD := by unfold eBin; simp only [W_bind]
theorem W_eUn {f : D → Mem → R D} {a : ME} : R.W (eUn f a s M) PD ↔ R.W (a s M) fun x M1 => R.W (f x M1) PD := by unfold eUn; simp only [W_bind]
theorem W_aNil : R.W (aNil s M) PL ↔ PL [] M := Iff.rfl
theorem W_aCons {a : ME} {r : MA} : R.W (aCons a r s M) PL ↔ R.W (a s M) fun x M1 => R.W (r s M1) fun xs M2 => PL (x :: xs) M2 := by unfold aCons; simp only [W_bind, W_ok]
theorem W_if {c : Prop} [Decidable c] {r : R α} : R.W (if c then r else .bad) P ↔ c ∧ R.W r P := by
  by_cases h : c
  · simp [h]
  · simp [h, R.W]
theorem W_eTup {a : MA} : R.W (eTup a s M) PD ↔ R.W (a s M) fun ds M1 => okLen ds.length = true ∧ PD (.tup ds) M1 := by unfold eTup; simp only [W_bind, W_if, W_ok]
theorem W_lLst {a : MA} : R.W (lLst a s M) PL ↔ R.W (a s M) fun ds M1 => okLen ds.length = true ∧ PL ds M1 := by unfold lLst; simp only [W_bind, W_if, W_ok]
theorem W_eNew {a : MA} : R.W (eNew a s M) PD ↔ R.W (a s M) fun ds M1 => PD (.ref M1.length) (M1 ++ [.lst ds]) := by unfold eNew; simp only [W_bind, W_ok]
theorem W_qE {a : ME} : R.W (qE a s M) PS ↔ R.W (a s M) fun d M1 => R.W (srcOf d M1) PS := by unfold qE; simp only [W_bind]
theorem W_qL {a : MA} : R.W (qL a s M) PS ↔ R.W (a s M) fun ds M1 => PS (.tmp ds) M1 := by unfold qL; simp only [W_bind, W_ok]
theorem W_src_tup {ds : List D} : R.W (srcOf (.tup ds) M) PS ↔ PS (.tup ds) M := Iff.rfl
theorem W_src_ref {j : Nat} : R.W (srcOf (.ref j) M) PS ↔ PS (.lst j) M := Iff.rfl
theorem W_getS {x : Src} {f : List D → R α} : R.W (getS x M f) P ↔ ∃ ds, x.get M = some ds ∧ R.W (f ds) P := by
  unfold getS
  cases x.get M <;> simp [R.W]
theorem W_getW {x : Src} {f : List D → R α} : R.W (getW x M f) P ↔ ∃ ds, x.own M = some ds ∧ R.W (f ds) P := by
  unfold getW
  cases x.own M <;> simp [R.W]
theorem W_getI {ds : List D} {f : List Int → R α} : R.W (getI ds f) P ↔ ∃ ns, intsOf ds = some ns ∧ R.W (f ns) P := by
  unfold getI
  cases intsOf ds <;> simp [R.W]
theorem W_eTupOf {q : MQ} : R.W (eTupOf q s M) PD ↔ R.W (q s M) fun x M1 => ∃ ds, x.get M1 = some ds ∧ PD (.tup ds) M1 := by unfold eTupOf; simp only [W_bind, W_getS, W_ok]
theorem W_lOf {q : MQ} : R.W (lOf q s M) PL ↔ R.W (q s M) fun x M1 => ∃ ds, x.get M1 = some ds ∧ PL ds M1 := by unfold lOf; simp only [W_bind, W_getS, W_ok]
theorem W_eLen {q : MQ} : R.W (eLen q s M) PD ↔ R.W (q s M) fun x M1 => ∃ ds, x.get M1 = some ds ∧ PD (.int ds.length) M1 := by unfold eLen; simp only [W_bind, W_getS, W_ok]
theorem W_eSum {q : MQ} : R.W (eSum q s M) PD ↔ R.W (q s M) fun x M1 => isL x = true ∧ ∃ ds, x.get M1 = some ds ∧ ∃ ns, intsOf ds = some ns ∧ PD (.int ns.sum) M1 := by unfold eSum; simp only [W_bind, W_if, W_getS, W_getI, W_ok]
theorem W_lCat {a b : MQ} : R.W (lCat a b s M) PL ↔ R.W (a s M) fun x M1 => R.W (b s M1) fun y M2 => ∃ ds, x.own M2 = some ds ∧ ∃ es, y.own M2 = some es ∧ okLen (ds.length + es.length) = true ∧ PL (ds ++ es) M2 := by unfold lCat; simp only [W_bind, W_if, W_getW, W_ok]
theorem W_oNone : R.W (oNone s M) PO ↔ PO none M := Iff.rfl
theorem W_oSome {a : ME} : R.W (oSome a s M) PO ↔ R.W (a s M) fun d M1 => ∃ i, d = .int i ∧ PO (some i) M1 := by
  unfold oSome; rw [W_bind]
  cases a s M with
  | ok d M1 => cases d <;> simp [R.W]
  | _ => exact Iff.rfl
theorem W_lSl {q : MQ} {lo hi : MO} : R.W (lSl q lo hi s M) PL ↔ R.W (q s M) fun x M1 => R.W (lo s M1) fun l M2 => R.W (hi s M2) fun u M3 => isL x = true ∧ ∃ ds, x.get M3 = some ds ∧ PL (cut ds l u) M3 := by unfold lSl; simp only [W_bind, W_if, W_getS, W_ok]
theorem W_eSlT {a : ME} {lo hi : MO} : R.W (eSlT a lo hi s M) PD ↔ R.W (a s M) fun x M1 => R.W (lo s M1) fun l M2 => R.W (hi s M2) fun u M3 => ∃ ds, x = .tup ds ∧ PD (.tup (cut ds l u)) M3 := by
  unfold eSlT; rw [W_bind]
  cases a s M with
  | ok x M1 =>
    show R.W ((lo s M1).bind _) PD ↔ R.W (lo s M1) _
    rw [W_bind]
    cases lo s M1 with
    | ok l M2 =>
      show R.W ((hi s M2).bind _) PD ↔ R.W (hi s M2) _
      rw [W_bind]
      cases hi s M2 with
      | ok u M3 => cases x <;> simp [R.W]
      | _ => exact Iff.rfl
    | _ => exact Iff.rfl
  | _ => exact Iff.rfl
/-- a field, read -/
def fldR (c f : String) (d : D) (M : Mem) : Option D := match d with
  | .ref j => match M[j]? with
    | some (.ins c' fs) => if c' = c then fs.lookup f else none
    | _ => none
  | _ => none
theorem W_eFld {c f : String} {o : ME} : R.W (eFld c f o s M) PD ↔ R.W (o s M) fun d M1 => ∃ v, fldR c f d M1 = some v ∧ PD v M1 := by
  unfold eFld; rw [W_bind]
  cases o s M with
  | ok d M1 =>
    show R.W (match d with | .ref j => (match M1[j]? with | some (.ins c' fs) => if c' = c then okO (fs.lookup f) M1 else .bad | _ => .bad : R D) | _ => .bad) PD ↔ ∃ v, fldR c f d M1 = some v ∧ PD v M1
    unfold fldR
    cases d with
    | ref j =>
      dsimp only
      cases M1[j]? with
      | none => simp [R.W]
      | some o => cases o with
        | ins c' fs =>
          dsimp only
          by_cases hc : c' = c
          · simp only [if_pos hc]
            cases fs.lookup f <;> simp [R.W, okO]
          · simp [if_neg hc, R.W]
        | _ => simp [R.W]
    | _ => simp [R.W]
  | _ => exact Iff.rfl
theorem fldR_of {c f : String} {j : Nat} {fs : List (String × D)} (h : M[j]? = some (.ins c fs)) : fldR c f (.ref j) M = fs.lookup f := by
  unfold fldR; simp [h]
theorem W_asB {d : D} : R.W (asB d M) PB ↔ ∃ b, d = .bl b ∧ PB b M := by
  cases d <;> simp [asB, R.W]
theorem W_tOf {a : ME} {t : Bool → Mem → Prop} : R.W (tOf a s M) t ↔ R.W (a s M) fun d M1 => ∃ b, d = .bl b ∧ t b M1 := by unfold tOf; simp only [W_bind, W_asB]
theorem W_tNot3 {a : MT} : R.W (tNot3 a s M) PB ↔ R.W (a s M) fun c M1 => PB (!c) M1 := by unfold tNot3; simp only [W_bind, W_ok]
theorem W_ite {c : Prop} [Decidable c] {a b : R α} : R.W (if c then a else b) P ↔ if c then R.W a P else R.W b P := by split <;> rfl
theorem W_tAnd3 {a b : MT} : R.W (tAnd3 a b s M) PB ↔ R.W (a s M) fun c M1 => if c = true then R.W (b s M1) PB else PB false M1 := by unfold tAnd3; simp only [W_bind, W_ite, W_ok]
theorem W_tOr3 {a b : MT} : R.W (tOr3 a b s M) PB ↔ R.W (a s M) fun c M1 => if c = true then PB true M1 else R.W (b s M1) PB := by unfold tOr3; simp only [W_bind, W_ite, W_ok]
theorem W_eAnd {a b : ME} : R.W (eAnd a b s M) PD ↔ R.W (a s M) fun x M1 => ∃ c, x = .bl c ∧ if c = true then R.W (b s M1) PD else PD (.bl false) M1 := by unfold eAnd; simp only [W_bind, W_asB, W_ite, W_ok]
theorem W_eOr {a b : ME} : R.W (eOr a b s M) PD ↔ R.W (a s M) fun x M1 => ∃ c, x = .bl c ∧ if c = true then PD (.bl true) M1 else R.W (b s M1) PD := by unfold eOr; simp only [W_bind, W_asB, W_ite, W_ok]
theorem W_eNot {a : ME} : R.W (eNot a s M) PD ↔ R.W (a s M) fun x M1 => ∃ c, x = .bl c ∧ PD (.bl (!c)) M1 := by unfold eNot; simp only [W_bind, W_asB, W_ok]
theorem W_eChain {f g : D → D → Mem → R D} {a b c : ME} : R.W (eChain f g a b c s M) PD ↔ R.W (a s M) fun x M1 => R.W (b s M1) fun y M2 => R.W (f x y M2) fun z M3 => ∃ k, z = .bl k ∧ if k = true then R.W (c s M3) (fun w M4 => R.W (g y w M4) PD) else PD (.bl false) M3 := by
  unfold eChain; simp only [W_bind, W_asB, W_ite, W_ok]
theorem W_eCall {n : Nat} {m : MF} {as : MA} : R.W (eCall n m as s M) PD ↔ R.W (as s M) fun ds M1 => ds.length = n ∧ R.W (m ds M1) PD := by unfold eCall; simp only [W_bind, W_if]
theorem W_onInsR {d : D} {c : String} {f : List (String × D) → R α} : R.W (onInsR d M c f) P ↔ ∃ j fs, d = .ref j ∧ M[j]? = some (.ins c fs) ∧ R.W (f fs) P := by
  unfold onInsR
  cases d with
  | ref j =>
    dsimp only
    cases e : M[j]? with
    | none => simp [R.W, e]
    | some o => cases o with
      | ins c' fs =>
        dsimp only
        by_cases hc : c' = c
        · subst hc; rw [if_pos rfl]
          constructor
          · intro z; exact ⟨j, fs, rfl, e, z⟩
          · rintro ⟨j', fs', h1, h2, z⟩; cases h1; rw [e] at h2; cases h2; exact z
        · rw [if_neg hc]
          constructor
          · intro z; exact z.elim
          · rintro ⟨j', fs', h1, h2, z⟩; cases h1; rw [e] at h2; cases h2; exact absurd rfl hc
      | _ => simp [R.W, e]
  | _ => simp [R.W]
theorem W_eMeth {c mn : String} {n : Nat} {m : MF} {o : ME} {as : MA} : R.W (eMeth c mn n m o as s M) PD ↔ R.W (o s M) fun x M1 => ∃ j, x = .ref j ∧ ∃ fs, M1[j]? = some (.ins c fs) ∧ (fs.lookup mn).isNone = true ∧ R.W (as s M1) fun ds M2 => ds.length + 1 = n ∧ R.W (m (x :: ds) M2) PD := by
  unfold eMeth; simp only [W_bind, W_onInsR, W_if, exists_and_left]
theorem W_eMake {c : String} {n : Nat} {m : MF} {as : MA} : R.W (eMake c n m as s M) PD ↔ R.W (as s M) fun ds M1 => ds.length + 1 = n ∧ R.W (m (.ref M1.length :: ds) (M1 ++ [.ins c []])) fun v M2 => isNon v = true ∧ PD (.ref M1.length) M2 := by
  unfold eMake; simp only [W_bind, W_if, W_ok]
theorem W_iSeq {q : MQ} : R.W (iSeq q s M) PI ↔ R.W (q s M) fun x M1 => ∃ ds, x.get M1 = some ds ∧ PI (.seq x ds) M1 := by unfold iSeq; simp only [W_bind, W_getS, W_ok]
theorem W_iEnum {q : MQ} : R.W (iEnum q s M) PI ↔ R.W (q s M) fun x M1 => ∃ ds, x.get M1 = some ds ∧ PI (.enum x ds) M1 := by unfold iEnum; simp only [W_bind, W_getS, W_ok]
theorem W_iZip {p q : MQ} : R.W (iZip p q s M) PI ↔ R.W (p s M) fun x M1 => R.W (q s M1) fun y M2 => ∃ ds, x.get M2 = some ds ∧ ∃ es, y.get M2 = some es ∧ PI (.zip x y ds es) M2 := by unfold iZip; simp only [W_bind, W_getS, W_ok]
theorem W_iRng1 {a : ME} : R.W (iRng1 a s M) PI ↔ R.W (a s M) fun d M1 => ∃ j, d = .int j ∧ (-4611686018427387904 ≤ j ∧ j < 4611686018427387904) ∧ PI (.rng 0 j.toNat) M1 := by
  unfold iRng1; rw [W_bind]
  cases a s M with
  | ok d M1 =>
    cases d with
    | int j =>
      show R.W (if -4611686018427387904 ≤ j ∧ j < 4611686018427387904 then (.ok (.rng 0 j.toNat) M1 : R It3) else .bad) PI ↔ ∃ j', D.int j = .int j' ∧ (-4611686018427387904 ≤ j' ∧ j' < 4611686018427387904) ∧ PI (.rng 0 j'.toNat) M1
      rw [W_if, W_ok]
      constructor
      · intro h; exact ⟨j, rfl, h⟩
      · rintro ⟨_, h, z⟩; cases h; exact z
    | _ => simp [R.W]
  | _ => exact Iff.rfl
theorem W_lLC {vs : List Nat} {i : MI} {g : GT} {t : MT} {e : ME} : R.W (lLC vs i g t e s M) PL ↔ R.W (i s M) fun it M1 => R.W (lcLoop it g t e (wipe3 s vs) it.items [] M1) PL := by unfold lLC; simp only [W_bind]
theorem W_mYes : R.W (mYes s M) PB ↔ PB true M := Iff.rfl
/-! ### operators -/
theorem W_add {i j : Int} : R.W (opAdd (.int i) (.int j) M) PD ↔ PD (.int (i + j)) M := Iff.rfl
theorem W_addI {i j : Int} : R.W (opAddI (.int i) (.int j) M) PD ↔ PD (.int (i + j)) M := Iff.rfl
theorem W_addT {a b : List D} : R.W (opAdd (.tup a) (.tup b) M) PD ↔ a.length + b.length ≤ sizeLine ∧ PD (.tup (a ++ b)) M := by unfold opAdd; simp only [W_if, W_ok]
theorem W_sub {i j : Int} : R.W (opSub (.int i) (.int j) M) PD ↔ PD (.int (i - j)) M := Iff.rfl
theorem W_mul {i j : Int} : R.W (opMul (.int i) (.int j) M) PD ↔ okMul i j ∧ PD (.int (i * j)) M := by unfold opMul; simp only [W_if, W_ok]
theorem W_div {i j : Int} : R.W (opDiv (.int i) (.int j) M) PD ↔ (0 < j ∧ j.natAbs.log2 < 9000) ∧ PD (.int (i / j)) M := by unfold opDiv; simp only [W_if, W_ok]
theorem W_mod {i j : Int} : R.W (opMod (.int i) (.int j) M) PD ↔ 0 < j ∧ PD (.int (i % j)) M := by unfold opMod; simp only [W_if, W_ok]
theorem W_lt {i j : Int} : R.W (opLt (.int i) (.int j) M) PD ↔ PD (.bl (decide (i < j))) M := Iff.rfl
theorem W_le {i j : Int} : R.W (opLe (.int i) (.int j) M) PD ↔ PD (.bl (decide (i ≤ j))) M := Iff.rfl
theorem W_gt {i j : Int} : R.W (opGt (.int i) (.int j) M) PD ↔ PD (.bl (decide (j < i))) M := Iff.rfl
theorem W_ge {i j : Int} : R.W (opGe (.int i) (.int j) M) PD ↔ PD (.bl (decide (j ≤ i))) M := Iff.rfl
theorem W_int {i : Int} : R.W (opInt (.int i) M) PD ↔ PD (.int i) M := Iff.rfl
theorem W_isN {d : D} : R.W (opIsN d M) PD ↔ PD (.bl (isNon d)) M := Iff.rfl
theorem W_notN {d : D} : R.W (opNotN d M) PD ↔ PD (.bl (!isNon d)) M := Iff.rfl
theorem W_isi {T : String} {d : D} : R.W (opIsi T d M) PD ↔ ∃ t, kindOf d M = some t ∧ PD (.bl (isiT t T)) M := by
  unfold opIsi
  cases kindOf d M <;> simp [R.W]
theorem W_ixT {ds : List D} {i : Int} : R.W (opIx (.tup ds) (.int i) M) PD ↔ ∃ d, L2.atI ds i = some d ∧ PD d M := by
  show R.W (okO (L2.atI ds i) M) PD ↔ _
  cases L2.atI ds i <;> simp [okO, R.W]
theorem W_ixL {j : Nat} {ds : List D} {i : Int} (h : M[j]? = some (.lst ds)) : R.W (opIx (.ref j) (.int i) M) PD ↔ ∃ d, L2.atI ds i = some d ∧ PD d M := by
  unfold opIx; simp only [h]
  cases L2.atI ds i <;> simp [okO, R.W]
theorem W_ixK {j : Nat} {kvs : List (L2.Key × D)} {k : L2.Key} {y : D} (h : M[j]? = some (.dK kvs)) (hk : keyOf y = some k) : R.W (opIx (.ref j) y M) PD ↔ ∃ d, getK kvs k = some d ∧ PD d M := by
  unfold opIx; simp only [h, hk]
  cases getK kvs k <;> simp [okO, R.W]
end
end L3
set_option Elab.async false
set_option linter.all false
set_option maxRecDepth 100000
set_option maxHeartbeats 2000000
/-! L3q: loops, comprehensions, what is kept. -/
namespace L3
open PySem

theorem get_items {x : Src} {M : Mem} {ds : List D} (g : x.get M = some ds) : x.still M ds = true := still_of g
theorem lc_gen {it : It3} {g : GT} {t : MT} {e : ME} {s : Sl} {p : D → Bool} {F : D → D} {Inv : Nat → Mem → Prop} (hst : ∀ k M, Inv k M → it.still M = true) (hsz : it.items.length < 16777216)
    (hstep : ∀ k d M, it.items[k]? = some d → Inv k M → ∃ s1, g d s M = some (s1, M) ∧ R.W (t s1 M) fun b M1 => b = p d ∧ if p d = true then R.W (e s1 M1) (fun y M2 => y = F d ∧ Inv (k + 1) M2) else Inv (k + 1) M1) {M : Mem} (h0 : Inv 0 M) :
    R.W (lcLoop it g t e s it.items [] M) fun ds M1 => ds = (it.items.filter p).map F ∧ Inv it.items.length M1 := by
  have main : ∀ (r : List D) (k : Nat) (acc : List D) (M : Mem), it.items.drop k = r → k ≤ it.items.length → acc = ((it.items.take k).filter p).map F → Inv k M → R.W (lcLoop it g t e s r acc M) fun ds M1 => ds = (it.items.filter p).map F ∧ Inv it.items.length M1 := by
    intro r
    induction r with
    | nil =>
      intro k acc M hk hle ha hi
      have hk' : k = it.items.length := by
        have := congrArg List.length hk
        rw [List.length_drop, List.length_nil] at this
        omega
      subst hk'
      unfold lcLoop
      rw [if_pos (hst _ _ hi)]
      refine ⟨?_, hi⟩
      rw [ha, List.take_length]
    | cons d r ih =>
      intro k acc M hk hle ha hi
      have hlt : k < it.items.length := by
        have := congrArg List.length hk
        rw [List.length_drop, List.length_cons] at this
        omega
      have hd : it.items[k]? = some d := by
        have := congrArg (fun l => l[0]?) hk
        simpa using this
      have hr : it.items.drop (k + 1) = r := by
        have := congrArg List.tail hk
        simpa using this
      have ht : it.items.take (k + 1) = it.items.take k ++ [d] := by
        rw [List.take_succ, hd]; rfl
      unfold lcLoop
      rw [if_pos (hst _ _ hi)]
      obtain ⟨s1, hg, hw⟩ := hstep k d M hd hi
      rw [hg]
      dsimp only
      obtain ⟨b, M1, et, hb, hw⟩ := hw.ex
      rw [et]
      subst hb
      cases hp : p d with
      | true =>
        rw [hp, if_pos rfl] at hw
        dsimp only
        obtain ⟨y, M2, ee, rfl, hi2⟩ := hw.ex
        rw [ee]
        dsimp only
        have hal : acc.length < 16777216 := by
          rw [ha, List.length_map]
          have h1 := List.length_filter_le p (it.items.take k)
          rw [List.length_take] at h1
          omega
        rw [if_pos hal]
        refine ih (k + 1) _ M2 hr hlt ?_ hi2
        rw [ht, List.filter_append, List.map_append, ← ha]
        simp [List.filter, hp]
      | false =>
        rw [hp, if_neg (by simp)] at hw
        dsimp only
        refine ih (k + 1) _ M1 hr hlt ?_ hw
        rw [ht, List.filter_append, List.map_append, ← ha]
        simp [List.filter, hp]
  exact main it.items 0 [] M (by simp) (Nat.zero_le _) (by simp) h0
/-- every item, one by one -/
theorem lc_map {it : It3} {g : GT} {e : ME} {s : Sl} {F : D → D} {Inv : Mem → Prop} (hst : ∀ M, Inv M → it.still M = true) (hsz : it.items.length < 16777216)
    (hstep : ∀ d M, d ∈ it.items → Inv M → ∃ s1, g d s M = some (s1, M) ∧ R.W (e s1 M) fun y M2 => y = F d ∧ Inv M2) {M : Mem} (h0 : Inv M) :
    R.W (lcLoop it g mYes e s it.items [] M) fun ds M1 => ds = it.items.map F ∧ Inv M1 := by
  have := lc_gen (it := it) (g := g) (t := mYes) (e := e) (s := s) (p := fun _ => true) (F := F) (Inv := fun _ M => Inv M) (fun _ M h => hst M h) hsz (fun k d M hd hi => by
    obtain ⟨s1, h1, h2⟩ := hstep d M (List.mem_of_getElem? hd) hi
    exact ⟨s1, h1, rfl, by simpa using h2⟩) h0
  have e : it.items.filter (fun _ => true) = it.items := List.filter_eq_self.mpr (fun _ _ => rfl)
  rw [e] at this
  exact this
/-- .. where what is made hangs on the turn -/
theorem lc_ix {it : It3} {g : GT} {e : ME} {s : Sl} {Inv : Nat → List D → Mem → Prop} (hst : ∀ k a M, Inv k a M → it.still M = true) (hsz : it.items.length < 16777216)
    (hstep : ∀ k d a M, it.items[k]? = some d → a.length = k → Inv k a M → ∃ s1, g d s M = some (s1, M) ∧ R.W (e s1 M) fun y M2 => Inv (k + 1) (a ++ [y]) M2) {M : Mem} (h0 : Inv 0 [] M) :
    R.W (lcLoop it g mYes e s it.items [] M) fun ds M1 => ds.length = it.items.length ∧ Inv it.items.length ds M1 := by
  have main : ∀ (r : List D) (k : Nat) (acc : List D) (M : Mem), it.items.drop k = r → k ≤ it.items.length → acc.length = k → Inv k acc M → R.W (lcLoop it g mYes e s r acc M) fun ds M1 => ds.length = it.items.length ∧ Inv it.items.length ds M1 := by
    intro r
    induction r with
    | nil =>
      intro k acc M hk hle ha hi
      have hk' : k = it.items.length := by
        have := congrArg List.length hk
        rw [List.length_drop, List.length_nil] at this
        omega
      subst hk'
      unfold lcLoop
      rw [if_pos (hst _ _ _ hi)]
      exact ⟨ha, hi⟩
    | cons d r ih =>
      intro k acc M hk hle ha hi
      have hlt : k < it.items.length := by
        have := congrArg List.length hk
        rw [List.length_drop, List.length_cons] at this
        omega
      have hd : it.items[k]? = some d := by
        have := congrArg (fun l => l[0]?) hk
        simpa using this
      have hr : it.items.drop (k + 1) = r := by
        have := congrArg List.tail hk
        simpa using this
      unfold lcLoop
      rw [if_pos (hst _ _ _ hi)]
      obtain ⟨s1, hg, hw⟩ := hstep k d acc M hd ha hi
      rw [hg]
      dsimp only [mYes]
      obtain ⟨y, M2, ee, hi2⟩ := hw.ex
      rw [ee]
      dsimp only
      rw [if_pos (by omega)]
      exact ih (k + 1) _ M2 hr hlt (by rw [List.length_append, ha]; rfl) hi2
  exact main it.items 0 [] M (by simp) (Nat.zero_le _) rfl h0
/-- a for that runs to its end -/
theorem for_go {it : It3} {g : GT} {b : MS} {Inv : Nat → Sl → Mem → Prop} {N : Sl → Mem → Prop} {T : D → Mem → Prop} (hst : ∀ k s M, Inv k s M → it.still M = true)
    (hstep : ∀ k d s M, it.items[k]? = some d → Inv k s M → ∃ s1 M1, g d s M = some (s1, M1) ∧ RS.V (b s1 M1) (fun s2 M2 => Inv (k + 1) s2 M2) (fun _ _ => False)) {s : Sl} {M : Mem} (h0 : Inv 0 s M) (hN : ∀ s M, Inv it.items.length s M → N s M) :
    RS.V (loopS it g b it.items s M) N T := by
  have main : ∀ (r : List D) (k : Nat) (s : Sl) (M : Mem), it.items.drop k = r → k ≤ it.items.length → Inv k s M → RS.V (loopS it g b r s M) N T := by
    intro r
    induction r with
    | nil =>
      intro k s M hk hle hi
      have hk' : k = it.items.length := by
        have := congrArg List.length hk
        rw [List.length_drop, List.length_nil] at this
        omega
      subst hk'
      unfold loopS
      rw [if_pos (hst _ _ _ hi)]
      exact hN _ _ hi
    | cons d r ih =>
      intro k s M hk hle hi
      have hlt : k < it.items.length := by
        have := congrArg List.length hk
        rw [List.length_drop, List.length_cons] at this
        omega
      have hd : it.items[k]? = some d := by
        have := congrArg (fun l => l[0]?) hk
        simpa using this
      have hr : it.items.drop (k + 1) = r := by
        have := congrArg List.tail hk
        simpa using this
      unfold loopS
      rw [if_pos (hst _ _ _ hi)]
      obtain ⟨s1, M1, hg, hw⟩ := hstep k d s M hd hi
      rw [hg]
      dsimp only
      revert hw
      cases b s1 M1 with
      | nx s2 M2 => intro hw; exact ih (k + 1) s2 M2 hr hlt hw
      | _ => intro hw; exact hw.elim
  exact main it.items 0 s M (by simp) (Nat.zero_le _) h0

/-! ### what is kept -/
/-- nothing but these is changed; new things come behind -/
structure Keep (A : List Nat) (M M' : Mem) : Prop where
  len : M.length ≤ M'.length
  at_ : ∀ (i : Nat) (o : O), i ∉ A → M[i]? = some o → M'[i]? = some o
theorem Keep.refl {A : List Nat} {M : Mem} : Keep A M M := ⟨Nat.le_refl _, fun _ _ _ h => h⟩
theorem Keep.trans {A : List Nat} {M M1 M2 : Mem} (a : Keep A M M1) (b : Keep A M1 M2) : Keep A M M2 := ⟨Nat.le_trans a.len b.len, fun i o h e => b.at_ i o h (a.at_ i o h e)⟩
theorem Keep.mono {A B : List Nat} {M M1 : Mem} (a : Keep A M M1) (h : ∀ i ∈ A, i ∈ B) : Keep B M M1 := ⟨a.len, fun i o n e => a.at_ i o (fun z => n (h i z)) e⟩
theorem Keep.nil {A : List Nat} {M M1 : Mem} (a : Keep [] M M1) : Keep A M M1 := a.mono (by simp)
theorem Keep.app {A : List Nat} {M X : Mem} : Keep A M (M ++ X) := ⟨by simp, fun i o _ e => by
  rw [List.getElem?_append_left (List.getElem?_eq_some_iff.mp e).1]; exact e⟩
theorem Keep.set {A : List Nat} {M : Mem} {i : Nat} {o : O} (h : i ∈ A) : Keep A M (M.set i o) := ⟨by simp, fun j u n e => by
  have ne : i ≠ j := fun z => by
    subst z
    exact n h
  rw [List.getElem?_set_ne ne]; exact e⟩
theorem Keep.get {A : List Nat} {M M1 : Mem} (a : Keep A M M1) {i : Nat} {o : O} (e : M[i]? = some o) (h : i ∉ A) : M1[i]? = some o := a.at_ i o h e
theorem Keep.get0 {M M1 : Mem} (a : Keep [] M M1) {i : Nat} {o : O} (e : M[i]? = some o) : M1[i]? = some o := a.at_ i o (by simp) e
/-- what was changed was new all the same -/
theorem Keep.new {A B : List Nat} {M M1 M2 : Mem} (a : Keep A M M1) (b : Keep B M1 M2) (h : ∀ i ∈ B, i ∈ A ∨ M.length ≤ i) : Keep A M M2 := ⟨Nat.le_trans a.len b.len, fun i o n e => b.at_ i o (fun z => by
  rcases h i z with q | q
  · exact n q
  · have := (List.getElem?_eq_some_iff.mp e).1
    omega) (a.at_ i o n e)⟩
theorem new_at {M : Mem} {o : O} : (M ++ [o])[M.length]? = some o := by
  rw [List.getElem?_append_right (Nat.le_refl _), Nat.sub_self]; rfl
theorem set_at {M : Mem} {i : Nat} {o u : O} (h : M[i]? = some u) : (M.set i o)[i]? = some o := by
  rw [List.getElem?_set_self (List.getElem?_eq_some_iff.mp h).1]

/-! ### sequences -/
/-- a tuple, or a list that stays as it is (none of U) -/
def Sq (U : List Nat) (M : Mem) (d : D) (ds : List D) : Prop := d = .tup ds ∨ ∃ j, d = .ref j ∧ j ∉ U ∧ M[j]? = some (.lst ds)
theorem Sq.keep {U A : List Nat} {M M1 : Mem} {d : D} {ds : List D} (h : Sq U M d ds) (k : Keep A M M1) (hA : ∀ i ∈ A, i ∈ U) : Sq U M1 d ds := by
  rcases h with h | ⟨j, h, n, e⟩
  · exact .inl h
  · exact .inr ⟨j, h, n, k.get e (fun z => n (hA j z))⟩
theorem Sq.keep0 {U : List Nat} {M M1 : Mem} {d : D} {ds : List D} (h : Sq U M d ds) (k : Keep [] M M1) : Sq U M1 d ds := h.keep k (by simp)
theorem Sq.weak {U V : List Nat} {M : Mem} {d : D} {ds : List D} (h : Sq U M d ds) (k : ∀ i ∈ V, i ∈ U) : Sq V M d ds := by
  rcases h with h | ⟨j, h, n, e⟩
  · exact .inl h
  · exact .inr ⟨j, h, fun z => n (k j z), e⟩
theorem Sq.zero {U : List Nat} {M : Mem} {d : D} {ds : List D} (h : Sq U M d ds) : Sq [] M d ds := h.weak (by simp)
/-- where a source stands -/
def SrcIs (M : Mem) (x : Src) (ds : List D) : Prop := x = .tup ds ∨ x = .tmp ds ∨ ∃ j, x = .lst j ∧ M[j]? = some (.lst ds)
theorem SrcIs.get {M : Mem} {x : Src} {ds : List D} (h : SrcIs M x ds) : x.get M = some ds := by
  rcases h with rfl | rfl | ⟨j, rfl, e⟩
  · rfl
  · rfl
  · simp [Src.get, e]
theorem SrcIs.keep {M M1 : Mem} {x : Src} {ds : List D} (h : SrcIs M x ds) (k : Keep [] M M1) : SrcIs M1 x ds := by
  rcases h with h | h | ⟨j, h, e⟩
  · exact .inl h
  · exact .inr (.inl h)
  · exact .inr (.inr ⟨j, h, k.get0 e⟩)
theorem SrcIs.still {M : Mem} {x : Src} {ds : List D} (h : SrcIs M x ds) : x.still M ds = true := still_of h.get
theorem Sq.src {U : List Nat} {M : Mem} {d : D} {ds : List D} (h : Sq U M d ds) {P : Src → Mem → Prop} (k : ∀ x, SrcIs M x ds → P x M) : R.W (srcOf d M) P := by
  rcases h with rfl | ⟨j, rfl, _, e⟩
  · exact k _ (.inl rfl)
  · exact k _ (.inr (.inr ⟨j, rfl, e⟩))
theorem Sq.tup {U : List Nat} {M : Mem} {ds : List D} : Sq U M (.tup ds) ds := .inl rfl
theorem Sq.ref {U : List Nat} {M : Mem} {j : Nat} {ds : List D} (h : M[j]? = some (.lst ds)) (n : j ∉ U) : Sq U M (.ref j) ds := .inr ⟨j, rfl, n, h⟩
theorem Sq.ix {U : List Nat} {M : Mem} {d x : D} {ds : List D} (h : Sq U M d ds) {i : Int} (hx : L2.atI ds i = some x) {P : D → Mem → Prop} (k : P x M) : R.W (opIx d (.int i) M) P := by
  rcases h with rfl | ⟨j, rfl, _, e⟩
  · exact W_ixT.mpr ⟨x, hx, k⟩
  · exact (W_ixL e).mpr ⟨x, hx, k⟩
/-- unpacked -/
theorem Sq.unpack {U : List Nat} {M : Mem} {d : D} {ds : List D} (h : Sq U M d ds) {gs : List GT} {s : Sl} : gT gs d s M = gFold gs ds s M := by
  rcases h with rfl | ⟨j, rfl, _, e⟩
  · rfl
  · simp [gT, e]
theorem ix_nat {α : Type} {l : List α} {i : Nat} : L2.atI l (i : Int) = l[i]? := by
  unfold L2.atI L2.ixN
  by_cases h : i < l.length
  · simp [h]
  · simp [h]

section
variable {PD : D → Mem → Prop} {s : Sl} {M : Mem}
theorem W_onLst {α : Type} {P : α → Mem → Prop} {d : D} {f : Nat → List D → R α} : R.W (onLst d M f) P ↔ ∃ j, d = .ref j ∧ ∃ ds, M[j]? = some (.lst ds) ∧ R.W (f j ds) P := by
  unfold onLst
  cases d with
  | ref j =>
    dsimp only
    cases e : M[j]? with
    | none => simp [R.W, e]
    | some o => cases o with
      | lst ds =>
        dsimp only
        constructor
        · intro h; exact ⟨j, rfl, ds, e, h⟩
        · rintro ⟨_, h1, ds', h2, h3⟩
          cases h1
          rw [e] at h2
          cases h2
          exact h3
      | _ => simp [R.W, e]
  | _ => simp [R.W]
theorem isLst_of {j : Nat} {ds : List D} (h : M[j]? = some (.lst ds)) : isLst (.ref j) M = true := by simp [isLst, h]
theorem W_mApp {o a : ME} : R.W (mApp o a s M) PD ↔ R.W (o s M) fun x M1 => isLst x M1 = true ∧ R.W (a s M1) fun y M2 => ∃ j, x = .ref j ∧ ∃ ds, M2[j]? = some (.lst ds) ∧ okLen (ds.length + 1) = true ∧ PD .non (M2.set j (.lst (ds ++ [y]))) := by
  unfold mApp; simp only [W_bind, W_if, W_onLst, W_ok]
theorem W_mExt {o : ME} {a : MQ} : R.W (mExt o a s M) PD ↔ R.W (o s M) fun x M1 => isLst x M1 = true ∧ R.W (a s M1) fun y M2 => ∃ j, x = .ref j ∧ ∃ ds, M2[j]? = some (.lst ds) ∧ ∃ es, y.own M2 = some es ∧ okLen (ds.length + es.length) = true ∧ PD .non (M2.set j (.lst (ds ++ es))) := by
  unfold mExt; simp only [W_bind, W_if, W_onLst, W_getW, W_ok]
/-- xs.pop(i) -/
def popD (j : Nat) (ds : List D) (y : D) (M : Mem) : R D := match y with
  | .int i => if 0 ≤ i ∧ i < 9223372036854775808 then match ds[i.toNat]? with
      | some d => .ok d (M.set j (.lst (ds.eraseIdx i.toNat)))
      | none => .bad
    else .bad
  | _ => .bad
theorem W_popD {j i : Nat} {ds : List D} {d : D} (h : ds[i]? = some d) (hi : i < 9223372036854775808) : R.W (popD j ds (.int i) M) PD ↔ PD d (M.set j (.lst (ds.eraseIdx i))) := by
  unfold popD
  dsimp only
  rw [if_pos ⟨by omega, by omega⟩, Int.toNat_natCast, h]
  exact Iff.rfl
theorem W_mPopAt {o a : ME} : R.W (mPopAt o a s M) PD ↔ R.W (o s M) fun x M1 => isLst x M1 = true ∧ R.W (a s M1) fun y M2 => ∃ j, x = .ref j ∧ ∃ ds, M2[j]? = some (.lst ds) ∧ R.W (popD j ds y M2) PD := by
  unfold mPopAt; simp only [W_bind, W_if, W_onLst]; exact Iff.rfl
theorem enumD_at : ∀ (ds : List D) (k i : Nat) (d : D), ds[i]? = some d → (enumD k ds)[i]? = some (.tup [.int (k + i : Nat), d])
  | [], _, _, _, h => by simp at h
  | x :: ds, k, 0, d, h => by
    simp at h
    subst h
    simp [enumD]
  | x :: ds, k, i + 1, d, h => by
    have := enumD_at ds (k + 1) i d (by simpa using h)
    unfold enumD
    rw [List.getElem?_cons_succ, this]
    have e : k + 1 + i = k + (i + 1) := by omega
    rw [e]
theorem enumD_length : ∀ (ds : List D) (k : Nat), (enumD k ds).length = ds.length
  | [], _ => rfl
  | x :: ds, k => by unfold enumD; rw [List.length_cons, enumD_length ds, List.length_cons]
end

/-! ### in step -/
inductive All2 {α β : Type} (r : α → β → Prop) : List α → List β → Prop
  | nil : All2 r [] []
  | cons {a : α} {b : β} {as : List α} {bs : List β} (h : r a b) (t : All2 r as bs) : All2 r (a :: as) (b :: bs)
namespace All2
variable {α β : Type} {r r' : α → β → Prop}
theorem length {as : List α} {bs : List β} (h : All2 r as bs) : as.length = bs.length := by
  induction h with
  | nil => rfl
  | cons _ _ ih => rw [List.length_cons, List.length_cons, ih]
theorem imp (k : ∀ a b, r a b → r' a b) {as : List α} {bs : List β} (h : All2 r as bs) : All2 r' as bs := by
  induction h with
  | nil => exact .nil
  | cons h _ ih => exact .cons (k _ _ h) ih
theorem append {as cs : List α} {bs ds : List β} (h : All2 r as bs) (g : All2 r cs ds) : All2 r (as ++ cs) (bs ++ ds) := by
  induction h with
  | nil => exact g
  | cons h _ ih => exact .cons h ih
theorem one {a : α} {b : β} (h : r a b) : All2 r [a] [b] := .cons h .nil
theorem get {as : List α} {bs : List β} (h : All2 r as bs) : ∀ {i : Nat} {b : β}, bs[i]? = some b → ∃ a, as[i]? = some a ∧ r a b := by
  induction h with
  | nil => intro i b e; simp at e
  | cons h _ ih =>
    intro i b e
    cases i with
    | zero =>
      simp at e
      subst e
      exact ⟨_, rfl, h⟩
    | succ i =>
      obtain ⟨a, h1, h2⟩ := ih (by simpa using e)
      exact ⟨a, by simpa using h1, h2⟩
theorem getL {as : List α} {bs : List β} (h : All2 r as bs) : ∀ {i : Nat} {a : α}, as[i]? = some a → ∃ b, bs[i]? = some b ∧ r a b := by
  induction h with
  | nil => intro i b e; simp at e
  | cons h _ ih =>
    intro i b e
    cases i with
    | zero =>
      simp at e
      subst e
      exact ⟨_, rfl, h⟩
    | succ i =>
      obtain ⟨a, h1, h2⟩ := ih (by simpa using e)
      exact ⟨a, by simpa using h1, h2⟩
theorem take {as : List α} {bs : List β} (h : All2 r as bs) : ∀ n : Nat, All2 r (as.take n) (bs.take n) := by
  induction h with
  | nil => intro n; cases n <;> exact .nil
  | cons h _ ih =>
    intro n
    cases n with
    | zero => exact .nil
    | succ n => exact .cons h (ih n)
theorem drop {as : List α} {bs : List β} (h : All2 r as bs) : ∀ n : Nat, All2 r (as.drop n) (bs.drop n) := by
  induction h with
  | nil => intro n; cases n <;> exact .nil
  | cons h t ih =>
    intro n
    cases n with
    | zero => exact .cons h t
    | succ n => exact ih n
theorem map {γ δ : Type} {q : γ → δ → Prop} {f : α → γ} {g : β → δ} (k : ∀ a b, r a b → q (f a) (g b)) {as : List α} {bs : List β} (h : All2 r as bs) : All2 q (as.map f) (bs.map g) := by
  induction h with
  | nil => exact .nil
  | cons h _ ih => exact .cons (k _ _ h) ih
theorem of_map {f : β → α} (k : ∀ b, r (f b) b) : ∀ bs : List β, All2 r (bs.map f) bs
  | [] => .nil
  | b :: bs => .cons (k b) (of_map k bs)
end All2
def inR (neg : Bool) (x : D) (y : Src) (M2 : Mem) : R D := if isL y = true then
    getS y M2 fun ds => match pyD 20 M2 x, ds.mapM (pyD 19 M2) with
      | some p, some ps => if SeqAt.shaped p = true ∧ SeqAt.shaped (.list ps) = true then .ok (.bl (xor neg (ps.any fun z => PyData.eqv z p))) M2 else .bad
      | _, _ => .bad
  else getS y M2 fun ds => getI ds fun ns => match x with
      | .int i => .ok (.bl (xor neg (ns.any fun n => n == i))) M2
      | _ => .bad
theorem W_eIn {neg : Bool} {a : ME} {q : MQ} {s : Sl} {M : Mem} {P : D → Mem → Prop} : R.W (eIn neg a q s M) P ↔ R.W (a s M) fun x M1 => R.W (q s M1) fun y M2 => R.W (inR neg x y M2) P := by
  unfold eIn; simp only [W_bind]; exact Iff.rfl
end L3
set_option Elab.async false
set_option linter.all false
set_option maxRecDepth 100000
set_option maxHeartbeats 2000000
namespace Law
open L3
open L3.D (int)

theorem rep0 {α : Type} {a : α} : List.replicate 0 a = [] := rfl
theorem rep1 {α : Type} {a : α} : List.replicate 1 a = [a] := rfl
theorem rep2 {α : Type} {a : α} : List.replicate 2 a = [a, a] := rfl
theorem rep3 {α : Type} {a : α} : List.replicate 3 a = [a, a, a] := rfl
theorem rep4 {α : Type} {a : α} : List.replicate 4 a = [a, a, a, a] := rfl
theorem rep5 {α : Type} {a : α} : List.replicate 5 a = [a, a, a, a, a] := rfl
theorem rep6 {α : Type} {a : α} : List.replicate 6 a = [a, a, a, a, a, a] := rfl
theorem rep7 {α : Type} {a : α} : List.replicate 7 a = [a, a, a, a, a, a, a] := rfl
theorem rep8 {α : Type} {a : α} : List.replicate 8 a = [a, a, a, a, a, a, a, a] := rfl
theorem rep9 {α : Type} {a : α} : List.replicate 9 a = [a, a, a, a, a, a, a, a, a] := rfl
theorem rep10 {α : Type} {a : α} : List.replicate 10 a = [a, a, a, a, a, a, a, a, a, a] := rfl
theorem rep11 {α : Type} {a : α} : List.replicate 11 a = [a, a, a, a, a, a, a, a, a, a, a] := rfl
theorem rep12 {α : Type} {a : α} : List.replicate 12 a = [a, a, a, a, a, a, a, a, a, a, a, a] := rfl
theorem rep13 {α : Type} {a : α} : List.replicate 13 a = [a, a, a, a, a, a, a, a, a, a, a, a, a] := rfl
theorem rep14 {α : Type} {a : α} : List.replicate 14 a = [a, a, a, a, a, a, a, a, a, a, a, a, a, a] := rfl
theorem rep15 {α : Type} {a : α} : List.replicate 15 a = [a, a, a, a, a, a, a, a, a, a, a, a, a, a, a] := rfl
theorem rep16 {α : Type} {a : α} : List.replicate 16 a = [a, a, a, a, a, a, a, a, a, a, a, a, a, a, a, a] := rfl
theorem rep17 {α : Type} {a : α} : List.replicate 17 a = [a, a, a, a, a, a, a, a, a, a, a, a, a, a, a, a, a] := rfl
theorem rep18 {α : Type} {a : α} : List.replicate 18 a = [a, a, a, a, a, a, a, a, a, a, a, a, a, a, a, a, a, a] := rfl
theorem rep19 {α : Type} {a : α} : List.replicate 19 a = [a, a, a, a, a, a, a, a, a, a, a, a, a, a, a, a, a, a, a] := rfl
theorem rep20 {α : Type} {a : α} : List.replicate 20 a = [a, a, a, a, a, a, a, a, a, a, a, a, a, a, a, a, a, a, a, a] := rfl
theorem bl_eq {a b : Bool} : (D.bl a = D.bl b) = (a = b) := by simp

theorem isi1 : isiT "int" "int" = true := rfl
theorem isi2 : isiT "int" "bool" = false := rfl
theorem isi3 : isiT "tuple" "tuple" = true := rfl
theorem isi4 : isiT "int" "tuple" = false := rfl
theorem isi5 : isiT "bool" "tuple" = false := rfl
theorem isi6 : isiT "bool" "bool" = true := rfl
theorem isi7 : isiT "NoneType" "tuple" = false := rfl
local macro_rules | `(tactic| array_get_dec) => `(tactic| (simp only [W_fnB, V_sq, V_sNil, V_sPass, V_sRet, V_sRetN, V_sDrop, V_sIf, V_sSet, V_sAsg, V_sAug, V_sFld, V_sIx, V_sFor, W_eV, W_eC, W_eBin, W_eUn, W_aNil, W_aCons, W_eTup, W_lLst, W_eNew, W_qE, W_qL, W_src_tup, W_eTupOf, W_lOf, W_eLen, W_eSum, W_lCat, W_oNone, W_oSome, W_lSl, W_eSlT, W_eFld, W_tOf, W_tNot3, W_tAnd3, W_tOr3, W_eAnd, W_eOr, W_eNot, W_eChain, W_eCall, W_eMeth, W_eMake, W_iSeq, W_iEnum, W_iZip, W_iRng1, W_lLC, W_mYes, W_mApp, W_mExt, W_mPopAt, W_src_ref, W_eIn,
  W_add, W_addI, W_addT, W_sub, W_mul, W_div, W_mod, W_lt, W_le, W_gt, W_ge, W_int, W_isN, W_notN, W_isi, W_ixT, bl_eq, exists_eq_left', exists_eq_left, exists_eq_right, exists_eq',
  rep0, rep1, rep2, rep3, rep4, rep5, rep6, rep7, rep8, rep9, rep10, rep11, rep12, rep13, rep14, rep15, rep16, rep17, rep18, rep19, rep20, List.map_cons, List.map_nil, List.cons_append, List.nil_append, List.getElem?_cons_succ, List.getElem?_cons_zero, List.set_cons_succ, List.set_cons_zero, Option.some.injEq, D.int.injEq, D.tup.injEq, D.ref.injEq, wipe3, List.length_cons, List.length_nil, true_and, and_true, Nat.reduceAdd, gN, kindOf, isNon, Prod.mk.injEq, and_self, and_assoc]; try simp only [isi1, isi2, isi3, isi4, isi5, isi6, isi7, Bool.not_false, Bool.not_true, Bool.false_eq_true, if_true, if_false]))

theorem is_between_ok {v a b : Int} {M : Mem} {P : D → Mem → Prop} (h : P (.bl (decide (a ≤ v ∧ v ≤ b))) M) : R.W (m_is_between [.int v, .int a, .int b] M) P := by
  unfold m_is_between b_is_between
  array_get_dec
  by_cases h1 : a ≤ v
  · simpa [h1] using h
  · simpa [h1] using h

/-! ### numbers -/
def vI (v : List Int) : D := .tup (v.map D.int)
def mI (m : List (List Int)) : D := .tup (m.map vI)
abbrev IsV (U : List Nat) (M : Mem) (d : D) (v : List Int) : Prop := Sq U M d (v.map D.int)
theorem IsV.tup {U : List Nat} {M : Mem} {v : List Int} : IsV U M (vI v) v := .inl rfl
def dot (v w : List Int) : Int := (List.zipWith (· * ·) v w).sum
def small (x : Int) : Prop := x.natAbs < 18446744073709551616
theorem zipD_ints : ∀ (v w : List Int), zipD (v.map D.int) (w.map D.int) = (v.zip w).map fun p => D.tup [.int p.1, .int p.2]
  | [], _ => rfl
  | _ :: _, [] => rfl
  | a :: v, b :: w => by
    simp only [List.map_cons, zipD, List.zip_cons_cons, zipD_ints v w]
theorem still_zip {M M1 : Mem} {x y : Src} {ds es : List D} (hx : SrcIs M x ds) (hy : SrcIs M y es) (k : Keep [] M M1) : (It3.zip x y ds es).still M1 = true := by
  show (x.still M1 ds && y.still M1 es) = true
  rw [(hx.keep k).still, (hy.keep k).still]; rfl
theorem still_seq {M M1 : Mem} {x : Src} {ds : List D} (hx : SrcIs M x ds) (k : Keep [] M M1) : (It3.seq x ds).still M1 = true := (hx.keep k).still
theorem still_enum {M M1 : Mem} {x : Src} {ds : List D} (hx : SrcIs M x ds) (k : Keep [] M M1) : (It3.enum x ds).still M1 = true := (hx.keep k).still
theorem product_sum_ok {M : Mem} {d e : D} {v w : List Int} (hd : IsV [] M d v) (he : IsV [] M e w) (hm : ∀ x y, x ∈ v → y ∈ w → okMul x y) {P : D → Mem → Prop} (h : P (.int (dot v w)) M) : R.W (m_product_sum [d, e] M) P := by
  unfold m_product_sum b_product_sum
  array_get_dec
  refine hd.src fun x hx => ?_
  refine he.src fun y hy => ?_
  refine ⟨_, hx.get, _, hy.get, ?_⟩
  refine for_go (Inv := fun k s M' => ∃ a b, s = [some d, some e, some (.int (((v.zip w).take k).map fun p => p.1 * p.2).sum), a, b] ∧ M' = M) (fun k s M' ⟨_, _, _, z⟩ => by rw [z]; exact still_zip hx hy Keep.refl) ?_ ⟨none, none, by simp, rfl⟩ ?_
  · rintro k c s M' hk ⟨a, b, rfl, rfl⟩
    rw [show (It3.zip x y (v.map D.int) (w.map D.int)).items = zipD (v.map D.int) (w.map D.int) from rfl, zipD_ints, List.getElem?_map] at hk
    cases hz : (v.zip w)[k]? with
    | none => rw [hz] at hk; cases hk
    | some p =>
      rw [hz] at hk
      cases hk
      obtain ⟨i, j⟩ := p
      have hmem := List.of_mem_zip (List.mem_of_getElem? hz)
      refine ⟨_, _, rfl, ?_⟩
      array_get_dec
      refine ⟨hm i j hmem.1 hmem.2, some (.int i), some (.int j), ?_⟩
      rw [List.take_succ, hz]
      simp
  · rintro s M' ⟨a, b, rfl, rfl⟩
    array_get_dec
    rw [show (It3.zip x y (v.map D.int) (w.map D.int)).items = zipD (v.map D.int) (w.map D.int) from rfl, zipD_ints, List.length_map, List.take_length]
    have : dot v w = ((v.zip w).map fun p => p.1 * p.2).sum := by
      unfold dot
      rw [List.zip, List.map_zipWith]
    rw [← this]
    exact h


/-! ### the net -/
structure Nt where
  p : Int
  emb : List (List Int)
  sh : List Int
  lay : List (List (List (List Int)))
  out : List (List Int)
  e : D
def lyI (l : List (List (List Int))) : D := .tup (l.map mI)
def netO (N : Nt) : O := .ins "Net" [("prime", .int N.p), ("embed", mI N.emb), ("shift", vI N.sh), ("layers", .tup (N.lay.map lyI)), ("out", mI N.out), ("end", N.e)]
def NetAt (M : Mem) (n : Nat) (N : Nt) : Prop := M[n]? = some (netO N)
theorem NetAt.keep {A : List Nat} {M M1 : Mem} {n : Nat} {N : Nt} (h : NetAt M n N) (k : Keep A M M1) (hn : n ∉ A) : NetAt M1 n N := k.get h hn
theorem NetAt.keep0 {M M1 : Mem} {n : Nat} {N : Nt} (h : NetAt M n N) (k : Keep [] M M1) : NetAt M1 n N := k.get0 h
section
variable {M : Mem} {n : Nat} {N : Nt}
theorem nt_prime (h : NetAt M n N) : fldR "Net" "prime" (.ref n) M = some (.int N.p) := by rw [fldR_of h]; rfl
theorem nt_embed (h : NetAt M n N) : fldR "Net" "embed" (.ref n) M = some (mI N.emb) := by rw [fldR_of h]; rfl
theorem nt_shift (h : NetAt M n N) : fldR "Net" "shift" (.ref n) M = some (vI N.sh) := by rw [fldR_of h]; rfl
theorem nt_layers (h : NetAt M n N) : fldR "Net" "layers" (.ref n) M = some (.tup (N.lay.map lyI)) := by rw [fldR_of h]; rfl
theorem nt_out (h : NetAt M n N) : fldR "Net" "out" (.ref n) M = some (mI N.out) := by rw [fldR_of h]; rfl
/-- the vectors are of the width w, small numbers, the prime between -/
structure Nt.Ok (N : Nt) : Prop where
  p0 : 2 ≤ N.p
  p1 : N.p ≤ 97
  prime : N.p ∈ [2, 3, 5, 7, 11, 13, 17, 19, 23, 29, 31, 37, 41, 43, 47, 53, 59, 61, 67, 71, 73, 79, 83, 89, 97]
  w : N.sh.length ≤ 1000
  emb : ∀ v ∈ N.emb, v.length = N.sh.length
  embl : N.emb.length ≤ 1000
  lay : ∀ l ∈ N.lay, l.length = 5 ∧ ∀ m ∈ l, m.length = N.sh.length ∧ ∀ r ∈ m, r.length = N.sh.length ∧ ∀ x ∈ r, small x
  layl : N.lay.length ≤ 1000
  out : ∀ r ∈ N.out, r.length = N.sh.length ∧ ∀ x ∈ r, small x
  outl : N.out.length ≤ 1000
  shs : ∀ x ∈ N.sh, small x
theorem rest_ok (hn : NetAt M n N) (hp : 0 < N.p) {x : Int} {P : D → Mem → Prop} (h : P (.int (x % N.p)) M) : R.W (m_Net_rest [.ref n, .int x] M) P := by
  unfold m_Net_rest b_Net_rest
  array_get_dec
  simp only [nt_prime hn, Option.some.injEq, exists_eq_left', W_mod]
  exact ⟨hp, h⟩
def pls (p : Int) (v w : List Int) : List Int := List.zipWith (fun x y => (x + y) % p) v w
def tms (p : Int) (A : List (List Int)) (v : List Int) : List Int := A.map fun r => dot r v % p
theorem pls_length {p : Int} {v w : List Int} : (pls p v w).length = min v.length w.length := by unfold pls; simp
def unI : D → List Int
  | .tup ds => (intsOf ds).getD []
  | _ => []
theorem intsOf_map : ∀ v : List Int, intsOf (v.map D.int) = some v
  | [] => rfl
  | a :: v => by simp [intsOf, intsOf_map v]
theorem unI_vI (v : List Int) : unI (vI v) = v := by simp [unI, vI, intsOf_map]
def addP (p : Int) : D → D
  | .tup [.int a, .int b] => .int ((a + b) % p)
  | _ => .non
theorem plus_ok (hn : NetAt M n N) (hp : 0 < N.p) {d e : D} {v w : List Int} (hd : IsV [] M d v) (he : IsV [] M e w) (hz : v.length < 16777216) {P : D → Mem → Prop} (h : P (vI (pls N.p v w)) M) : R.W (m_Net_plus [.ref n, d, e] M) P := by
  unfold m_Net_plus b_Net_plus
  array_get_dec
  refine hd.src fun x hx => ?_
  refine he.src fun y hy => ?_
  refine ⟨_, hx.get, _, hy.get, ?_⟩
  have hi : (It3.zip x y (v.map D.int) (w.map D.int)).items = (v.zip w).map fun p => D.tup [.int p.1, .int p.2] := zipD_ints v w
  refine (lc_map (F := addP N.p) (Inv := fun M' => M' = M) (fun M' z => by rw [z]; exact still_zip hx hy Keep.refl) (by rw [hi, List.length_map, List.length_zip]; omega) ?_ rfl).mono ?_
  · rintro q M' hq rfl
    rw [hi] at hq
    obtain ⟨⟨a, b⟩, _, rfl⟩ := List.mem_map.mp hq
    refine ⟨_, rfl, ?_⟩
    array_get_dec
    refine ⟨_, hn, rfl, rest_ok hn hp ⟨rfl, rfl⟩⟩
  · rintro ds M' ⟨rfl, rfl⟩
    refine ⟨_, rfl, ?_⟩
    rw [hi, List.map_map]
    have : pls N.p v w = (v.zip w).map fun q => (q.1 + q.2) % N.p := by
      unfold pls
      rw [List.zip, List.map_zipWith]
    rw [this, vI, List.map_map] at h
    exact h
theorem times_ok (hn : NetAt M n N) (hp : 0 < N.p) {e : D} {A : List (List Int)} {v : List Int} (he : IsV [] M e v) (hm : ∀ r ∈ A, ∀ x ∈ r, small x) (hz : A.length < 16777216) {P : D → Mem → Prop} (h : P (vI (tms N.p A v)) M) : R.W (m_Net_times [.ref n, mI A, e] M) P := by
  unfold m_Net_times b_Net_times mI
  array_get_dec
  refine ⟨_, rfl, ?_⟩
  refine (lc_map (F := fun d => .int (dot (unI d) v % N.p)) (Inv := fun M' => M' = M) (fun M' z => rfl) (by show (A.map vI).length < _; rw [List.length_map]; exact hz) ?_ rfl).mono ?_
  · rintro q M' hq rfl
    obtain ⟨r, hr, rfl⟩ := List.mem_map.mp (show q ∈ A.map vI from hq)
    refine ⟨_, rfl, ?_⟩
    array_get_dec
    refine ⟨_, hn, rfl, ?_⟩
    refine product_sum_ok IsV.tup he (fun x y hx _ => .inl (hm r hr x hx)) ?_
    rw [unI_vI]
    exact rest_ok hn hp ⟨rfl, rfl⟩
  · rintro ds M' ⟨rfl, rfl⟩
    refine ⟨_, rfl, ?_⟩
    show P (.tup ((A.map vI).map _)) _
    rw [List.map_map]
    unfold vI tms at h
    rw [List.map_map] at h
    have e : (fun d => D.int (dot (unI d) v % N.p)) ∘ vI = D.int ∘ fun r => dot r v % N.p := by
      funext r
      show D.int (dot (unI (vI r)) v % N.p) = D.int (dot r v % N.p)
      rw [unI_vI]
    rw [e]
    exact h
end


/-! ### rows -/
abbrev Vec := List Int
abbrev Row := List (Vec × Vec) × Vec
def PairIs (U : List Nat) (M : Mem) (d : D) (p : Vec × Vec) : Prop := ∃ a b, Sq U M d [a, b] ∧ IsV U M a p.1 ∧ IsV U M b p.2
def RowIs (U : List Nat) (M : Mem) (d : D) (r : Row) : Prop := ∃ a b ps, Sq U M d [a, b] ∧ Sq U M a ps ∧ All2 (PairIs U M) ps r.1 ∧ IsV U M b r.2
theorem PairIs.keep {U A : List Nat} {M M1 : Mem} {d : D} {p : Vec × Vec} (h : PairIs U M d p) (k : Keep A M M1) (hA : ∀ i ∈ A, i ∈ U) : PairIs U M1 d p := by
  obtain ⟨a, b, h1, h2, h3⟩ := h
  exact ⟨a, b, h1.keep k hA, h2.keep k hA, h3.keep k hA⟩
theorem RowIs.keep {U A : List Nat} {M M1 : Mem} {d : D} {r : Row} (h : RowIs U M d r) (k : Keep A M M1) (hA : ∀ i ∈ A, i ∈ U) : RowIs U M1 d r := by
  obtain ⟨a, b, ps, h1, h2, h3, h4⟩ := h
  exact ⟨a, b, ps, h1.keep k hA, h2.keep k hA, h3.imp fun _ _ z => z.keep k hA, h4.keep k hA⟩
theorem PairIs.weak {U V : List Nat} {M : Mem} {d : D} {p : Vec × Vec} (h : PairIs U M d p) (k : ∀ i ∈ V, i ∈ U) : PairIs V M d p := by
  obtain ⟨a, b, h1, h2, h3⟩ := h
  exact ⟨a, b, h1.weak k, h2.weak k, h3.weak k⟩
theorem RowIs.weak {U V : List Nat} {M : Mem} {d : D} {r : Row} (h : RowIs U M d r) (k : ∀ i ∈ V, i ∈ U) : RowIs V M d r := by
  obtain ⟨a, b, ps, h1, h2, h3, h4⟩ := h
  exact ⟨a, b, ps, h1.weak k, h2.weak k, h3.imp fun _ _ z => z.weak k, h4.weak k⟩
def pairD (p : Vec × Vec) : D := .tup [vI p.1, vI p.2]
def rowD (r : Row) : D := .tup [.tup (r.1.map pairD), vI r.2]
theorem pairIs_D {U : List Nat} {M : Mem} (p : Vec × Vec) : PairIs U M (pairD p) p := ⟨_, _, .inl rfl, .inl rfl, .inl rfl⟩
theorem rowIs_D {U : List Nat} {M : Mem} (r : Row) : RowIs U M (rowD r) r := ⟨_, _, _, .inl rfl, .inl rfl, All2.of_map (fun p => pairIs_D p) _, .inl rfl⟩

/-! ### what is reckoned -/
def sqv (v : Vec) : Vec := v.map fun y => y * y
def look (p : Int) (q : Vec) (ps : List (Vec × Vec)) : Vec := ps.foldl (fun acc kv => pls p acc (kv.2.map fun y => dot q kv.1 * y)) (q.map fun _ => 0)
abbrev lyr (N : Nt) (i j : Nat) : List Vec := (N.lay.getD i []).getD j []
def prev (rows : List Row) (i : Nat) : List (Vec × Vec) := rows.map fun r => r.1.getD i ([], [])
def xAt (N : Nt) (rows : List Row) (x0 : Vec) : Nat → Vec
  | 0 => x0
  | i + 1 =>
    let x := xAt N rows x0 i
    let y := pls N.p x (look N.p (tms N.p (lyr N i 0) x) (prev rows i ++ [(tms N.p (lyr N i 1) x, tms N.p (lyr N i 2) x)]))
    pls N.p y (tms N.p (lyr N i 4) (sqv (tms N.p (lyr N i 3) y)))
def prAt (N : Nt) (rows : List Row) (x0 : Vec) (i : Nat) : Vec × Vec := (tms N.p (lyr N i 1) (xAt N rows x0 i), tms N.p (lyr N i 2) (xAt N rows x0 i))
def inAt (N : Nt) (rows : List Row) (x0 : Vec) (i : Nat) : Vec := pls N.p (xAt N rows x0 i) (look N.p (tms N.p (lyr N i 0) (xAt N rows x0 i)) (prev rows i ++ [prAt N rows x0 i]))
theorem xAt_succ (N : Nt) (rows : List Row) (x0 : Vec) (i : Nat) : xAt N rows x0 (i + 1) = pls N.p (inAt N rows x0 i) (tms N.p (lyr N i 4) (sqv (tms N.p (lyr N i 3) (inAt N rows x0 i)))) := rfl
def x0Of (N : Nt) (len : Nat) (a : Nat) : Vec := pls N.p (N.emb.getD a []) (N.sh.map fun y => (len : Int) * y)
def wts (N : Nt) (x : Vec) : Vec := N.out.map fun v => 1 + dot v x % N.p
def rowN (N : Nt) (rows : List Row) (a : Nat) : Row := ((List.range N.lay.length).map (prAt N rows (x0Of N rows.length a)), wts N (xAt N rows (x0Of N rows.length a) N.lay.length))

/-! ### sizes -/
theorem small_mod {x p : Int} (h : 0 < p) (h2 : p ≤ 97) : small (x % p) := by
  have h3 := Int.emod_nonneg x (Int.ne_of_gt h)
  have h4 := Int.emod_lt_of_pos x h
  unfold small
  omega
theorem small_pls {p : Int} (h : 0 < p) (h2 : p ≤ 97) {v w : Vec} : ∀ x ∈ pls p v w, small x := by
  intro x hx
  unfold pls at hx
  obtain ⟨i, hi⟩ := List.getElem?_of_mem hx
  rw [List.getElem?_zipWith] at hi
  split at hi
  · cases hi
    exact small_mod h h2
  · cases hi
theorem small_tms {p : Int} (h : 0 < p) (h2 : p ≤ 97) {A : List Vec} {v : Vec} : ∀ x ∈ tms p A v, small x := by
  intro x hx
  obtain ⟨r, _, rfl⟩ := List.mem_map.mp hx
  exact small_mod h h2
theorem tms_length {p : Int} {A : List Vec} {v : Vec} : (tms p A v).length = A.length := by simp [tms]
/-- a row of this net -/
structure RowOk (N : Nt) (r : Row) : Prop where
  len : r.1.length = N.lay.length
  k : ∀ p ∈ r.1, p.1.length = N.sh.length ∧ p.2.length = N.sh.length ∧ (∀ x ∈ p.1, small x) ∧ ∀ x ∈ p.2, small x
def PrOk (N : Nt) (p : Vec × Vec) : Prop := p.1.length = N.sh.length ∧ p.2.length = N.sh.length ∧ (∀ x ∈ p.1, small x) ∧ ∀ x ∈ p.2, small x
section
variable {N : Nt} (ok : N.Ok)
include ok
theorem Nt.Ok.pp : 0 < N.p := by have := ok.p0; omega
theorem Nt.Ok.ly {i : Nat} (hi : i < N.lay.length) : (N.lay.getD i []).length = 5 := by
  rw [List.getD_eq_getElem?_getD, List.getElem?_eq_getElem hi]
  exact (ok.lay _ (List.getElem_mem hi)).1
theorem Nt.Ok.lr {i j : Nat} (hi : i < N.lay.length) (hj : j < 5) : (lyr N i j).length = N.sh.length ∧ ∀ r ∈ lyr N i j, r.length = N.sh.length ∧ ∀ x ∈ r, small x := by
  have h5 := ok.ly hi
  have hm : N.lay.getD i [] ∈ N.lay := by
    rw [List.getD_eq_getElem?_getD, List.getElem?_eq_getElem hi]
    exact List.getElem_mem hi
  have hm2 : lyr N i j ∈ N.lay.getD i [] := by
    unfold lyr
    rw [List.getD_eq_getElem?_getD (l := N.lay.getD i []), List.getElem?_eq_getElem (by omega)]
    exact List.getElem_mem _
  exact (ok.lay _ hm).2 _ hm2
theorem prOk_prAt {rows : List Row} {x0 : Vec} {i : Nat} (hi : i < N.lay.length) : PrOk N (prAt N rows x0 i) :=
  ⟨by rw [prAt, tms_length]; exact (ok.lr hi (by decide)).1, by rw [prAt, tms_length]; exact (ok.lr hi (by decide)).1, small_tms ok.pp ok.p1, small_tms ok.pp ok.p1⟩
theorem rowOk_rowN (rows : List Row) (a : Nat) : RowOk N (rowN N rows a) := by
  refine ⟨by simp [rowN], fun p hp => ?_⟩
  obtain ⟨i, hi, rfl⟩ := List.mem_map.mp hp
  exact prOk_prAt ok (List.mem_range.mp hi)
end

/-! ### looked_at -/
theorem look_ok {M : Mem} {n : Nat} {N : Nt} (hn : NetAt M n N) (hp : 0 < N.p) {d e : D} {q : Vec} {ds : List D} {ps : List (Vec × Vec)} (hd : IsV [] M d q) (he : Sq [] M e ds) (hps : All2 (PairIs [] M) ds ps) (hq : ∀ x ∈ q, small x) (hv : ∀ p ∈ ps, ∀ x ∈ p.2, small x) (hl : q.length ≤ 1000) (hvl : ∀ p ∈ ps, p.2.length ≤ 1000)
    {P : D → Mem → Prop} (h : ∀ M1, Keep [] M M1 → P (vI (look N.p q ps)) M1) : R.W (m_Net_looked_at [.ref n, d, e] M) P := by
  unfold m_Net_looked_at b_Net_looked_at
  array_get_dec
  refine hd.src fun x hx => ?_
  refine ⟨_, hx.get, ?_⟩
  refine (lc_map (F := fun _ => .int 0) (Inv := fun M' => M' = M) (fun M' z => by rw [z]; exact still_seq hx Keep.refl) (by show (q.map D.int).length < _; rw [List.length_map]; omega) ?_ rfl).mono ?_
  · rintro c M' hc rfl
    exact ⟨_, rfl, rfl, rfl⟩
  rintro zs M' ⟨rfl, rfl⟩
  refine ⟨_, rfl, ?_⟩
  refine he.src fun y hy => ?_
  refine ⟨_, hy.get, ?_⟩
  have hz : (List.map (fun _ => D.int 0) (It3.seq x (q.map D.int)).items) = ((q.map fun _ => (0 : Int)).map D.int) := by
    show (q.map D.int).map _ = _
    rw [List.map_map, List.map_map]
    rfl
  rw [hz]
  refine for_go (Inv := fun k s M1 => ∃ a b c, s = [some (.ref n), some d, some e, some (vI ((ps.take k).foldl (fun acc kv => pls N.p acc (kv.2.map fun y => dot q kv.1 * y)) (q.map fun _ => 0))), a, b, c, none, none] ∧ Keep [] M' M1) (fun k s M1 ⟨_, _, _, _, z⟩ => still_seq hy z) ?_ ⟨none, none, none, rfl, Keep.refl⟩ ?_
  · rintro k c s M1 hk ⟨a, b, cc, rfl, kp⟩
    obtain ⟨p, hpk, a', b', h1, h2, h3⟩ := hps.getL (show ds[k]? = some c from hk)
    have hmem := List.mem_of_getElem? hpk
    have hacc : ∀ l : List (Vec × Vec), (l.foldl (fun acc kv => pls N.p acc (kv.2.map fun y => dot q kv.1 * y)) (q.map fun _ => 0)).length ≤ q.length := by
      intro l
      have : ∀ (l : List (Vec × Vec)) (z : Vec), z.length ≤ q.length → (l.foldl (fun acc kv => pls N.p acc (kv.2.map fun y => dot q kv.1 * y)) z).length ≤ q.length := by
        intro l
        induction l with
        | nil => intro z hz; exact hz
        | cons a l ih =>
          intro z hz
          refine ih _ ?_
          rw [pls_length]
          omega
      exact this l _ (by simp)
    refine ⟨_, M1, by rw [(h1.keep0 kp).unpack]; rfl, ?_⟩
    array_get_dec
    refine product_sum_ok (hd.keep0 kp) (h2.keep0 kp) (fun x y hx _ => .inl (hq x hx)) ?_
    refine ⟨_, hn.keep0 kp, rfl, ?_⟩
    refine (h3.keep0 kp).src fun z hz' => ?_
    refine ⟨_, hz'.get, ?_⟩
    refine (lc_map (F := fun y => match y with | .int y => .int (dot q p.1 * y) | _ => .non) (Inv := fun M' => M' = M1) (fun M' w => by rw [w]; exact still_seq hz' Keep.refl) (by show (p.2.map D.int).length < _; rw [List.length_map]; have := hvl p hmem; omega) ?_ rfl).mono ?_
    · rintro w M2 hw rfl
      obtain ⟨i, hi, rfl⟩ := List.mem_map.mp (show w ∈ p.2.map D.int from hw)
      refine ⟨_, rfl, ?_⟩
      array_get_dec
      exact .inr (.inl (hv p hmem i hi))
    · rintro ws M2 ⟨rfl, rfl⟩
      have kp2 : Keep [] M' (M2 ++ [O.lst (List.map (fun y => match y with | .int y => .int (dot q p.1 * y) | _ => .non) (It3.seq z (p.2.map D.int)).items)]) := kp.trans Keep.app
      refine plus_ok (hn.keep0 kp2) hp IsV.tup (w := p.2.map fun y => dot q p.1 * y) (.inr ⟨_, rfl, by simp, ?_⟩) (by have := hacc (ps.take k); omega) ?_
      · rw [new_at]
        show some (O.lst ((p.2.map D.int).map _)) = _
        rw [List.map_map, List.map_map]
        rfl
      · refine ⟨some a', some b', some (.int (dot q p.1)), ?_, kp2⟩
        rw [List.take_succ, hpk]
        simp
  · rintro s M1 ⟨a, b, cc, rfl, kp⟩
    array_get_dec
    have e1 : (It3.seq y ds).items.length = ps.length := hps.length
    rw [e1, List.take_length]
    exact h M1 kp


theorem is_letter_ok {M : Mem} {n : Nat} {N : Nt} (hn : NetAt M n N) {a : Int} {P : D → Mem → Prop} (h : P (.bl (decide (0 ≤ a ∧ a < N.emb.length))) M) : R.W (m_Net_is_letter [.ref n, .int a] M) P := by
  unfold m_Net_is_letter b_Net_is_letter
  array_get_dec
  simp only [nt_embed hn, Option.some.injEq, exists_eq_left']
  unfold mI
  array_get_dec
  refine ⟨_, rfl, is_between_ok ?_⟩
  have e : decide (0 ≤ a ∧ a ≤ ((N.emb.map vI).length : Int) - 1) = decide (0 ≤ a ∧ a < N.emb.length) := by
    rw [List.length_map]
    congr 1
    apply propext
    omega
  rw [e]
  exact h
/-- row[0][i] of a row, as a pair -/
theorem row_ix {M : Mem} {d : D} {r : Row} (h : RowIs [] M d r) {i : Nat} (hi : i < r.1.length) {P : D → Mem → Prop} (k : ∀ d, PairIs [] M d (r.1.getD i ([], [])) → P d M) :
    R.W (opIx d (.int 0) M) fun x M1 => R.W (opIx x (.int (i : Int)) M1) P := by
  obtain ⟨a, b, ps, h1, h2, h3, h4⟩ := h
  refine h1.ix (x := a) (by rfl) ?_
  obtain ⟨p, hp, hpr⟩ := h3.get (i := i) (b := r.1.getD i ([], [])) (by rw [List.getD_eq_getElem?_getD, List.getElem?_eq_getElem hi]; rfl)
  exact h2.ix (x := p) (by rw [ix_nat]; exact hp) (k p hpr)
def layD (N : Nt) (i : Nat) : D := lyI (N.lay.getD i [])
theorem lay_get {N : Nt} {i : Nat} (hi : i < N.lay.length) : (N.lay.map lyI)[i]? = some (lyI (N.lay.getD i [])) := by
  rw [List.getElem?_map, List.getElem?_eq_getElem hi, List.getD_eq_getElem?_getD, List.getElem?_eq_getElem hi]; rfl
theorem five {α : Type} {l : List α} (h : l.length = 5) (d : α) : l = [l.getD 0 d, l.getD 1 d, l.getD 2 d, l.getD 3 d, l.getD 4 d] := by
  match l, h with
  | [a, b, c, e, f], _ => rfl
theorem ly_five {N : Nt} (ok : N.Ok) {i : Nat} (hi : i < N.lay.length) : lyI (N.lay.getD i []) = .tup [mI (lyr N i 0), mI (lyr N i 1), mI (lyr N i 2), mI (lyr N i 3), mI (lyr N i 4)] := by
  unfold lyI
  conv => lhs; rw [five (ok.ly hi) []]
  rfl
/-- squares -/
def sqD : D → D
  | .int y => .int (y * y)
  | _ => .non
theorem sq_map (v : Vec) : (v.map D.int).map sqD = (sqv v).map D.int := by
  unfold sqv; rw [List.map_map, List.map_map]; rfl
section
variable {M : Mem} {n : Nat} {N : Nt} {rows : List Row} {e : D} {ds : List D}
/-- [row[0][i] for row in rows] -/
theorem prev_lc {g : Nat} {el : ME} {s : Sl} {x : Src} (hx : SrcIs M x ds) (hr : All2 (RowIs [] M) ds rows) {i : Nat} (hi : ∀ r ∈ rows, i < r.1.length) (hz : rows.length ≤ 1000)
    (he : ∀ d, R.W (el (s.set g (some d)) M) = R.W ((opIx d (.int 0) M).bind fun x M1 => opIx x (.int (i : Int)) M1)) :
    R.W (lcLoop (.seq x ds) (gN g) mYes el s (It3.seq x ds).items [] M) fun as M1 => All2 (PairIs [] M) as (prev rows i) ∧ M1 = M := by
  refine (lc_ix (Inv := fun k a M' => M' = M ∧ All2 (PairIs [] M) a (prev (rows.take k) i)) (fun k a M' z => by rw [z.1]; exact still_seq hx Keep.refl) (by show ds.length < _; rw [hr.length]; omega) ?_ ⟨rfl, .nil⟩).mono ?_
  · rintro k d a M' hk _ ⟨rfl, ha⟩
    obtain ⟨r, hrk, hrr⟩ := hr.getL (show ds[k]? = some d from hk)
    refine ⟨_, rfl, ?_⟩
    rw [he, W_bind]
    refine row_ix hrr (hi r (List.mem_of_getElem? hrk)) fun q hq => ⟨rfl, ?_⟩
    rw [List.take_succ, hrk]
    unfold prev at ha ⊢
    rw [List.map_append]
    exact ha.append (.one hq)
  · rintro as M' ⟨_, rfl, h⟩
    refine ⟨?_, rfl⟩
    have e1 : (It3.seq x ds).items.length = rows.length := hr.length
    rw [e1, List.take_length] at h
    exact h
end
theorem prev_ok {N : Nt} {rows : List Row} (hR : ∀ r ∈ rows, RowOk N r) {i : Nat} (hi : i < N.lay.length) : ∀ p ∈ prev rows i, PrOk N p := by
  intro p hp
  obtain ⟨r, hr, rfl⟩ := List.mem_map.mp hp
  refine (hR r hr).k _ ?_
  have hl : i < r.1.length := by rw [(hR r hr).len]; exact hi
  rw [List.getD_eq_getElem?_getD, List.getElem?_eq_getElem hl]
  exact List.getElem_mem hl
theorem emb_get {N : Nt} {a : Nat} (ha : a < N.emb.length) : (N.emb.map vI)[a]? = some (vI (N.emb.getD a [])) := by
  rw [List.getElem?_map, List.getElem?_eq_getElem ha, List.getD_eq_getElem?_getD, List.getElem?_eq_getElem ha]; rfl
def mulD (k : Int) : D → D
  | .int y => .int (k * y)
  | _ => .non
theorem mul_map (k : Int) (v : Vec) : (v.map D.int).map (mulD k) = (v.map fun y => k * y).map D.int := by
  rw [List.map_map, List.map_map]; rfl

def wtD (N : Nt) (x : Vec) (d : D) : D := .int (1 + dot (unI d) x % N.p)
theorem wts_map (N : Nt) (x : Vec) : (N.out.map vI).map (wtD N x) = (wts N x).map D.int := by
  unfold wts
  rw [List.map_map, List.map_map]
  refine List.map_congr_left fun v _ => ?_
  show wtD N x (vI v) = _
  unfold wtD
  rw [unI_vI]
  rfl
theorem okLen_of {n : Nat} (h : n ≤ 16777216) : okLen n = true := decide_eq_true h
theorem row_ok {M : Mem} {n : Nat} {N : Nt} (ok : N.Ok) (hn : NetAt M n N) {e : D} {ds : List D} {rows : List Row} (he : Sq [] M e ds) (hr : All2 (RowIs [] M) ds rows) (hR : ∀ r ∈ rows, RowOk N r) (hz : rows.length ≤ 1000) {a : Nat} (ha : a < N.emb.length)
    {P : D → Mem → Prop} (h : ∀ M1, Keep [] M M1 → P (rowD (rowN N rows a)) M1) : R.W (m_Net_row [.ref n, e, .int a] M) P := by
  unfold m_Net_row b_Net_row
  array_get_dec
  refine ⟨_, hn, rfl, is_letter_ok hn ?_⟩
  refine ⟨_, rfl, ?_⟩
  rw [if_neg (by simp; omega)]
  refine ⟨_, hn, rfl, ?_⟩
  refine ⟨_, nt_embed hn, ?_⟩
  unfold mI
  array_get_dec
  refine ⟨_, by rw [ix_nat]; exact emb_get ha, _, nt_shift hn, ?_⟩
  unfold vI
  array_get_dec
  refine ⟨_, rfl, ?_⟩
  refine (lc_map (F := mulD (rows.length : Int)) (Inv := fun M' => M' = M) (fun M' w => rfl) (by show (N.sh.map D.int).length < _; rw [List.length_map]; have := ok.w; omega) ?_ rfl).mono ?_
  · rintro w M2 hw rfl
    obtain ⟨i, hi, rfl⟩ := List.mem_map.mp (show w ∈ N.sh.map D.int from hw)
    refine ⟨_, rfl, ?_⟩
    array_get_dec
    refine he.src fun x hx => ⟨_, hx.get, ?_⟩
    rw [hr.length]
    exact ⟨.inr (.inl (ok.shs i hi)), rfl, rfl⟩
  rintro ws M2 ⟨rfl, rfl⟩
  have hw0 : N.sh.length = (N.emb.getD a []).length := by
    rw [List.getD_eq_getElem?_getD, List.getElem?_eq_getElem ha]
    exact (ok.emb _ (List.getElem_mem ha)).symm
  refine plus_ok (hn.keep0 Keep.app) ok.pp (v := N.emb.getD a []) (w := N.sh.map fun y => (rows.length : Int) * y) (.inl rfl) (.inr ⟨_, rfl, by simp, by rw [new_at, ← mul_map]; rfl⟩) (by have := ok.w; omega) ?_
  refine ⟨rfl, _, nt_layers (hn.keep0 (Keep.app.trans Keep.app)), ?_⟩
  array_get_dec
  refine ⟨_, rfl, ?_⟩
  have kp0 : Keep [] M2 (M2 ++ [O.lst (List.map (mulD (rows.length : Int)) (It3.seq (Src.tup (List.map int N.sh)) (List.map int N.sh)).items)] ++ [O.lst []]) := Keep.app.trans Keep.app
  generalize hM3 : (M2 ++ [O.lst (List.map (mulD (rows.length : Int)) (It3.seq (Src.tup (List.map int N.sh)) (List.map int N.sh)).items)]) = M3 at *
  have hl3 : M2.length ≤ M3.length := by rw [← hM3]; simp
  refine for_go (Inv := fun k s M1 => ∃ o5 o6 o7 o8 o9 o10 o11 o12, s = [some (.ref n), some e, some (.int (a : Int)), some (vI (xAt N rows (x0Of N rows.length a) k)), some (.ref M3.length), o5, o6, o7, o8, o9, o10, o11, o12, none, none, none, none] ∧ Keep [] M2 M1 ∧ M1[M3.length]? = some (.lst (((List.range k).map (prAt N rows (x0Of N rows.length a))).map pairD))) (fun k s M1 ⟨_, _, _, _, _, _, _, _, _, z, _⟩ => rfl) ?_ ⟨none, none, none, none, none, none, none, none, rfl, kp0, new_at⟩ ?_
  · rintro i c s M1 hk ⟨o5, o6, o7, o8, o9, o10, o11, o12, rfl, kp, hj⟩
    have hk' : (enumD 0 (N.lay.map lyI))[i]? = some c := hk
    have hi : i < N.lay.length := by
      have := (List.getElem?_eq_some_iff.mp hk').1
      rw [enumD_length, List.length_map] at this
      exact this
    rw [enumD_at _ _ _ _ (lay_get hi), Nat.zero_add] at hk'
    cases hk'
    rw [ly_five ok hi]
    refine ⟨_, M1, rfl, ?_⟩
    array_get_dec
    have hml : ∀ j, j < 5 → (lyr N i j).length < 16777216 := fun j hj => by rw [(ok.lr hi hj).1]; have := ok.w; omega
    have hms : ∀ j, j < 5 → ∀ r ∈ lyr N i j, ∀ x ∈ r, small x := fun j hj r hr => ((ok.lr hi hj).2 r hr).2
    have hxl : ∀ i, (xAt N rows (x0Of N rows.length a) i).length < 16777216 := fun i => by
      have := ok.w
      have z : (xAt N rows (x0Of N rows.length a) i).length ≤ N.sh.length := by
        induction i with
        | zero => show (pls _ _ _).length ≤ _; rw [pls_length, ← hw0]; omega
        | succ i ih =>
          rw [xAt_succ, pls_length, inAt, pls_length]
          omega
      omega
    refine ⟨_, hn.keep0 kp, rfl, times_ok (hn.keep0 kp) ok.pp IsV.tup (hms 1 (by decide)) (hml 1 (by decide)) ?_⟩
    refine ⟨_, hn.keep0 kp, rfl, times_ok (hn.keep0 kp) ok.pp IsV.tup (hms 2 (by decide)) (hml 2 (by decide)) ?_⟩
    refine ⟨rfl, ?_⟩
    refine (he.keep0 kp).src fun x hx => ⟨_, hx.get, ?_⟩
    have hr1 : All2 (RowIs [] M1) ds rows := hr.imp fun _ _ z => z.keep kp (by simp)
    refine (prev_lc hx hr1 (i := i) (fun r hr => by rw [(hR r hr).len]; exact hi) hz (fun d => rfl)).mono ?_
    rintro as M1' ⟨has, rfl⟩
    have hal : as.length = rows.length := by rw [has.length]; simp [prev]
    refine ⟨rfl, _, rfl, _, rfl, okLen_of (by rw [hal]; show rows.length + 1 ≤ _; omega), ?_⟩
    have kp4 : Keep [] M2 (M1' ++ [O.lst (as ++ [D.tup [vI (tms N.p (lyr N i 1) (xAt N rows (x0Of N rows.length a) i)), vI (tms N.p (lyr N i 2) (xAt N rows (x0Of N rows.length a) i))]])]) := kp.trans Keep.app
    refine ⟨_, hn.keep0 kp4, rfl, _, hn.keep0 kp4, rfl, _, hn.keep0 kp4, rfl, times_ok (hn.keep0 kp4) ok.pp IsV.tup (hms 0 (by decide)) (hml 0 (by decide)) ?_⟩
    have hps : ∀ p ∈ prev rows i ++ [prAt N rows (x0Of N rows.length a) i], PrOk N p := by
      intro p hp
      rcases List.mem_append.mp hp with hp | hp
      · exact prev_ok hR hi p hp
      · rw [List.mem_singleton.mp hp]
        exact prOk_prAt ok hi
    refine look_ok (ps := prev rows i ++ [prAt N rows (x0Of N rows.length a) i]) (hn.keep0 kp4) ok.pp IsV.tup (.inr ⟨_, rfl, by simp, new_at⟩) ((has.imp fun _ _ z => z.keep (Keep.app (A := [])) (by simp)).append (.one (pairIs_D (prAt N rows (x0Of N rows.length a) i)))) (small_tms ok.pp ok.p1) (fun p hp => (hps p hp).2.2.2) (by rw [tms_length, (ok.lr hi (by decide)).1]; exact ok.w) (fun p hp => by rw [(hps p hp).2.1]; exact ok.w) ?_
    intro M5 k5
    have kp5 := kp4.trans k5
    refine plus_ok (hn.keep0 kp5) ok.pp IsV.tup IsV.tup (hxl i) ?_
    refine ⟨_, hn.keep0 kp5, rfl, _, hn.keep0 kp5, rfl, _, hn.keep0 kp5, rfl, times_ok (hn.keep0 kp5) ok.pp IsV.tup (hms 3 (by decide)) (hml 3 (by decide)) ?_⟩
    unfold vI
    array_get_dec
    refine ⟨_, rfl, ?_⟩
    refine (lc_map (F := sqD) (Inv := fun M' => M' = M5) (fun M' w => rfl) (by show (List.map D.int _).length < _; rw [List.length_map, tms_length]; exact hml 3 (by decide)) ?_ rfl).mono ?_
    · rintro w M6 hw rfl
      obtain ⟨y, hy, rfl⟩ := List.mem_map.mp (show w ∈ List.map D.int _ from hw)
      refine ⟨_, rfl, ?_⟩
      array_get_dec
      exact ⟨.inl (small_tms ok.pp ok.p1 y hy), rfl⟩
    rintro ws M6 ⟨rfl, rfl⟩
    have kp6 := kp5.trans (Keep.app (A := []) (X := [O.lst (List.map sqD (It3.seq (Src.tup (List.map int (tms N.p (lyr N i 3) (inAt N rows (x0Of N rows.length a) i)))) (List.map int (tms N.p (lyr N i 3) (inAt N rows (x0Of N rows.length a) i)))).items)]))
    refine times_ok (hn.keep0 kp6) ok.pp (v := sqv (tms N.p (lyr N i 3) (inAt N rows (x0Of N rows.length a) i))) (.inr ⟨_, rfl, by simp, by rw [new_at, ← sq_map]; rfl⟩) (hms 4 (by decide)) (hml 4 (by decide)) ?_
    refine plus_ok (hn.keep0 kp6) ok.pp IsV.tup IsV.tup (by rw [pls_length]; have := hxl i; omega) ?_
    have hlt : M3.length ≠ M1'.length := by
      have := (List.getElem?_eq_some_iff.mp hj).1
      omega
    have kq : Keep [] M1' (M6 ++ [O.lst (List.map sqD (It3.seq (Src.tup (List.map int (tms N.p (lyr N i 3) (inAt N rows (x0Of N rows.length a) i)))) (List.map int (tms N.p (lyr N i 3) (inAt N rows (x0Of N rows.length a) i)))).items)]) := (Keep.app.trans k5).trans Keep.app
    have hj6 := kq.get0 hj
    refine ⟨isLst_of hj6, _, hj6, okLen_of (by simp; have := ok.layl; omega), ?_⟩
    refine ⟨_, _, _, _, _, _, _, _, rfl, kp6.new (Keep.set (A := [M3.length]) (by simp)) (fun j hj' => .inr (by rw [List.mem_singleton.mp hj']; exact hl3)), ?_⟩
    rw [set_at hj6, List.range_succ, List.map_append, List.map_append]
    rfl
  · rintro s M1 ⟨o5, o6, o7, o8, o9, o10, o11, o12, rfl, kp, hj⟩
    array_get_dec
    have hL : (It3.enum (Src.tup (List.map lyI N.lay)) (List.map lyI N.lay)).items.length = N.lay.length := by
      show (enumD 0 _).length = _
      rw [enumD_length, List.length_map]
    rw [hL] at hj ⊢
    refine ⟨_, nt_out (hn.keep0 kp), ?_⟩
    unfold mI
    array_get_dec
    refine ⟨_, rfl, ?_⟩
    refine (lc_map (F := wtD N (xAt N rows (x0Of N rows.length a) N.lay.length)) (Inv := fun M' => M' = M1) (fun M' w => rfl) (by show (List.map vI _).length < _; rw [List.length_map]; have := ok.outl; omega) ?_ rfl).mono ?_
    · rintro w M6 hw rfl
      obtain ⟨v, hv, rfl⟩ := List.mem_map.mp (show w ∈ List.map vI _ from hw)
      refine ⟨_, rfl, ?_⟩
      array_get_dec
      refine ⟨_, hn.keep0 kp, rfl, ?_⟩
      refine product_sum_ok IsV.tup IsV.tup (fun x y hx _ => .inl ((ok.out v hv).2 x hx)) ?_
      refine rest_ok (hn.keep0 kp) ok.pp ?_
      array_get_dec
      unfold wtD
      rw [unI_vI]
    · rintro ws M6 ⟨rfl, rfl⟩
      refine ⟨_, (SrcIs.get (.inr (.inr ⟨_, rfl, Keep.app.get0 hj⟩))), _, (SrcIs.get (.inr (.inr ⟨_, rfl, new_at⟩))), rfl, ?_⟩
      have e2 : List.map (wtD N (xAt N rows (x0Of N rows.length a) N.lay.length)) (It3.seq (Src.tup (List.map vI N.out)) (List.map vI N.out)).items = (rowN N rows a).2.map D.int := wts_map _ _
      rw [e2]
      exact h _ (kp.trans Keep.app)


theorem rng_mem {n : Nat} {q : D} (h : q ∈ rngD 0 n) : ∃ k, k < n ∧ q = .int (k : Int) := by
  unfold rngD at h
  obtain ⟨k, hk, rfl⟩ := List.mem_map.mp h
  exact ⟨k, List.mem_range.mp hk, by simp⟩
theorem rng_at {n i : Nat} {q : D} (h : (rngD 0 n)[i]? = some q) : i < n ∧ q = .int (i : Int) := by
  unfold rngD at h
  rw [List.getElem?_map] at h
  cases e : (List.range n)[i]? with
  | none => rw [e] at h; cases h
  | some k =>
    rw [e] at h
    cases h
    have hi := (List.getElem?_eq_some_iff.mp e).1
    rw [List.length_range] at hi
    rw [List.getElem?_range hi] at e
    cases e
    exact ⟨hi, by simp⟩
theorem rng_len {n : Nat} : (rngD 0 n).length = n := by simp [rngD]
def ixF (f : Nat → Int) : D → D
  | .int k => .int (f k.toNat)
  | _ => .non
theorem rng_map (n : Nat) (f : Nat → Int) : (rngD 0 n).map (ixF f) = ((List.range n).map f).map D.int := by
  unfold rngD
  rw [List.map_map, List.map_map]
  refine List.map_congr_left fun k _ => ?_
  simp [ixF]
theorem zip_range (f : Int → Int → Int) : ∀ (n : Nat) (a b : List Int), a.length = n → b.length = n → (List.range n).map (fun k => f (a.getD k 0) (b.getD k 0)) = List.zipWith f a b
  | 0, [], [], _, _ => rfl
  | n + 1, x :: a, y :: b, ha, hb => by
    rw [List.range_succ_eq_map, List.map_cons, List.map_map, List.zipWith_cons_cons]
    have ih := zip_range f n a b (by simpa using ha) (by simpa using hb)
    rw [← ih]
    rfl
theorem getD_at {v : List Int} {k : Nat} (h : k < v.length) : (v.map D.int)[k]? = some (.int (v.getD k 0)) := by
  rw [List.getElem?_map, List.getElem?_eq_getElem h, List.getD_eq_getElem?_getD, List.getElem?_eq_getElem h]; rfl
theorem getD_mem {v : List Int} {k : Nat} (h : k < v.length) : v.getD k 0 ∈ v := by
  rw [List.getD_eq_getElem?_getD, List.getElem?_eq_getElem h]
  exact List.getElem_mem h
section
variable {M : Mem}
theorem ldot_ok {d e : D} {v w : Vec} (hd : IsV [] M d v) (he : IsV [] M e w) (hl : v.length = w.length) (hs : ∀ x ∈ v, small x) (hz : v.length ≤ 1000) {P : D → Mem → Prop} (h : P (.int (dot v w)) M) : R.W (m__law_dot [d, e] M) P := by
  unfold m__law_dot b__law_dot
  array_get_dec
  refine hd.src fun x hx => ⟨_, hx.get, ?_⟩
  rw [List.length_map]
  refine ⟨by omega, by omega, ?_⟩
  rw [Int.toNat_natCast]
  refine (lc_map (F := ixF fun k => v.getD k 0 * w.getD k 0) (Inv := fun M' => M' = M) (fun M' w => rfl) (by show (rngD 0 _).length < _; rw [rng_len]; omega) ?_ rfl).mono ?_
  · rintro q M6 hq rfl
    obtain ⟨k, hk, rfl⟩ := rng_mem hq
    refine ⟨_, rfl, ?_⟩
    array_get_dec
    refine hd.ix (by rw [ix_nat]; exact getD_at hk) ?_
    refine he.ix (by rw [ix_nat]; exact getD_at (hl ▸ hk)) ?_
    array_get_dec
    refine ⟨.inl (hs _ (getD_mem hk)), ?_⟩
    simp [ixF]
  · rintro ws M6 ⟨rfl, rfl⟩
    refine ⟨rfl, _, rfl, ?_⟩
    rw [show (It3.rng 0 v.length).items = rngD 0 v.length from rfl, rng_map, intsOf_map, zip_range _ _ _ _ rfl hl.symm]
    exact ⟨_, rfl, h⟩
theorem ltimes_ok {p : Int} (hp : 0 < p) {e : D} {A : List Vec} {v : Vec} (he : IsV [] M e v) (hA : ∀ r ∈ A, r.length = v.length ∧ ∀ x ∈ r, small x) (hz : v.length ≤ 1000) (hAl : A.length ≤ 1000) {P : D → Mem → Prop} (h : P (vI (tms p A v)) M) : R.W (m__law_times [mI A, e, .int p] M) P := by
  unfold m__law_times b__law_times mI
  array_get_dec
  refine ⟨_, rfl, ?_⟩
  refine (lc_map (F := fun d => .int (dot (unI d) v % p)) (Inv := fun M' => M' = M) (fun M' z => rfl) (by show (A.map vI).length < _; rw [List.length_map]; omega) ?_ rfl).mono ?_
  · rintro q M' hq rfl
    obtain ⟨r, hr, rfl⟩ := List.mem_map.mp (show q ∈ A.map vI from hq)
    refine ⟨_, rfl, ?_⟩
    array_get_dec
    refine ldot_ok IsV.tup he (hA r hr).1 (hA r hr).2 (by rw [(hA r hr).1]; exact hz) ?_
    array_get_dec
    rw [unI_vI]
    exact ⟨hp, rfl⟩
  · rintro ds M' ⟨rfl, rfl⟩
    refine ⟨_, rfl, ?_⟩
    show P (.tup ((A.map vI).map _)) _
    rw [List.map_map]
    unfold vI tms at h
    rw [List.map_map] at h
    have e : (fun d => D.int (dot (unI d) v % p)) ∘ vI = D.int ∘ fun r => dot r v % p := by
      funext r
      show D.int (dot (unI (vI r)) v % p) = D.int (dot r v % p)
      rw [unI_vI]
    rw [e]
    exact h
end
theorem md (x A q v G p : Int) (h : (x + A) % p = G % p) : (x + (A + q * v) % p) % p = (G + q % p * v) % p := by
  have e : q % p * v % p = q * v % p := by rw [Int.mul_emod (q % p), Int.emod_emod, ← Int.mul_emod]
  rw [Int.add_emod_emod, ← Int.add_assoc, Int.add_emod, h, Int.add_emod G (q % p * v), e]
/-- grown, pair by pair -/
def grow (p : Int) (q : Vec) (g : Vec) (ps : List (Vec × Vec)) : Vec := ps.foldl (fun g kv => List.zipWith (fun x y => x + dot q kv.1 % p * y) g kv.2) g
theorem grow_length {p : Int} {q : Vec} {w : Nat} : ∀ (ps : List (Vec × Vec)) (g : Vec), g.length = w → (∀ kv ∈ ps, kv.2.length = w) → (grow p q g ps).length = w
  | [], g, hg, _ => hg
  | kv :: ps, g, hg, h => by
    refine grow_length ps _ ?_ fun a ha => h a (List.mem_cons_of_mem _ ha)
    rw [List.length_zipWith, hg, h kv List.mem_cons_self]
    omega
theorem grow_look {p : Int} {q x : Vec} {w : Nat} : ∀ (ps : List (Vec × Vec)) (g acc : Vec), (∀ kv ∈ ps, kv.2.length = w) → g.length = w → acc.length = w → x.length = w → pls p x acc = g.map (· % p) →
    pls p x (ps.foldl (fun acc kv => pls p acc (kv.2.map fun y => dot q kv.1 * y)) acc) = (grow p q g ps).map (· % p)
  | [], g, acc, _, _, _, _, h => h
  | kv :: ps, g, acc, hps, hg, ha, hx, h => by
    have hk := hps kv List.mem_cons_self
    refine grow_look ps _ _ (fun a ha => hps a (List.mem_cons_of_mem _ ha)) (by rw [List.length_zipWith, hg, hk]; omega) (by rw [pls_length, List.length_map, ha, hk]; omega) hx ?_
    apply List.ext_getElem?
    intro i
    by_cases hi : i < w
    · have h2 := congrArg (fun l => l[i]?) h
      unfold pls at h2 ⊢
      simp only [List.getElem?_zipWith, List.getElem?_map, List.getElem?_eq_getElem (hx ▸ hi : i < x.length), List.getElem?_eq_getElem (ha ▸ hi : i < acc.length), List.getElem?_eq_getElem (hg ▸ hi : i < g.length), List.getElem?_eq_getElem (hk ▸ hi : i < kv.2.length), Option.map_some, Option.some.injEq] at h2 ⊢
      exact md _ _ _ _ _ _ h2
    · have l1 : (pls p x (pls p acc (List.map (fun y => dot q kv.1 * y) kv.2))).length ≤ i := by rw [pls_length, pls_length, List.length_map, ha, hk, hx]; omega
      have l2 : (List.map (· % p) (List.zipWith (fun x y => x + dot q kv.1 % p * y) g kv.2)).length ≤ i := by rw [List.length_map, List.length_zipWith, hg, hk]; omega
      rw [List.getElem?_eq_none l1, List.getElem?_eq_none l2]
theorem look_grow {p : Int} {q x : Vec} {w : Nat} (ps : List (Vec × Vec)) (hps : ∀ kv ∈ ps, kv.2.length = w) (hx : x.length = w) (hq : q.length = w) : pls p x (look p q ps) = (grow p q x ps).map (· % p) := by
  refine grow_look ps x _ hps hx (by rw [List.length_map, hq]) hx ?_
  apply List.ext_getElem?
  intro i
  unfold pls
  by_cases hi : i < w
  · simp only [List.getElem?_zipWith, List.getElem?_map, List.getElem?_eq_getElem (hx ▸ hi : i < x.length), List.getElem?_eq_getElem (hq ▸ hi : i < q.length), Option.map_some, Option.some.injEq]
    simp
  · rw [List.getElem?_eq_none (by simp; omega), List.getElem?_eq_none (by simp; omega)]


def modelD (N : Nt) : D := .tup [.int N.p, mI N.emb, vI N.sh, .tup (N.lay.map lyI), mI N.out, N.e]
theorem look_length {p : Int} {q : Vec} {w : Nat} (ps : List (Vec × Vec)) (hps : ∀ kv ∈ ps, kv.2.length = w) (hq : q.length = w) : (look p q ps).length = w := by
  have : ∀ (ps : List (Vec × Vec)) (acc : Vec), (∀ kv ∈ ps, kv.2.length = w) → acc.length = w → (ps.foldl (fun acc kv => pls p acc (kv.2.map fun y => dot q kv.1 * y)) acc).length = w := by
    intro ps
    induction ps with
    | nil => intro acc _ h; exact h
    | cons kv ps ih =>
      intro acc h ha
      refine ih _ (fun a z => h a (List.mem_cons_of_mem _ z)) ?_
      rw [pls_length, List.length_map, ha, h kv List.mem_cons_self]
      omega
  exact this ps _ hps (by rw [List.length_map, hq])
section
variable {N : Nt} {rows : List Row} {x0 : Vec} (ok : N.Ok) (hR : ∀ r ∈ rows, RowOk N r)
include ok hR
theorem pairs_ok {i : Nat} (hi : i < N.lay.length) : ∀ p ∈ prev rows i ++ [prAt N rows x0 i], PrOk N p := by
  intro p hp
  rcases List.mem_append.mp hp with hp | hp
  · exact prev_ok hR hi p hp
  · rw [List.mem_singleton.mp hp]
    exact prOk_prAt ok hi
theorem in_length {i : Nat} (hi : i < N.lay.length) (hx : (xAt N rows x0 i).length = N.sh.length) : (inAt N rows x0 i).length = N.sh.length := by
  unfold inAt
  rw [pls_length, hx, look_length _ (fun kv hk => (pairs_ok ok hR hi kv hk).2.1) (by rw [tms_length, (ok.lr hi (by decide)).1])]
  omega
theorem x_length (h0 : x0.length = N.sh.length) : ∀ i, i ≤ N.lay.length → (xAt N rows x0 i).length = N.sh.length
  | 0, _ => h0
  | i + 1, hi => by
    have ih := x_length h0 i (by omega)
    rw [xAt_succ, pls_length, in_length ok hR (by omega) ih, tms_length, (ok.lr (by omega) (by decide)).1]
    omega
end
theorem x0_length {N : Nt} (ok : N.Ok) {a : Nat} (ha : a < N.emb.length) (len : Nat) : (x0Of N len a).length = N.sh.length := by
  unfold x0Of
  rw [pls_length, List.length_map, List.getD_eq_getElem?_getD, List.getElem?_eq_getElem ha]
  have := ok.emb _ (List.getElem_mem ha)
  simp only [Option.getD_some]
  omega
theorem pls_zip {p : Int} {v w : Vec} {k : Int} : pls p v (w.map fun y => k * y) = List.zipWith (fun x y => (x + k * y) % p) v w := by
  unfold pls
  rw [List.zipWith_map_right]
def modD (p : Int) : D → D
  | .int y => .int (y % p)
  | _ => .non
theorem mod_map (p : Int) (v : Vec) : (v.map D.int).map (modD p) = (v.map (· % p)).map D.int := by
  rw [List.map_map, List.map_map]; rfl
def incD : D → D
  | .int y => .int (y + 1)
  | _ => .non
theorem inc_map (N : Nt) (x : Vec) : ((tms N.p N.out x).map D.int).map incD = (wts N x).map D.int := by
  unfold tms wts
  rw [List.map_map, List.map_map, List.map_map]
  refine List.map_congr_left fun v _ => ?_
  show D.int (dot v x % N.p + 1) = D.int (1 + dot v x % N.p)
  rw [Int.add_comm]
theorem lrow_ok {M : Mem} {N : Nt} (ok : N.Ok) {e : D} {ds : List D} {rows : List Row} (he : Sq [] M e ds) (hr : All2 (RowIs [] M) ds rows) (hR : ∀ r ∈ rows, RowOk N r) (hz : rows.length ≤ 1000) {a : Nat} (ha : a < N.emb.length)
    {P : D → Mem → Prop} (h : ∀ M1, Keep [] M M1 → P (rowD (rowN N rows a)) M1) : R.W (m__law_row [modelD N, e, .int a] M) P := by
  have hw0 : (N.emb.getD a []).length = N.sh.length := by
    rw [List.getD_eq_getElem?_getD, List.getElem?_eq_getElem ha]
    exact ok.emb _ (List.getElem_mem ha)
  have hW := ok.w
  unfold m__law_row b__law_row modelD
  array_get_dec
  refine ⟨_, rfl, _, rfl, ?_⟩
  unfold vI
  array_get_dec
  refine ⟨_, rfl, ?_⟩
  rw [List.length_map]
  refine ⟨by omega, by omega, ?_⟩
  rw [Int.toNat_natCast]
  refine (lc_map (F := ixF fun k => ((N.emb.getD a []).getD k 0 + (rows.length : Int) * N.sh.getD k 0) % N.p) (Inv := fun M' => M' = M) (fun M' w => rfl) (by show (rngD 0 _).length < _; rw [rng_len]; omega) ?_ rfl).mono ?_
  · rintro q M6 hq rfl
    obtain ⟨k, hk, rfl⟩ := rng_mem hq
    refine ⟨_, rfl, ?_⟩
    array_get_dec
    refine ⟨_, rfl, ?_⟩
    unfold mI
    array_get_dec
    refine ⟨_, by rw [ix_nat]; exact emb_get ha, ?_⟩
    unfold vI
    array_get_dec
    refine ⟨_, by rw [ix_nat]; exact getD_at (hw0.symm ▸ hk), ?_⟩
    refine he.src fun x hx => ⟨_, hx.get, _, rfl, ?_⟩
    array_get_dec
    refine ⟨_, by rw [ix_nat]; exact getD_at hk, ?_⟩
    array_get_dec
    rw [hr.length]
    refine ⟨.inr (.inl (ok.shs _ (getD_mem hk))), ok.pp, ?_⟩
    simp [ixF]
  rintro ws M2 ⟨rfl, rfl⟩
  rw [show (It3.rng 0 N.sh.length).items = rngD 0 N.sh.length from rfl, rng_map, zip_range (fun x y => (x + (rows.length : Int) * y) % N.p) _ _ _ hw0 rfl, ← pls_zip, show pls N.p (N.emb.getD a []) (List.map (fun y => (rows.length : Int) * y) N.sh) = x0Of N rows.length a from rfl]
  have hx0 := x0_length ok ha rows.length
  generalize hx0e : x0Of N rows.length a = x0 at *
  refine ⟨rfl, _, rfl, ?_⟩
  array_get_dec
  refine ⟨_, rfl, ?_⟩
  rw [List.length_map]
  have hL := ok.layl
  refine ⟨by omega, by omega, ?_⟩
  rw [Int.toNat_natCast]
  have hrow : ∀ M1, Keep [] M2 M1 → P (rowD ((List.range N.lay.length).map (prAt N rows x0), wts N (xAt N rows x0 N.lay.length))) M1 := by
    intro M1 k1
    have := h M1 k1
    rw [rowN, hx0e] at this
    exact this
  clear h
  generalize hMa : M2 ++ [O.lst (List.map D.int x0)] = Ma
  have hla : Ma.length = M2.length + 1 := by rw [← hMa]; simp
  have hka : Keep [] M2 Ma := by rw [← hMa]; exact Keep.app
  have h5a : Ma[M2.length]? = some (.lst (x0.map D.int)) := by rw [← hMa]; exact new_at
  refine for_go (Inv := fun i s M1 => ∃ j5 o7 o8 o9 o10 o11 o12 o13 o14, s = [some (modelD N), some e, some (.int (a : Int)), some (.int N.p), some (.int (N.sh.length : Int)), some (.ref j5), some (.ref Ma.length), o7, o8, o9, o10, o11, o12, o13, o14, none, none, none] ∧ Keep [] M2 M1 ∧ M1[j5]? = some (.lst ((xAt N rows x0 i).map D.int)) ∧ M1[Ma.length]? = some (.lst (((List.range i).map (prAt N rows x0)).map pairD)) ∧ j5 ≠ Ma.length) (fun k s M1 _ => rfl) ?_ ⟨M2.length, none, none, none, none, none, none, none, none, rfl, hka.trans Keep.app, (Keep.app (A := [])).get0 h5a, new_at, by omega⟩ ?_
  · rintro i c s M1 hk ⟨j5, o7, o8, o9, o10, o11, o12, o13, o14, rfl, kp, h5, h6, hne⟩
    obtain ⟨hi, rfl⟩ := rng_at (show (rngD 0 N.lay.length)[i]? = some c from hk)
    refine ⟨_, M1, rfl, ?_⟩
    unfold modelD
    array_get_dec
    refine ⟨_, rfl, ?_⟩
    array_get_dec
    refine ⟨_, by rw [ix_nat]; exact lay_get hi, ?_⟩
    rw [ly_five ok hi]
    array_get_dec
    have hxl := x_length ok hR hx0 i (by omega)
    have hmt : ∀ j, j < 5 → ∀ (M : Mem) (d : D) (v : Vec) (P : D → Mem → Prop), IsV [] M d v → v.length = N.sh.length → P (vI (tms N.p (lyr N i j) v)) M → R.W (m__law_times [mI (lyr N i j), d, .int N.p] M) P := fun j hj M d v P hv hvl hp =>
      ltimes_ok ok.pp hv (fun r hr => ⟨by rw [((ok.lr hi hj).2 r hr).1, hvl], ((ok.lr hi hj).2 r hr).2⟩) (by omega) (by rw [(ok.lr hi hj).1]; exact hW) hp
    refine ⟨_, rfl, hmt 0 (by decide) _ _ _ _ (Sq.ref h5 (by simp)) hxl ?_⟩
    refine ⟨isLst_of h6, _, rfl, hmt 1 (by decide) _ _ _ _ (Sq.ref h5 (by simp)) hxl ?_⟩
    refine ⟨_, rfl, hmt 2 (by decide) _ _ _ _ (Sq.ref h5 (by simp)) hxl ?_⟩
    refine ⟨rfl, _, h6, okLen_of (by simp; omega), ?_⟩
    have k7 : Keep [Ma.length] M1 (M1.set Ma.length (.lst ((((List.range i).map (prAt N rows x0)).map pairD) ++ [D.tup [vI (tms N.p (lyr N i 1) (xAt N rows x0 i)), vI (tms N.p (lyr N i 2) (xAt N rows x0 i))]]))) := Keep.set (by simp)
    have h57 := k7.get h5 (by simpa using hne)
    have h67 := set_at (o := .lst ((((List.range i).map (prAt N rows x0)).map pairD) ++ [D.tup [vI (tms N.p (lyr N i 1) (xAt N rows x0 i)), vI (tms N.p (lyr N i 2) (xAt N rows x0 i))]])) h6
    have kp7 := kp.new k7 (fun j hj' => .inr (by rw [List.mem_singleton.mp hj']; omega))
    generalize M1.set Ma.length (.lst ((((List.range i).map (prAt N rows x0)).map pairD) ++ [D.tup [vI (tms N.p (lyr N i 1) (xAt N rows x0 i)), vI (tms N.p (lyr N i 2) (xAt N rows x0 i))]])) = M7 at *
    refine ⟨_, (SrcIs.get (.inr (.inr ⟨_, rfl, h57⟩))), ?_⟩
    have k8 : Keep [] M7 (M7 ++ [O.lst (List.map D.int (xAt N rows x0 i))]) := Keep.app
    have h10 := new_at (M := M7) (o := O.lst (List.map D.int (xAt N rows x0 i)))
    have h68 := k8.get0 h67
    have kp8 := kp7.trans k8
    generalize (M7 ++ [O.lst (List.map D.int (xAt N rows x0 i))]) = M8 at *
    refine (he.keep0 kp8).src fun x hx => ⟨_, hx.get, ?_⟩
    have hr1 : All2 (RowIs [] M8) ds rows := hr.imp fun _ _ z => z.keep kp8 (by simp)
    refine (prev_lc hx hr1 (i := i) (fun r hr => by rw [(hR r hr).len]; exact hi) hz (fun d => rfl)).mono ?_
    rintro as M1' ⟨has, rfl⟩
    have hal : as.length = rows.length := by rw [has.length]; simp [prev]
    refine Sq.ix (U := []) (Sq.ref h68 (by simp)) (x := pairD (prAt N rows x0 i)) (by rw [ix_nat, List.getElem?_append_right (by simp)]; simp; rfl) ?_
    refine ⟨rfl, _, rfl, _, rfl, okLen_of (by rw [hal]; show rows.length + 1 ≤ _; omega), _, rfl, ?_⟩
    have hps := pairs_ok (x0 := x0) ok hR hi
    have hall : All2 (PairIs [] M1') (as ++ [pairD (prAt N rows x0 i)]) (prev rows i ++ [prAt N rows x0 i]) := has.append (.one (pairIs_D _))
    have hql : (tms N.p (lyr N i 0) (xAt N rows x0 i)).length = N.sh.length := by rw [tms_length, (ok.lr hi (by decide)).1]
    have hqs : ∀ z ∈ tms N.p (lyr N i 0) (xAt N rows x0 i), small z := small_tms ok.pp ok.p1
    have hin : (grow N.p (tms N.p (lyr N i 0) (xAt N rows x0 i)) (xAt N rows x0 i) (prev rows i ++ [prAt N rows x0 i])).map (· % N.p) = inAt N rows x0 i := (look_grow _ (fun kv hk => (hps kv hk).2.1) hxl hql).symm
    generalize hQ : tms N.p (lyr N i 0) (xAt N rows x0 i) = Q at *
    generalize hPS : prev rows i ++ [prAt N rows x0 i] = PS at *
    refine for_go (Inv := fun k s M2 => ∃ j10 o11 o12, s = [some (modelD N), some e, some (.int (a : Int)), some (.int N.p), some (.int (N.sh.length : Int)), some (.ref j5), some (.ref Ma.length), some (.int (i : Int)), some (D.tup [mI (lyr N i 0), mI (lyr N i 1), mI (lyr N i 2), mI (lyr N i 3), mI (lyr N i 4)]), some (vI Q), some (.ref j10), o11, o12, o13, o14, none, none, none] ∧ Keep [] M1' M2 ∧ M2[j10]? = some (.lst ((grow N.p Q (xAt N rows x0 i) (PS.take k)).map D.int))) (fun k s M1 _ => rfl) ?_ ⟨M7.length, o11, o12, rfl, Keep.refl, h10⟩ ?_
    · rintro k c s M2' hk ⟨j10, o11, o12, rfl, k2, h10⟩
      obtain ⟨p, hpk, pa, pb, hp1, hp2, hp3⟩ := hall.getL (show (as ++ [pairD (prAt N rows x0 i)])[k]? = some c from hk)
      have hpo := hps p (List.mem_of_getElem? hpk)
      have hgl : (grow N.p Q (xAt N rows x0 i) (PS.take k)).length = N.sh.length := grow_length _ _ hxl fun kv hkv => (hps kv (List.mem_of_mem_take hkv)).2.1
      refine ⟨_, M2', rfl, ?_⟩
      array_get_dec
      refine (hp1.keep0 k2).ix (x := pa) (by rfl) ?_
      refine ldot_ok IsV.tup (hp2.keep0 k2) (by rw [hql, hpo.1]) hqs (by omega) ?_
      array_get_dec
      refine ⟨ok.pp, ?_⟩
      refine ⟨by omega, by omega, ?_⟩
      rw [Int.toNat_natCast]
      refine (lc_map (F := ixF fun t => (grow N.p Q (xAt N rows x0 i) (PS.take k)).getD t 0 + dot Q p.1 % N.p * p.2.getD t 0) (Inv := fun M' => M' = M2') (fun M' w => rfl) (by show (rngD 0 _).length < _; rw [rng_len]; omega) ?_ rfl).mono ?_
      · rintro z M6 hz' rfl
        obtain ⟨t, ht, rfl⟩ := rng_mem hz'
        refine ⟨_, rfl, ?_⟩
        array_get_dec
        refine Sq.ix (U := []) (Sq.ref h10 (by simp)) (by rw [ix_nat]; exact getD_at (hgl.symm ▸ ht)) ?_
        refine (hp1.keep0 k2).ix (x := pb) (by rfl) ?_
        refine (hp3.keep0 k2).ix (by rw [ix_nat]; exact getD_at (hpo.2.1.symm ▸ ht)) ?_
        array_get_dec
        refine ⟨.inl (small_mod ok.pp ok.p1), ?_⟩
        simp [ixF]
      · rintro zs M6 ⟨rfl, rfl⟩
        refine ⟨M6.length, some c, some (.int (dot Q p.1 % N.p)), rfl, k2.trans Keep.app, ?_⟩
        rw [new_at, show (It3.rng 0 N.sh.length).items = rngD 0 N.sh.length from rfl, rng_map, zip_range (fun x y => x + dot Q p.1 % N.p * y) _ _ _ hgl hpo.2.1, List.take_succ, hpk]
        unfold grow
        rw [Option.toList_some, List.foldl_append]
        rfl
    · rintro s M2' ⟨j10, o11, o12, rfl, k2, h10⟩
      have eL : (It3.seq (Src.tmp (as ++ [pairD (prAt N rows x0 i)])) (as ++ [pairD (prAt N rows x0 i)])).items.length = PS.length := hall.length
      rw [eL, List.take_length] at h10
      array_get_dec
      refine ⟨_, SrcIs.get (.inr (.inr ⟨_, rfl, h10⟩)), ?_⟩
      refine (lc_map (F := modD N.p) (Inv := fun M' => M' = M2') (fun M' w => by rw [w]; exact SrcIs.still (.inr (.inr ⟨_, rfl, h10⟩))) (by show (List.map D.int _).length < _; rw [List.length_map, grow_length _ _ hxl fun kv hkv => (hps kv hkv).2.1]; omega) ?_ rfl).mono ?_
      · rintro z M6 hz' rfl
        obtain ⟨y, hy, rfl⟩ := List.mem_map.mp (show z ∈ List.map D.int _ from hz')
        refine ⟨_, rfl, ?_⟩
        array_get_dec
        exact ⟨ok.pp, rfl⟩
      rintro zs M6 ⟨rfl, rfl⟩
      have eZ : List.map (modD N.p) (It3.seq (Src.lst j10) (List.map D.int (grow N.p Q (xAt N rows x0 i) PS))).items = (inAt N rows x0 i).map D.int := by
        rw [← hin]
        exact mod_map _ _
      rw [eZ]
      have hil := in_length ok hR hi hxl
      have k9 : Keep [] M1' (M6 ++ [O.lst (List.map D.int (inAt N rows x0 i))]) := k2.trans Keep.app
      have h5n := new_at (M := M6) (o := O.lst (List.map D.int (inAt N rows x0 i)))
      have hlen6 : (M6 ++ [O.lst (List.map D.int (inAt N rows x0 i))]).length = M6.length + 1 := by simp
      generalize (M6 ++ [O.lst (List.map D.int (inAt N rows x0 i))]) = M9 at *
      unfold modelD
      refine ⟨_, rfl, hmt 3 (by decide) _ _ _ _ (Sq.ref h5n (by simp)) hil ?_⟩
      refine ⟨_, rfl, ?_⟩
      unfold vI
      array_get_dec
      refine ⟨_, rfl, ?_⟩
      refine (lc_map (F := sqD) (Inv := fun M' => M' = M9) (fun M' w => rfl) (by show (List.map D.int _).length < _; rw [List.length_map, tms_length, (ok.lr hi (by decide)).1]; omega) ?_ rfl).mono ?_
      · rintro z M10 hz' rfl
        obtain ⟨y, hy, rfl⟩ := List.mem_map.mp (show z ∈ List.map D.int _ from hz')
        refine ⟨_, rfl, ?_⟩
        array_get_dec
        exact ⟨.inl (small_tms ok.pp ok.p1 y hy), rfl⟩
      rintro zs M10 ⟨rfl, rfl⟩
      rw [show (It3.seq (Src.tup (List.map int (tms N.p (lyr N i 3) (inAt N rows x0 i)))) (List.map int (tms N.p (lyr N i 3) (inAt N rows x0 i)))).items = List.map int (tms N.p (lyr N i 3) (inAt N rows x0 i)) from rfl, sq_map]
      refine hmt 4 (by decide) _ _ (sqv (tms N.p (lyr N i 3) (inAt N rows x0 i))) _ (Sq.ref new_at (by simp)) (by unfold sqv; rw [List.length_map, tms_length, (ok.lr hi (by decide)).1]) ?_
      refine ⟨by omega, by omega, ?_⟩
      rw [Int.toNat_natCast]
      have h5m := (Keep.app (A := []) (X := [O.lst ((sqv (tms N.p (lyr N i 3) (inAt N rows x0 i))).map D.int)])).get0 h5n
      have k10 := k9.trans (Keep.app (A := []) (X := [O.lst ((sqv (tms N.p (lyr N i 3) (inAt N rows x0 i))).map D.int)]))
      generalize (M10 ++ [O.lst ((sqv (tms N.p (lyr N i 3) (inAt N rows x0 i))).map D.int)]) = M11 at *
      have h4l : (tms N.p (lyr N i 4) (sqv (tms N.p (lyr N i 3) (inAt N rows x0 i)))).length = N.sh.length := by rw [tms_length, (ok.lr hi (by decide)).1]
      refine (lc_map (F := ixF fun t => ((inAt N rows x0 i).getD t 0 + (tms N.p (lyr N i 4) (sqv (tms N.p (lyr N i 3) (inAt N rows x0 i)))).getD t 0) % N.p) (Inv := fun M' => M' = M11) (fun M' w => rfl) (by show (rngD 0 _).length < _; rw [rng_len]; omega) ?_ rfl).mono ?_
      · rintro z M12 hz' rfl
        obtain ⟨t, ht, rfl⟩ := rng_mem hz'
        refine ⟨_, rfl, ?_⟩
        array_get_dec
        refine Sq.ix (U := []) (Sq.ref h5m (by simp)) (by rw [ix_nat]; exact getD_at (hil.symm ▸ ht)) ?_
        refine Sq.ix (U := []) (IsV.tup) (by rw [ix_nat]; exact getD_at (h4l.symm ▸ ht)) ?_
        array_get_dec
        refine ⟨ok.pp, ?_⟩
        simp [ixF]
      · rintro zs M12 ⟨rfl, rfl⟩
        have kq : Keep [] M1' (M12 ++ [O.lst (List.map (ixF fun t => ((inAt N rows x0 i).getD t 0 + (tms N.p (lyr N i 4) (sqv (tms N.p (lyr N i 3) (inAt N rows x0 i)))).getD t 0) % N.p) (It3.rng 0 N.sh.length).items)]) := k10.trans Keep.app
        refine ⟨M12.length, _, _, _, _, _, _, _, _, rfl, kp8.trans kq, ?_, ?_, ?_⟩
        · rw [new_at, show (It3.rng 0 N.sh.length).items = rngD 0 N.sh.length from rfl, rng_map, zip_range (fun x y => (x + y) % N.p) _ _ _ hil h4l]
          rfl
        · have := kq.get0 h68
          rw [this, List.range_succ, List.map_append, List.map_append]
          rfl
        · have := k10.len
          have := (List.getElem?_eq_some_iff.mp h68).1
          omega
  · rintro s M1 ⟨j5, o7, o8, o9, o10, o11, o12, o13, o14, rfl, kp, h5, h6, hne⟩
    rw [show (It3.rng 0 N.lay.length).items = rngD 0 N.lay.length from rfl, rng_len] at h5 h6
    unfold modelD
    array_get_dec
    have hxl := x_length ok hR hx0 N.lay.length (Nat.le_refl _)
    refine ⟨_, SrcIs.get (.inr (.inr ⟨_, rfl, h6⟩)), _, rfl, ltimes_ok ok.pp (Sq.ref h5 (by simp)) (fun r hr => ⟨by rw [(ok.out r hr).1, hxl], (ok.out r hr).2⟩) (by omega) ok.outl ?_⟩
    unfold vI
    array_get_dec
    refine ⟨_, rfl, ?_⟩
    refine (lc_map (F := incD) (Inv := fun M' => M' = M1) (fun M' w => rfl) (by show (List.map D.int _).length < _; rw [List.length_map, tms_length]; have := ok.outl; omega) ?_ rfl).mono ?_
    · rintro z M12 hz' rfl
      obtain ⟨y, hy, rfl⟩ := List.mem_map.mp (show z ∈ List.map D.int _ from hz')
      refine ⟨_, rfl, ?_⟩
      array_get_dec
      rfl
    · rintro zs M12 ⟨rfl, rfl⟩
      refine ⟨_, rfl, rfl, ?_⟩
      have e3 : List.map incD (It3.seq (Src.tup (List.map int (tms N.p N.out (xAt N rows x0 N.lay.length)))) (List.map int (tms N.p N.out (xAt N rows x0 N.lay.length)))).items = (wts N (xAt N rows x0 N.lay.length)).map D.int := inc_map _ _
      rw [e3]
      exact hrow _ kp


/-! ### rows of a text -/
def rowsN (N : Nt) (ls : List Nat) : List Row := ls.foldl (fun rows a => rows ++ [rowN N rows a]) []
theorem rowsN_succ (N : Nt) (ls : List Nat) (a : Nat) : rowsN N (ls ++ [a]) = rowsN N ls ++ [rowN N (rowsN N ls) a] := by
  unfold rowsN; rw [List.foldl_append]; rfl
theorem rowsN_length (N : Nt) (ls : List Nat) : (rowsN N ls).length = ls.length := by
  have : ∀ (ls : List Nat) (acc : List Row), (ls.foldl (fun rows a => rows ++ [rowN N rows a]) acc).length = acc.length + ls.length := by
    intro ls
    induction ls with
    | nil => intro acc; rfl
    | cons a ls ih =>
      intro acc
      rw [List.foldl_cons, ih, List.length_append, List.length_singleton, List.length_cons]
      omega
  have h := this ls []
  simpa [rowsN] using h
theorem rowsN_ok {N : Nt} (ok : N.Ok) (ls : List Nat) : ∀ r ∈ rowsN N ls, RowOk N r := by
  have : ∀ (ls : List Nat) (acc : List Row), (∀ r ∈ acc, RowOk N r) → ∀ r ∈ ls.foldl (fun rows a => rows ++ [rowN N rows a]) acc, RowOk N r := by
    intro ls
    induction ls with
    | nil => intro acc h; exact h
    | cons a ls ih =>
      intro acc h
      refine ih _ fun r hr => ?_
      rcases List.mem_append.mp hr with hr | hr
      · exact h r hr
      · rw [List.mem_singleton.mp hr]
        exact rowOk_rowN ok _ _
  exact this ls [] (by simp)
abbrev LsI (ls : List Nat) : List Int := ls.map fun (k : Nat) => (k : Int)
theorem take_succ' {α : Type} {l : List α} {i : Nat} {a : α} (h : l[i]? = some a) : l.take (i + 1) = l.take i ++ [a] := by
  rw [List.take_succ, h]; rfl
theorem Sq.srcAt {U : List Nat} {M M' : Mem} {d : D} {ds : List D} (h : Sq U M d ds) {P : Src → Mem → Prop} (k : ∀ x, SrcIs M x ds → P x M') : R.W (srcOf d M') P := by
  rcases h with rfl | ⟨j, rfl, _, e⟩
  · exact k _ (.inl rfl)
  · exact k _ (.inr (.inr ⟨j, rfl, e⟩))
/-- [.. for letter in letters]: the turns of rows_of, _law_rows -/
theorem rows_turn {N : Nt} (ok : N.Ok) {ls : List Nat} {i a : Nat} (ha : ls[i]? = some a) : (rowsN N (ls.take (i + 1))).map rowD = (rowsN N (ls.take i)).map rowD ++ [rowD (rowN N (rowsN N (ls.take i)) a)] := by
  rw [take_succ' ha, rowsN_succ, List.map_append]; rfl
theorem lrows_ok {M : Mem} {N : Nt} (ok : N.Ok) {e : D} {ls : List Nat} (he : IsV [] M e (LsI ls)) (hls : ∀ a ∈ ls, a < N.emb.length) (hz : ls.length ≤ 1000)
    {P : D → Mem → Prop} (h : ∀ j M1, Keep [] M M1 → M.length ≤ j → M1[j]? = some (.lst ((rowsN N ls).map rowD)) → P (.ref j) M1) : R.W (m__law_rows [modelD N, e] M) P := by
  unfold m__law_rows b__law_rows
  array_get_dec
  refine ⟨rfl, ?_⟩
  refine Sq.srcAt he fun x hx => ⟨_, (hx.keep Keep.app).get, ?_⟩
  refine for_go (Inv := fun k s M1 => ∃ o3, s = [some (modelD N), some e, some (.ref M.length), o3] ∧ Keep [] M M1 ∧ M1[M.length]? = some (.lst ((rowsN N (ls.take k)).map rowD))) (fun k s M1 ⟨_, _, k1, h1⟩ => still_seq hx k1) ?_ ⟨none, rfl, Keep.app, new_at⟩ ?_
  · rintro k c s M1 hk ⟨o3, rfl, k1, h1⟩
    have hk' : (List.map D.int (LsI ls))[k]? = some c := hk
    rw [List.map_map, List.getElem?_map] at hk'
    cases hl : ls[k]? with
    | none => rw [hl] at hk'; cases hk'
    | some a =>
      rw [hl] at hk'
      cases hk'
      have hkl := (List.getElem?_eq_some_iff.mp hl).1
      refine ⟨_, M1, rfl, ?_⟩
      array_get_dec
      refine ⟨isLst_of h1, ?_⟩
      refine lrow_ok ok (Sq.ref h1 (by simp)) (All2.of_map (fun r => rowIs_D r) _) (rowsN_ok ok _) (by rw [rowsN_length, List.length_take]; omega) (hls a (List.mem_of_getElem? hl)) fun M2 k2 => ?_
      refine ⟨_, k2.get0 h1, okLen_of (by rw [List.length_map, rowsN_length, List.length_take]; omega), _, rfl, (k1.trans k2).new (Keep.set (A := [M.length]) (by simp)) (fun j hj => .inr (by rw [List.mem_singleton.mp hj]; omega)), ?_⟩
      rw [set_at (k2.get0 h1), rows_turn ok hl]
  · rintro s M1 ⟨o3, rfl, k1, h1⟩
    array_get_dec
    have hL : (It3.seq x (List.map D.int (LsI ls))).items.length = ls.length := by show (List.map D.int (LsI ls)).length = _; simp
    rw [hL, List.take_length] at h1
    exact h _ M1 k1 (Nat.le_refl _) h1
theorem rows_of_ok {M : Mem} {n : Nat} {N : Nt} (ok : N.Ok) (hn : NetAt M n N) {e : D} {ls : List Nat} (he : IsV [] M e (LsI ls)) (hls : ∀ a ∈ ls, a < N.emb.length) (hz : ls.length ≤ 1000)
    {P : D → Mem → Prop} (h : ∀ M1, Keep [] M M1 → P (.tup ((rowsN N ls).map rowD)) M1) : R.W (m_rows_of [.ref n, e] M) P := by
  unfold m_rows_of b_rows_of
  array_get_dec
  refine ⟨rfl, ?_⟩
  refine Sq.srcAt he fun x hx => ⟨_, (hx.keep Keep.app).get, ?_⟩
  refine for_go (Inv := fun k s M1 => ∃ o3, s = [some (.ref n), some e, some (.ref M.length), o3] ∧ Keep [] M M1 ∧ M1[M.length]? = some (.lst ((rowsN N (ls.take k)).map rowD))) (fun k s M1 ⟨_, _, k1, h1⟩ => still_seq hx k1) ?_ ⟨none, rfl, Keep.app, new_at⟩ ?_
  · rintro k c s M1 hk ⟨o3, rfl, k1, h1⟩
    have hk' : (List.map D.int (LsI ls))[k]? = some c := hk
    rw [List.map_map, List.getElem?_map] at hk'
    cases hl : ls[k]? with
    | none => rw [hl] at hk'; cases hk'
    | some a =>
      rw [hl] at hk'
      cases hk'
      have hkl := (List.getElem?_eq_some_iff.mp hl).1
      refine ⟨_, M1, rfl, ?_⟩
      array_get_dec
      refine ⟨isLst_of h1, _, hn.keep0 k1, rfl, ?_⟩
      refine row_ok ok (hn.keep0 k1) (Sq.ref h1 (by simp)) (All2.of_map (fun r => rowIs_D r) _) (rowsN_ok ok _) (by rw [rowsN_length, List.length_take]; omega) (hls a (List.mem_of_getElem? hl)) fun M2 k2 => ?_
      refine ⟨_, k2.get0 h1, okLen_of (by rw [List.length_map, rowsN_length, List.length_take]; omega), _, rfl, (k1.trans k2).new (Keep.set (A := [M.length]) (by simp)) (fun j hj => .inr (by rw [List.mem_singleton.mp hj]; omega)), ?_⟩
      rw [set_at (k2.get0 h1), rows_turn ok hl]
  · rintro s M1 ⟨o3, rfl, k1, h1⟩
    array_get_dec
    have hL : (It3.seq x (List.map D.int (LsI ls))).items.length = ls.length := by show (List.map D.int (LsI ls)).length = _; simp
    rw [hL, List.take_length] at h1
    exact ⟨_, SrcIs.get (.inr (.inr ⟨_, rfl, h1⟩)), h M1 k1⟩

/-! ### the same -/
def plainB : Nat → D → Bool
  | 0, _ => false
  | _ + 1, .non => true
  | _ + 1, .bl _ => true
  | _ + 1, .int _ => true
  | n + 1, .tup ds => decide (ds.length ≤ 1000000) && ds.all (plainB n)
  | _ + 1, _ => false
theorem eq_int {i j : Int} {M : Mem} {P : D → Mem → Prop} : R.W (opEq (.int i) (.int j) M) P ↔ P (.bl (decide (i = j))) M := by
  unfold opEq pyD
  dsimp only
  rw [if_pos ⟨by rfl, by rfl⟩]
  have : PySem.PyData.eqv (.int i) (.int j) = decide (i = j) := by
    unfold PySem.PyData.eqv
    by_cases h : i = j <;> simp [h]
  rw [this]
  exact Iff.rfl
theorem ne_int {i j : Int} {M : Mem} {P : D → Mem → Prop} : R.W (opNe (.int i) (.int j) M) P ↔ P (.bl (!decide (i = j))) M := by
  unfold opNe pyD
  dsimp only
  rw [if_pos ⟨by rfl, by rfl⟩]
  have : PySem.PyData.eqv (.int i) (.int j) = decide (i = j) := by
    unfold PySem.PyData.eqv
    by_cases h : i = j <;> simp [h]
  rw [this]
  exact Iff.rfl
theorem eq_bl {i j : Bool} {M : Mem} {P : D → Mem → Prop} : R.W (opEq (.bl i) (.bl j) M) P ↔ P (.bl (i == j)) M := by
  unfold opEq pyD
  dsimp only
  rw [if_pos ⟨by rfl, by rfl⟩]
  have : PySem.PyData.eqv (.bool i) (.bool j) = (i == j) := by
    unfold PySem.PyData.eqv
    rfl
  rw [this]
  exact Iff.rfl
theorem isi8 : isiT "NoneType" "bool" = false := rfl
theorem same_ok {M : Mem} {P : D → Mem → Prop} : ∀ (n : Nat) (d : D), plainB n d = true → P (.bl true) M → R.W (m__law_same n [d, d] M) P
  | 0, _, h, _ => by cases h
  | n + 1, .non, _, k => by
    rw [m__law_same_s]
    array_get_dec
    simpa using k
  | n + 1, .bl b, _, k => by
    rw [m__law_same_s]
    array_get_dec
    simp only [eq_bl]
    simpa using k
  | n + 1, .int i, _, k => by
    rw [m__law_same_s]
    array_get_dec
    simp only [eq_int]
    simpa using k
  | n + 1, .tup ds, h, k => by
    obtain ⟨h1, h2⟩ := Bool.and_eq_true_iff.mp (show (decide (ds.length ≤ 1000000) && ds.all (plainB n)) = true from h)
    have h1' := of_decide_eq_true h1
    rw [m__law_same_s]
    array_get_dec
    refine ⟨_, rfl, _, rfl, ?_⟩
    rw [ne_int]
    refine ⟨_, rfl, ?_⟩
    rw [if_neg (by simp)]
    refine ⟨_, rfl, by omega, by omega, ?_⟩
    rw [Int.toNat_natCast]
    refine for_go (Inv := fun k s M1 => ∃ o2, s = [some (.tup ds), some (.tup ds), o2] ∧ M1 = M) (fun k s M1 _ => rfl) ?_ ⟨none, rfl, rfl⟩ ?_
    · rintro i c s M1 hk ⟨o2, rfl, rfl⟩
      obtain ⟨hi, rfl⟩ := rng_at (show (rngD 0 ds.length)[i]? = some c from hk)
      refine ⟨_, M1, rfl, ?_⟩
      array_get_dec
      refine ⟨_, by rw [ix_nat]; exact List.getElem?_eq_getElem hi, _, by rw [ix_nat]; exact List.getElem?_eq_getElem hi, ?_⟩
      refine same_ok n _ (List.all_eq_true.mp h2 _ (List.getElem_mem hi)) ?_
      refine ⟨_, rfl, ?_⟩
      simp
    · rintro s M1 ⟨o2, rfl, rfl⟩
      exact k
  | n + 1, .str _, h, _ => by cases h
  | n + 1, .ref _, h, _ => by cases h
theorem plain_vI {n : Nat} (v : Vec) (h : v.length ≤ 1000000) : plainB (n + 2) (vI v) = true := by
  show (decide ((v.map D.int).length ≤ 1000000) && (v.map D.int).all (plainB (n + 1))) = true
  rw [List.length_map, decide_eq_true h, Bool.true_and, List.all_map, List.all_eq_true]
  intro x _
  rfl


/-! ### what is drawn -/
def PoolAt (M : Mem) (p c : Nat) : Prop := p ≠ c ∧ ∃ (cells : List Int) (i r n m : Int), M[p]? = some (.lst [.ref c, .int i, .int r, .int n, .int m]) ∧ M[c]? = some (.lst (cells.map D.int)) ∧ 0 ≤ i
theorem PoolAt.keep {A : List Nat} {M M1 : Mem} {p c : Nat} (h : PoolAt M p c) (k : Keep A M M1) (hp : p ∉ A) (hc : c ∉ A) : PoolAt M1 p c := by
  obtain ⟨n, cells, i, r, n', m, h1, h2, h3⟩ := h
  exact ⟨n, cells, i, r, n', m, k.get h1 hp, k.get h2 hc, h3⟩
theorem PoolAt.keep0 {M M1 : Mem} {p c : Nat} (h : PoolAt M p c) (k : Keep [] M M1) : PoolAt M1 p c := h.keep k (by simp) (by simp)
theorem set_lst {j : Nat} {ds : List D} {i : Int} {n : Nat} {M : Mem} {d : D} (h : M[j]? = some (.lst ds)) (hi : L2.ixN ds.length i = some n) : setIx (.ref j) (.int i) d M = some (M.set j (.lst (ds.set n d))) := by
  unfold setIx; simp [h, hi]
theorem len_set {M : Mem} {j : Nat} {o : O} : (M.set j o).length = M.length := List.length_set
abbrev pl (c : Nat) (i r n m : Int) : O := .lst [.ref c, .int i, .int r, .int n, .int m]
section
variable {M : Mem} {p c : Nat} {i r n m : Int} {P : D → Mem → Prop} (h : M[p]? = some (pl c i r n m))
include h
theorem px0 : R.W (opIx (.ref p) (.int 0) M) P ↔ P (.ref c) M := by rw [W_ixL h]; simp [L2.atI, L2.ixN]
theorem px1 : R.W (opIx (.ref p) (.int 1) M) P ↔ P (.int i) M := by rw [W_ixL h]; simp [L2.atI, L2.ixN]
theorem px2 : R.W (opIx (.ref p) (.int 2) M) P ↔ P (.int r) M := by rw [W_ixL h]; simp [L2.atI, L2.ixN]
theorem px3 : R.W (opIx (.ref p) (.int 3) M) P ↔ P (.int n) M := by rw [W_ixL h]; simp [L2.atI, L2.ixN]
theorem px4 : R.W (opIx (.ref p) (.int 4) M) P ↔ P (.int m) M := by rw [W_ixL h]; simp [L2.atI, L2.ixN]
theorem ps1 {v : Int} : setIx (.ref p) (.int 1) (.int v) M = some (M.set p (pl c v r n m)) := set_lst h (n := 1) rfl
theorem ps2 {v : Int} : setIx (.ref p) (.int 2) (.int v) M = some (M.set p (pl c i v n m)) := set_lst h (n := 2) rfl
theorem ps3 {v : Int} : setIx (.ref p) (.int 3) (.int v) M = some (M.set p (pl c i r v m)) := set_lst h (n := 3) rfl
theorem ps4 {v : Int} : setIx (.ref p) (.int 4) (.int v) M = some (M.set p (pl c i r n v)) := set_lst h (n := 4) rfl
end
def dtail : MS :=
  (sq (sIf (tOf (eBin opGe (eV 3) (eBin opPow (eC (.int 10)) (eC (.int 18)))))
    (sq (sSet 3 (eBin opMod (eUn opInt (eV 3)) (eBin opPow (eC (.int 10)) (eC (.int 64)))))
      (sq (sIx (eV 0) (eC (.int 2)) (eBin opDiv (eV 3) (eV 1)))
        (sRet (eBin opMod (eUn opInt (eV 3)) (eV 1)))))
    sNil)
  (sq (sSet 4 (eBin opMod (eUn opInt (eBin opAdd (eBin opAdd (eBin opMul (eBin opIx (eV 0) (eC (.int 4))) (eC (.int 48271))) (eBin opMul (eBin opMod (eUn opInt (eV 3)) (eC (.int 1000003))) (eC (.int 69621)))) (eBin opMul (eBin opIx (eV 0) (eC (.int 3))) (eC (.int 40692))))) (eC (.int 2147483647))))
  (sq (sIx (eV 0) (eC (.int 4)) (eV 4))
    (sRet (eBin opMod (eUn opInt (eBin opAdd (eBin opDiv (eV 4) (eC (.int 128))) (eBin opDiv (eBin opMul (eV 4) (eV 4)) (eC (.int 65536))))) (eV 1))))))
theorem pow18 {M : Mem} {P : D → Mem → Prop} : R.W (opPow (.int 10) (.int 18) M) P ↔ P (.int 1000000000000000000) M := by
  unfold opPow
  dsimp only
  rw [if_pos ⟨by decide, by decide, by decide⟩, W_ok]
  exact Iff.rfl
theorem pow64 {M : Mem} {P : D → Mem → Prop} : R.W (opPow (.int 10) (.int 64) M) P ↔ P (.int (10 ^ 64)) M := by
  unfold opPow
  dsimp only
  rw [if_pos ⟨by decide, by decide, by decide⟩, W_ok]
  exact Iff.rfl
theorem log_ok {n : Nat} (h : n ≤ 1000) : ((n : Int)).natAbs.log2 < 9000 := by
  rw [Int.natAbs_natCast]
  have := Nat.log2_le_self n
  omega
theorem dtail_ok {M : Mem} {p c : Nat} {i r n m v : Int} {many : Nat} {o2 o4 : Option D} (h : M[p]? = some (pl c i r n m)) (hm : 0 < many) (hm2 : many ≤ 1000) {N : Sl → Mem → Prop} {T : D → Mem → Prop} (k : ∀ (y : Int) (r' m' : Int), T (.int (y % (many : Int))) (M.set p (pl c i r' n m'))) :
    RS.V (dtail [some (.ref p), some (.int (many : Int)), o2, some (.int v), o4] M) N T := by
  have hmi : (0 : Int) < many := by omega
  unfold dtail
  array_get_dec
  rw [pow18, W_ge]
  refine ⟨_, rfl, ?_⟩
  by_cases hv : (1000000000000000000 : Int) ≤ v
  · rw [if_pos (decide_eq_true hv), pow64, W_mod]
    refine ⟨by decide, ?_⟩
    rw [W_div]
    refine ⟨⟨hmi, log_ok hm2⟩, _, ps2 h, ?_⟩
    rw [W_int, W_mod]
    exact ⟨hmi, k _ _ _⟩
  · rw [if_neg (by simpa using hv), px4 h, W_mul]
    refine ⟨.inr (.inl (by decide)), by decide, .inr (.inl (by decide)), ?_⟩
    rw [W_add, px3 h, W_mul]
    refine ⟨.inr (.inl (by decide)), ?_⟩
    rw [W_add, W_int, W_mod]
    refine ⟨by decide, _, ps4 h, ?_⟩
    generalize hq : ((m * 48271 + v % 1000003 * 69621 + n * 40692) % 2147483647 : Int) = q
    have hq1 : 0 ≤ q := by rw [← hq]; exact Int.emod_nonneg _ (by decide)
    have hq2 : q < 2147483647 := by rw [← hq]; exact Int.emod_lt_of_pos _ (by decide)
    rw [W_div]
    refine ⟨⟨by decide, by decide⟩, ?_⟩
    rw [W_mul]
    refine ⟨.inl (by omega), ?_⟩
    rw [W_div]
    refine ⟨⟨by decide, by decide⟩, ?_⟩
    rw [W_add, W_int, W_mod]
    exact ⟨hmi, k _ _ _⟩
theorem draw_ok {M : Mem} {p c : Nat} (h : PoolAt M p c) {many : Nat} (hm : 0 < many) (hm2 : many ≤ 1000) {P : D → Mem → Prop} (k : ∀ (x : Nat) M1, x < many → Keep [p] M M1 → M1.length = M.length → PoolAt M1 p c → P (.int (x : Int)) M1) : R.W (m__law_draw [.ref p, .int (many : Int)] M) P := by
  obtain ⟨hne, cells, i, r, n, m, h1, h2, h3⟩ := h
  have hmi : (0 : Int) < many := by omega
  have fin : ∀ (y : Int) (M1 : Mem) (i' r' n' m' : Int), Keep [p] M M1 → M1.length = M.length → M1[p]? = some (pl c i' r' n' m') → 0 ≤ i' → P (.int (y % (many : Int))) M1 := by
    intro y M1 i' r' n' m' k1 kl hp hi'
    have a1 := Int.emod_nonneg y (Int.ne_of_gt hmi)
    have a2 := Int.emod_lt_of_pos y hmi
    have e : y % (many : Int) = ((y % (many : Int)).toNat : Int) := (Int.toNat_of_nonneg a1).symm
    rw [e]
    exact k _ M1 (by omega) k1 kl ⟨hne, cells, i', r', n', m', hp, k1.get h2 (by simpa using Ne.symm hne), hi'⟩
  unfold m__law_draw b__law_draw
  rw [W_fnB]
  change RS.V (sq _ (sq _ (sq _ (sq _ dtail))) _ _) _ _
  array_get_dec
  rw [px3 h1, W_add]
  refine ⟨_, ps3 h1, ?_⟩
  have hA := set_at (o := pl c i r (n + 1) m) h1
  have kA : Keep [p] M (M.set p (pl c i r (n + 1) m)) := Keep.set (by simp)
  have lA : (M.set p (pl c i r (n + 1) m)).length = M.length := len_set
  generalize M.set p (pl c i r (n + 1) m) = MA at *
  rw [px2 hA, W_gt]
  refine ⟨_, rfl, ?_⟩
  by_cases hr : (0 : Int) < r
  · rw [if_pos (decide_eq_true hr), px2 hA, W_int, W_mod]
    refine ⟨hmi, ?_⟩
    rw [px2 hA, W_div]
    refine ⟨⟨hmi, log_ok hm2⟩, _, ps2 hA, ?_⟩
    exact fin _ _ _ _ _ _ (kA.trans (Keep.set (by simp))) (len_set.trans lA) (set_at hA) h3
  · rw [if_neg (by simpa using hr), px1 hA, px0 hA, W_src_ref]
    have h2A := kA.get h2 (by simpa using Ne.symm hne)
    refine ⟨_, SrcIs.get (.inr (.inr ⟨_, rfl, h2A⟩)), ?_⟩
    rw [W_lt, List.length_map]
    refine ⟨_, rfl, ?_⟩
    by_cases hi : i < (cells.length : Int)
    · rw [if_pos (decide_eq_true hi), px0 hA, px1 hA]
      have hit : i.toNat < cells.length := by omega
      have e : i = ((i.toNat : Nat) : Int) := (Int.toNat_of_nonneg h3).symm
      rw [W_ixL h2A]
      refine ⟨.int (cells.getD i.toNat 0), by rw [e, ix_nat]; exact getD_at hit, ?_⟩
      rw [px1 hA, W_add]
      refine ⟨_, ps1 hA, ?_⟩
      refine dtail_ok (set_at hA) hm hm2 fun y r' m' => ?_
      exact fin _ _ _ _ _ _ (kA.trans ((Keep.set (by simp)).trans (Keep.set (by simp)))) (len_set.trans (len_set.trans lA)) (set_at (set_at hA)) (by omega)
    · rw [if_neg (by simpa using hi)]
      refine dtail_ok hA hm hm2 fun y r' m' => ?_
      exact fin _ _ _ _ _ _ (kA.trans (Keep.set (by simp))) (len_set.trans lA) (set_at hA) h3


def Drawn (M : Mem) (p c : Nat) (M1 : Mem) : Prop := Keep [p] M M1 ∧ M1.length = M.length ∧ PoolAt M1 p c
theorem Drawn.trans {M M1 M2 : Mem} {p c : Nat} (a : Drawn M p c M1) (b : Drawn M1 p c M2) : Drawn M p c M2 := ⟨a.1.trans b.1, b.2.1.trans a.2.1, b.2.2⟩
theorem numbers_ok {M : Mem} {p c : Nat} (h : PoolAt M p c) {count below : Nat} (hc : count ≤ 1000) (hb : 0 < below) (hb2 : below ≤ 1000) {P : D → Mem → Prop} (k : ∀ (ls : List Nat) M1, ls.length = count → (∀ x ∈ ls, x < below) → Drawn M p c M1 → P (vI (LsI ls)) M1) :
    R.W (m__law_numbers [.ref p, .int (count : Int), .int (below : Int)] M) P := by
  unfold m__law_numbers b__law_numbers
  array_get_dec
  refine ⟨by omega, by omega, ?_⟩
  rw [Int.toNat_natCast]
  refine (lc_ix (Inv := fun k acc M' => Drawn M p c M' ∧ ∃ ls : List Nat, ls.length = k ∧ acc = (LsI ls).map D.int ∧ ∀ x ∈ ls, x < below) (fun k a M' _ => rfl) (by show (rngD 0 _).length < _; rw [rng_len]; omega) ?_ ⟨⟨Keep.refl, rfl, h⟩, [], rfl, rfl, by simp⟩).mono ?_
  · rintro i d acc M' hk ha ⟨dr, ls, hl, rfl, hls⟩
    refine ⟨_, rfl, ?_⟩
    array_get_dec
    refine draw_ok dr.2.2 hb hb2 fun x M1 hx k1 l1 p1 => ?_
    refine ⟨dr.trans ⟨k1, l1, p1⟩, ls ++ [x], by simp [hl], by simp, fun y hy => ?_⟩
    rcases List.mem_append.mp hy with hy | hy
    · exact hls y hy
    · rw [List.mem_singleton.mp hy]; exact hx
  · rintro ds M1 ⟨_, dr, ls, hl, rfl, hls⟩
    rw [show (It3.rng 0 count).items = rngD 0 count from rfl, rng_len] at hl
    exact ⟨_, rfl, k ls M1 hl hls dr⟩
def MatOk (q w : Nat) (A : List Vec) : Prop := ∀ v ∈ A, v.length = w ∧ ∀ x ∈ v, 0 ≤ x ∧ x < (q : Int)
theorem mat_lc {M : Mem} {p c : Nat} (h : PoolAt M p c) {cnt w q g : Nat} {s : Sl} {el : ME} (hc : cnt ≤ 1000) (hw : w ≤ 1000) (hq : 0 < q) (hq2 : q ≤ 1000) (he : ∀ d M (P : D → Mem → Prop), R.W (m__law_numbers [.ref p, .int (w : Int), .int (q : Int)] M) P → R.W (el (s.set g (some d)) M) P) :
    R.W (lcLoop (.rng 0 cnt) (gN g) mYes el s (It3.rng 0 cnt).items [] M) fun ds M1 => ∃ A : List Vec, ds = A.map vI ∧ A.length = cnt ∧ MatOk q w A ∧ Drawn M p c M1 := by
  refine (lc_ix (Inv := fun k acc M' => Drawn M p c M' ∧ ∃ A : List Vec, A.length = k ∧ acc = A.map vI ∧ MatOk q w A) (fun k a M' _ => rfl) (by show (rngD 0 _).length < _; rw [rng_len]; omega) ?_ ⟨⟨Keep.refl, rfl, h⟩, [], rfl, rfl, by intro v hv; cases hv⟩).mono ?_
  · rintro i d acc M' hk ha ⟨dr, A, hl, rfl, hA⟩
    refine ⟨_, rfl, ?_⟩
    refine he _ _ _ ?_
    refine numbers_ok dr.2.2 hw hq hq2 fun ls M1 hl1 hls dr1 => ?_
    refine ⟨dr.trans dr1, A ++ [LsI ls], by simp [hl], by simp, fun v hv => ?_⟩
    rcases List.mem_append.mp hv with hv | hv
    · exact hA v hv
    · rw [List.mem_singleton.mp hv]
      refine ⟨by simp [hl1], fun x hx => ?_⟩
      obtain ⟨y, hy, rfl⟩ := List.mem_map.mp hx
      have := hls y hy
      omega
  · rintro ds M1 ⟨_, dr, A, hl, rfl, hA⟩
    rw [show (It3.rng 0 cnt).items = rngD 0 cnt from rfl, rng_len] at hl
    exact ⟨A, rfl, hl, hA, dr⟩
def primesL : List Nat := [2, 3, 5, 7, 11, 13, 17, 19, 23, 29, 31, 37, 41, 43, 47, 53, 59, 61, 67, 71, 73, 79, 83, 89, 97]
theorem pr_facts : ∀ x, x < 25 → primesL.getD x 0 ∈ primesL ∧ 2 ≤ primesL.getD x 0 ∧ primesL.getD x 0 ≤ 97 := by decide
theorem pr_mem : ∀ q ∈ primesL, ((q : Nat) : Int) ∈ ([2, 3, 5, 7, 11, 13, 17, 19, 23, 29, 31, 37, 41, 43, 47, 53, 59, 61, 67, 71, 73, 79, 83, 89, 97] : List Int) := by decide
theorem hpr : ∀ x : Nat, x < 25 → ∃ q : Nat, q ∈ primesL ∧ 2 ≤ q ∧ q ≤ 97 ∧ L2.atI ((primesL.map fun (t : Nat) => D.int (t : Int))) (x : Int) = some (.int (q : Int)) := by
  intro x hx
  have h := pr_facts x hx
  refine ⟨primesL.getD x 0, h.1, h.2.1, h.2.2, ?_⟩
  have hl : x < primesL.length := hx
  rw [ix_nat, List.getElem?_map, List.getElem?_eq_getElem hl, List.getD_eq_getElem?_getD, List.getElem?_eq_getElem hl]
  rfl
def ePrimes : ME := eTup (aCons (eC (.int 2)) (aCons (eC (.int 3)) (aCons (eC (.int 5)) (aCons (eC (.int 7)) (aCons (eC (.int 11)) (aCons (eC (.int 13)) (aCons (eC (.int 17)) (aCons (eC (.int 19)) (aCons (eC (.int 23)) (aCons (eC (.int 29)) (aCons (eC (.int 31)) (aCons (eC (.int 37)) (aCons (eC (.int 41)) (aCons (eC (.int 43)) (aCons (eC (.int 47)) (aCons (eC (.int 53)) (aCons (eC (.int 59)) (aCons (eC (.int 61)) (aCons (eC (.int 67)) (aCons (eC (.int 71)) (aCons (eC (.int 73)) (aCons (eC (.int 79)) (aCons (eC (.int 83)) (aCons (eC (.int 89)) (aCons (eC (.int 97)) aNil)))))))))))))))))))))))))
theorem W_ePrimes {s : Sl} {M : Mem} {P : D → Mem → Prop} : R.W (ePrimes s M) P ↔ P (.tup (primesL.map fun (t : Nat) => D.int (t : Int))) M := by
  have e : ePrimes s M = .ok (.tup (primesL.map fun (t : Nat) => D.int (t : Int))) M := by rfl
  rw [e]
  exact Iff.rfl
/-- the model that was drawn -/
structure Mdl (N : Nt) (letters width deep : Nat) : Prop where
  ok : N.Ok
  w : N.sh.length = width
  l : N.emb.length = letters
  d : N.lay.length = deep
theorem net_ok {M : Mem} {p c : Nat} (h : PoolAt M p c) {letters width deep : Nat} {ended : Bool} (hl : 0 < letters) (hl2 : letters ≤ 100) (hw : width ≤ 100) (hd : deep ≤ 100) {P : D → Mem → Prop} (k : ∀ (N : Nt) M1, Mdl N letters width deep → Keep [p] M M1 → PoolAt M1 p c → P (modelD N) M1) :
    R.W (m__law_net [.ref p, .int (letters : Int), .int (width : Int), .int (deep : Int), .bl ended] M) P := by
  unfold m__law_net b__law_net
  rw [W_fnB]
  change RS.V (sq (sSet 5 ePrimes) _ _ _) _ _
  rw [V_sq, V_sSet, W_ePrimes]
  generalize hPL : (D.tup (primesL.map fun (t : Nat) => D.int (t : Int))) = PL at *
  array_get_dec
  refine draw_ok h (many := 25) (by decide) (by decide) fun x M1 hx k1 l1 p1 => ?_
  obtain ⟨q, hq0, hq1, hq2, hq3⟩ := hpr x hx
  rw [← hPL, W_ixT]
  refine ⟨_, hq3, ?_⟩
  rw [hPL]
  have hqp : 0 < q := by omega
  refine ⟨by omega, by omega, ?_⟩
  rw [Int.toNat_natCast]
  refine (mat_lc p1 (cnt := letters) (w := width) (q := q) (by omega) (by omega) hqp (by omega) (fun d M P z => by array_get_dec; exact z)).mono ?_
  rintro ds M2 ⟨E, rfl, hEl, hE, dE⟩
  refine ⟨_, rfl, ?_⟩
  refine numbers_ok dE.2.2 (by omega) hqp (by omega) fun sh M3 hsl hsh dS => ?_
  refine ⟨rfl, by omega, by omega, ?_⟩
  rw [Int.toNat_natCast]
  have kM3 : Keep [p] M M3 := (k1.trans dE.1).trans dS.1
  have pM3 : PoolAt M3 p c := dS.2.2
  have ltp : ∀ {M' : Mem}, PoolAt M' p c → p < M'.length ∧ c < M'.length := by
    rintro M' ⟨_, _, _, _, _, _, h1, h2, _⟩
    exact ⟨(List.getElem?_eq_some_iff.mp h1).1, (List.getElem?_eq_some_iff.mp h2).1⟩
  have lt3 := ltp pM3
  refine for_go (Inv := fun i s M' => ∃ o10 o11 o12 lay, s = [some (.ref p), some (.int (letters : Int)), some (.int (width : Int)), some (.int (deep : Int)), some (.bl ended), some PL, some (.int (q : Int)), some (.tup (E.map vI)), some (vI (LsI sh)), some (.ref M3.length), o10, o11, o12, none, none, none] ∧ Keep [p] M3 M' ∧ PoolAt M' p c ∧ M'[M3.length]? = some (.lst (lay.map lyI)) ∧ lay.length = i ∧ ∀ l ∈ lay, l.length = 5 ∧ ∀ m ∈ l, m.length = width ∧ MatOk q width m) (fun k s M1 _ => rfl) ?_ ⟨none, none, none, [], rfl, Keep.app, pM3.keep0 Keep.app, new_at, rfl, by intro l hl; cases hl⟩ ?_
  · rintro i cc s M' hk ⟨o10, o11, o12, lay, rfl, k3, p3, h9, hlen, hlay⟩
    obtain ⟨hi, rfl⟩ := rng_at (show (rngD 0 deep)[i]? = some cc from hk)
    refine ⟨_, M', rfl, ?_⟩
    have lt4 := ltp p3
    array_get_dec
    refine ⟨rfl, by omega, by omega, ?_⟩
    refine for_go (Inv := fun j s M5 => ∃ o12 ly, s = [some (.ref p), some (.int (letters : Int)), some (.int (width : Int)), some (.int (deep : Int)), some (.bl ended), some PL, some (.int (q : Int)), some (.tup (E.map vI)), some (vI (LsI sh)), some (.ref M3.length), some (.int (i : Int)), some (.ref M'.length), o12, none, none, none] ∧ Keep [p] M' M5 ∧ PoolAt M5 p c ∧ M5[M'.length]? = some (.lst (ly.map mI)) ∧ ly.length = j ∧ ∀ m ∈ ly, m.length = width ∧ MatOk q width m) (fun k s M1 _ => rfl) ?_ ⟨_, [], rfl, Keep.app, p3.keep0 Keep.app, new_at, rfl, by intro l hl; cases hl⟩ ?_
    · rintro j cc s M5 hk5 ⟨o12, ly, rfl, k5, p5, h11, hlen5, hly⟩
      obtain ⟨hj, rfl⟩ := rng_at (show (rngD 0 5)[j]? = some cc from hk5)
      refine ⟨_, M5, rfl, ?_⟩
      array_get_dec
      refine ⟨isLst_of h11, by omega, by omega, ?_⟩
      rw [Int.toNat_natCast]
      refine (mat_lc p5 (cnt := width) (w := width) (q := q) (by omega) (by omega) hqp (by omega) (fun d M P z => by array_get_dec; exact z)).mono ?_
      rintro ds M6 ⟨A, rfl, hAl, hA, dA⟩
      have h11' := dA.1.get h11 (by simp; omega)
      refine ⟨_, rfl, _, h11', okLen_of (by rw [List.length_map]; omega), _, ly ++ [A], rfl, (k5.trans dA.1).new (Keep.set (A := [M'.length]) (by simp)) (fun t ht => .inr (by rw [List.mem_singleton.mp ht]; omega)), dA.2.2.keep (Keep.set (A := [M'.length]) (by simp)) (by simp; omega) (by simp; omega), ?_, by simp [hlen5], fun m hm => ?_⟩
      · rw [set_at h11', List.map_append]
        rfl
      · rcases List.mem_append.mp hm with hm | hm
        · exact hly m hm
        · rw [List.mem_singleton.mp hm]; exact ⟨hAl, hA⟩
    · rintro s M5 ⟨o12, ly, rfl, k5, p5, h11, hlen5, hly⟩
      rw [show (It3.rng 0 (5 : Int).toNat).items = rngD 0 5 from rfl, rng_len] at hlen5
      array_get_dec
      have h9' := k5.get h9 (by simp; omega)
      have lt5 : M3.length < M'.length := (List.getElem?_eq_some_iff.mp h9).1
      refine ⟨isLst_of h9', _, SrcIs.get (.inr (.inr ⟨_, rfl, h11⟩)), _, h9', okLen_of (by rw [List.length_map]; omega), _, _, _, lay ++ [ly], rfl, (k3.trans k5).new (Keep.set (A := [M3.length]) (by simp)) (fun t ht => .inr (by rw [List.mem_singleton.mp ht]; omega)), p5.keep (Keep.set (A := [M3.length]) (by simp)) (by simp; omega) (by simp; omega), ?_, by simp [hlen], fun l hl => ?_⟩
      · rw [set_at h9', List.map_append]
        rfl
      · rcases List.mem_append.mp hl with hl | hl
        · exact hlay l hl
        · rw [List.mem_singleton.mp hl]; exact ⟨hlen5, hly⟩
  · rintro s M' ⟨o10, o11, o12, lay, rfl, k3, p3, h9, hlen, hlay⟩
    rw [show (It3.rng 0 deep).items = rngD 0 deep from rfl, rng_len] at hlen
    array_get_dec
    refine ⟨by omega, by omega, ?_⟩
    rw [Int.toNat_natCast]
    have lt4 := ltp p3
    refine (mat_lc p3 (cnt := letters) (w := width) (q := q) (by omega) (by omega) hqp (by omega) (fun d M P z => by array_get_dec; exact z)).mono ?_
    rintro ds M6 ⟨O, rfl, hOl, hO, dO⟩
    have h9' := dO.1.get h9 (by simp; omega)
    have sm : ∀ {A : List Vec}, MatOk q width A → ∀ v ∈ A, v.length = width ∧ ∀ x ∈ v, small x := fun hA v hv => ⟨(hA v hv).1, fun x hx => by
      have := (hA v hv).2 x hx
      unfold small
      omega⟩
    have mk : ∀ e : D, Mdl ⟨q, E, LsI sh, lay, O, e⟩ letters width deep := fun e => {
      ok := {
        p0 := by show (2 : Int) ≤ q; omega
        p1 := by show (q : Int) ≤ 97; omega
        prime := pr_mem q hq0
        w := by show (LsI sh).length ≤ 1000; simp [hsl]; omega
        emb := fun v hv => by
          have := (hE v hv).1
          simp [hsl, this]
        embl := by show E.length ≤ 1000; omega
        lay := fun l hl => ⟨(hlay l hl).1, fun m hm => by
          have h2 := (hlay l hl).2 m hm
          exact ⟨by simp [hsl, h2.1], fun r hr => ⟨by simp [hsl, (sm h2.2 r hr).1], (sm h2.2 r hr).2⟩⟩⟩
        layl := by show lay.length ≤ 1000; omega
        out := fun r hr => ⟨by simp [hsl, (sm hO r hr).1], (sm hO r hr).2⟩
        outl := by show O.length ≤ 1000; omega
        shs := fun x hx => by
          obtain ⟨y, hy, rfl⟩ := List.mem_map.mp hx
          have := hsh y hy
          unfold small
          omega }
      w := by simp [hsl]
      l := hEl
      d := hlen }
    have kk : Keep [p] M M6 := (kM3.trans k3).trans dO.1
    refine ⟨_, rfl, ?_⟩
    cases ended with
    | true =>
      rw [if_pos rfl]
      refine draw_ok dO.2.2 hl (by omega) fun x M7 hx k7 l7 p7 => ?_
      refine ⟨_, SrcIs.get (.inr (.inr ⟨_, rfl, k7.get h9' (by simp; omega)⟩)), rfl, ?_⟩
      exact k _ M7 (mk _) (kk.trans k7) p7
    | false =>
      rw [if_neg (by decide)]
      refine ⟨_, SrcIs.get (.inr (.inr ⟨_, rfl, h9'⟩)), rfl, ?_⟩
      exact k _ M6 (mk _) kk dO.2.2


/-! ### in -/
theorem in_tup {neg : Bool} {i : Int} {ns : List Int} {M : Mem} {P : D → Mem → Prop} (h : P (.bl (xor neg (ns.any fun n => n == i))) M) : R.W (inR neg (.int i) (.tup (ns.map D.int)) M) P := by
  unfold inR
  rw [if_neg (by simp [isL]), W_getS]
  refine ⟨_, rfl, ?_⟩
  rw [W_getI]
  exact ⟨_, intsOf_map ns, h⟩
theorem mapM_ints {n : Nat} {M : Mem} : ∀ ns : List Int, (ns.map D.int).mapM (pyD (n + 1) M) = some (ns.map PySem.PyData.int)
  | [] => rfl
  | i :: ns => by
    rw [List.map_cons, List.mapM_cons, mapM_ints ns]
    rfl
theorem lay_ints : ∀ ns : List Int, PySem.PyData.canLayAll0 (ns.map PySem.PyData.int) = true ∧ PySem.PyData.depthAll (ns.map PySem.PyData.int) = 0
  | [] => ⟨rfl, rfl⟩
  | i :: ns => by
    obtain ⟨h1, h2⟩ := lay_ints ns
    refine ⟨?_, ?_⟩
    · rw [List.map_cons, PySem.PyData.canLayAll0, h1]
      all_goals rfl
    · rw [List.map_cons, PySem.PyData.depthAll, h2]
      all_goals rfl
theorem eqv_int (i j : Int) : PySem.PyData.eqv (.int i) (.int j) = (i == j) := by
  simp [PySem.PyData.eqv]
theorem in_lst {neg : Bool} {i : Int} {ns : List Int} {M : Mem} {j : Nat} {P : D → Mem → Prop} (hj : M[j]? = some (.lst (ns.map D.int))) (h : P (.bl (xor neg (ns.any fun n => n == i))) M) : R.W (inR neg (.int i) (.lst j) M) P := by
  unfold inR
  rw [if_pos (by rfl), W_getS]
  refine ⟨_, SrcIs.get (.inr (.inr ⟨_, rfl, hj⟩)), ?_⟩
  rw [mapM_ints]
  obtain ⟨h1, h2⟩ := lay_ints ns
  have hs : PySem.SeqAt.shaped (.list (ns.map PySem.PyData.int)) = true := by
    unfold PySem.SeqAt.shaped
    rw [PySem.PyData.canLay0, h1, PySem.PyData.depth, h2]
    rfl
  show R.W (if PySem.SeqAt.shaped (.int i) = true ∧ PySem.SeqAt.shaped (.list (ns.map PySem.PyData.int)) = true then _ else _) P
  rw [if_pos ⟨by rfl, hs⟩]
  have e : (ns.map PySem.PyData.int).any (fun z => PySem.PyData.eqv z (.int i)) = ns.any fun n => n == i := by
    rw [List.any_map]
    exact congrArg (fun f => ns.any f) (funext fun n => eqv_int n i)
  rw [e]
  exact h
/-- pairs of numbers -/
def pk (q : Nat × Nat) : D := .tup [.int (q.1 : Int), .int (q.2 : Int)]
def pkD (q : Nat × Nat) : PySem.PyData := .tuple [.int (q.1 : Int), .int (q.2 : Int)]
theorem mapM_pk {n : Nat} {M : Mem} : ∀ qs : List (Nat × Nat), (qs.map pk).mapM (pyD (n + 2) M) = some (qs.map pkD)
  | [] => rfl
  | q :: qs => by
    rw [List.map_cons, List.mapM_cons, mapM_pk qs]
    rfl
theorem lay_pk : ∀ qs : List (Nat × Nat), PySem.PyData.canLayAll0 (qs.map pkD) = true ∧ PySem.PyData.depthAll (qs.map pkD) ≤ 1
  | [] => ⟨rfl, by decide⟩
  | q :: qs => by
    obtain ⟨h1, h2⟩ := lay_pk qs
    refine ⟨?_, ?_⟩
    · rw [List.map_cons, PySem.PyData.canLayAll0, h1]
      rfl
    · rw [List.map_cons, PySem.PyData.depthAll]
      have : PySem.PyData.depth (pkD q) = 1 := by rfl
      omega
theorem eqv_pk (a b : Nat × Nat) : PySem.PyData.eqv (pkD a) (pkD b) = (a == b) := by
  obtain ⟨a1, a2⟩ := a
  obtain ⟨b1, b2⟩ := b
  have : PySem.PyData.eqv (pkD (a1, a2)) (pkD (b1, b2)) = ((((a1 : Int)) == b1) && ((((a2 : Int)) == b2) && true)) := by
    simp [pkD, PySem.PyData.eqv, PySem.PyData.eqvAll]
  rw [this, Bool.eq_iff_iff]
  simp
  constructor <;> (rintro ⟨h1, h2⟩; constructor <;> omega)
theorem in_pk {neg : Bool} {q : Nat × Nat} {qs : List (Nat × Nat)} {M : Mem} {j : Nat} {P : D → Mem → Prop} (hj : M[j]? = some (.lst (qs.map pk))) (h : P (.bl (xor neg (qs.any fun n => n == q))) M) : R.W (inR neg (pk q) (.lst j) M) P := by
  unfold inR
  rw [if_pos (by rfl), W_getS]
  refine ⟨_, SrcIs.get (.inr (.inr ⟨_, rfl, hj⟩)), ?_⟩
  rw [mapM_pk]
  obtain ⟨h1, h2⟩ := lay_pk qs
  have hs : PySem.SeqAt.shaped (.list (qs.map pkD)) = true := by
    unfold PySem.SeqAt.shaped
    rw [PySem.PyData.canLay0, h1, PySem.PyData.depth, Bool.true_and]
    exact decide_eq_true (by omega)
  show R.W (if PySem.SeqAt.shaped (pkD q) = true ∧ PySem.SeqAt.shaped (.list (qs.map pkD)) = true then (.ok (.bl (xor neg ((qs.map pkD).any fun z => PySem.PyData.eqv z (pkD q)))) M) else _) P
  rw [if_pos ⟨by rfl, hs⟩]
  have e : (qs.map pkD).any (fun z => PySem.PyData.eqv z (pkD q)) = qs.any fun n => n == q := by
    rw [List.any_map]
    exact congrArg (fun f => qs.any f) (funext fun n => eqv_pk n q)
  rw [e]
  exact h

/-! ### a net is made -/
theorem vector_of_ok {M : Mem} {d : D} {ds : List D} (h : Sq [] M d ds) {P : D → Mem → Prop} (k : P (.tup ds) M) : R.W (m_vector_of [d] M) P := by
  unfold m_vector_of b_vector_of
  array_get_dec
  exact h.src fun x hx => ⟨_, hx.get, k⟩
theorem matrix_of_ok {M : Mem} {A : List Vec} (hA : A.length ≤ 1000) {P : D → Mem → Prop} (k : P (mI A) M) : R.W (m_matrix_of [mI A] M) P := by
  unfold m_matrix_of b_matrix_of mI
  array_get_dec
  refine ⟨_, rfl, ?_⟩
  refine (lc_map (F := id) (Inv := fun M' => M' = M) (fun M' w => rfl) (by show (List.map vI A).length < _; rw [List.length_map]; omega) ?_ rfl).mono ?_
  · rintro q M' hq rfl
    obtain ⟨r, hr, rfl⟩ := List.mem_map.mp (show q ∈ A.map vI from hq)
    refine ⟨_, rfl, ?_⟩
    array_get_dec
    exact vector_of_ok IsV.tup ⟨rfl, rfl⟩
  · rintro ds M' ⟨rfl, rfl⟩
    refine ⟨_, rfl, ?_⟩
    rw [List.map_id]
    exact k
theorem prime_in {p : Int} (h : p ∈ [2, 3, 5, 7, 11, 13, 17, 19, 23, 29, 31, 37, 41, 43, 47, 53, 59, 61, 67, 71, 73, 79, 83, 89, 97]) : ([2, 3, 5, 7, 11, 13, 17, 19, 23, 29, 31, 37, 41, 43, 47, 53, 59, 61, 67, 71, 73, 79, 83, 89, 97] : List Int).any (fun n => n == p) = true := by
  rw [List.any_eq_true]
  exact ⟨p, h, by simp⟩
theorem net_init_ok {M : Mem} {n : Nat} {N : Nt} (ok : N.Ok) (hn : M[n]? = some (.ins "Net" [])) {P : D → Mem → Prop} (k : ∀ M1, Keep [n] M M1 → NetAt M1 n N → P .non M1) :
    R.W (m_Net___init__ [.ref n, .int N.p, mI N.emb, vI N.sh, .tup (N.lay.map lyI), mI N.out, N.e] M) P := by
  unfold m_Net___init__ b_Net___init__
  array_get_dec
  refine is_between_ok ?_
  refine ⟨_, rfl, ?_⟩
  have h1 := ok.p0
  have h2 := ok.p1
  rw [if_neg (by simp; omega)]
  rw [show g_PRIMES = D.tup (([2, 3, 5, 7, 11, 13, 17, 19, 23, 29, 31, 37, 41, 43, 47, 53, 59, 61, 67, 71, 73, 79, 83, 89, 97] : List Int).map D.int) from rfl, W_src_tup]
  refine in_tup (ns := [2, 3, 5, 7, 11, 13, 17, 19, 23, 29, 31, 37, 41, 43, 47, 53, 59, 61, 67, 71, 73, 79, 83, 89, 97]) ?_
  rw [prime_in ok.prime]
  refine ⟨_, rfl, ?_⟩
  rw [if_neg (by decide)]
  refine ⟨_, hn, by decide, ?_⟩
  have st : ∀ {M : Mem} {o u : O}, M[n]? = some u → (M.set n o)[n]? = some o := fun h => set_at h
  have k1 : Keep [n] M (M.set n (.ins "Net" [("prime", .int N.p)])) := Keep.set (by simp)
  have h1 := st (o := .ins "Net" [("prime", .int N.p)]) hn
  rw [show putFld "prime" (int N.p) [] = [("prime", D.int N.p)] from rfl]
  generalize M.set n (.ins "Net" [("prime", .int N.p)]) = M1 at *
  refine matrix_of_ok ok.embl ?_
  refine ⟨_, h1, by show _ + 1 < 1000; simp, ?_⟩
  rw [show putFld "embed" (mI N.emb) [("prime", D.int N.p)] = [("prime", D.int N.p), ("embed", mI N.emb)] from rfl]
  have k2 : Keep [n] M1 (M1.set n (.ins "Net" [("prime", .int N.p), ("embed", mI N.emb)])) := Keep.set (by simp)
  have h2 := st (o := .ins "Net" [("prime", .int N.p), ("embed", mI N.emb)]) h1
  generalize M1.set n (.ins "Net" [("prime", .int N.p), ("embed", mI N.emb)]) = M2 at *
  refine vector_of_ok IsV.tup ?_
  refine ⟨_, h2, by show _ + 1 < 1000; simp, ?_⟩
  rw [show putFld "shift" (.tup (N.sh.map D.int)) [("prime", D.int N.p), ("embed", mI N.emb)] = [("prime", D.int N.p), ("embed", mI N.emb), ("shift", vI N.sh)] from rfl]
  have k3 : Keep [n] M2 (M2.set n (.ins "Net" [("prime", .int N.p), ("embed", mI N.emb), ("shift", vI N.sh)])) := Keep.set (by simp)
  have h3 := st (o := .ins "Net" [("prime", .int N.p), ("embed", mI N.emb), ("shift", vI N.sh)]) h2
  generalize M2.set n (.ins "Net" [("prime", .int N.p), ("embed", mI N.emb), ("shift", vI N.sh)]) = M3 at *
  refine ⟨_, rfl, ?_⟩
  refine (lc_map (F := id) (Inv := fun M' => M' = M3) (fun M' w => rfl) (by show (List.map lyI _).length < _; rw [List.length_map]; have := ok.layl; omega) ?_ rfl).mono ?_
  · rintro q M' hq rfl
    obtain ⟨l, hl, rfl⟩ := List.mem_map.mp (show q ∈ N.lay.map lyI from hq)
    refine ⟨_, rfl, ?_⟩
    unfold lyI
    array_get_dec
    refine ⟨_, rfl, ?_⟩
    have hl5 := (ok.lay l hl).1
    refine (lc_map (F := id) (Inv := fun M2 => M2 = M') (fun M' w => rfl) (by show (List.map mI _).length < _; rw [List.length_map]; omega) ?_ rfl).mono ?_
    · rintro z M4 hz rfl
      obtain ⟨m, hm, rfl⟩ := List.mem_map.mp (show z ∈ l.map mI from hz)
      refine ⟨_, rfl, ?_⟩
      array_get_dec
      refine matrix_of_ok (by rw [((ok.lay l hl).2 m hm).1]; exact ok.w) ⟨rfl, rfl⟩
    · rintro ds M4 ⟨rfl, rfl⟩
      refine ⟨_, rfl, ?_, rfl⟩
      rw [List.map_id]
      rfl
  rintro ds M4 ⟨rfl, rfl⟩
  refine ⟨_, rfl, _, h3, by show _ + 1 < 1000; simp, ?_⟩
  rw [List.map_id]
  rw [show putFld "layers" (D.tup (It3.seq (Src.tup (List.map lyI N.lay)) (List.map lyI N.lay)).items) [("prime", D.int N.p), ("embed", mI N.emb), ("shift", vI N.sh)] = [("prime", D.int N.p), ("embed", mI N.emb), ("shift", vI N.sh), ("layers", .tup (N.lay.map lyI))] from rfl]
  have k4 : Keep [n] M4 (M4.set n (.ins "Net" [("prime", .int N.p), ("embed", mI N.emb), ("shift", vI N.sh), ("layers", .tup (N.lay.map lyI))])) := Keep.set (by simp)
  have h4 := st (o := .ins "Net" [("prime", .int N.p), ("embed", mI N.emb), ("shift", vI N.sh), ("layers", .tup (N.lay.map lyI))]) h3
  generalize M4.set n (.ins "Net" [("prime", .int N.p), ("embed", mI N.emb), ("shift", vI N.sh), ("layers", .tup (N.lay.map lyI))]) = M5 at *
  refine matrix_of_ok ok.outl ?_
  refine ⟨_, h4, by show _ + 1 < 1000; simp, ?_⟩
  rw [show putFld "out" (mI N.out) [("prime", D.int N.p), ("embed", mI N.emb), ("shift", vI N.sh), ("layers", .tup (N.lay.map lyI))] = [("prime", D.int N.p), ("embed", mI N.emb), ("shift", vI N.sh), ("layers", .tup (N.lay.map lyI)), ("out", mI N.out)] from rfl]
  have k5 : Keep [n] M5 (M5.set n (.ins "Net" [("prime", .int N.p), ("embed", mI N.emb), ("shift", vI N.sh), ("layers", .tup (N.lay.map lyI)), ("out", mI N.out)])) := Keep.set (by simp)
  have h5 := st (o := .ins "Net" [("prime", .int N.p), ("embed", mI N.emb), ("shift", vI N.sh), ("layers", .tup (N.lay.map lyI)), ("out", mI N.out)]) h4
  generalize M5.set n (.ins "Net" [("prime", .int N.p), ("embed", mI N.emb), ("shift", vI N.sh), ("layers", .tup (N.lay.map lyI)), ("out", mI N.out)]) = M6 at *
  refine ⟨_, h5, by show _ + 1 < 1000; simp, ?_⟩
  refine k _ (((((k1.trans k2).trans k3).trans k4).trans k5).trans (Keep.set (by simp))) ?_
  exact st h5


/-! ### a crew as it stands -/
structure CG where
  n : D
  many : D
  s : D
  a : D
  v : D
  o : D
  r : D
  k : D
  h : D
  z : D
def cgF (C : CG) : List (String × D) := [("net", C.n), ("many", C.many), ("sent", C.s), ("ahead", C.a), ("vector", C.v), ("own", C.o), ("results", C.r), ("number", C.k), ("had", C.h), ("sum", C.z)]
def CrG (M : Mem) (ci : Nat) (C : CG) : Prop := M[ci]? = some (.ins "Crew" (cgF C))
abbrev cgO (C : CG) : O := .ins "Crew" (cgF C)
theorem cgF_len (C : CG) : (cgF C).length < 1000 := by show _ + 1 < 1000; simp [cgF]
section
variable {M : Mem} {ci : Nat} {C : CG} (h : CrG M ci C)
include h
theorem cg_n : fldR "Crew" "net" (.ref ci) M = some C.n := by rw [fldR_of h]; rfl
theorem cg_many : fldR "Crew" "many" (.ref ci) M = some C.many := by rw [fldR_of h]; rfl
theorem cg_s : fldR "Crew" "sent" (.ref ci) M = some C.s := by rw [fldR_of h]; rfl
theorem cg_a : fldR "Crew" "ahead" (.ref ci) M = some C.a := by rw [fldR_of h]; rfl
theorem cg_v : fldR "Crew" "vector" (.ref ci) M = some C.v := by rw [fldR_of h]; rfl
theorem cg_o : fldR "Crew" "own" (.ref ci) M = some C.o := by rw [fldR_of h]; rfl
theorem cg_r : fldR "Crew" "results" (.ref ci) M = some C.r := by rw [fldR_of h]; rfl
theorem cg_k : fldR "Crew" "number" (.ref ci) M = some C.k := by rw [fldR_of h]; rfl
theorem cg_h : fldR "Crew" "had" (.ref ci) M = some C.h := by rw [fldR_of h]; rfl
theorem cg_z : fldR "Crew" "sum" (.ref ci) M = some C.z := by rw [fldR_of h]; rfl
end
theorem CrG.keep {A : List Nat} {M M1 : Mem} {ci : Nat} {C : CG} (h : CrG M ci C) (k : Keep A M M1) (n : ci ∉ A) : CrG M1 ci C := k.get h n
theorem CrG.keep0 {M M1 : Mem} {ci : Nat} {C : CG} (h : CrG M ci C) (k : Keep [] M M1) : CrG M1 ci C := k.get0 h
/-- a field is put -/
theorem cg_set (f : String) (d : D) {C : CG} {M : Mem} {ci : Nat} (h : CrG M ci C) (C' : CG) (e : putFld f d (cgF C) = cgF C') :
    ∃ M1, M.set ci (.ins "Crew" (putFld f d (cgF C))) = M1 ∧ Keep [ci] M M1 ∧ M1.length = M.length ∧ CrG M1 ci C' := by
  rw [e]
  exact ⟨_, rfl, Keep.set (by simp), len_set, set_at h⟩
section
variable {M : Mem} {ci n : Nat} {C : CG} {N : Nt} {P : D → Mem → Prop}
theorem begin_round_ok (h : CrG M ci C) (hn : NetAt M n N) (hC : C.n = .ref n) (hne : n ≠ ci) (ok : N.Ok) (k : ∀ M1, Keep [ci] M M1 → M1.length = M.length + 1 → CrG M1 ci { C with h := .ref M.length, z := vI (N.sh.map fun _ => 0) } → M1[M.length]? = some (.lst []) → P .non M1) : R.W (m_Crew_begin_round [.ref ci] M) P := by
  have hci := (List.getElem?_eq_some_iff.mp h).1
  unfold m_Crew_begin_round b_Crew_begin_round
  array_get_dec
  refine ⟨rfl, ?_⟩
  have h0 : CrG (M ++ [O.lst []]) ci C := h.keep0 Keep.app
  refine ⟨_, h0, cgF_len C, ?_⟩
  obtain ⟨M1, e1, k1, l1, h1⟩ := cg_set "had" (.ref M.length) h0 { C with h := .ref M.length } rfl
  rw [e1]
  refine ⟨_, cg_n h1, ?_⟩
  rw [hC]
  have hn1 : NetAt M1 n N := (hn.keep0 (Keep.app (A := []))).keep k1 (by simpa using hne)
  refine ⟨_, nt_shift hn1, ?_⟩
  unfold vI
  array_get_dec
  refine ⟨_, rfl, ?_⟩
  refine (lc_map (F := fun _ => .int 0) (Inv := fun M' => M' = M1) (fun M' w => rfl) (by show (N.sh.map D.int).length < _; rw [List.length_map]; have := ok.w; omega) ?_ rfl).mono ?_
  · rintro c M' hc rfl
    exact ⟨_, rfl, rfl, rfl⟩
  rintro zs M' ⟨rfl, rfl⟩
  refine ⟨_, rfl, ?_⟩
  have hz : D.tup (List.map (fun _ => D.int 0) (It3.seq (Src.tup (N.sh.map D.int)) (N.sh.map D.int)).items) = vI (N.sh.map fun _ => 0) := by
    show D.tup (List.map _ (List.map _ _)) = D.tup (List.map _ (List.map _ _))
    rw [List.map_map, List.map_map]
    rfl
  rw [hz]
  refine ⟨_, h1, cgF_len _, ?_⟩
  obtain ⟨M2, e2, k2, l2, h2⟩ := cg_set "sum" (vI (N.sh.map fun _ => 0)) h1 { C with h := .ref M.length, z := vI (N.sh.map fun _ => 0) } rfl
  rw [e2]
  have kk : Keep [ci] (M ++ [O.lst []]) M2 := k1.trans k2
  exact k M2 ((Keep.app (A := [ci])).trans kk) (by rw [l2, l1]; simp) h2 (kk.get new_at (by simp; omega))
theorem is_done_ok (h : CrG M ci C) (hn : NetAt M n N) (hC : C.n = .ref n) {num : Nat} (hk : C.k = .int (num : Int)) (k : P (.bl (decide (num = 5 * N.lay.length))) M) : R.W (m_Crew_is_done [.ref ci] M) P := by
  unfold m_Crew_is_done b_Crew_is_done
  array_get_dec
  refine ⟨_, cg_k h, _, cg_n h, ?_⟩
  rw [hC]
  refine ⟨_, nt_layers hn, ?_⟩
  array_get_dec
  refine ⟨_, rfl, .inl (by show (5 : Int).natAbs < _; decide), ?_⟩
  rw [hk, eq_int, List.length_map]
  have e : decide ((num : Int) = 5 * (N.lay.length : Int)) = decide (num = 5 * N.lay.length) := by
    apply Bool.eq_iff_iff.mpr
    simp
    omega
  rw [e]
  exact k
theorem waiting_ok (h : CrG M ci C) {si : Nat} {ds : List D} (hs : C.s = .ref si) (hl : M[si]? = some (.lst ds)) (k : P (.tup ds) M) : R.W (m_Crew_waiting [.ref ci] M) P := by
  unfold m_Crew_waiting b_Crew_waiting
  array_get_dec
  refine ⟨_, cg_s h, ?_⟩
  rw [hs]
  exact ⟨_, SrcIs.get (.inr (.inr ⟨_, rfl, hl⟩)), k⟩
/-- (number, member) for each member -/
def fresh (num many : Nat) : List (Nat × Nat) := (List.range many).map fun m => (num, m)
def pkF (num : Nat) : D → D
  | .int k => .tup [.int (num : Int), .int k]
  | _ => .non
theorem pkF_map (num many : Nat) : (rngD 0 many).map (pkF num) = (fresh num many).map pk := by
  unfold rngD fresh
  rw [List.map_map, List.map_map]
  refine List.map_congr_left fun m _ => ?_
  show pkF num (.int (0 + (m : Int))) = pk (num, m)
  simp [pkF, pk]
theorem send_all_ok (h : CrG M ci C) (hn : NetAt M n N) (hC : C.n = .ref n) {num many si : Nat} {qs : List (Nat × Nat)} (hk : C.k = .int (num : Int)) (hm : C.many = .int (many : Int)) (hml : many ≤ 1000) (hs : C.s = .ref si) (hl : M[si]? = some (.lst (qs.map pk))) (hq : qs.length ≤ 1000000)
    (k : ∀ M1, Keep [si] M M1 → M1.length = M.length → M1[si]? = some (.lst ((qs ++ if num = 5 * N.lay.length then [] else fresh num many).map pk)) → P .non M1) : R.W (m_Crew_send_all [.ref ci] M) P := by
  unfold m_Crew_send_all b_Crew_send_all
  array_get_dec
  refine ⟨_, h, rfl, is_done_ok h hn hC hk ?_⟩
  refine ⟨_, rfl, ?_⟩
  by_cases hd : num = 5 * N.lay.length
  · rw [if_neg (by simpa using hd)]
    refine k M Keep.refl rfl ?_
    rw [if_pos hd, List.append_nil]
    exact hl
  · rw [if_pos (by simpa using hd)]
    refine ⟨_, cg_s h, ?_⟩
    rw [hs]
    refine ⟨isLst_of hl, _, cg_many h, ?_⟩
    rw [hm]
    refine ⟨_, rfl, by omega, by omega, ?_⟩
    rw [Int.toNat_natCast]
    refine (lc_map (F := pkF num) (Inv := fun M' => M' = M) (fun M' w => rfl) (by show (rngD 0 _).length < _; rw [rng_len]; omega) ?_ rfl).mono ?_
    · rintro z M6 hz rfl
      obtain ⟨t, ht, rfl⟩ := rng_mem hz
      refine ⟨_, rfl, ?_⟩
      array_get_dec
      refine ⟨_, cg_k h, rfl, ?_⟩
      rw [hk]
      rfl
    · rintro zs M6 ⟨rfl, rfl⟩
      rw [show (It3.rng 0 many).items = rngD 0 many from rfl, pkF_map]
      refine ⟨_, rfl, _, hl, _, rfl, okLen_of (by simp [fresh]; omega), ?_⟩
      refine k _ (Keep.set (by simp)) len_set ?_
      rw [set_at hl, if_neg hd, List.map_append]
end


/-! ### rounds -/
def facAt (N : Nt) (rows : List Row) (x0 : Vec) (l j : Nat) : Vec := if j < 3 then xAt N rows x0 l else if j = 3 then inAt N rows x0 l else sqv (tms N.p (lyr N l 3) (inAt N rows x0 l))
def prodAt (N : Nt) (rows : List Row) (x0 : Vec) (l j : Nat) : Vec := tms N.p (lyr N l j) (facAt N rows x0 l j)
/-- the sum over some places -/
def S (Q : Nat → Bool) (row f : Vec) : Int := (((List.range f.length).filter Q).map fun k => row.getD k 0 * f.getD k 0).sum
theorem S_none (row f : Vec) : S (fun _ => false) row f = 0 := by
  unfold S
  rw [List.filter_eq_nil_iff.mpr (by simp)]
  rfl
theorem S_or (Q R : Nat → Bool) (row f : Vec) (h : ∀ k, Q k = true → R k = true → False) : S (fun k => Q k || R k) row f = S Q row f + S R row f := by
  unfold S
  generalize List.range f.length = L
  induction L with
  | nil => rfl
  | cons k L ih =>
    cases hq : Q k with
    | true =>
      cases hr : R k with
      | true => exact (h k hq hr).elim
      | false =>
        simp only [List.filter_cons, hq, hr, Bool.or_false, if_true, List.map_cons, List.sum_cons, Bool.false_eq_true, if_false]
        rw [ih]
        omega
    | false =>
      cases hr : R k with
      | true =>
        simp only [List.filter_cons, hq, hr, Bool.false_or, if_true, List.map_cons, List.sum_cons, Bool.false_eq_true, if_false]
        rw [ih]
        omega
      | false =>
        simp only [List.filter_cons, hq, hr, Bool.or_false, Bool.false_eq_true, if_false]
        exact ih
theorem S_all (Q : Nat → Bool) (row f : Vec) (hl : row.length = f.length) (h : ∀ k, k < f.length → Q k = true) : S Q row f = dot row f := by
  unfold S dot
  rw [List.filter_eq_self.mpr (fun k hk => h k (List.mem_range.mp hk)), zip_range (fun x y => x * y) f.length row f hl rfl]
theorem S_congr {Q R : Nat → Bool} (row f : Vec) (h : ∀ k, k < f.length → Q k = R k) : S Q row f = S R row f := by
  unfold S
  rw [List.filter_congr (fun k hk => h k (List.mem_range.mp hk))]
/-- where a crew stands -/
structure Run where
  many : Nat
  num : Nat
  sent : List (Nat × Nat)
  had : List Nat
  rows : List Row
  x0 : Vec
  ads : List D
def sumV (N : Nt) (R : Run) : Vec := if R.num < 5 * N.lay.length then (lyr N (R.num / 5) (R.num % 5)).map fun row => S (fun k => R.had.contains (k % R.many)) row (facAt N R.rows R.x0 (R.num / 5) (R.num % 5)) % N.p else N.sh.map fun _ => 0
def runG (N : Nt) (n si hi : Nat) (R : Run) : CG := ⟨.ref n, .int (R.many : Int), .ref si, .tup R.ads, vI (xAt N R.rows R.x0 (R.num / 5)), .tup ((List.range (R.num / 5)).map fun i => pairD (prAt N R.rows R.x0 i)), .tup ((List.range (R.num % 5)).map fun j => vI (prodAt N R.rows R.x0 (R.num / 5) j)), .int (R.num : Int), .ref hi, vI (sumV N R)⟩
/-- what stays while a crew goes on -/
structure Base (U : List Nat) (M : Mem) (N : Nt) (n : Nat) (R : Run) : Prop where
  ok : N.Ok
  net : NetAt M n N
  un : n ∉ U
  ads : All2 (RowIs U M) R.ads R.rows
  rok : ∀ r ∈ R.rows, RowOk N r
  rl : R.rows.length ≤ 1000
  x0 : R.x0.length = N.sh.length
  many : 0 < R.many
  manyl : R.many ≤ 1000
theorem Base.keep {U A : List Nat} {M M1 : Mem} {N : Nt} {n : Nat} {R : Run} (b : Base U M N n R) (k : Keep A M M1) (h : ∀ i ∈ A, i ∈ U) : Base U M1 N n R :=
  ⟨b.ok, b.net.keep k (fun z => b.un (h n z)), b.un, b.ads.imp fun _ _ z => z.keep k h, b.rok, b.rl, b.x0, b.many, b.manyl⟩
theorem Base.keep0 {U : List Nat} {M M1 : Mem} {N : Nt} {n : Nat} {R : Run} (b : Base U M N n R) (k : Keep [] M M1) : Base U M1 N n R := b.keep k (by simp)
theorem Base.zero {U : List Nat} {M : Mem} {N : Nt} {n : Nat} {R : Run} (b : Base U M N n R) : Base [] M N n R := ⟨b.ok, b.net, by simp, b.ads.imp fun _ _ z => z.weak (by simp), b.rok, b.rl, b.x0, b.many, b.manyl⟩
section
variable {M : Mem} {ci n si hi : Nat} {N : Nt} {R : Run} {P : D → Mem → Prop} (b : Base [] M N n R) (h : CrG M ci (runG N n si hi R))
include b
theorem fac_length {l j : Nat} (hl : l < N.lay.length) : (facAt N R.rows R.x0 l j).length = N.sh.length := by
  have hx := x_length b.ok b.rok b.x0 l (by omega)
  have hi := in_length b.ok b.rok hl hx
  unfold facAt
  split
  · exact hx
  · split
    · exact hi
    · unfold sqv
      rw [List.length_map, tms_length, (b.ok.lr hl (by decide)).1]
theorem prod_length {l j : Nat} (hl : l < N.lay.length) (hj : j < 5) : (prodAt N R.rows R.x0 l j).length = N.sh.length := by
  unfold prodAt
  rw [tms_length, (b.ok.lr hl hj).1]
include h
theorem inner_ok (hd : R.num < 5 * N.lay.length) (hk : 3 ≤ R.num % 5) (k : ∀ M1, Keep [] M M1 → P (vI (inAt N R.rows R.x0 (R.num / 5))) M1) : L3.R.W (m_Crew_inner [.ref ci] M) P := by
  have hl : R.num / 5 < N.lay.length := by omega
  unfold m_Crew_inner b_Crew_inner
  array_get_dec
  refine ⟨_, cg_k h, ?_⟩
  show L3.R.W (opDiv (.int (R.num : Int)) (.int 5) M) _
  rw [W_div]
  refine ⟨⟨by decide, by decide⟩, _, cg_a h, ?_⟩
  have e5 : ((R.num : Int) / 5) = ((R.num / 5 : Nat) : Int) := by omega
  rw [e5]
  show L3.R.W (srcOf (.tup R.ads) M) _
  rw [W_src_tup]
  refine ⟨_, rfl, ?_⟩
  refine (prev_lc (rows := R.rows) (M := M) (.inl rfl) b.ads (i := R.num / 5) (fun r hr => by rw [(b.rok r hr).len]; exact hl) b.rl (fun d => rfl)).mono ?_
  rintro as M1' ⟨has, rfl⟩
  have hal : as.length = R.rows.length := by rw [has.length]; simp [prev]
  have gr : ∀ (j : Nat), j < R.num % 5 → ∀ P : D → Mem → Prop, P (vI (prodAt N R.rows R.x0 (R.num / 5) j)) M1' → L3.R.W (opIx (runG N n si hi R).r (.int (j : Int)) M1') P := by
    intro j hj P hp
    refine Sq.ix (U := []) (.inl rfl) ?_ hp
    rw [ix_nat, List.getElem?_map, List.getElem?_range hj]
    rfl
  refine ⟨_, cg_r h, ?_⟩
  refine gr 1 (by omega) _ ?_
  refine ⟨_, cg_r h, ?_⟩
  refine gr 2 (by omega) _ ?_
  refine ⟨rfl, rfl, _, rfl, _, rfl, okLen_of (by rw [hal]; have := b.rl; show R.rows.length + 1 ≤ _; omega), ?_⟩
  have kp4 : Keep [] M1' (M1' ++ [O.lst (as ++ [D.tup [vI (prodAt N R.rows R.x0 (R.num / 5) 1), vI (prodAt N R.rows R.x0 (R.num / 5) 2)]])]) := Keep.app
  have h4 := h.keep0 kp4
  refine ⟨_, cg_n h4, _, rfl, _, b.net.keep0 kp4, rfl, _, cg_v h4, _, cg_n h4, _, rfl, _, b.net.keep0 kp4, rfl, _, cg_r h4, ?_⟩
  refine Sq.ix (U := []) (.inl rfl) (x := vI (prodAt N R.rows R.x0 (R.num / 5) 0)) ?_ ?_
  · show L2.atI _ ((0 : Nat) : Int) = _
    rw [ix_nat, List.getElem?_map, List.getElem?_range (by omega)]
    rfl
  have hps := pairs_ok (x0 := R.x0) b.ok b.rok hl
  have hp12 : D.tup [vI (prodAt N R.rows R.x0 (R.num / 5) 1), vI (prodAt N R.rows R.x0 (R.num / 5) 2)] = pairD (prAt N R.rows R.x0 (R.num / 5)) := rfl
  refine look_ok (ps := prev R.rows (R.num / 5) ++ [prAt N R.rows R.x0 (R.num / 5)]) (b.net.keep0 kp4) b.ok.pp IsV.tup (.inr ⟨_, rfl, by simp, new_at⟩) ((has.imp fun _ _ z => z.keep (Keep.app (A := [])) (by simp)).append (by rw [hp12]; exact .one (pairIs_D _))) (small_tms b.ok.pp b.ok.p1) (fun p hp => (hps p hp).2.2.2) (by show (prodAt N R.rows R.x0 (R.num / 5) 0).length ≤ 1000; rw [prod_length b hl (by decide)]; exact b.ok.w) (fun p hp => by rw [(hps p hp).2.1]; exact b.ok.w) ?_
  intro M5 k5
  refine plus_ok (b.net.keep0 (kp4.trans k5)) b.ok.pp IsV.tup IsV.tup (by rw [x_length b.ok b.rok b.x0 _ (by omega)]; have := b.ok.w; omega) ?_
  exact k M5 (kp4.trans k5)
theorem factor_ok (hd : R.num < 5 * N.lay.length) (k : ∀ d M1, Keep [] M M1 → IsV [] M1 d (facAt N R.rows R.x0 (R.num / 5) (R.num % 5)) → P d M1) : L3.R.W (m_Crew_factor [.ref ci] M) P := by
  have hl : R.num / 5 < N.lay.length := by omega
  unfold m_Crew_factor b_Crew_factor
  array_get_dec
  refine ⟨_, cg_k h, ?_⟩
  show L3.R.W (opMod (.int (R.num : Int)) (.int 5) M) _
  rw [W_mod]
  refine ⟨by decide, ?_⟩
  have e5 : ((R.num : Int) % 5) = ((R.num % 5 : Nat) : Int) := by omega
  rw [e5]
  show L3.R.W (opLt (.int _) (.int 3) M) _
  rw [W_lt]
  refine ⟨_, rfl, ?_⟩
  by_cases h3 : R.num % 5 < 3
  · rw [if_pos (decide_eq_true (by omega))]
    refine ⟨_, cg_v h, k _ M Keep.refl (.inl ?_)⟩
    unfold facAt
    rw [if_pos h3]
    rfl
  · rw [if_neg (by simp; omega)]
    show L3.R.W (opEq (.int _) (.int 3) M) _
    rw [eq_int]
    refine ⟨_, rfl, ?_⟩
    by_cases h4 : R.num % 5 = 3
    · rw [if_pos (decide_eq_true (by omega))]
      refine ⟨_, h, rfl, inner_ok b h hd (by omega) fun M1 k1 => ?_⟩
      refine k _ M1 k1 (.inl ?_)
      unfold facAt
      rw [if_neg h3, if_pos h4]
      rfl
    · rw [if_neg (by simp; omega)]
      refine ⟨_, cg_r h, ?_⟩
      refine Sq.ix (U := []) (.inl rfl) (x := vI (prodAt N R.rows R.x0 (R.num / 5) 3)) ?_ ?_
      · show L2.atI _ ((3 : Nat) : Int) = _
        rw [ix_nat, List.getElem?_map, List.getElem?_range (by omega)]
        rfl
      unfold vI
      array_get_dec
      refine ⟨_, rfl, ?_⟩
      have e3 : prodAt N R.rows R.x0 (R.num / 5) 3 = tms N.p (lyr N (R.num / 5) 3) (inAt N R.rows R.x0 (R.num / 5)) := rfl
      rw [e3]
      refine (lc_map (F := sqD) (Inv := fun M' => M' = M) (fun M' w => rfl) (by show (List.map D.int _).length < _; rw [List.length_map, tms_length, (b.ok.lr hl (by decide)).1]; have := b.ok.w; omega) ?_ rfl).mono ?_
      · rintro w M6 hw rfl
        obtain ⟨y, hy, rfl⟩ := List.mem_map.mp (show w ∈ List.map D.int _ from hw)
        refine ⟨_, rfl, ?_⟩
        array_get_dec
        exact ⟨.inl (small_tms b.ok.pp b.ok.p1 y hy), rfl⟩
      rintro ws M6 ⟨rfl, rfl⟩
      refine k _ _ Keep.app (.inr ⟨_, rfl, by simp, ?_⟩)
      rw [new_at]
      have e4 : facAt N R.rows R.x0 (R.num / 5) (R.num % 5) = sqv (tms N.p (lyr N (R.num / 5) 3) (inAt N R.rows R.x0 (R.num / 5))) := by
        unfold facAt
        rw [if_neg h3, if_neg h4]
      rw [e4, ← sq_map]
      rfl
end


def partV (N : Nt) (R : Run) (mem : Nat) : Vec := (lyr N (R.num / 5) (R.num % 5)).map fun row => S (fun k => k % R.many == mem) row (facAt N R.rows R.x0 (R.num / 5) (R.num % 5))
def dNat : D → Nat
  | .int k => k.toNat
  | _ => 0
theorem cols_eq (n many mem : Nat) : ((rngD 0 n).filter fun d => decide ((dNat d) % many = mem)).map id = (LsI ((List.range n).filter fun k => k % many == mem)).map D.int := by
  rw [List.map_id]
  unfold rngD LsI
  rw [List.filter_map, List.map_map]
  have e : ((fun d => decide (dNat d % many = mem)) ∘ fun (k : Nat) => D.int (0 + (k : Int))) = fun k => k % many == mem := by
    funext k
    show decide (dNat (D.int (0 + (k : Int))) % many = mem) = (k % many == mem)
    simp [dNat]
    rfl
  rw [e]
  refine List.map_congr_left fun k _ => ?_
  simp
theorem S_ints (Q : Nat → Bool) (row f : Vec) : S Q row f = (((List.range f.length).filter Q).map fun k => row.getD k 0 * f.getD k 0).sum := rfl
section
variable {M : Mem} {ci n si hi : Nat} {N : Nt} {R : Run} {P : D → Mem → Prop} (b : Base [] M N n R) (h : CrG M ci (runG N n si hi R))
include b h
theorem part_ok {mem : Nat} (hd : R.num < 5 * N.lay.length) (k : ∀ d M1, Keep [] M M1 → IsV [] M1 d (partV N R mem) → P d M1) : L3.R.W (m_Crew_part [.ref ci, .int (mem : Int)] M) P := by
  have hl : R.num / 5 < N.lay.length := by omega
  have hj : R.num % 5 < 5 := by omega
  have hW := b.ok.w
  unfold m_Crew_part b_Crew_part
  array_get_dec
  refine ⟨_, cg_n h, _, nt_layers b.net, _, cg_k h, ?_⟩
  show L3.R.W (opDiv (.int (R.num : Int)) (.int 5) M) _
  rw [W_div]
  refine ⟨⟨by decide, by decide⟩, ?_⟩
  have e5 : ((R.num : Int) / 5) = ((R.num / 5 : Nat) : Int) := by omega
  rw [e5, W_ixT]
  refine ⟨_, by rw [ix_nat]; exact lay_get hl, _, cg_k h, ?_⟩
  show L3.R.W (opMod (.int (R.num : Int)) (.int 5) M) _
  rw [W_mod]
  refine ⟨by decide, ?_⟩
  have e6 : ((R.num : Int) % 5) = ((R.num % 5 : Nat) : Int) := by omega
  rw [e6]
  unfold lyI
  rw [W_ixT]
  refine ⟨mI (lyr N (R.num / 5) (R.num % 5)), ?_, _, h, rfl, ?_⟩
  · have h5 := b.ok.ly hl
    rw [ix_nat, List.getElem?_map, List.getElem?_eq_getElem (by omega)]
    show some (mI _) = some (mI _)
    unfold lyr
    rw [List.getD_eq_getElem?_getD (l := N.lay.getD (R.num / 5) []), List.getElem?_eq_getElem (by omega)]
    rfl
  refine factor_ok b h hd fun d M1 k1 hf => ?_
  have hfl := fac_length (j := R.num % 5) b hl
  have hrow := b.ok.lr hl hj
  have hpv : partV N R mem = (lyr N (R.num / 5) (R.num % 5)).map fun row => S (fun k => k % R.many == mem) row (facAt N R.rows R.x0 (R.num / 5) (R.num % 5)) := rfl
  generalize facAt N R.rows R.x0 (R.num / 5) (R.num % 5) = f at *
  refine hf.src fun x hx => ⟨_, hx.get, by rw [List.length_map]; omega, by rw [List.length_map]; omega, ?_⟩
  rw [Int.toNat_natCast, List.length_map]
  have hc1 := h.keep0 k1
  refine (lc_gen (p := fun d => decide ((dNat d) % R.many = mem)) (F := id) (Inv := fun _ M' => M' = M1) (fun _ M' w => rfl) (by show (rngD 0 _).length < _; rw [rng_len]; omega) ?_ rfl).mono ?_
  · rintro t d' M' ht rfl
    obtain ⟨ht', rfl⟩ := rng_at (show (rngD 0 f.length)[t]? = some d' from ht)
    refine ⟨_, rfl, ?_⟩
    array_get_dec
    refine ⟨_, cg_many hc1, ?_⟩
    show L3.R.W (opMod (.int (t : Int)) (.int (R.many : Int)) M') _
    rw [W_mod]
    have hm := b.many
    refine ⟨by omega, ?_⟩
    rw [eq_int]
    refine ⟨_, rfl, ?_⟩
    have e : decide ((t : Int) % (R.many : Int) = (mem : Int)) = decide ((dNat (.int (t : Int))) % R.many = mem) := by
      have hh : ((t : Int) % (R.many : Int) = (mem : Int)) ↔ (t % R.many = mem) := ⟨fun h => by exact_mod_cast h, fun h => by exact_mod_cast h⟩
      simp only [dNat, Int.toNat_natCast]
      exact decide_eq_decide.mpr hh
    refine ⟨e, ?_⟩
    split
    · exact ⟨rfl, rfl⟩
    · rfl
  rintro cs M2 ⟨rfl, rfl⟩
  rw [show (It3.rng 0 f.length).items = rngD 0 f.length from rfl, cols_eq]
  have k2 : Keep [] M (M2 ++ [O.lst ((LsI ((List.range f.length).filter fun k => k % R.many == mem)).map D.int)]) := k1.trans Keep.app
  have hf2 := hf.keep0 (Keep.app (X := [O.lst ((LsI ((List.range f.length).filter fun k => k % R.many == mem)).map D.int)]))
  have h4 := new_at (M := M2) (o := O.lst ((LsI ((List.range f.length).filter fun k => k % R.many == mem)).map D.int))
  generalize (M2 ++ [O.lst ((LsI ((List.range f.length).filter fun k => k % R.many == mem)).map D.int)]) = M3 at *
  unfold mI
  array_get_dec
  refine ⟨_, rfl, ?_⟩
  refine (lc_map (F := fun d => .int (S (fun k => k % R.many == mem) (unI d) f)) (Inv := fun M' => M' = M3) (fun M' w => rfl) (by show (List.map vI _).length < _; rw [List.length_map, hrow.1]; omega) ?_ rfl).mono ?_
  · rintro q M' hq rfl
    obtain ⟨r, hr, rfl⟩ := List.mem_map.mp (show q ∈ List.map vI _ from hq)
    have hrl := (hrow.2 r hr).1
    refine ⟨_, rfl, ?_⟩
    array_get_dec
    refine ⟨_, SrcIs.get (.inr (.inr ⟨_, rfl, h4⟩)), ?_⟩
    refine (lc_map (F := ixF fun k => r.getD k 0 * f.getD k 0) (Inv := fun M2 => M2 = M') (fun M2 w => by rw [w]; exact SrcIs.still (.inr (.inr ⟨_, rfl, h4⟩))) ?_ ?_ rfl).mono ?_
    · show (List.map D.int (LsI _)).length < _
      have := List.length_filter_le (fun k => k % R.many == mem) (List.range f.length)
      rw [List.length_range] at this
      simp only [List.length_map]
      omega
    · rintro z M4 hz rfl
      obtain ⟨y, hy, rfl⟩ := List.mem_map.mp (show z ∈ List.map D.int (LsI _) from hz)
      obtain ⟨t, ht, rfl⟩ := List.mem_map.mp hy
      have htl : t < f.length := List.mem_range.mp (List.mem_filter.mp ht).1
      refine ⟨_, rfl, ?_⟩
      array_get_dec
      refine Sq.ix (U := []) IsV.tup (by rw [ix_nat]; exact getD_at (by omega)) ?_
      refine hf2.ix (by rw [ix_nat]; exact getD_at htl) ?_
      array_get_dec
      refine ⟨.inl ((hrow.2 r hr).2 _ (getD_mem (by omega))), ?_⟩
      simp [ixF]
    · rintro zs M4 ⟨rfl, rfl⟩
      refine ⟨rfl, _, rfl, (((List.range f.length).filter fun k => k % R.many == mem).map fun k => r.getD k 0 * f.getD k 0), ?_, ?_, rfl⟩
      · show intsOf (((LsI ((List.range f.length).filter fun k => k % R.many == mem)).map D.int).map (ixF fun k => r.getD k 0 * f.getD k 0)) = _
        rw [← intsOf_map]
        congr 1
        rw [List.map_map, List.map_map, List.map_map]
        refine List.map_congr_left fun t _ => ?_
        simp [ixF]
      · rw [unI_vI]
        rfl
  · rintro zs M4 ⟨rfl, rfl⟩
    refine k _ _ (k2.trans Keep.app) (.inr ⟨_, rfl, by simp, ?_⟩)
    rw [new_at, hpv]
    show some (O.lst ((List.map vI _).map _)) = _
    rw [List.map_map, List.map_map]
    congr 2
    refine List.map_congr_left fun r _ => ?_
    show D.int (S _ (unI (vI r)) f) = D.int (S _ r f)
    rw [unI_vI]
end


theorem S_zero_map {N : Nt} (ok : N.Ok) {A : List Vec} (hA : A.length = N.sh.length) (f : Vec) : (A.map fun row => S (fun k => ([] : List Nat).contains (k % 1)) row f % N.p) = N.sh.map fun _ => 0 := by
  have e : ∀ row, S (fun k => ([] : List Nat).contains (k % 1)) row f % N.p = 0 := by
    intro row
    have : S (fun k => ([] : List Nat).contains (k % 1)) row f = 0 := S_none row f
    rw [this]
    simp
  rw [show (fun row => S (fun k => ([] : List Nat).contains (k % 1)) row f % N.p) = fun _ => (0 : Int) from funext e]
  rw [List.map_const', List.map_const', hA]
theorem sumV_new {N : Nt} (ok : N.Ok) {R : Run} (h : R.had = []) (hn : R.num ≤ 5 * N.lay.length) : sumV N R = N.sh.map fun _ => 0 := by
  unfold sumV
  split
  · have hl : R.num / 5 < N.lay.length := by omega
    have hA := (ok.lr (j := R.num % 5) hl (by omega)).1
    rw [h]
    exact S_zero_map ok hA _
  · rfl
/-- one more part -/
theorem sumV_add {N : Nt} (ok : N.Ok) {R : Run} (hn : R.num < 5 * N.lay.length) {m : Nat} (hm : m ∉ R.had) : pls N.p (sumV N R) (partV N R m) = sumV N { R with had := R.had ++ [m] } := by
  unfold sumV partV pls
  rw [if_pos hn, if_pos hn]
  dsimp only
  rw [List.zipWith_map, List.zipWith_self]
  refine List.map_congr_left fun row _ => ?_
  rw [Int.emod_add_emod, ← S_or]
  · congr 1
    refine S_congr _ _ fun k _ => ?_
    rw [List.contains_append]
    simp
    rfl
  · intro k h1 h2
    have : k % R.many = m := by simpa using h2
    rw [this] at h1
    exact hm (by simpa using h1)
/-- all parts -/
theorem sumV_all {N : Nt} {n : Nat} {M : Mem} {R : Run} (b : Base [] M N n R) (hn : R.num < 5 * N.lay.length) (h : ∀ m, m < R.many → m ∈ R.had) : sumV N R = prodAt N R.rows R.x0 (R.num / 5) (R.num % 5) := by
  have hl : R.num / 5 < N.lay.length := by omega
  have hr := b.ok.lr (j := R.num % 5) hl (by omega)
  unfold sumV prodAt tms
  rw [if_pos hn]
  refine List.map_congr_left fun row hrow => ?_
  rw [S_all _ _ _ (by rw [(hr.2 row hrow).1, fac_length b hl])]
  intro k _
  have := h (k % R.many) (Nat.mod_lt _ b.many)
  simpa using this
section
variable {M : Mem} {ci n si hi : Nat} {N : Nt} {R : Run} {P : D → Mem → Prop}
theorem sizeLine16 : PySem.sizeLine = 16777216 := by rfl
theorem aug_ok {M : Mem} {ci : Nat} {C : CG} (h : CrG M ci C) {num : Int} (hk : C.k = .int num) {s : Sl} (hs : s[0]? = some (some (.ref ci))) {N : Sl → Mem → Prop} {T : D → Mem → Prop} (k : ∀ M1, Keep [ci] M M1 → M1.length = M.length → CrG M1 ci { C with k := .int (num + 1) } → N s M1) :
    RS.V (sFldAug "Crew" "number" opAddI (eV 0) (eC (.int 1)) s M) N T := by
  unfold sFldAug
  rw [V_bindS, W_eV]
  refine ⟨_, hs, ?_⟩
  rw [V_onIns]
  refine ⟨ci, cgF C, rfl, h, ?_⟩
  have e : (cgF C).lookup "number" = some C.k := rfl
  rw [e, hk]
  dsimp only
  rw [V_bindS, W_eC, V_bindS, W_addI, V_onIns]
  refine ⟨ci, cgF C, rfl, h, ?_⟩
  rw [if_pos (cgF_len C), V_nx]
  obtain ⟨M1, e1, k1, l1, h1⟩ := cg_set "number" (.int (num + 1)) h { C with k := .int (num + 1) } rfl
  rw [e1]
  exact k M1 k1 l1 h1
def erTail : MS := sq (sFldAug "Crew" "number" opAddI (eV 0) (eC (.int 1))) (sq (sDrop (eMeth "Crew" "begin_round" 1 m_Crew_begin_round (eV 0) aNil)) (sDrop (eMeth "Crew" "send_all" 1 m_Crew_send_all (eV 0) aNil)))
/-- what end_round leaves -/
def nextR (N : Nt) (R : Run) : Run := { R with num := R.num + 1, had := [], sent := R.sent ++ if R.num + 1 = 5 * N.lay.length then [] else fresh (R.num + 1) R.many }
theorem end_round_ok (b : Base [ci, si] M N n R) (h : CrG M ci (runG N n si hi R)) (hs : M[si]? = some (.lst (R.sent.map pk))) (hne : ci ≠ si) (hd : R.num < 5 * N.lay.length) (hsum : sumV N R = prodAt N R.rows R.x0 (R.num / 5) (R.num % 5)) (hsl : R.sent.length ≤ 1000000)
    (k : ∀ hi' M1, Keep [ci, si] M M1 → M.length ≤ hi' → CrG M1 ci (runG N n si hi' (nextR N R)) → M1[si]? = some (.lst ((nextR N R).sent.map pk)) → M1[hi']? = some (.lst []) → P .non M1) : L3.R.W (m_Crew_end_round [.ref ci] M) P := by
  have hl : R.num / 5 < N.lay.length := by omega
  have hcn : n ≠ ci := fun z => b.un (by simp [z])
  have hsn : n ≠ si := fun z => b.un (by simp [z])
  have hcl := (List.getElem?_eq_some_iff.mp h).1
  have hslt := (List.getElem?_eq_some_iff.mp hs).1
  have e6 : ((R.num : Int) % 5) = ((R.num % 5 : Nat) : Int) := by omega
  -- the tail: number += 1; begin_round; send_all
  have tail : ∀ (M1 : Mem) (v o r z : D), Keep [ci] M M1 → CrG M1 ci ⟨.ref n, .int (R.many : Int), .ref si, .tup R.ads, v, o, r, .int (R.num : Int), .ref hi, z⟩ → v = vI (xAt N R.rows R.x0 ((R.num + 1) / 5)) → o = .tup ((List.range ((R.num + 1) / 5)).map fun i => pairD (prAt N R.rows R.x0 i)) → r = .tup ((List.range ((R.num + 1) % 5)).map fun j => vI (prodAt N R.rows R.x0 ((R.num + 1) / 5) j)) →
      ∀ o1 o2, RS.V (erTail [some (.ref ci), o1, o2] M1) (fun _ M => P .non M) P := by
    intro M1 v o r z k1 h1 ev eo er o1 o2
    unfold erTail
    rw [V_sq]
    refine aug_ok h1 rfl rfl fun M2 k2 l2 h2 => ?_
    have k02 := k1.trans k2
    array_get_dec
    refine ⟨_, h2, rfl, begin_round_ok h2 (b.net.keep k02 (by simpa using hcn)) rfl hcn b.ok fun M3 k3 l3 h3 hh3 => ?_⟩
    have k03 := k02.trans k3
    have hs3 := k03.get hs (by simpa using (Ne.symm hne))
    refine ⟨_, h3, rfl, send_all_ok (num := R.num + 1) (many := R.many) (qs := R.sent) h3 (b.net.keep k03 (by simpa using hcn)) rfl (by show D.int _ = D.int _; simp) rfl b.manyl rfl hs3 hsl fun M4 k4 l4 hs4 => ?_⟩
    have hM2 : M.length ≤ M2.length := k02.len
    have hsi2 : si ≠ M2.length := by omega
    refine k M2.length M4 ((k03.mono (by simp)).trans (k4.mono (by simp))) hM2 ?_ hs4 (k4.get hh3 (by simpa using (Ne.symm hsi2)))
    have h4 := h3.keep k4 (by simpa using hne)
    have ez : vI (N.sh.map fun _ => 0) = vI (sumV N (nextR N R)) := by
      rw [sumV_new b.ok rfl (by show R.num + 1 ≤ _; omega)]
    rw [ev, eo, er, ez] at h4
    have en : ((R.num : Int) + 1) = ((R.num + 1 : Nat) : Int) := by omega
    rw [en] at h4
    exact h4
  unfold m_Crew_end_round b_Crew_end_round
  rw [W_fnB]
  change RS.V (sq _ (sq _ erTail) _ _) _ _
  array_get_dec
  refine ⟨_, cg_k h, ?_⟩
  show L3.R.W (opMod (.int (R.num : Int)) (.int 5) M) _
  rw [W_mod]
  refine ⟨by decide, ?_⟩
  rw [e6]
  show L3.R.W (opEq (.int _) (.int 4) M) _
  rw [eq_int]
  refine ⟨_, rfl, ?_⟩
  have hres : ∀ {M' : Mem} (j : Nat), j < R.num % 5 → ∀ P : D → Mem → Prop, P (vI (prodAt N R.rows R.x0 (R.num / 5) j)) M' → L3.R.W (opIx (runG N n si hi R).r (.int (j : Int)) M') P := by
    intro M' j hj P hp
    refine Sq.ix (U := []) (.inl rfl) ?_ hp
    rw [ix_nat, List.getElem?_map, List.getElem?_range hj]
    rfl
  by_cases h4 : R.num % 5 = 4
  · rw [if_pos (decide_eq_true (by omega))]
    refine ⟨_, cg_r h, hres 1 (by omega) _ ⟨_, cg_r h, hres 2 (by omega) _ ⟨rfl, ?_⟩⟩⟩
    refine ⟨_, cg_n h, _, rfl, _, b.net, rfl, _, h, rfl, inner_ok b.zero h hd (by omega) fun M1 k1 => ?_⟩
    have h1 := h.keep0 k1
    refine ⟨_, cg_z h1, ?_⟩
    have hil := in_length b.ok b.rok hl (x_length b.ok b.rok b.x0 _ (by omega))
    refine plus_ok (b.net.keep0 k1) b.ok.pp IsV.tup IsV.tup (by rw [hil]; have := b.ok.w; omega) ?_
    refine ⟨_, h1, cgF_len _, ?_⟩
    have ex : pls N.p (inAt N R.rows R.x0 (R.num / 5)) (sumV N R) = xAt N R.rows R.x0 ((R.num + 1) / 5) := by
      rw [hsum, h4, show (R.num + 1) / 5 = R.num / 5 + 1 by omega, xAt_succ]
      rfl
    rw [ex]
    obtain ⟨M2, e2, k2, l2, h2⟩ := cg_set "vector" (vI (xAt N R.rows R.x0 ((R.num + 1) / 5))) h1 { runG N n si hi R with v := vI (xAt N R.rows R.x0 ((R.num + 1) / 5)) } rfl
    rw [e2]
    refine ⟨_, cg_o h2, rfl, ?_⟩
    rw [show (runG N n si hi R).o = .tup ((List.range (R.num / 5)).map fun i => pairD (prAt N R.rows R.x0 i)) from rfl, W_addT]
    have hL := b.ok.layl
    refine ⟨by rw [List.length_map, List.length_range]; show _ + 1 ≤ PySem.sizeLine; rw [sizeLine16]; omega, ?_⟩
    have eo : (((List.range (R.num / 5)).map fun i => pairD (prAt N R.rows R.x0 i)) ++ [D.tup [vI (prodAt N R.rows R.x0 (R.num / 5) 1), vI (prodAt N R.rows R.x0 (R.num / 5) 2)]]) = (List.range ((R.num + 1) / 5)).map fun i => pairD (prAt N R.rows R.x0 i) := by
      rw [show (R.num + 1) / 5 = R.num / 5 + 1 by omega, List.range_succ, List.map_append]
      rfl
    rw [eo]
    refine ⟨_, h2, cgF_len _, ?_⟩
    obtain ⟨M3, e3, k3, l3, h3⟩ := cg_set "own" (.tup ((List.range ((R.num + 1) / 5)).map fun i => pairD (prAt N R.rows R.x0 i))) h2 { runG N n si hi R with v := vI (xAt N R.rows R.x0 ((R.num + 1) / 5)), o := .tup ((List.range ((R.num + 1) / 5)).map fun i => pairD (prAt N R.rows R.x0 i)) } rfl
    rw [e3]
    refine ⟨rfl, _, h3, cgF_len _, ?_⟩
    obtain ⟨M4, e4, k4, l4, h4'⟩ := cg_set "results" (.tup []) h3 { runG N n si hi R with v := vI (xAt N R.rows R.x0 ((R.num + 1) / 5)), o := .tup ((List.range ((R.num + 1) / 5)).map fun i => pairD (prAt N R.rows R.x0 i)), r := .tup [] } rfl
    rw [e4]
    refine tail M4 _ _ _ _ (((k1.nil.trans k2).trans k3).trans k4) h4' rfl rfl ?_ _ _
    rw [show (R.num + 1) % 5 = 0 by omega]
    rfl
  · rw [if_neg (by simp; omega)]
    refine ⟨_, cg_r h, _, cg_z h, rfl, ?_⟩
    rw [show (runG N n si hi R).r = .tup ((List.range (R.num % 5)).map fun j => vI (prodAt N R.rows R.x0 (R.num / 5) j)) from rfl, W_addT]
    refine ⟨by rw [List.length_map, List.length_range]; show _ + 1 ≤ PySem.sizeLine; rw [sizeLine16]; omega, ?_⟩
    have er : (((List.range (R.num % 5)).map fun j => vI (prodAt N R.rows R.x0 (R.num / 5) j)) ++ [(runG N n si hi R).z]) = (List.range ((R.num + 1) % 5)).map fun j => vI (prodAt N R.rows R.x0 ((R.num + 1) / 5) j) := by
      rw [show (R.num + 1) % 5 = R.num % 5 + 1 by omega, show (R.num + 1) / 5 = R.num / 5 by omega, List.range_succ, List.map_append]
      show _ ++ [vI (sumV N R)] = _
      rw [hsum]
      rfl
    rw [er]
    refine ⟨_, h, cgF_len _, ?_⟩
    obtain ⟨M4, e4, k4, l4, h4'⟩ := cg_set "results" (.tup ((List.range ((R.num + 1) % 5)).map fun j => vI (prodAt N R.rows R.x0 ((R.num + 1) / 5) j))) h { runG N n si hi R with r := .tup ((List.range ((R.num + 1) % 5)).map fun j => vI (prodAt N R.rows R.x0 ((R.num + 1) / 5) j)) } rfl
    rw [e4]
    refine tail M4 _ _ _ _ k4 h4' ?_ ?_ rfl _ _
    · rw [show (R.num + 1) / 5 = R.num / 5 by omega]
      rfl
    · rw [show (R.num + 1) / 5 = R.num / 5 by omega]
      rfl
end


theorem subset_length : ∀ (l l' : List Nat), l.Nodup → (∀ x ∈ l, x ∈ l') → l.length ≤ l'.length
  | [], _, _, _ => Nat.zero_le _
  | a :: l, l', nd, h => by
    have ha := h a List.mem_cons_self
    have nd' := List.nodup_cons.mp nd
    have ih := subset_length l (l'.erase a) nd'.2 fun x hx => by
      have hne : x ≠ a := fun z => nd'.1 (z ▸ hx)
      exact (List.mem_erase_of_ne hne).mpr (h x (List.mem_cons_of_mem _ hx))
    rw [List.length_erase_of_mem ha] at ih
    have : 0 < l'.length := List.length_pos_of_mem ha
    rw [List.length_cons]
    omega
theorem full {l : List Nat} {n : Nat} (nd : l.Nodup) (h : ∀ x ∈ l, x < n) (hl : l.length = n) : ∀ m, m < n → m ∈ l := by
  intro m hm
  apply Classical.byContradiction
  intro hn
  have := subset_length (m :: l) (List.range n) (List.nodup_cons.mpr ⟨hn, nd⟩) fun x hx => by
    rcases List.mem_cons.mp hx with rfl | hx
    · exact List.mem_range.mpr hm
    · exact List.mem_range.mpr (h x hx)
  rw [List.length_cons, List.length_range] at this
  omega
theorem mem_erase {α : Type} : ∀ {l : List α} {i : Nat} {x y : α}, l[i]? = some y → x ∈ l → x ≠ y → x ∈ l.eraseIdx i
  | [], _, _, _, h, _, _ => by simp at h
  | a :: l, 0, x, y, h, hx, hne => by
    simp at h
    subst h
    rcases List.mem_cons.mp hx with rfl | hx
    · exact absurd rfl hne
    · exact hx
  | a :: l, i + 1, x, y, h, hx, hne => by
    rw [List.eraseIdx_cons_succ]
    rcases List.mem_cons.mp hx with rfl | hx
    · exact List.mem_cons_self
    · exact List.mem_cons_of_mem _ (mem_erase (by simpa using h) hx hne)
/-- the rules that hold of a crew's state -/
structure RunOk (N : Nt) (R : Run) : Prop where
  le : R.num ≤ 5 * N.lay.length
  nd : R.had.Nodup
  lt : ∀ m ∈ R.had, m < R.many
  hl : R.had.length < R.many
  sent : ∀ q ∈ R.sent, q.1 ≤ R.num ∧ q.1 < 5 * N.lay.length ∧ q.2 < R.many
  wait : R.num < 5 * N.lay.length → ∀ m, m < R.many → m ∉ R.had → (R.num, m) ∈ R.sent
def wantB (R : Run) (q : Nat × Nat) : Bool := decide (q.1 = R.num) && !(R.had.contains q.2)
def cutR (R : Run) (i : Nat) : Run := { R with sent := R.sent.eraseIdx i }
def addR (R : Run) (m : Nat) : Run := { R with had := R.had ++ [m] }
def delR (N : Nt) (R : Run) (i : Nat) (q : Nat × Nat) : Run := if wantB R q = true then (if R.had.length + 1 = R.many then nextR N (addR (cutR R i) q.2) else addR (cutR R i) q.2) else cutR R i
theorem wantB_iff {R : Run} {q : Nat × Nat} : wantB R q = true ↔ q.1 = R.num ∧ q.2 ∉ R.had := by
  unfold wantB
  simp
theorem runOk_cut {N : Nt} {R : Run} (o : RunOk N R) {i : Nat} {q : Nat × Nat} (hq : R.sent[i]? = some q) (hw : wantB R q = false) : RunOk N (cutR R i) :=
  ⟨o.le, o.nd, o.lt, o.hl, fun z hz => o.sent z (List.mem_of_mem_eraseIdx hz), fun hn m hm hh => mem_erase hq (o.wait hn m hm hh) fun e => by
    have : wantB R q = true := wantB_iff.mpr ⟨by rw [← e]; rfl, by rw [← e]; exact hh⟩
    rw [hw] at this
    cases this⟩
theorem runOk_del {N : Nt} {R : Run} (o : RunOk N R) {i : Nat} {q : Nat × Nat} (hq : R.sent[i]? = some q) : RunOk N (delR N R i q) := by
  have hqm := o.sent q (List.mem_of_getElem? hq)
  unfold delR
  split
  · rename_i hw
    obtain ⟨h1, h2⟩ := wantB_iff.mp hw
    have hn : R.num < 5 * N.lay.length := by omega
    split
    · rename_i hl
      refine ⟨(by show R.num + 1 ≤ _; omega), List.nodup_nil, (by intro m hm; cases hm), (by show 0 < R.many; omega), fun z hz => ?_, fun hn' m hm _ => ?_⟩
      · rcases List.mem_append.mp hz with hz | hz
        · have := o.sent z (List.mem_of_mem_eraseIdx hz)
          show z.1 ≤ R.num + 1 ∧ _ ∧ _
          exact ⟨by omega, this.2⟩
        · split at hz
          · cases hz
          · rename_i hne
            obtain ⟨m, hm, rfl⟩ := List.mem_map.mp hz
            have := List.mem_range.mp hm
            refine ⟨Nat.le_refl _, ?_, this⟩
            show R.num + 1 < _
            have hne' : ¬ R.num + 1 = 5 * N.lay.length := hne
            omega
      · refine List.mem_append_right _ ?_
        have hne : ¬ R.num + 1 = 5 * N.lay.length := by
          have : R.num + 1 < 5 * N.lay.length := hn'
          omega
        show (R.num + 1, m) ∈ if R.num + 1 = 5 * N.lay.length then [] else fresh (R.num + 1) R.many
        rw [if_neg hne]
        exact List.mem_map.mpr ⟨m, List.mem_range.mpr hm, rfl⟩
    · rename_i hl
      refine ⟨o.le, ?_, fun m hm => ?_, ?_, fun z hz => o.sent z (List.mem_of_mem_eraseIdx hz), fun hn m hm hh => ?_⟩
      · show (R.had ++ [q.2]).Nodup
        rw [List.nodup_append]
        exact ⟨o.nd, by simp, fun a ha b hb => by
          rw [List.mem_singleton.mp hb]
          exact fun z => h2 (z ▸ ha)⟩
      · rcases List.mem_append.mp hm with hm | hm
        · exact o.lt m hm
        · rw [List.mem_singleton.mp hm]
          exact hqm.2.2
      · show (R.had ++ [q.2]).length < R.many
        rw [List.length_append]
        have := o.hl
        show R.had.length + 1 < R.many
        omega
      · have hh' : m ∉ R.had ++ [q.2] := hh
        have hm1 : m ∉ R.had := fun z => hh' (List.mem_append_left _ z)
        have hm2 : m ≠ q.2 := fun z => hh' (by simp [z])
        exact mem_erase hq (o.wait hn m hm hm1) fun e => hm2 (by rw [← e])
  · rename_i hw
    exact runOk_cut o hq (by simpa using hw)
/-- a part is lost, and sent anew if it lacks -/
def loseR (R : Run) (i : Nat) (q : Nat × Nat) : Run := if wantB R q = true ∧ (R.sent.eraseIdx i).contains q = false then { R with sent := R.sent.eraseIdx i ++ [q] } else cutR R i
theorem runOk_lose {N : Nt} {R : Run} (o : RunOk N R) {i : Nat} {q : Nat × Nat} (hq : R.sent[i]? = some q) : RunOk N (loseR R i q) := by
  have hqm := o.sent q (List.mem_of_getElem? hq)
  unfold loseR
  split
  · refine ⟨o.le, o.nd, o.lt, o.hl, fun z hz => ?_, fun hn m hm hh => ?_⟩
    · rcases List.mem_append.mp hz with hz | hz
      · exact o.sent z (List.mem_of_mem_eraseIdx hz)
      · rw [List.mem_singleton.mp hz]; exact hqm
    · have := o.wait hn m hm hh
      show (R.num, m) ∈ R.sent.eraseIdx i ++ [q]
      by_cases e : (R.num, m) = q
      · rw [e]; simp
      · exact List.mem_append_left _ (mem_erase hq this e)
  · rename_i h
    refine ⟨o.le, o.nd, o.lt, o.hl, fun z hz => o.sent z (List.mem_of_mem_eraseIdx hz), fun hn m hm hh => ?_⟩
    have := o.wait hn m hm hh
    by_cases e : (R.num, m) = q
    · have hw : wantB R q = true := wantB_iff.mpr ⟨by rw [← e], by rw [← e]; exact hh⟩
      have hc : (R.sent.eraseIdx i).contains q = true := by
        cases hcc : (R.sent.eraseIdx i).contains q with
        | true => rfl
        | false => exact absurd ⟨hw, hcc⟩ h
      show (R.num, m) ∈ R.sent.eraseIdx i
      rw [e]
      simpa using hc
    · exact mem_erase hq this e
def dblR (R : Run) (q : Nat × Nat) : Run := { R with sent := R.sent ++ [q] }
theorem runOk_dbl {N : Nt} {R : Run} (o : RunOk N R) {q : Nat × Nat} (hq : q ∈ R.sent) : RunOk N (dblR R q) :=
  ⟨o.le, o.nd, o.lt, o.hl, fun z hz => by
    rcases List.mem_append.mp hz with hz | hz
    · exact o.sent z hz
    · rw [List.mem_singleton.mp hz]; exact o.sent q hq, fun hn m hm hh => List.mem_append_left _ (o.wait hn m hm hh)⟩

/-! ### a crew's methods -/
structure CrewAt (M : Mem) (ci si hi n : Nat) (N : Nt) (R : Run) : Prop where
  g : CrG M ci (runG N n si hi R)
  s : M[si]? = some (.lst (R.sent.map pk))
  h : M[hi]? = some (.lst ((LsI R.had).map D.int))
  d1 : ci ≠ si
  d2 : ci ≠ hi
  d3 : si ≠ hi
theorem CrewAt.keep {A : List Nat} {M M1 : Mem} {ci si hi n : Nat} {N : Nt} {R : Run} (c : CrewAt M ci si hi n N R) (k : Keep A M M1) (h1 : ci ∉ A) (h2 : si ∉ A) (h3 : hi ∉ A) : CrewAt M1 ci si hi n N R := ⟨c.g.keep k h1, k.get c.s h2, k.get c.h h3, c.d1, c.d2, c.d3⟩
section
variable {M : Mem} {ci n si hi : Nat} {N : Nt} {R : Run} {P : D → Mem → Prop}
theorem map_erase {α β : Type} (f : α → β) : ∀ (l : List α) (i : Nat), (l.map f).eraseIdx i = (l.eraseIdx i).map f
  | [], _ => rfl
  | a :: l, 0 => rfl
  | a :: l, i + 1 => by
    rw [List.map_cons, List.eraseIdx_cons_succ, List.eraseIdx_cons_succ, List.map_cons, map_erase f l i]
theorem take_out_ok (c : CrewAt M ci si hi n N R) {i : Nat} {q : Nat × Nat} (hq : R.sent[i]? = some q) (hl : R.sent.length ≤ 1000000) (k : ∀ M1, Keep [si] M M1 → M1.length = M.length → M1[si]? = some (.lst ((cutR R i).sent.map pk)) → P (pk q) M1) : L3.R.W (m_Crew_take_out [.ref ci, .int (i : Int)] M) P := by
  have hi := (List.getElem?_eq_some_iff.mp hq).1
  unfold m_Crew_take_out b_Crew_take_out
  array_get_dec
  refine ⟨_, cg_s c.g, ?_⟩
  show L3.R.W (srcOf (.ref si) M) _
  rw [W_src_ref]
  refine ⟨_, SrcIs.get (.inr (.inr ⟨_, rfl, c.s⟩)), ?_⟩
  refine is_between_ok ?_
  refine ⟨_, rfl, ?_⟩
  rw [List.length_map, if_neg (by simp; omega)]
  refine ⟨_, cg_s c.g, isLst_of c.s, si, rfl, _, c.s, ?_⟩
  rw [W_popD (by rw [List.getElem?_map, hq]; rfl) (by omega), map_erase]
  exact k _ (Keep.set (by simp)) len_set (set_at c.s)
theorem is_wanted_ok (o : RunOk N R) (c : CrG M ci (runG N n si hi R)) (hn : NetAt M n N) (hh : M[hi]? = some (.lst ((LsI R.had).map D.int))) {q : Nat × Nat} (hq : q.1 < 5 * N.lay.length) (k : P (.bl (wantB R q)) M) : L3.R.W (m_Crew_is_wanted [.ref ci, pk q] M) P := by
  unfold m_Crew_is_wanted b_Crew_is_wanted
  array_get_dec
  refine ⟨_, c, rfl, is_done_ok c hn rfl rfl ?_⟩
  refine ⟨_, rfl, ?_⟩
  by_cases hd : R.num = 5 * N.lay.length
  · rw [if_neg (by simpa using hd)]
    have : wantB R q = false := by
      unfold wantB
      rw [decide_eq_false (by omega)]
      rfl
    rw [this] at k
    exact k
  · rw [if_pos (by simpa using hd)]
    unfold pk
    array_get_dec
    refine ⟨_, rfl, _, cg_k c, ?_⟩
    show L3.R.W (opEq (.int (q.1 : Int)) (.int (R.num : Int)) M) _
    rw [eq_int]
    refine ⟨_, rfl, ?_⟩
    by_cases h1 : q.1 = R.num
    · rw [if_pos (decide_eq_true (by omega))]
      refine ⟨_, rfl, _, cg_h c, ?_⟩
      show L3.R.W (srcOf (.ref hi) M) _
      rw [W_src_ref]
      refine in_lst hh ?_
      have e : (true ^^ (LsI R.had).any fun n => n == (q.2 : Int)) = wantB R q := by
        unfold wantB
        rw [decide_eq_true h1, Bool.true_and, Bool.true_xor]
        congr 1
        rw [List.any_map, Bool.eq_iff_iff]
        simp
        constructor
        · rintro ⟨x, hx, e⟩
          have : x = q.2 := by omega
          rw [← this]
          exact hx
        · intro hx
          exact ⟨q.2, hx, rfl⟩
      rw [e]
      exact k
    · rw [if_neg (by simp; omega)]
      have : wantB R q = false := by
        unfold wantB
        rw [decide_eq_false h1]
        rfl
      rw [this] at k
      exact k
end


theorem Base.weak {U V : List Nat} {M : Mem} {N : Nt} {n : Nat} {R : Run} (b : Base U M N n R) (h : ∀ i ∈ V, i ∈ U) : Base V M N n R := ⟨b.ok, b.net, fun z => b.un (h n z), b.ads.imp fun _ _ z => z.weak h, b.rok, b.rl, b.x0, b.many, b.manyl⟩
/-- the same for a run of the same crew on the same rows -/
theorem Base.run {U : List Nat} {M : Mem} {N : Nt} {n : Nat} {R R' : Run} (b : Base U M N n R) (h1 : R'.ads = R.ads) (h2 : R'.rows = R.rows) (h3 : R'.x0 = R.x0) (h4 : R'.many = R.many) : Base U M N n R' :=
  ⟨b.ok, b.net, b.un, by rw [h1, h2]; exact b.ads, by rw [h2]; exact b.rok, by rw [h2]; exact b.rl, by rw [h3]; exact b.x0, by rw [h4]; exact b.many, by rw [h4]; exact b.manyl⟩
section
variable {M : Mem} {ci n si hi : Nat} {N : Nt} {R : Run} {P : D → Mem → Prop}
theorem deliver_ok (b : Base [ci, si, hi] M N n R) (o : RunOk N R) (c : CrewAt M ci si hi n N R) {i : Nat} {q : Nat × Nat} (hq : R.sent[i]? = some q) (hl : R.sent.length ≤ 100000)
    (k : ∀ hi' M1, Keep [ci, si, hi] M M1 → (hi' = hi ∨ M.length ≤ hi') → CrewAt M1 ci si hi' n N (delR N R i q) → P (.bl (wantB R q)) M1) : L3.R.W (m_Crew_deliver [.ref ci, .int (i : Int)] M) P := by
  have hqm := o.sent q (List.mem_of_getElem? hq)
  have hcn : n ≠ ci := fun z => b.un (by simp [z])
  have hsn : n ≠ si := fun z => b.un (by simp [z])
  have hhn : n ≠ hi := fun z => b.un (by simp [z])
  have d1 := c.d1
  have d2 := c.d2
  have d3 := c.d3
  unfold m_Crew_deliver b_Crew_deliver
  array_get_dec
  refine ⟨_, c.g, rfl, take_out_ok c hq (by omega) fun M1 k1 l1 hs1 => ?_⟩
  have g1 : CrG M1 ci (runG N n si hi R) := c.g.keep k1 (by simpa using d1)
  have hh1 := k1.get c.h (by simpa using Ne.symm d3)
  have hn1 : NetAt M1 n N := b.net.keep k1 (by simpa using hsn)
  have k1' : Keep [ci, si, hi] M M1 := k1.mono (by simp)
  refine ⟨_, g1, rfl, is_wanted_ok o g1 hn1 hh1 hqm.2.1 ?_⟩
  refine ⟨_, rfl, ?_⟩
  cases hw : wantB R q with
  | false =>
    rw [if_pos (by decide)]
    rw [hw] at k
    refine k hi M1 k1' (.inl rfl) ?_
    unfold delR
    rw [if_neg (by rw [hw]; decide)]
    exact ⟨g1, hs1, hh1, d1, d2, d3⟩
  | true =>
    rw [if_neg (by decide)]
    rw [hw] at k
    obtain ⟨w1, w2⟩ := wantB_iff.mp hw
    have hd : R.num < 5 * N.lay.length := by omega
    refine ⟨_, cg_n g1, _, rfl, _, hn1, rfl, _, cg_z g1, _, g1, rfl, ?_⟩
    unfold pk
    array_get_dec
    refine ⟨_, rfl, ?_⟩
    refine part_ok ((b.keep k1' (by simp)).zero) g1 hd fun d M2 k2 hp2 => ?_
    have g2 := g1.keep0 k2
    refine plus_ok (hn1.keep0 k2) b.ok.pp IsV.tup hp2 ?_ ?_
    · unfold sumV
      rw [if_pos hd, List.length_map, (b.ok.lr (j := R.num % 5) (by omega) (by omega)).1]
      have := b.ok.w
      omega
    rw [sumV_add b.ok hd w2]
    refine ⟨_, g2, cgF_len _, ?_⟩
    obtain ⟨M3, e3, k3, l3, g3⟩ := cg_set "sum" (vI (sumV N { R with had := R.had ++ [q.2] })) g2 (runG N n si hi (addR (cutR R i) q.2)) rfl
    rw [e3]
    have hh3 := k3.get (k2.get0 hh1) (by simpa using Ne.symm d2)
    have hs3 := k3.get (k2.get0 hs1) (by simpa using Ne.symm d1)
    refine ⟨_, cg_h g3, isLst_of hh3, _, rfl, hi, rfl, _, hh3, okLen_of (by simp; have := o.hl; have := b.manyl; omega), ?_⟩
    have k4 : Keep [hi] M3 (M3.set hi (.lst (((LsI R.had).map D.int) ++ [D.int (q.2 : Int)]))) := Keep.set (by simp)
    have hh4 : (M3.set hi (.lst (((LsI R.had).map D.int) ++ [D.int (q.2 : Int)])))[hi]? = some (.lst ((LsI (addR (cutR R i) q.2).had).map D.int)) := by
      rw [set_at hh3]
      show some (O.lst _) = some (O.lst ((LsI (R.had ++ [q.2])).map D.int))
      simp
    generalize (M3.set hi (.lst (((LsI R.had).map D.int) ++ [D.int (q.2 : Int)]))) = M4 at *
    have g4 := g3.keep k4 (by simpa using d2)
    have hs4 := k4.get hs3 (by simpa using d3)
    have kall : Keep [ci, si, hi] M M4 := ((k1'.trans k2.nil).trans (k3.mono (by simp))).trans (k4.mono (by simp))
    have l4 : M.length ≤ M4.length := kall.len
    refine ⟨_, cg_h g4, ?_⟩
    show L3.R.W (srcOf (.ref hi) M4) _
    rw [W_src_ref]
    refine ⟨_, SrcIs.get (.inr (.inr ⟨_, rfl, hh4⟩)), _, cg_many g4, ?_⟩
    show L3.R.W (opEq (.int _) (.int (R.many : Int)) M4) _
    rw [eq_int]
    refine ⟨_, rfl, ?_⟩
    have elen : ((LsI (addR (cutR R i) q.2).had).map D.int).length = R.had.length + 1 := by
      show ((LsI (R.had ++ [q.2])).map D.int).length = _
      simp
    rw [elen]
    by_cases hf : R.had.length + 1 = R.many
    · rw [if_pos (decide_eq_true (by omega))]
      have b4 : Base [ci, si] M4 N n (addR (cutR R i) q.2) := ((b.keep kall (by simp)).weak (by simp)).run rfl rfl rfl rfl
      have o' : ∀ m, m < (addR (cutR R i) q.2).many → m ∈ (addR (cutR R i) q.2).had := by
        refine full (l := R.had ++ [q.2]) (n := R.many) ?_ (fun x hx => ?_) (by simp [hf])
        · rw [List.nodup_append]
          exact ⟨o.nd, by simp, fun a ha bb hb => by
            rw [List.mem_singleton.mp hb]
            exact fun z => w2 (z ▸ ha)⟩
        · rcases List.mem_append.mp hx with hx | hx
          · exact o.lt x hx
          · rw [List.mem_singleton.mp hx]; exact hqm.2.2
      have hsum := sumV_all b4.zero (R := addR (cutR R i) q.2) hd o'
      refine ⟨_, g4, rfl, end_round_ok b4 g4 hs4 d1 hd hsum ?_ fun hi' M5 k5 hle g5 hs5 hh5 => ?_⟩
      · show (R.sent.eraseIdx i).length ≤ _
        have := List.length_eraseIdx_le R.sent i
        omega
      · have hmem : ∀ {j : Nat} {oo : O}, M4[j]? = some oo → j < M4.length := fun z => (List.getElem?_eq_some_iff.mp z).1
        have c1 := hmem g4
        have c2 := hmem hs4
        refine k hi' M5 (kall.trans (k5.mono (by simp))) (.inr (by omega)) ?_
        unfold delR
        rw [if_pos hw, if_pos hf]
        exact ⟨g5, hs5, hh5, d1, by omega, by omega⟩
    · rw [if_neg (by simp; omega)]
      refine k hi M4 kall (.inl rfl) ?_
      unfold delR
      rw [if_pos hw, if_neg hf]
      exact ⟨g4, hs4, hh4, d1, d2, d3⟩
theorem double_ok (c : CrewAt M ci si hi n N R) {i : Nat} {q : Nat × Nat} (hq : R.sent[i]? = some q) (hl : R.sent.length ≤ 100000)
    (k : ∀ M1, Keep [ci, si, hi] M M1 → CrewAt M1 ci si hi n N (dblR R q) → P .non M1) : L3.R.W (m_Crew_double [.ref ci, .int (i : Int)] M) P := by
  have hi := (List.getElem?_eq_some_iff.mp hq).1
  unfold m_Crew_double b_Crew_double
  array_get_dec
  refine ⟨_, cg_s c.g, ?_⟩
  show L3.R.W (srcOf (.ref si) M) _
  rw [W_src_ref]
  refine ⟨_, SrcIs.get (.inr (.inr ⟨_, rfl, c.s⟩)), ?_⟩
  refine is_between_ok ?_
  refine ⟨_, rfl, ?_⟩
  rw [List.length_map, if_neg (by simp; omega)]
  refine ⟨_, cg_s c.g, isLst_of c.s, _, cg_s c.g, ?_⟩
  show L3.R.W (opIx (.ref si) (.int (i : Int)) M) _
  rw [W_ixL c.s]
  refine ⟨pk q, by rw [ix_nat, List.getElem?_map, hq]; rfl, si, rfl, _, c.s, okLen_of (by simp; omega), ?_⟩
  have k1 : Keep [si] M (M.set si (.lst (R.sent.map pk ++ [pk q]))) := Keep.set (by simp)
  refine k _ (k1.mono (by simp)) ⟨c.g.keep k1 (by simpa using c.d1), ?_, k1.get c.h (by simpa using Ne.symm c.d3), c.d1, c.d2, c.d3⟩
  rw [set_at c.s]
  show some (O.lst _) = some (O.lst ((R.sent ++ [q]).map pk))
  simp
theorem lose_ok (b : Base [ci, si, hi] M N n R) (o : RunOk N R) (c : CrewAt M ci si hi n N R) {i : Nat} {q : Nat × Nat} (hq : R.sent[i]? = some q) (hl : R.sent.length ≤ 100000)
    (k : ∀ M1, Keep [ci, si, hi] M M1 → CrewAt M1 ci si hi n N (loseR R i q) → P .non M1) : L3.R.W (m_Crew_lose [.ref ci, .int (i : Int)] M) P := by
  have hqm := o.sent q (List.mem_of_getElem? hq)
  have hsn : n ≠ si := fun z => b.un (by simp [z])
  have d1 := c.d1
  have d2 := c.d2
  have d3 := c.d3
  unfold m_Crew_lose b_Crew_lose
  array_get_dec
  refine ⟨_, c.g, rfl, take_out_ok c hq (by omega) fun M1 k1 l1 hs1 => ?_⟩
  have g1 : CrG M1 ci (runG N n si hi R) := c.g.keep k1 (by simpa using d1)
  have hh1 := k1.get c.h (by simpa using Ne.symm d3)
  have hn1 : NetAt M1 n N := b.net.keep k1 (by simpa using hsn)
  have k1' : Keep [ci, si, hi] M M1 := k1.mono (by simp)
  have c1 : CrewAt M1 ci si hi n N (cutR R i) := ⟨g1, hs1, hh1, d1, d2, d3⟩
  refine ⟨_, g1, rfl, is_wanted_ok o g1 hn1 hh1 hqm.2.1 ?_⟩
  refine ⟨_, rfl, ?_⟩
  cases hw : wantB R q with
  | false =>
    rw [if_neg (by decide)]
    refine k M1 k1' ?_
    unfold loseR
    rw [if_neg (by rw [hw]; simp)]
    exact c1
  | true =>
    rw [if_pos rfl]
    refine ⟨_, cg_s g1, ?_⟩
    show L3.R.W (srcOf (.ref si) M1) _
    rw [W_src_ref]
    refine in_pk hs1 ?_
    refine ⟨_, rfl, ?_⟩
    have e : ((cutR R i).sent.any fun n => n == q) = (R.sent.eraseIdx i).contains q := by
      rw [Bool.eq_iff_iff]
      simp [cutR]
    rw [e]
    cases hc : (R.sent.eraseIdx i).contains q with
    | true =>
      rw [if_neg (by decide)]
      refine k M1 k1' ?_
      unfold loseR
      rw [if_neg (by rw [hc]; simp)]
      exact c1
    | false =>
      rw [if_pos (by decide)]
      refine ⟨_, cg_s g1, isLst_of hs1, si, rfl, _, hs1, okLen_of ?_, ?_⟩
      · show ((R.sent.eraseIdx i).map pk).length + 1 ≤ _
        have := List.length_eraseIdx_le R.sent i
        rw [List.length_map]
        omega
      · have k2 : Keep [si] M1 (M1.set si (.lst ((cutR R i).sent.map pk ++ [pk q]))) := Keep.set (by simp)
        refine k _ (k1'.trans (k2.mono (by simp))) ?_
        unfold loseR
        rw [if_pos ⟨hw, hc⟩]
        refine ⟨g1.keep k2 (by simpa using d1), ?_, k2.get hh1 (by simpa using Ne.symm d3), d1, d2, d3⟩
        rw [set_at hs1]
        show some (O.lst _) = some (O.lst ((R.sent.eraseIdx i ++ [q]).map pk))
        rw [List.map_append]
        rfl
end


section
variable {M : Mem} {ci n si hi : Nat} {N : Nt} {R : Run} {P : D → Mem → Prop}
theorem row_none0 {C : CG} (h : CrG M ci C) (hv : C.v = .non) (k : P .non M) : L3.R.W (m_Crew_row [.ref ci] M) P := by
  unfold m_Crew_row b_Crew_row
  array_get_dec
  refine ⟨_, cg_v h, ?_⟩
  rw [hv]
  rw [if_pos rfl]
  exact k
theorem row_none (h : CrG M ci (runG N n si hi R)) (hn : NetAt M n N) (hd : R.num ≠ 5 * N.lay.length) (k : P .non M) : L3.R.W (m_Crew_row [.ref ci] M) P := by
  unfold m_Crew_row b_Crew_row
  array_get_dec
  refine ⟨_, cg_v h, ?_⟩
  rw [if_neg (by intro z; exact Bool.noConfusion (show false = true from z))]
  refine ⟨_, h, rfl, is_done_ok h hn rfl rfl ?_⟩
  refine ⟨_, rfl, ?_⟩
  rw [if_pos (by simpa using hd)]
  exact k
theorem row_done (b : Base [] M N n R) (h : CrG M ci (runG N n si hi R)) (hd : R.num = 5 * N.lay.length) (k : ∀ M1, Keep [] M M1 → P (rowD ((List.range N.lay.length).map (prAt N R.rows R.x0), wts N (xAt N R.rows R.x0 N.lay.length))) M1) : L3.R.W (m_Crew_row [.ref ci] M) P := by
  have h5 : R.num / 5 = N.lay.length := by omega
  unfold m_Crew_row b_Crew_row
  array_get_dec
  refine ⟨_, cg_v h, ?_⟩
  rw [if_neg (by intro z; exact Bool.noConfusion (show false = true from z))]
  refine ⟨_, h, rfl, is_done_ok h b.net rfl rfl ?_⟩
  refine ⟨_, rfl, ?_⟩
  rw [if_neg (by simpa using hd)]
  refine ⟨_, cg_n h, _, nt_out b.net, ?_⟩
  unfold mI
  array_get_dec
  refine ⟨_, rfl, ?_⟩
  refine (lc_map (F := wtD N (xAt N R.rows R.x0 N.lay.length)) (Inv := fun M' => M' = M) (fun M' w => rfl) (by show (List.map vI _).length < _; rw [List.length_map]; have := b.ok.outl; omega) ?_ rfl).mono ?_
  · rintro w M6 hw rfl
    obtain ⟨v, hv, rfl⟩ := List.mem_map.mp (show w ∈ List.map vI _ from hw)
    refine ⟨_, rfl, ?_⟩
    array_get_dec
    refine ⟨_, cg_n h, _, rfl, _, b.net, rfl, _, cg_v h, ?_⟩
    show L3.R.W (m_product_sum [vI v, vI (xAt N R.rows R.x0 (R.num / 5))] M6) _
    rw [h5]
    refine product_sum_ok IsV.tup IsV.tup (fun x y hx _ => .inl ((b.ok.out v hv).2 x hx)) ?_
    refine rest_ok b.net b.ok.pp ?_
    array_get_dec
    unfold wtD
    rw [unI_vI]
  · rintro ws M6 ⟨rfl, rfl⟩
    have kp : Keep [] M6 (M6 ++ [O.lst (List.map (wtD N (xAt N R.rows R.x0 N.lay.length)) (It3.seq (Src.tup (List.map vI N.out)) (List.map vI N.out)).items)]) := Keep.app
    refine ⟨_, cg_o (h.keep0 kp), _, SrcIs.get (.inr (.inr ⟨_, rfl, new_at⟩)), rfl, ?_⟩
    have e2 : List.map (wtD N (xAt N R.rows R.x0 N.lay.length)) (It3.seq (Src.tup (List.map vI N.out)) (List.map vI N.out)).items = (wts N (xAt N R.rows R.x0 N.lay.length)).map D.int := wts_map _ _
    have := k _ kp
    rw [e2] at this ⊢
    have eo : (runG N n si hi R).o = .tup (((List.range N.lay.length).map (prAt N R.rows R.x0)).map pairD) := by
      show D.tup _ = _
      rw [h5, List.map_map]
      rfl
    rw [eo]
    exact this
/-- what begin leaves -/
def startR (N : Nt) (many : Nat) (rows : List Row) (ads : List D) (a : Nat) : Run := ⟨many, 0, if 0 = 5 * N.lay.length then [] else fresh 0 many, [], rows, x0Of N rows.length a, ads⟩
theorem runOk_start {N : Nt} {many : Nat} {rows : List Row} {ads : List D} {a : Nat} (hm : 0 < many) : RunOk N (startR N many rows ads a) :=
  ⟨Nat.zero_le _, List.nodup_nil, (by intro m h; cases h), hm, fun z hz => by
    have hz' : z ∈ if 0 = 5 * N.lay.length then [] else fresh 0 many := hz
    split at hz'
    · cases hz'
    · rename_i hne
      obtain ⟨m, hm, rfl⟩ := List.mem_map.mp hz'
      have := List.mem_range.mp hm
      refine ⟨Nat.le_refl _, ?_, this⟩
      show 0 < _
      omega, fun hn m hm _ => by
    have hn' : 0 < 5 * N.lay.length := hn
    show (0, m) ∈ if 0 = 5 * N.lay.length then [] else fresh 0 many
    rw [if_neg (by omega)]
    exact List.mem_map.mpr ⟨m, List.mem_range.mpr hm, rfl⟩⟩
theorem begin_ok {C : CG} {many : Nat} (ok : N.Ok) (h : CrG M ci C) (hn : NetAt M n N) (hC : C.n = .ref n) (hm : C.many = .int (many : Int)) (hml : many ≤ 1000) (hne : n ≠ ci) {e : D} {ds : List D} {rows : List Row} (he : Sq [ci] M e ds) (hr : All2 (RowIs [] M) ds rows) (hrl : rows.length ≤ 1000) {a : Nat} (ha : a < N.emb.length)
    (k : ∀ si hi M1, Keep [ci] M M1 → M.length ≤ si → M.length ≤ hi → CrewAt M1 ci si hi n N (startR N many rows ds a) → P .non M1) : L3.R.W (m_Crew_begin [.ref ci, e, .int (a : Int)] M) P := by
  have hci := (List.getElem?_eq_some_iff.mp h).1
  have hw0 : (N.emb.getD a []).length = N.sh.length := by
    rw [List.getD_eq_getElem?_getD, List.getElem?_eq_getElem ha]
    exact ok.emb _ (List.getElem_mem ha)
  unfold m_Crew_begin b_Crew_begin
  array_get_dec
  refine ⟨_, cg_n h, ?_⟩
  rw [hC]
  refine ⟨_, rfl, _, hn, rfl, is_letter_ok hn ?_⟩
  refine ⟨_, rfl, ?_⟩
  rw [if_neg (by simp; omega)]
  refine he.src fun x hx => ⟨_, hx.get, _, h, cgF_len _, ?_⟩
  obtain ⟨M1, e1, k1, l1, h1⟩ := cg_set "ahead" (.tup ds) h { C with a := .tup ds } rfl
  rw [e1]
  have hn1 : NetAt M1 n N := hn.keep k1 (by simpa using hne)
  refine ⟨_, cg_n h1, ?_⟩
  rw [hC]
  refine ⟨_, rfl, _, hn1, rfl, _, cg_n h1, ?_⟩
  rw [hC]
  refine ⟨_, nt_embed hn1, ?_⟩
  unfold mI
  array_get_dec
  refine ⟨_, by rw [ix_nat]; exact emb_get ha, _, cg_n h1, ?_⟩
  rw [hC]
  refine ⟨_, nt_shift hn1, ?_⟩
  unfold vI
  array_get_dec
  refine ⟨_, rfl, ?_⟩
  refine (lc_map (F := mulD (rows.length : Int)) (Inv := fun M' => M' = M1) (fun M' w => rfl) (by show (N.sh.map D.int).length < _; rw [List.length_map]; have := ok.w; omega) ?_ rfl).mono ?_
  · rintro w M2 hw rfl
    obtain ⟨i, hi, rfl⟩ := List.mem_map.mp (show w ∈ N.sh.map D.int from hw)
    refine ⟨_, rfl, ?_⟩
    array_get_dec
    refine ⟨_, cg_a h1, ?_⟩
    show L3.R.W (srcOf (.tup ds) M2) _
    rw [W_src_tup]
    refine ⟨_, rfl, ?_⟩
    rw [hr.length]
    exact ⟨.inr (.inl (ok.shs i hi)), rfl, rfl⟩
  rintro ws M2 ⟨rfl, rfl⟩
  have kA : Keep [] M2 (M2 ++ [O.lst (List.map (mulD (rows.length : Int)) (It3.seq (Src.tup (List.map int N.sh)) (List.map int N.sh)).items)]) := Keep.app
  refine plus_ok (hn1.keep0 kA) ok.pp (v := N.emb.getD a []) (w := N.sh.map fun y => (rows.length : Int) * y) (.inl rfl) (.inr ⟨_, rfl, by simp, by rw [new_at, ← mul_map]; rfl⟩) (by have := ok.w; omega) ?_
  have hA := h1.keep0 kA
  have lA : M2.length ≤ (M2 ++ [O.lst (List.map (mulD (rows.length : Int)) (It3.seq (Src.tup (List.map int N.sh)) (List.map int N.sh)).items)]).length := kA.len
  generalize (M2 ++ [O.lst (List.map (mulD (rows.length : Int)) (It3.seq (Src.tup (List.map int N.sh)) (List.map int N.sh)).items)]) = MA at *
  have kMA : Keep [ci] M MA := k1.trans kA.nil
  rw [show vI (pls N.p (N.emb.getD a []) (List.map (fun y => (rows.length : Int) * y) N.sh)) = vI (x0Of N rows.length a) from rfl]
  refine ⟨_, hA, cgF_len _, ?_⟩
  obtain ⟨M3, e3, k3, l3, h3⟩ := cg_set "vector" (vI (x0Of N rows.length a)) hA { C with a := .tup ds, v := vI (x0Of N rows.length a) } rfl
  rw [e3]
  refine ⟨rfl, _, h3, cgF_len _, ?_⟩
  obtain ⟨M4, e4, k4, l4, h4⟩ := cg_set "own" (.tup []) h3 { C with a := .tup ds, v := vI (x0Of N rows.length a), o := .tup [] } rfl
  rw [e4]
  refine ⟨rfl, _, h4, cgF_len _, ?_⟩
  obtain ⟨M5, e5, k5, l5, h5⟩ := cg_set "results" (.tup []) h4 { C with a := .tup ds, v := vI (x0Of N rows.length a), o := .tup [], r := .tup [] } rfl
  rw [e5]
  refine ⟨_, h5, cgF_len _, ?_⟩
  obtain ⟨M6, e6, k6, l6, h6⟩ := cg_set "number" (.int 0) h5 { C with a := .tup ds, v := vI (x0Of N rows.length a), o := .tup [], r := .tup [], k := .int 0 } rfl
  rw [e6]
  have h7 := h6.keep0 (Keep.app (A := []) (X := [O.lst []]))
  refine ⟨rfl, _, h7, cgF_len _, ?_⟩
  obtain ⟨M8, e8, k8, l8, h8⟩ := cg_set "sent" (.ref M6.length) h7 { C with a := .tup ds, v := vI (x0Of N rows.length a), o := .tup [], r := .tup [], k := .int 0, s := .ref M6.length } rfl
  rw [e8]
  have k06 : Keep [ci] M M6 := (((kMA.trans k3).trans k4).trans k5).trans k6
  have h68 : M.length ≤ M6.length := k06.len
  have hcs : ci ≠ M6.length := by omega
  have hs8 : M8[M6.length]? = some (.lst []) := k8.get new_at (by simpa using Ne.symm hcs)
  have k08 : Keep [ci] M M8 := k06.trans ((Keep.app (A := [ci])).trans k8)
  have l8' : M8.length = M6.length + 1 := by rw [l8]; simp
  refine ⟨_, h8, rfl, begin_round_ok h8 (hn.keep k08 (by simpa using hne)) hC hne ok fun M9 k9 l9 h9 hh9 => ?_⟩
  have k09 := k08.trans k9
  have hs9 := k9.get hs8 (by simpa using Ne.symm hcs)
  refine ⟨_, h9, rfl, send_all_ok (num := 0) (many := many) (si := M6.length) (qs := []) h9 (hn.keep k09 (by simpa using hne)) hC rfl hm hml rfl hs9 (by simp) fun M10 k10 l10 hs10 => ?_⟩
  have h10 := h9.keep k10 (by simpa using hcs)
  refine k M6.length M8.length M10 (k09.new k10 (fun j hj => .inr (by rw [List.mem_singleton.mp hj]; exact h68))) h68 (by omega) ⟨?_, ?_, ?_, hcs, by omega, by omega⟩
  · have ez : vI (N.sh.map fun _ => 0) = vI (sumV N (startR N many rows ds a)) := by rw [sumV_new ok rfl (Nat.zero_le _)]
    have eR : runG N n M6.length M8.length (startR N many rows ds a) = { C with n := .ref n, many := .int (many : Int), s := .ref M6.length, a := .tup ds, v := vI (x0Of N rows.length a), o := .tup [], r := .tup [], k := .int 0, h := .ref M8.length, z := vI (sumV N (startR N many rows ds a)) } := by
      unfold runG
      rw [show (startR N many rows ds a).num = 0 from rfl, Nat.zero_div, Nat.zero_mod, List.range_zero, List.map_nil, List.map_nil]
      rfl
    rw [eR, ← ez, ← hC, ← hm]
    exact h10
  · exact hs10
  · exact k10.get hh9 (by simp; omega)
/-- a letter that is none -/
theorem begin_bad {C : CG} (h : CrG M ci C) (hn : NetAt M n N) (hC : C.n = .ref n) {e : D} {a : Nat} (ha : ¬ a < N.emb.length) : m_Crew_begin [.ref ci, e, .int (a : Int)] M = .exc "InvalidLetter" (.int (a : Int)) M := by
  unfold m_Crew_begin b_Crew_begin
  have ht : L3.R.W ((tNot3 (tOf (eMeth "Net" "is_letter" 2 m_Net_is_letter (eFld "Crew" "net" (eV 0)) (aCons (eV 2) aNil)))) [some (.ref ci), some e, some (.int (a : Int)), none] M) fun b M1 => b = true ∧ M1 = M := by
    array_get_dec
    refine ⟨_, cg_n h, ?_⟩
    rw [hC]
    refine ⟨_, rfl, _, hn, rfl, is_letter_ok hn ?_⟩
    refine ⟨_, rfl, ?_, rfl⟩
    simp
    omega
  obtain ⟨bb, M1, et, rfl, rfl⟩ := ht.ex
  unfold fnB
  have e1 : (sIf (tNot3 (tOf (eMeth "Net" "is_letter" 2 m_Net_is_letter (eFld "Crew" "net" (eV 0)) (aCons (eV 2) aNil)))) (sRaise "InvalidLetter" (aCons (eV 2) aNil)) sNil) [some (.ref ci), some e, some (.int (a : Int)), none] M1 = .exc "InvalidLetter" (.int (a : Int)) [some (.ref ci), some e, some (.int (a : Int)), none] M1 := by
    unfold sIf
    rw [et]
    rfl
  simp only [sq, List.map_cons, List.map_nil, List.cons_append, List.nil_append, rep1, e1, RS.next, retOf]
end


abbrev kS (x : PySem.Str) : L2.Key := .inr x
def cdK (m r w p a : D) : List (L2.Key × D) := [(kS "many", m), (kS "rounds", r), (kS "waiting", w), (kS "present", p), (kS "added", a)]
theorem cdK_many (m r w p a : D) : getK (cdK m r w p a) (kS "many") = some m := rfl
theorem cdK_rounds (m r w p a : D) : getK (cdK m r w p a) (kS "rounds") = some r := rfl
theorem cdK_waiting (m r w p a : D) : getK (cdK m r w p a) (kS "waiting") = some w := rfl
theorem cdK_present (m r w p a : D) : getK (cdK m r w p a) (kS "present") = some p := rfl
theorem cdK_added (m r w p a : D) : getK (cdK m r w p a) (kS "added") = some a := rfl
theorem cdP_waiting (m r w p a d : D) : putD (cdK m r w p a) (kS "waiting") d = cdK m r d p a := rfl
theorem cdP_present (m r w p a d : D) : putD (cdK m r w p a) (kS "present") d = cdK m r w d a := rfl
theorem cdP_added (m r w p a d : D) : putD (cdK m r w p a) (kS "added") d = cdK m r w p d := rfl
def CdG (M : Mem) (cd : Nat) (m r w p a : D) : Prop := M[cd]? = some (.dK (cdK m r w p a))
section
variable {M : Mem} {cd : Nat} {m r w p a : D} (h : CdG M cd m r w p a)
include h
variable {P : D → Mem → Prop}
theorem ci_many : L3.R.W (opIx (.ref cd) (.str "many") M) P ↔ P m M := by rw [W_ixK h rfl, cdK_many]; simp
theorem ci_rounds : L3.R.W (opIx (.ref cd) (.str "rounds") M) P ↔ P r M := by rw [W_ixK h rfl, cdK_rounds]; simp
theorem ci_waiting : L3.R.W (opIx (.ref cd) (.str "waiting") M) P ↔ P w M := by rw [W_ixK h rfl, cdK_waiting]; simp
theorem ci_present : L3.R.W (opIx (.ref cd) (.str "present") M) P ↔ P p M := by rw [W_ixK h rfl, cdK_present]; simp
theorem ci_added : L3.R.W (opIx (.ref cd) (.str "added") M) P ↔ P a M := by rw [W_ixK h rfl, cdK_added]; simp
theorem cs_waiting (d : D) : ∃ M1, setIx (.ref cd) (.str "waiting") d M = some M1 ∧ Keep [cd] M M1 ∧ M1.length = M.length ∧ CdG M1 cd m r d p a := by
  refine ⟨M.set cd (.dK (putD (cdK m r w p a) (kS "waiting") d)), ?_, Keep.set (by simp), len_set, ?_⟩
  · have e : keyOf (.str "waiting") = some (kS "waiting") := rfl
    unfold setIx
    simp only [show M[cd]? = some (.dK (cdK m r w p a)) from h, e]
    rw [if_pos (by show _ + 1 < _; simp [cdK])]
  · rw [cdP_waiting]
    exact set_at h
theorem cs_present (d : D) : ∃ M1, setIx (.ref cd) (.str "present") d M = some M1 ∧ Keep [cd] M M1 ∧ M1.length = M.length ∧ CdG M1 cd m r w d a := by
  refine ⟨M.set cd (.dK (putD (cdK m r w p a) (kS "present") d)), ?_, Keep.set (by simp), len_set, ?_⟩
  · have e : keyOf (.str "present") = some (kS "present") := rfl
    unfold setIx
    simp only [show M[cd]? = some (.dK (cdK m r w p a)) from h, e]
    rw [if_pos (by show _ + 1 < _; simp [cdK])]
  · rw [cdP_present]
    exact set_at h
theorem cs_added (d : D) : ∃ M1, setIx (.ref cd) (.str "added") d M = some M1 ∧ Keep [cd] M M1 ∧ M1.length = M.length ∧ CdG M1 cd m r w p d := by
  refine ⟨M.set cd (.dK (putD (cdK m r w p a) (kS "added") d)), ?_, Keep.set (by simp), len_set, ?_⟩
  · have e : keyOf (.str "added") = some (kS "added") := rfl
    unfold setIx
    simp only [show M[cd]? = some (.dK (cdK m r w p a)) from h, e]
    rw [if_pos (by show _ + 1 < _; simp [cdK])]
  · rw [cdP_added]
    exact set_at h
end
theorem CdG.keep {A : List Nat} {M M1 : Mem} {cd : Nat} {m r w p a : D} (h : CdG M cd m r w p a) (k : Keep A M M1) (n : cd ∉ A) : CdG M1 cd m r w p a := k.get h n
structure CntAt (M : Mem) (cd wi ai : Nat) (N : Nt) (R : Run) : Prop where
  g : CdG M cd (.int (R.many : Int)) (.int (5 * N.lay.length : Nat)) (.ref wi) (.int (R.num : Int)) (.ref ai)
  s : M[wi]? = some (.lst (R.sent.map pk))
  h : M[ai]? = some (.lst ((LsI R.had).map D.int))
  d1 : cd ≠ wi
  d2 : cd ≠ ai
  d3 : wi ≠ ai
theorem CntAt.keep {A : List Nat} {M M1 : Mem} {cd wi ai : Nat} {N : Nt} {R : Run} (c : CntAt M cd wi ai N R) (k : Keep A M M1) (h1 : cd ∉ A) (h2 : wi ∉ A) (h3 : ai ∉ A) : CntAt M1 cd wi ai N R := ⟨c.g.keep k h1, k.get c.s h2, k.get c.h h3, c.d1, c.d2, c.d3⟩
section
variable {M : Mem} {cd wi ai : Nat} {N : Nt} {R : Run} {P : D → Mem → Prop}
theorem l_wanted_ok (g : CdG M cd (.int (R.many : Int)) (.int (5 * N.lay.length : Nat)) (.ref wi) (.int (R.num : Int)) (.ref ai)) (hh : M[ai]? = some (.lst ((LsI R.had).map D.int))) {q : Nat × Nat} (k : P (.bl (wantB R q)) M) : L3.R.W (m__law_is_wanted [.ref cd, pk q] M) P := by
  unfold m__law_is_wanted b__law_is_wanted pk
  array_get_dec
  refine ⟨_, rfl, ?_⟩
  rw [ci_present g, eq_int]
  refine ⟨_, rfl, ?_⟩
  by_cases h1 : q.1 = R.num
  · rw [if_pos (decide_eq_true (by omega))]
    refine ⟨_, rfl, ?_⟩
    rw [ci_added g, W_src_ref]
    refine in_lst hh ?_
    have e : (true ^^ (LsI R.had).any fun n => n == (q.2 : Int)) = wantB R q := by
      unfold wantB
      rw [decide_eq_true h1, Bool.true_and, Bool.true_xor]
      congr 1
      rw [List.any_map, Bool.eq_iff_iff]
      simp
      constructor
      · rintro ⟨x, hx, e⟩
        have : x = q.2 := by omega
        rw [← this]
        exact hx
      · intro hx
        exact ⟨q.2, hx, rfl⟩
    rw [e]
    exact k
  · rw [if_neg (by simp; omega)]
    have : wantB R q = false := by
      unfold wantB
      rw [decide_eq_false h1]
      rfl
    rw [this] at k
    exact k
theorem begins_ok {w p a : D} {many : Nat} {rows : List Row} {ds : List D} {x : Nat} (hml : many ≤ 1000) (h : CdG M cd (.int (many : Int)) (.int (5 * N.lay.length : Nat)) w p a) 
    (k : ∀ wi ai M1, Keep [cd] M M1 → M.length ≤ wi → M.length ≤ ai → CntAt M1 cd wi ai N (startR N many rows ds x) → P .non M1) : L3.R.W (m__law_begins [.ref cd] M) P := by
  have hcd := (List.getElem?_eq_some_iff.mp h).1
  unfold m__law_begins b__law_begins
  array_get_dec
  refine ⟨rfl, ?_⟩
  have h0 : CdG (M ++ [O.lst []]) cd _ _ w p a := h.keep (Keep.app (A := [])) (by simp)
  obtain ⟨M1, e1, k1, l1, h1⟩ := cs_waiting h0 (.ref M.length)
  refine ⟨M1, e1, ?_⟩
  have k01 : Keep [cd] M M1 := (Keep.app (A := [cd])).trans k1
  have l1' : M1.length = M.length + 1 := by rw [l1]; simp
  have hs1 : M1[M.length]? = some (.lst []) := k1.get new_at (by simp; omega)
  rw [ci_rounds h1, W_gt]
  refine ⟨_, rfl, ?_⟩
  have fin : ∀ (M2 : Mem) (wi : Nat), Keep [cd] M M2 → M.length ≤ wi → wi < M2.length → CdG M2 cd (.int (many : Int)) (.int (5 * N.lay.length : Nat)) (.ref wi) p a → M2[wi]? = some (.lst ((startR N many rows ds x).sent.map pk)) →
      ∃ M4, setIx (.ref cd) (.str "present") (.int 0) M2 = some M4 ∧ okLen 0 = true ∧ ∃ M5, setIx (.ref cd) (.str "added") (.ref M4.length) (M4 ++ [O.lst []]) = some M5 ∧ P .non M5 := by
    intro M2 wi k2 hw hw2 h2 hs2
    obtain ⟨M4, e4, k4, l4, h4⟩ := cs_present h2 (.int 0)
    have h5 : CdG (M4 ++ [O.lst []]) cd _ _ (.ref wi) (.int 0) a := h4.keep (Keep.app (A := [])) (by simp)
    obtain ⟨M6, e6, k6, l6, h6⟩ := cs_added h5 (.ref M4.length)
    have l04 := k2.len
    refine ⟨M4, e4, rfl, M6, e6, k wi M4.length M6 (k2.trans (k4.trans ((Keep.app (A := [cd])).trans k6))) hw (by omega) ⟨h6, ?_, ?_, by omega, by omega, by omega⟩⟩
    · exact k6.get ((Keep.app (A := [])).get0 (k4.get hs2 (by simp; omega))) (by simp; omega)
    · exact k6.get new_at (by simp; omega)
  by_cases hr : 0 < 5 * N.lay.length
  · rw [if_pos (decide_eq_true (by omega)), ci_many h1]
    refine ⟨_, rfl, by omega, by omega, ?_⟩
    rw [Int.toNat_natCast]
    refine (lc_map (F := pkF 0) (Inv := fun M' => M' = M1) (fun M' w => rfl) (by show (rngD 0 _).length < _; rw [rng_len]; omega) ?_ rfl).mono ?_
    · rintro z M6 hz rfl
      obtain ⟨t, ht, rfl⟩ := rng_mem hz
      refine ⟨_, rfl, ?_⟩
      array_get_dec
      exact ⟨rfl, rfl⟩
    · rintro zs M6 ⟨rfl, rfl⟩
      rw [show (It3.rng 0 many).items = rngD 0 many from rfl, pkF_map]
      have h1' : CdG (M6 ++ [O.lst ((fresh 0 many).map pk)]) cd _ _ (.ref M.length) p a := h1.keep (Keep.app (A := [])) (by simp)
      obtain ⟨M7, e7, k7, l7, h7⟩ := cs_waiting h1' (.ref M6.length)
      refine ⟨M7, e7, ?_⟩
      refine fin M7 M6.length (k01.trans ((Keep.app (A := [cd])).trans k7)) (by omega) (by rw [l7]; simp) h7 ?_
      rw [k7.get new_at (by simp; omega)]
      show _ = some (O.lst ((if 0 = 5 * N.lay.length then [] else fresh 0 many).map pk))
      rw [if_neg (by omega)]
  · rw [if_neg (by simp; omega)]
    refine fin M1 M.length k01 (Nat.le_refl _) (by omega) h1 ?_
    rw [hs1]
    show _ = some (O.lst ((if 0 = 5 * N.lay.length then [] else fresh 0 many).map pk))
    rw [if_pos (by omega)]
    rfl
end


section
variable {M : Mem} {cd wi ai : Nat} {N : Nt} {R : Run} {P : D → Mem → Prop}
theorem arrives_ok (o : RunOk N R) (hml : R.many ≤ 1000) (c : CntAt M cd wi ai N R) {i : Nat} {q : Nat × Nat} (hq : R.sent[i]? = some q) (hl : R.sent.length ≤ 100000)
    (k : ∀ wi' ai' M1, Keep [cd, wi, ai] M M1 → (wi' = wi ∨ M.length ≤ wi') → (ai' = ai ∨ M.length ≤ ai') → CntAt M1 cd wi' ai' N (delR N R i q) → P (.bl (wantB R q)) M1) : L3.R.W (m__law_arrives [.ref cd, .int (i : Int)] M) P := by
  have hqm := o.sent q (List.mem_of_getElem? hq)
  have hi := (List.getElem?_eq_some_iff.mp hq).1
  have d1 := c.d1
  have d2 := c.d2
  have d3 := c.d3
  have hmem : ∀ {M : Mem} {j : Nat} {oo : O}, M[j]? = some oo → j < M.length := fun z => (List.getElem?_eq_some_iff.mp z).1
  unfold m__law_arrives b__law_arrives
  array_get_dec
  rw [ci_waiting c.g]
  refine ⟨isLst_of c.s, wi, rfl, _, c.s, ?_⟩
  rw [W_popD (by rw [List.getElem?_map, hq]; rfl) (by omega), map_erase]
  have k1 : Keep [wi] M (M.set wi (.lst ((R.sent.eraseIdx i).map pk))) := Keep.set (by simp)
  have hs1 := set_at (o := .lst ((R.sent.eraseIdx i).map pk)) c.s
  have l1 : (M.set wi (.lst ((R.sent.eraseIdx i).map pk))).length = M.length := len_set
  generalize M.set wi (.lst ((R.sent.eraseIdx i).map pk)) = M1 at *
  have g1 := c.g.keep k1 (by simpa using d1)
  have hh1 := k1.get c.h (by simpa using Ne.symm d3)
  refine l_wanted_ok g1 hh1 ?_
  refine ⟨_, rfl, ?_⟩
  cases hw : wantB R q with
  | false =>
    rw [if_pos (by decide)]
    rw [hw] at k
    refine k wi ai M1 (k1.mono (by simp)) (.inl rfl) (.inl rfl) ?_
    unfold delR
    rw [if_neg (by rw [hw]; decide)]
    exact ⟨g1, hs1, hh1, d1, d2, d3⟩
  | true =>
    rw [if_neg (by decide)]
    rw [hw] at k
    obtain ⟨w1, w2⟩ := wantB_iff.mp hw
    have hd : R.num < 5 * N.lay.length := by omega
    rw [ci_added g1]
    refine ⟨isLst_of hh1, ?_⟩
    unfold pk
    array_get_dec
    refine ⟨_, rfl, _, hh1, okLen_of (by simp; have := o.hl; omega), ?_⟩
    have k2 : Keep [ai] M1 (M1.set ai (.lst (((LsI R.had).map D.int) ++ [D.int (q.2 : Int)]))) := Keep.set (by simp)
    have l2 : (M1.set ai (.lst (((LsI R.had).map D.int) ++ [D.int (q.2 : Int)]))).length = M1.length := len_set
    have hh2 : (M1.set ai (.lst (((LsI R.had).map D.int) ++ [D.int (q.2 : Int)])))[ai]? = some (.lst ((LsI (addR (cutR R i) q.2).had).map D.int)) := by
      rw [set_at hh1]
      show some (O.lst _) = some (O.lst ((LsI (R.had ++ [q.2])).map D.int))
      simp
    generalize (M1.set ai (.lst (((LsI R.had).map D.int) ++ [D.int (q.2 : Int)]))) = M2 at *
    have g2 := g1.keep k2 (by simpa using d2)
    have hs2 := k2.get hs1 (by simpa using d3)
    have k02 : Keep [cd, wi, ai] M M2 := (k1.mono (by simp)).trans (k2.mono (by simp))
    rw [ci_added g2, W_src_ref]
    refine ⟨_, SrcIs.get (.inr (.inr ⟨_, rfl, hh2⟩)), ?_⟩
    rw [ci_many g2, eq_int]
    refine ⟨_, rfl, ?_⟩
    have elen : ((LsI (addR (cutR R i) q.2).had).map D.int).length = R.had.length + 1 := by
      show ((LsI (R.had ++ [q.2])).map D.int).length = _
      simp
    rw [elen]
    by_cases hf : R.had.length + 1 = R.many
    · rw [if_pos (decide_eq_true (by omega)), ci_present g2, W_add]
      have edel : delR N R i q = nextR N (addR (cutR R i) q.2) := by
        unfold delR
        rw [if_pos hw, if_pos hf]
      rw [edel] at k
      obtain ⟨M3, e3, k3, l3, g3⟩ := cs_present g2 (.int ((R.num : Int) + 1))
      refine ⟨M3, e3, rfl, ?_⟩
      have g4 : CdG (M3 ++ [O.lst []]) cd _ _ (.ref wi) (.int ((R.num : Int) + 1)) (.ref ai) := g3.keep (Keep.app (A := [])) (by simp)
      obtain ⟨M5, e5, k5, l5, g5⟩ := cs_added g4 (.ref M3.length)
      have c2 := hmem g2
      have c3 := hmem hs2
      have l5' : M5.length = M2.length + 1 := by rw [l5]; simp [l3]
      have hs5 := k5.get ((Keep.app (A := []) (X := [O.lst []])).get0 (k3.get hs2 (by simpa using Ne.symm d1))) (by simpa using Ne.symm d1)
      have hh5 : M5[M3.length]? = some (.lst []) := k5.get new_at (by simp; omega)
      have k05 : Keep [cd, wi, ai] M M5 := (k02.trans (k3.mono (by simp))).trans ((Keep.app (A := [cd, wi, ai])).trans (k5.mono (by simp)))
      refine ⟨M5, e5, ?_⟩
      rw [ci_present g5, ci_rounds g5, W_lt]
      refine ⟨_, rfl, ?_⟩
      have en : ((R.num : Int) + 1) = ((R.num + 1 : Nat) : Int) := by omega
      rw [en] at g5 ⊢
      by_cases hlast : R.num + 1 = 5 * N.lay.length
      · rw [if_neg (by simp; omega)]
        refine k wi M3.length M5 k05 (.inl rfl) (.inr (by omega)) ⟨g5, ?_, hh5, d1, by omega, by omega⟩
        rw [hs5]
        show _ = some (O.lst ((R.sent.eraseIdx i ++ if R.num + 1 = 5 * N.lay.length then [] else fresh (R.num + 1) R.many).map pk))
        rw [if_pos hlast, List.append_nil]
      · rw [if_pos (decide_eq_true (by omega)), ci_waiting g5, W_src_ref, ci_many g5]
        refine ⟨_, rfl, by omega, by omega, ?_⟩
        rw [Int.toNat_natCast]
        refine (lc_map (F := pkF (R.num + 1)) (Inv := fun M' => M' = M5) (fun M' w => rfl) (by show (rngD 0 _).length < _; rw [rng_len]; omega) ?_ rfl).mono ?_
        · rintro z M6 hz rfl
          obtain ⟨t, ht, rfl⟩ := rng_mem hz
          refine ⟨_, rfl, ?_⟩
          array_get_dec
          rw [ci_present g5]
          exact ⟨rfl, rfl, rfl⟩
        · rintro zs M6 ⟨rfl, rfl⟩
          rw [show (It3.rng 0 R.many).items = rngD 0 R.many from rfl, pkF_map]
          refine ⟨_, (by show Src.own M6 (Src.lst wi) = some _; simp only [Src.own, hs5]; rfl), _, rfl, okLen_of (by have := List.length_eraseIdx_le R.sent i; simp [fresh]; omega), ?_⟩
          have g6 : CdG (M6 ++ [O.lst ((R.sent.eraseIdx i).map pk ++ (fresh (R.num + 1) R.many).map pk)]) cd _ _ (.ref wi) _ (.ref M3.length) := g5.keep (Keep.app (A := [])) (by simp)
          obtain ⟨M7, e7, k7, l7, g7⟩ := cs_waiting g6 (.ref M6.length)
          refine ⟨M7, e7, ?_⟩
          refine k M6.length M3.length M7 (k05.trans ((Keep.app (A := [cd, wi, ai])).trans (k7.mono (by simp)))) (.inr (by omega)) (.inr (by omega)) ⟨g7, ?_, ?_, by omega, by omega, by omega⟩
          · rw [k7.get new_at (by simp; omega)]
            show _ = some (O.lst ((R.sent.eraseIdx i ++ if R.num + 1 = 5 * N.lay.length then [] else fresh (R.num + 1) R.many).map pk))
            rw [if_neg hlast, List.map_append]
          · exact k7.get ((Keep.app (A := [])).get0 hh5) (by simp; omega)
    · rw [if_neg (by simp; omega)]
      have edel : delR N R i q = addR (cutR R i) q.2 := by
        unfold delR
        rw [if_pos hw, if_neg hf]
      rw [edel] at k
      exact k wi ai M2 k02 (.inl rfl) (.inl rfl) ⟨g2, hs2, hh2, d1, d2, d3⟩
end


theorem Sq.fresh {U V : List Nat} {M : Mem} {d : D} {ds : List D} (h : Sq U M d ds) (k : ∀ i ∈ V, i ∈ U ∨ M.length ≤ i) : Sq V M d ds := by
  rcases h with h | ⟨j, h, n, e⟩
  · exact .inl h
  · refine .inr ⟨j, h, fun z => ?_, e⟩
    have := (List.getElem?_eq_some_iff.mp e).1
    rcases k j z with q | q
    · exact n q
    · omega
theorem RowIs.fresh {U V : List Nat} {M : Mem} {d : D} {r : Row} (h : RowIs U M d r) (k : ∀ i ∈ V, i ∈ U ∨ M.length ≤ i) : RowIs V M d r := by
  obtain ⟨a, b, ps, h1, h2, h3, h4⟩ := h
  exact ⟨a, b, ps, Sq.fresh h1 k, Sq.fresh h2 k, h3.imp (fun _ _ ⟨x, y, g1, g2, g3⟩ => ⟨x, y, Sq.fresh g1 k, Sq.fresh g2 k, Sq.fresh g3 k⟩), Sq.fresh h4 k⟩
theorem Base.fresh {U V : List Nat} {M : Mem} {N : Nt} {n : Nat} {R : Run} (b : Base U M N n R) (k : ∀ i ∈ V, i ∈ U ∨ M.length ≤ i) : Base V M N n R :=
  ⟨b.ok, b.net, fun z => by
    have := (List.getElem?_eq_some_iff.mp b.net).1
    rcases k n z with q | q
    · exact b.un q
    · omega, b.ads.imp fun _ _ z => z.fresh k, b.rok, b.rl, b.x0, b.many, b.manyl⟩
/-- the places of a crew and of its counts -/
structure Ix where
  p : Nat
  c : Nat
  ci : Nat
  si : Nat
  hi : Nat
  cd : Nat
  wi : Nat
  ai : Nat
abbrev Ix.U (x : Ix) : List Nat := [x.p, x.c, x.ci, x.si, x.hi, x.cd, x.wi, x.ai]
structure Dis (x : Ix) : Prop where
  p_c : x.p ≠ x.c
  p_ci : x.p ≠ x.ci
  p_si : x.p ≠ x.si
  p_hi : x.p ≠ x.hi
  p_cd : x.p ≠ x.cd
  p_wi : x.p ≠ x.wi
  p_ai : x.p ≠ x.ai
  c_ci : x.c ≠ x.ci
  c_si : x.c ≠ x.si
  c_hi : x.c ≠ x.hi
  c_cd : x.c ≠ x.cd
  c_wi : x.c ≠ x.wi
  c_ai : x.c ≠ x.ai
  ci_si : x.ci ≠ x.si
  ci_hi : x.ci ≠ x.hi
  ci_cd : x.ci ≠ x.cd
  ci_wi : x.ci ≠ x.wi
  ci_ai : x.ci ≠ x.ai
  si_hi : x.si ≠ x.hi
  si_cd : x.si ≠ x.cd
  si_wi : x.si ≠ x.wi
  si_ai : x.si ≠ x.ai
  hi_cd : x.hi ≠ x.cd
  hi_wi : x.hi ≠ x.wi
  hi_ai : x.hi ≠ x.ai
  cd_wi : x.cd ≠ x.wi
  cd_ai : x.cd ≠ x.ai
  wi_ai : x.wi ≠ x.ai
structure Pr (M : Mem) (x : Ix) (n : Nat) (N : Nt) (R : Run) : Prop where
  pool : PoolAt M x.p x.c
  b : Base x.U M N n R
  crew : CrewAt M x.ci x.si x.hi n N R
  cnt : CntAt M x.cd x.wi x.ai N R
  o : RunOk N R
  nd : Dis x
/-- from one state to a later one -/
structure Goes (x : Ix) (M : Mem) (y : Ix) (M1 : Mem) : Prop where
  k : Keep x.U M M1
  ix : ∀ i ∈ y.U, i ∈ x.U ∨ M.length ≤ i
  e : y.p = x.p ∧ y.c = x.c ∧ y.ci = x.ci ∧ y.cd = x.cd
theorem Goes.refl {x : Ix} {M : Mem} : Goes x M x M := ⟨Keep.refl, fun _ h => .inl h, rfl, rfl, rfl, rfl⟩
theorem Goes.trans {x y z : Ix} {M M1 M2 : Mem} (a : Goes x M y M1) (b : Goes y M1 z M2) : Goes x M z M2 := by
  refine ⟨a.k.new b.k a.ix, fun i hi => ?_, ?_⟩
  · rcases b.ix i hi with h | h
    · exact a.ix i h
    · exact .inr (Nat.le_trans a.k.len h)
  · obtain ⟨a1, a2, a3, a4⟩ := a.e
    obtain ⟨b1, b2, b3, b4⟩ := b.e
    exact ⟨b1.trans a1, b2.trans a2, b3.trans a3, b4.trans a4⟩
structure SameRun (R R0 : Run) : Prop where
  many : R.many = R0.many
  rows : R.rows = R0.rows
  ads : R.ads = R0.ads
  x0 : R.x0 = R0.x0
theorem SameRun.refl {R : Run} : SameRun R R := ⟨rfl, rfl, rfl, rfl⟩
theorem SameRun.trans {R R1 R2 : Run} (a : SameRun R R1) (b : SameRun R1 R2) : SameRun R R2 := ⟨a.many.trans b.many, a.rows.trans b.rows, a.ads.trans b.ads, a.x0.trans b.x0⟩
theorem sameRun_del {N : Nt} {R : Run} {i : Nat} {q : Nat × Nat} : SameRun (delR N R i q) R := by
  unfold delR
  split
  · split <;> exact ⟨rfl, rfl, rfl, rfl⟩
  · exact ⟨rfl, rfl, rfl, rfl⟩
theorem sameRun_lose {R : Run} {i : Nat} {q : Nat × Nat} : SameRun (loseR R i q) R := by
  unfold loseR
  split <;> exact ⟨rfl, rfl, rfl, rfl⟩
theorem len_del {N : Nt} {R : Run} {i : Nat} {q : Nat × Nat} : (delR N R i q).sent.length ≤ R.sent.length + R.many := by
  have h := List.length_eraseIdx_le R.sent i
  unfold delR
  split
  · split
    · show (R.sent.eraseIdx i ++ if R.num + 1 = 5 * N.lay.length then [] else fresh (R.num + 1) R.many).length ≤ _
      rw [List.length_append]
      split
      · simp
        omega
      · simp [fresh]
        omega
    · show (R.sent.eraseIdx i).length ≤ _
      omega
  · show (R.sent.eraseIdx i).length ≤ _
    omega
theorem len_lose {R : Run} {i : Nat} {q : Nat × Nat} (hi : i < R.sent.length) : (loseR R i q).sent.length ≤ R.sent.length := by
  have h := List.length_eraseIdx_of_lt hi
  unfold loseR
  split
  · show (R.sent.eraseIdx i ++ [q]).length ≤ _
    rw [List.length_append, h, List.length_singleton]
    omega
  · show (R.sent.eraseIdx i).length ≤ _
    omega
theorem plain_sent {n : Nat} {l : List (Nat × Nat)} (h : l.length ≤ 1000000) : plainB (n + 3) (.tup (l.map pk)) = true := by
  show (decide ((l.map pk).length ≤ 1000000) && (l.map pk).all (plainB (n + 2))) = true
  rw [List.length_map, decide_eq_true h, Bool.true_and, List.all_map, List.all_eq_true]
  intro x _
  rfl
section
variable {M : Mem} {x : Ix} {n : Nat} {N : Nt} {R : Run} {P : D → Mem → Prop}
theorem Pr.lt (h : Pr M x n N R) : ∀ i ∈ x.U, i < M.length := by
  obtain ⟨_, _, _, _, _, _, h1, h2, _⟩ := h.pool
  have l := fun {j : Nat} {o : O} (z : M[j]? = some o) => (List.getElem?_eq_some_iff.mp z).1
  have a1 := l h1
  have a2 := l h2
  have a3 := l h.crew.g
  have a4 := l h.crew.s
  have a5 := l h.crew.h
  have a6 := l h.cnt.g
  have a7 := l h.cnt.s
  have a8 := l h.cnt.h
  simp only [Ix.U, List.mem_cons, List.not_mem_nil, or_false]
  rintro i (rfl | rfl | rfl | rfl | rfl | rfl | rfl | rfl) <;> assumption
/-- something was drawn -/
theorem Pr.drawn (h : Pr M x n N R) {M1 : Mem} (k : Keep [x.p] M M1) (p1 : PoolAt M1 x.p x.c) : Pr M1 x n N R ∧ Goes x M x M1 := by
  have d := h.nd
  exact ⟨⟨p1, h.b.keep k (by simp [Ix.U]), h.crew.keep k (by simpa using Ne.symm d.p_ci) (by simpa using Ne.symm d.p_si) (by simpa using Ne.symm d.p_hi), h.cnt.keep k (by simpa using Ne.symm d.p_cd) (by simpa using Ne.symm d.p_wi) (by simpa using Ne.symm d.p_ai), h.o, h.nd⟩, k.mono (by simp [Ix.U]), fun _ z => .inl z, rfl, rfl, rfl, rfl⟩
theorem Pr.kept (h : Pr M x n N R) {M1 : Mem} (k : Keep [] M M1) : Pr M1 x n N R ∧ Goes x M x M1 :=
  ⟨⟨h.pool.keep0 k, h.b.keep0 k, h.crew.keep k (by simp) (by simp) (by simp), h.cnt.keep k (by simp) (by simp) (by simp), h.o, h.nd⟩, k.nil, fun _ z => .inl z, rfl, rfl, rfl, rfl⟩
theorem fs_ne {a a' b L : Nat} (h : a' = a ∨ L ≤ a') (hb : b < L) (d : b ≠ a) : b ≠ a' := by
  rcases h with rfl | h
  · exact d
  · omega
theorem fs_len {a a' L L1 : Nat} (h : a' = a ∨ L1 ≤ a') (l : L ≤ L1) : a' = a ∨ L ≤ a' := h.imp id fun z => Nat.le_trans l z
theorem ix_new {x : Ix} {L hi' wi' ai' : Nat} (hw : wi' = x.wi ∨ L ≤ wi') (ha : ai' = x.ai ∨ L ≤ ai') (hh : hi' = x.hi ∨ L ≤ hi') : ∀ i ∈ (⟨x.p, x.c, x.ci, x.si, hi', x.cd, wi', ai'⟩ : Ix).U, i ∈ x.U ∨ L ≤ i := by
  simp only [Ix.U, List.mem_cons, List.not_mem_nil, or_false]
  rintro i (rfl | rfl | rfl | rfl | rfl | rfl | rfl | rfl)
  · simp
  · simp
  · simp
  · simp
  · rcases hh with rfl | h
    · simp
    · exact .inr h
  · simp
  · rcases hw with rfl | h
    · simp
    · exact .inr h
  · rcases ha with rfl | h
    · simp
    · exact .inr h
/-- a deed on both sides: first on the counts, then on the crew -/
theorem Pr.both (h : Pr M x n N R) {R' : Run} (sr : SameRun R' R) (o' : RunOk N R') {wi' ai' hi' : Nat} {M1 M2 : Mem} (k1 : Keep [x.cd, x.wi, x.ai] M M1) (hw : wi' = x.wi ∨ M.length ≤ wi') (ha : ai' = x.ai ∨ M.length ≤ ai') (c1 : CntAt M1 x.cd wi' ai' N R')
    (k2 : Keep [x.ci, x.si, x.hi] M1 M2) (hh : hi' = x.hi ∨ M1.length ≤ hi') (c2 : CrewAt M2 x.ci x.si hi' n N R') : Pr M2 ⟨x.p, x.c, x.ci, x.si, hi', x.cd, wi', ai'⟩ n N R' ∧ Goes x M ⟨x.p, x.c, x.ci, x.si, hi', x.cd, wi', ai'⟩ M2 := by
  have d := h.nd
  have lt := h.lt
  have l1 := k1.len
  have lp := lt x.p (by simp [Ix.U])
  have lc := lt x.c (by simp [Ix.U])
  have lci := lt x.ci (by simp [Ix.U])
  have lsi := lt x.si (by simp [Ix.U])
  have lhi := lt x.hi (by simp [Ix.U])
  have lcd := lt x.cd (by simp [Ix.U])
  have lw1 : wi' < M1.length := (List.getElem?_eq_some_iff.mp c1.s).1
  have la1 : ai' < M1.length := (List.getElem?_eq_some_iff.mp c1.h).1
  have kU : Keep x.U M M2 := (k1.mono (by simp [Ix.U])).trans (k2.mono (by simp [Ix.U]))
  have ix := ix_new (x := x) hw ha (fs_len hh l1)
  have up : ∀ {a : Nat}, a < M.length → a < M1.length := fun z => Nat.lt_of_lt_of_le z l1
  have wci := fs_ne hw lci d.ci_wi
  have wsi := fs_ne hw lsi d.si_wi
  have whi := fs_ne hw lhi d.hi_wi
  have aci := fs_ne ha lci d.ci_ai
  have asi := fs_ne ha lsi d.si_ai
  have ahi := fs_ne ha lhi d.hi_ai
  refine ⟨⟨?_, ?_, c2, ?_, o', ?_⟩, kU, ix, rfl, rfl, rfl, rfl⟩
  · exact (h.pool.keep k1 (by simp [d.p_cd, d.p_wi, d.p_ai]) (by simp [d.c_cd, d.c_wi, d.c_ai])).keep k2 (by simp [d.p_ci, d.p_si, d.p_hi]) (by simp [d.c_ci, d.c_si, d.c_hi])
  · exact ((h.b.fresh (V := x.U ++ (⟨x.p, x.c, x.ci, x.si, hi', x.cd, wi', ai'⟩ : Ix).U) (fun i hi => by
      rcases List.mem_append.mp hi with hi | hi
      · exact .inl hi
      · exact ix i hi)).keep kU (fun i hi => List.mem_append_left _ hi)).weak (fun i hi => List.mem_append_right _ hi) |>.run sr.ads sr.rows sr.x0 sr.many
  · exact c1.keep k2 (by simp [Ne.symm d.ci_cd, Ne.symm d.si_cd, Ne.symm d.hi_cd]) (by simp [Ne.symm wci, Ne.symm wsi, Ne.symm whi]) (by simp [Ne.symm aci, Ne.symm asi, Ne.symm ahi])
  · exact {
      p_c := d.p_c, p_ci := d.p_ci, p_si := d.p_si, p_hi := fs_ne hh (up lp) d.p_hi, p_cd := d.p_cd, p_wi := fs_ne hw lp d.p_wi, p_ai := fs_ne ha lp d.p_ai
      c_ci := d.c_ci, c_si := d.c_si, c_hi := fs_ne hh (up lc) d.c_hi, c_cd := d.c_cd, c_wi := fs_ne hw lc d.c_wi, c_ai := fs_ne ha lc d.c_ai
      ci_si := d.ci_si, ci_hi := c2.d2, ci_cd := d.ci_cd, ci_wi := wci, ci_ai := aci
      si_hi := c2.d3, si_cd := d.si_cd, si_wi := wsi, si_ai := asi
      hi_cd := Ne.symm (fs_ne hh (up lcd) (Ne.symm d.hi_cd)), hi_wi := Ne.symm (fs_ne hh lw1 (Ne.symm whi)), hi_ai := Ne.symm (fs_ne hh la1 (Ne.symm ahi))
      cd_wi := c1.d1, cd_ai := c1.d2, wi_ai := c1.d3 }
end


section
variable {M : Mem} {x : Ix} {n : Nat} {N : Nt} {R : Run} {P : D → Mem → Prop}
theorem deeds_ok (h : Pr M x n N R) (deeds : Nat) (hB : R.sent.length + (R.many + 1) * deeds ≤ 1000)
    (k : ∀ y M1 R1, Pr M1 y n N R1 → Goes x M y M1 → SameRun R1 R → R1.sent.length ≤ R.sent.length + (R.many + 1) * deeds → P (.bl true) M1) :
    L3.R.W (m__law_some_deeds [.ref x.p, .ref x.ci, .ref x.cd, .int (deeds : Int)] M) P := by
  have hml := h.b.manyl
  have hm := h.b.many
  have hde : deeds ≤ 1000 := by
    have : 1 * deeds ≤ (R.many + 1) * deeds := Nat.mul_le_mul_right _ (by omega)
    omega
  unfold m__law_some_deeds b__law_some_deeds
  array_get_dec
  refine ⟨by omega, by omega, ?_⟩
  rw [Int.toNat_natCast]
  refine for_go (Inv := fun t s M1 => ∃ o4 o5 o6 o7 o8 o9 y R1, s = [some (.ref x.p), some (.ref x.ci), some (.ref x.cd), some (.int (deeds : Int)), o4, o5, o6, o7, o8, o9] ∧ Pr M1 y n N R1 ∧ Goes x M y M1 ∧ SameRun R1 R ∧ R1.sent.length ≤ R.sent.length + (R.many + 1) * t) (fun k s M1 _ => rfl) ?_ ⟨none, none, none, none, none, none, x, R, rfl, h, Goes.refl, SameRun.refl, by omega⟩ ?_
  · rintro t cc s M1 hk ⟨o4, o5, o6, o7, o8, o9, y, R1, rfl, h1, go, sr, hlen⟩
    obtain ⟨ht, rfl⟩ := rng_at (show (rngD 0 deeds)[t]? = some cc from hk)
    have hB1 : R.sent.length + (R.many + 1) * (t + 1) ≤ 1000 := by
      have : (R.many + 1) * (t + 1) ≤ (R.many + 1) * deeds := Nat.mul_le_mul_left _ ht
      omega
    have hstep : (R.many + 1) * (t + 1) = (R.many + 1) * t + (R.many + 1) := by rw [Nat.mul_add, Nat.mul_one]
    refine ⟨_, M1, rfl, ?_⟩
    obtain ⟨e1, e2, e3, e4⟩ := go.e
    rw [← e1, ← e3, ← e4]
    array_get_dec
    rw [ci_waiting h1.cnt.g, W_src_ref]
    refine ⟨_, SrcIs.get (.inr (.inr ⟨_, rfl, h1.cnt.s⟩)), ?_⟩
    rw [List.length_map]
    by_cases hne : 0 < R1.sent.length
    · rw [if_pos (decide_eq_true (by omega)), ci_waiting h1.cnt.g, W_src_ref]
      refine ⟨_, SrcIs.get (.inr (.inr ⟨_, rfl, h1.cnt.s⟩)), ?_⟩
      rw [List.length_map]
      refine draw_ok h1.pool hne (by omega) fun i M2 hi k2 l2 p2 => ?_
      obtain ⟨h2, go2⟩ := h1.drawn k2 p2
      refine draw_ok h2.pool (many := 5) (by decide) (by decide) fun kind M3 hki k3 l3 p3 => ?_
      obtain ⟨h3, go3⟩ := h2.drawn k3 p3
      have goA := (go.trans go2).trans go3
      obtain ⟨q, hq⟩ : ∃ q, R1.sent[i]? = some q := ⟨_, List.getElem?_eq_getElem hi⟩
      have hpair : ∀ (d : D) (R2 : Run) (M5 : Mem) (P : D → Mem → Prop), R2.sent.length ≤ 1001 → plainB 11 d = true → P (.bl true) M5 → L3.R.W (m__law_same 12 [.tup [d, .tup (R2.sent.map pk)], .tup [d, .tup (R2.sent.map pk)]] M5) P := by
        intro d R2 M5 P hl2 hd hp
        refine same_ok 12 _ ?_ hp
        have : plainB 11 (.tup (R2.sent.map pk)) = true := plain_sent (n := 8) (by omega)
        show (decide (2 ≤ 1000000) && (plainB 11 d && (plainB 11 (.tup (R2.sent.map pk)) && true))) = true
        rw [hd, this]
        rfl
      have hm1 := sr.many
      have hl1 : R1.sent.length ≤ 1000 := by omega
      have hml1 : R1.many ≤ 1000 := by omega
      have d3 := h3.nd
      rw [eq_int]
      refine ⟨_, rfl, ?_⟩
      by_cases hk0 : kind = 0
      · rw [if_pos (decide_eq_true (by omega)), ci_waiting h3.cnt.g]
        refine ⟨isLst_of h3.cnt.s, ?_⟩
        rw [ci_waiting h3.cnt.g, W_ixL h3.cnt.s]
        refine ⟨pk q, by rw [ix_nat, List.getElem?_map, hq]; rfl, y.wi, rfl, _, h3.cnt.s, okLen_of (by simp; omega), ?_⟩
        have k4 : Keep [y.wi] M3 (M3.set y.wi (.lst (R1.sent.map pk ++ [pk q]))) := Keep.set (by simp)
        have hs4 : (M3.set y.wi (.lst (R1.sent.map pk ++ [pk q])))[y.wi]? = some (.lst ((dblR R1 q).sent.map pk)) := by
          rw [set_at h3.cnt.s]
          show some (O.lst _) = some (O.lst ((R1.sent ++ [q]).map pk))
          simp
        generalize M3.set y.wi (.lst (R1.sent.map pk ++ [pk q])) = M4 at *
        have c4 : CntAt M4 y.cd y.wi y.ai N (dblR R1 q) := ⟨h3.cnt.g.keep k4 (by simp [d3.cd_wi]), hs4, k4.get h3.cnt.h (by simp [Ne.symm d3.wi_ai]), d3.cd_wi, d3.cd_ai, d3.wi_ai⟩
        have w4 := h3.crew.keep k4 (by simp [d3.ci_wi]) (by simp [d3.si_wi]) (by simp [d3.hi_wi])
        refine ⟨_, w4.g, rfl, double_ok w4 hq (by omega) fun M5 k5 c5 => ?_⟩
        obtain ⟨h5, go5⟩ := h3.both (R' := dblR R1 q) ⟨rfl, rfl, rfl, rfl⟩ (runOk_dbl h3.o (List.mem_of_getElem? hq)) (k4.mono (by simp)) (.inl rfl) (.inl rfl) c4 k5 (.inl rfl) c5
        refine ⟨_, c5.g, rfl, waiting_ok c5.g rfl c5.s ?_⟩
        refine ⟨rfl, ?_⟩
        rw [ci_waiting h5.cnt.g, W_src_ref]
        have hl5 : (dblR R1 q).sent.length ≤ R1.sent.length + 1 := by show (R1.sent ++ [q]).length ≤ _; simp
        refine ⟨_, SrcIs.get (.inr (.inr ⟨_, rfl, h5.cnt.s⟩)), rfl, hpair .non (dblR R1 q) M5 _ (by omega) rfl ?_⟩
        refine ⟨_, rfl, ?_⟩
        rw [if_neg (by decide)]
        exact ⟨_, _, _, _, _, _, _, dblR R1 q, by rw [e1, e3, e4], h5, goA.trans go5, (show SameRun (dblR R1 q) R1 from ⟨rfl, rfl, rfl, rfl⟩).trans sr, by rw [hstep]; omega⟩
      · rw [if_neg (by simp; omega), eq_int]
        refine ⟨_, rfl, ?_⟩
        by_cases hk1 : kind = 1
        · rw [if_pos (decide_eq_true (by omega)), ci_waiting h3.cnt.g]
          refine ⟨isLst_of h3.cnt.s, y.wi, rfl, _, h3.cnt.s, ?_⟩
          rw [W_popD (by rw [List.getElem?_map, hq]; rfl) (by omega), map_erase]
          have k4 : Keep [y.wi] M3 (M3.set y.wi (.lst ((R1.sent.eraseIdx i).map pk))) := Keep.set (by simp)
          have hs4 := set_at (o := .lst ((R1.sent.eraseIdx i).map pk)) h3.cnt.s
          generalize M3.set y.wi (.lst ((R1.sent.eraseIdx i).map pk)) = M4 at *
          have g4 := h3.cnt.g.keep k4 (by simp [d3.cd_wi])
          have hh4 := k4.get h3.cnt.h (by simp [Ne.symm d3.wi_ai])
          have w4 := h3.crew.keep k4 (by simp [d3.ci_wi]) (by simp [d3.si_wi]) (by simp [d3.hi_wi])
          have b4 : Base [y.ci, y.si, y.hi] M4 N n R1 := (h3.b.keep k4 (by simp [Ix.U])).weak (by simp [Ix.U])
          refine l_wanted_ok g4 hh4 ?_
          have hse : ∀ (M5 : Mem) (P : D → Mem → Prop), Keep [y.wi] M3 M5 → M5[y.wi]? = some (.lst ((loseR R1 i q).sent.map pk)) → (∀ y' M6, Pr M6 y' n N (loseR R1 i q) → Goes y M3 y' M6 → y'.ci = y.ci → y'.cd = y.cd → P .non M6) → L3.R.W (m_Crew_lose [.ref y.ci, .int (i : Int)] M5) P := by
            intro M5 P k5 hs5 kk
            have g5 := h3.cnt.g.keep k5 (by simp [d3.cd_wi])
            have hh5 := k5.get h3.cnt.h (by simp [Ne.symm d3.wi_ai])
            have w5 := h3.crew.keep k5 (by simp [d3.ci_wi]) (by simp [d3.si_wi]) (by simp [d3.hi_wi])
            have b5 : Base [y.ci, y.si, y.hi] M5 N n R1 := (h3.b.keep k5 (by simp [Ix.U])).weak (by simp [Ix.U])
            refine lose_ok b5 h3.o w5 hq (by omega) fun M6 k6 c6 => ?_
            have sl := sameRun_lose (R := R1) (i := i) (q := q)
            have enum : (loseR R1 i q).num = R1.num := by unfold loseR; split <;> rfl
            have ehad : (loseR R1 i q).had = R1.had := by unfold loseR; split <;> rfl
            have c5 : CntAt M5 y.cd y.wi y.ai N (loseR R1 i q) := ⟨by rw [sl.many, enum]; exact g5, hs5, by rw [ehad]; exact hh5, d3.cd_wi, d3.cd_ai, d3.wi_ai⟩
            obtain ⟨h6, go6⟩ := h3.both (R' := loseR R1 i q) sl (runOk_lose h3.o hq) (k5.mono (by simp)) (.inl rfl) (.inl rfl) c5 k6 (.inl rfl) c6
            exact kk _ M6 h6 go6 rfl rfl
          have hil : i < R1.sent.length := (List.getElem?_eq_some_iff.mp hq).1
          have hl5 := len_lose (R := R1) (q := q) hil
          have tail : ∀ (M6 : Mem) (y' : Ix) (o9 : Option D), Pr M6 y' n N (loseR R1 i q) → Goes y M3 y' M6 → y'.ci = y.ci → y'.cd = y.cd →
              ∃ fs, M6[y.ci]? = some (.ins "Crew" fs) ∧ (List.lookup "waiting" fs).isNone = true ∧ L3.R.W (m_Crew_waiting [.ref y.ci] M6) fun x_1 M1 => okLen 2 = true ∧ L3.R.W (opIx (.ref y.cd) (.str "waiting") M1) fun d_1 M1 => L3.R.W (srcOf d_1 M1) fun x_2 M1 => ∃ ds, Src.get M1 x_2 = some ds ∧ okLen 2 = true ∧ L3.R.W (m__law_same 12 [.tup [.non, x_1], .tup [.non, .tup ds]] M1) fun d_2 M1 => ∃ b, d_2 = .bl b ∧ if (!b) = true then False else
                ∃ o4 o5 o6 o7 o8 o9' y_1 R1, [some (.ref y.p), some (.ref y.ci), some (.ref y.cd), some (.int (deeds : Int)), some (.int (t : Int)), some (.int (i : Int)), some (.int (kind : Int)), some D.non, some D.non, o9] = [some (D.ref y.p), some (.ref y.ci), some (.ref y.cd), some (.int (deeds : Int)), o4, o5, o6, o7, o8, o9'] ∧ Pr M1 y_1 n N R1 ∧ Goes x M y_1 M1 ∧ SameRun R1 R ∧ R1.sent.length ≤ R.sent.length + (R.many + 1) * (t + 1) := by
            intro M6 y' o9 h6 go6 ei ec
            have hc6 := h6.crew
            have hg6 := h6.cnt.g
            rw [ei] at hc6
            rw [ec] at hg6
            refine ⟨_, hc6.g, rfl, waiting_ok hc6.g rfl hc6.s ?_⟩
            refine ⟨rfl, ?_⟩
            rw [ci_waiting hg6, W_src_ref]
            refine ⟨_, SrcIs.get (.inr (.inr ⟨_, rfl, h6.cnt.s⟩)), rfl, hpair .non (loseR R1 i q) M6 _ (by omega) rfl ?_⟩
            refine ⟨_, rfl, ?_⟩
            rw [if_neg (by decide)]
            exact ⟨_, _, _, _, _, _, y', loseR R1 i q, rfl, h6, goA.trans go6, sameRun_lose.trans sr, by rw [hstep]; omega⟩
          have hcut : ∀ (hh : ¬(wantB R1 q = true ∧ (R1.sent.eraseIdx i).contains q = false)), M4[y.wi]? = some (.lst ((loseR R1 i q).sent.map pk)) := by
            intro hh
            unfold loseR
            rw [if_neg hh]
            exact hs4
          cases hwb : wantB R1 q with
          | false =>
            refine ⟨_, rfl, ?_⟩
            rw [if_neg (by decide)]
            refine ⟨_, w4.g, rfl, hse M4 _ k4 (hcut (by rw [hwb]; simp)) fun y' M6 h6 go6 ei ec => ?_⟩
            exact tail M6 y' _ h6 go6 ei ec
          | true =>
            refine ⟨_, rfl, ?_⟩
            rw [if_pos rfl, ci_waiting g4, W_src_ref]
            refine in_pk hs4 ?_
            refine ⟨_, rfl, ?_⟩
            have e : ((R1.sent.eraseIdx i).any fun n => n == q) = (R1.sent.eraseIdx i).contains q := by
              rw [Bool.eq_iff_iff]
              simp
            rw [e]
            cases hcc : (R1.sent.eraseIdx i).contains q with
            | true =>
              rw [if_neg (by decide)]
              refine ⟨_, w4.g, rfl, hse M4 _ k4 (hcut (by rw [hcc]; simp)) fun y' M6 h6 go6 ei ec => ?_⟩
              exact tail M6 y' _ h6 go6 ei ec
            | false =>
              rw [if_pos (by decide), ci_waiting g4]
              refine ⟨isLst_of hs4, y.wi, rfl, _, hs4, okLen_of ?_, ?_⟩
              · have := List.length_eraseIdx_le R1.sent i
                rw [List.length_map]
                omega
              · have k5 : Keep [y.wi] M4 (M4.set y.wi (.lst ((R1.sent.eraseIdx i).map pk ++ [pk q]))) := Keep.set (by simp)
                have hs5 : (M4.set y.wi (.lst ((R1.sent.eraseIdx i).map pk ++ [pk q])))[y.wi]? = some (.lst ((loseR R1 i q).sent.map pk)) := by
                  rw [set_at hs4]
                  unfold loseR
                  rw [if_pos ⟨hwb, hcc⟩]
                  show some (O.lst _) = some (O.lst ((R1.sent.eraseIdx i ++ [q]).map pk))
                  rw [List.map_append]
                  rfl
                have w5 := w4.keep k5 (by simp [d3.ci_wi]) (by simp [d3.si_wi]) (by simp [d3.hi_wi])
                refine ⟨_, w5.g, rfl, hse _ _ (k4.trans k5) hs5 fun y' M6 h6 go6 ei ec => ?_⟩
                exact tail M6 y' _ h6 go6 ei ec
        · rw [if_neg (by simp; omega)]
          refine arrives_ok h3.o hml1 h3.cnt hq (by omega) fun wi' ai' M4 k4 hw ha c4 => ?_
          have w4 := h3.crew.keep k4 (by simp [d3.ci_cd, d3.ci_wi, d3.ci_ai]) (by simp [d3.si_cd, d3.si_wi, d3.si_ai]) (by simp [d3.hi_cd, d3.hi_wi, d3.hi_ai])
          have b4 : Base [y.ci, y.si, y.hi] M4 N n R1 := (h3.b.keep k4 (by simp [Ix.U])).weak (by simp [Ix.U])
          refine ⟨_, w4.g, rfl, deliver_ok b4 h3.o w4 hq (by omega) fun hi' M5 k5 hh c5 => ?_⟩
          obtain ⟨h5, go5⟩ := h3.both (R' := delR N R1 i q) sameRun_del (runOk_del h3.o hq) k4 hw ha c4 k5 hh c5
          refine ⟨_, c5.g, rfl, waiting_ok c5.g rfl c5.s ?_⟩
          refine ⟨rfl, ?_⟩
          rw [ci_waiting h5.cnt.g, W_src_ref]
          have hl5 := len_del (N := N) (R := R1) (i := i) (q := q)
          refine ⟨_, SrcIs.get (.inr (.inr ⟨_, rfl, h5.cnt.s⟩)), rfl, hpair (.bl (wantB R1 q)) (delR N R1 i q) M5 _ (by omega) rfl ?_⟩
          refine ⟨_, rfl, ?_⟩
          rw [if_neg (by decide)]
          exact ⟨_, _, _, _, _, _, _, delR N R1 i q, by rw [e1, e3, e4], h5, goA.trans go5, sameRun_del.trans sr, by rw [hstep]; omega⟩
    · rw [if_neg (by intro z; have := of_decide_eq_true z; omega)]
      exact ⟨_, _, _, _, _, _, y, R1, by rw [e1, e3, e4], h1, go, sr, by rw [hstep]; omega⟩
  · rintro s M1 ⟨o4, o5, o6, o7, o8, o9, y, R1, rfl, h1, go, sr, hlen⟩
    rw [show (It3.rng 0 deeds).items = rngD 0 deeds from rfl, rng_len] at hlen
    exact k y M1 R1 h1 go sr hlen
end


section
variable {M : Mem} {x : Ix} {n : Nat} {N : Nt} {R : Run} {P : D → Mem → Prop}
/-- .. first on the crew, then on the counts -/
theorem Pr.both2 (h : Pr M x n N R) {R' : Run} (sr : SameRun R' R) (o' : RunOk N R') {wi' ai' hi' : Nat} {M1 M2 : Mem} (k2 : Keep [x.ci, x.si, x.hi] M M1) (hh : hi' = x.hi ∨ M.length ≤ hi') (c2 : CrewAt M1 x.ci x.si hi' n N R')
    (k1 : Keep [x.cd, x.wi, x.ai] M1 M2) (hw : wi' = x.wi ∨ M1.length ≤ wi') (ha : ai' = x.ai ∨ M1.length ≤ ai') (c1 : CntAt M2 x.cd wi' ai' N R') : Pr M2 ⟨x.p, x.c, x.ci, x.si, hi', x.cd, wi', ai'⟩ n N R' ∧ Goes x M ⟨x.p, x.c, x.ci, x.si, hi', x.cd, wi', ai'⟩ M2 := by
  have d := h.nd
  have lt := h.lt
  have l1 := k2.len
  have lp := lt x.p (by simp [Ix.U])
  have lc := lt x.c (by simp [Ix.U])
  have lci := lt x.ci (by simp [Ix.U])
  have lsi := lt x.si (by simp [Ix.U])
  have lcd := lt x.cd (by simp [Ix.U])
  have lwi := lt x.wi (by simp [Ix.U])
  have lai := lt x.ai (by simp [Ix.U])
  have lh1 : hi' < M1.length := (List.getElem?_eq_some_iff.mp c2.h).1
  have kU : Keep x.U M M2 := (k2.mono (by simp [Ix.U])).trans (k1.mono (by simp [Ix.U]))
  have ix := ix_new (x := x) (fs_len hw l1) (fs_len ha l1) hh
  have up : ∀ {a : Nat}, a < M.length → a < M1.length := fun z => Nat.lt_of_lt_of_le z l1
  have cdh := fs_ne hh lcd (Ne.symm d.hi_cd)
  have wih := fs_ne hh lwi (Ne.symm d.hi_wi)
  have aih := fs_ne hh lai (Ne.symm d.hi_ai)
  refine ⟨⟨?_, ?_, ?_, c1, o', ?_⟩, kU, ix, rfl, rfl, rfl, rfl⟩
  · exact (h.pool.keep k2 (by simp [d.p_ci, d.p_si, d.p_hi]) (by simp [d.c_ci, d.c_si, d.c_hi])).keep k1 (by simp [d.p_cd, d.p_wi, d.p_ai]) (by simp [d.c_cd, d.c_wi, d.c_ai])
  · exact ((h.b.fresh (V := x.U ++ (⟨x.p, x.c, x.ci, x.si, hi', x.cd, wi', ai'⟩ : Ix).U) (fun i hi => by
      rcases List.mem_append.mp hi with hi | hi
      · exact .inl hi
      · exact ix i hi)).keep kU (fun i hi => List.mem_append_left _ hi)).weak (fun i hi => List.mem_append_right _ hi) |>.run sr.ads sr.rows sr.x0 sr.many
  · exact c2.keep k1 (by simp [d.ci_cd, d.ci_wi, d.ci_ai]) (by simp [d.si_cd, d.si_wi, d.si_ai]) (by simp [Ne.symm cdh, Ne.symm wih, Ne.symm aih])
  · exact {
      p_c := d.p_c, p_ci := d.p_ci, p_si := d.p_si, p_hi := fs_ne hh lp d.p_hi, p_cd := d.p_cd, p_wi := fs_ne hw (up lp) d.p_wi, p_ai := fs_ne ha (up lp) d.p_ai
      c_ci := d.c_ci, c_si := d.c_si, c_hi := fs_ne hh lc d.c_hi, c_cd := d.c_cd, c_wi := fs_ne hw (up lc) d.c_wi, c_ai := fs_ne ha (up lc) d.c_ai
      ci_si := d.ci_si, ci_hi := c2.d2, ci_cd := d.ci_cd, ci_wi := fs_ne hw (up lci) d.ci_wi, ci_ai := fs_ne ha (up lci) d.ci_ai
      si_hi := c2.d3, si_cd := d.si_cd, si_wi := fs_ne hw (up lsi) d.si_wi, si_ai := fs_ne ha (up lsi) d.si_ai
      hi_cd := Ne.symm cdh, hi_wi := fs_ne hw lh1 (Ne.symm wih), hi_ai := fs_ne ha lh1 (Ne.symm aih)
      cd_wi := c1.d1, cd_ai := c1.d2, wi_ai := c1.d3 }
/-- how far a crew is -/
def meas (R : Run) : Nat := R.num * R.many + R.had.length
theorem meas_del {N : Nt} {R : Run} {i : Nat} {q : Nat × Nat} (hw : wantB R q = true) : meas (delR N R i q) = meas R + 1 := by
  unfold delR meas
  rw [if_pos hw]
  split
  · rename_i hf
    show (R.num + 1) * R.many + 0 = _
    rw [Nat.succ_mul]
    omega
  · show R.num * R.many + (R.had ++ [q.2]).length = _
    rw [List.length_append, List.length_singleton]
    omega
theorem meas_done {N : Nt} {R : Run} (o : RunOk N R) (h : 5 * N.lay.length * R.many ≤ meas R) : R.num = 5 * N.lay.length := by
  have h1 := o.le
  have h2 := o.hl
  unfold meas at h
  apply Classical.byContradiction
  intro hne
  have h3 : R.num + 1 ≤ 5 * N.lay.length := by omega
  have h4 : (R.num + 1) * R.many ≤ 5 * N.lay.length * R.many := Nat.mul_le_mul_right _ h3
  rw [Nat.succ_mul] at h4
  omega
theorem refused_ok {ci : Nat} {C : CG} (h : CrG M ci C) (hn : NetAt M n N) (hC : C.n = .ref n) {e : D} {a : Nat} (ha : ¬ a < N.emb.length) (k : P (.bl true) M) : L3.R.W (m__law_refused [.ref ci, e, .int (a : Int)] M) P := by
  unfold m__law_refused b__law_refused
  rw [W_fnB, V_sq, V_sSet, W_eC, V_sq]
  have e0 : (sDrop (eMeth "Crew" "begin" 3 m_Crew_begin (eV 0) (aCons (eV 1) (aCons (eV 2) aNil)))) ([some (.ref ci), some e, some (.int (a : Int)), some D.non, none]) M = .exc "InvalidLetter" (.int (a : Int)) [some (.ref ci), some e, some (.int (a : Int)), some D.non, none] M := by
    have hb := begin_bad (e := e) h hn hC ha
    have hM : M[ci]? = some (.ins "Crew" (cgF C)) := h
    have hl : ((cgF C).lookup "begin").isNone = true := rfl
    simp only [sDrop, eMeth, eV, aCons, aNil, L3.R.bind, L3.R.bindS, onInsR, List.getElem?_cons_zero, List.getElem?_cons_succ, hM, hl, if_true, List.length_cons, List.length_nil, hb]
  have e1 : (sTryGet "InvalidLetter" 3 4 (sDrop (eMeth "Crew" "begin" 3 m_Crew_begin (eV 0) (aCons (eV 1) (aCons (eV 2) aNil))))) ([some (.ref ci), some e, some (.int (a : Int)), some D.non, none]) M = .nx [some (.ref ci), some e, some (.int (a : Int)), some (.int (a : Int)), none] M := by
    unfold sTryGet
    rw [e0]
    rfl
  show RS.V (sTryGet _ _ _ _ [some (.ref ci), some e, some (.int (a : Int)), some D.non, none] M) _ _
  rw [e1, V_nx]
  array_get_dec
  exact same_ok 12 _ rfl k
end


section
variable {M : Mem} {x : Ix} {n : Nat} {N : Nt} {R : Run} {P : D → Mem → Prop}
theorem lacks {R : Run} (h : R.had.length < R.many) : ∃ m, m < R.many ∧ m ∉ R.had := by
  apply Classical.byContradiction
  intro hn
  have := subset_length (List.range R.many) R.had List.nodup_range fun m hm => by
    apply Classical.byContradiction
    intro hm2
    exact hn ⟨m, List.mem_range.mp hm, hm2⟩
  rw [List.length_range] at this
  omega
theorem wants {R : Run} (o : RunOk N R) (hd : R.num < 5 * N.lay.length) : ∃ (i : Nat) (q : Nat × Nat), R.sent[i]? = some q ∧ wantB R q = true := by
  obtain ⟨m, hm, hn⟩ := lacks o.hl
  obtain ⟨i, hi⟩ := List.getElem?_of_mem (o.wait hd m hm hn)
  exact ⟨i, _, hi, wantB_iff.mpr ⟨rfl, hn⟩⟩
theorem delivered_ok (h : Pr M x n N R) (hB : R.sent.length + R.many * (5 * N.lay.length * R.many) ≤ 1000)
    (k : ∀ y M1 R1, Pr M1 y n N R1 → Goes x M y M1 → SameRun R1 R → R1.num = 5 * N.lay.length → P (.bl true) M1) :
    L3.R.W (m__law_delivered [.ref x.p, .ref x.ci, .ref x.cd] M) P := by
  have hml := h.b.manyl
  have hm := h.b.many
  have hT : 5 * N.lay.length * R.many ≤ 1000 := by
    have : 1 * (5 * N.lay.length * R.many) ≤ R.many * (5 * N.lay.length * R.many) := Nat.mul_le_mul_right _ hm
    omega
  have hL := h.b.ok.layl
  unfold m__law_delivered b__law_delivered
  array_get_dec
  rw [ci_rounds h.cnt.g, ci_many h.cnt.g, W_mul]
  refine ⟨.inl (by omega), _, rfl, ?_, ?_, ?_⟩
  · have : (0 : Int) ≤ ((5 * N.lay.length : Nat) : Int) * (R.many : Int) := Int.mul_nonneg (by omega) (by omega)
    omega
  · have : ((5 * N.lay.length : Nat) : Int) * (R.many : Int) = ((5 * N.lay.length * R.many : Nat) : Int) := by simp
    omega
  have eT : (((5 * N.lay.length : Nat) : Int) * (R.many : Int)).toNat = 5 * N.lay.length * R.many := by
    have : ((5 * N.lay.length : Nat) : Int) * (R.many : Int) = ((5 * N.lay.length * R.many : Nat) : Int) := by simp
    rw [this, Int.toNat_natCast]
  rw [eT]
  generalize hTT : 5 * N.lay.length * R.many = T at *
  refine for_go (Inv := fun t s M1 => ∃ o3 o4 o5 y R1, s = [some (.ref x.p), some (.ref x.ci), some (.ref x.cd), o3, o4, o5] ∧ Pr M1 y n N R1 ∧ Goes x M y M1 ∧ SameRun R1 R ∧ R1.sent.length ≤ R.sent.length + R.many * t ∧ (t ≤ meas R1 ∨ R1.num = 5 * N.lay.length)) (fun k s M1 _ => rfl) ?_ ⟨none, none, none, x, R, rfl, h, Goes.refl, SameRun.refl, by omega, .inl (Nat.zero_le _)⟩ ?_
  · rintro t cc s M1 hk ⟨o3, o4, o5, y, R1, rfl, h1, go, sr, hlen, hme⟩
    obtain ⟨ht, rfl⟩ := rng_at (show (rngD 0 T)[t]? = some cc from hk)
    have hB1 : R.sent.length + R.many * (t + 1) ≤ 1000 := by
      have : R.many * (t + 1) ≤ R.many * T := Nat.mul_le_mul_left _ ht
      omega
    have hstep : R.many * (t + 1) = R.many * t + R.many := by rw [Nat.mul_add, Nat.mul_one]
    have hm1 := sr.many
    refine ⟨_, M1, rfl, ?_⟩
    obtain ⟨e1, e2, e3, e4⟩ := go.e
    rw [← e1, ← e3, ← e4]
    array_get_dec
    rw [ci_waiting h1.cnt.g, W_src_ref]
    refine ⟨_, SrcIs.get (.inr (.inr ⟨_, rfl, h1.cnt.s⟩)), by rw [List.length_map]; omega, by rw [List.length_map]; omega, ?_⟩
    rw [Int.toNat_natCast, List.length_map]
    have hl1 : R1.sent.length ≤ 1000 := by omega
    refine (lc_gen (p := fun d => wantB R1 (R1.sent.getD (dNat d) (0, 0))) (F := id) (Inv := fun _ M' => M' = M1) (fun _ M' w => rfl) (by show (rngD 0 _).length < _; rw [rng_len]; omega) ?_ rfl).mono ?_
    · rintro t' d' M' ht' rfl
      obtain ⟨hi, rfl⟩ := rng_at (show (rngD 0 R1.sent.length)[t']? = some d' from ht')
      refine ⟨_, rfl, ?_⟩
      array_get_dec
      rw [ci_waiting h1.cnt.g, W_ixL h1.cnt.s]
      have hq : R1.sent[t']? = some (R1.sent.getD t' (0, 0)) := by
        rw [List.getD_eq_getElem?_getD, List.getElem?_eq_getElem hi]; rfl
      refine ⟨pk (R1.sent.getD t' (0, 0)), by rw [ix_nat, List.getElem?_map, hq]; rfl, ?_⟩
      refine l_wanted_ok h1.cnt.g h1.cnt.h ?_
      refine ⟨_, rfl, ?_⟩
      have e : dNat (.int (t' : Int)) = t' := by simp [dNat]
      rw [e]
      refine ⟨rfl, ?_⟩
      split
      · exact ⟨rfl, rfl⟩
      · rfl
    rintro ws M2 ⟨rfl, rfl⟩
    rw [List.map_id]
    rw [show (It3.rng 0 R1.sent.length).items = rngD 0 R1.sent.length from rfl]
    obtain ⟨h2, go2⟩ := h1.kept (Keep.app (A := []) (X := [O.lst ((rngD 0 R1.sent.length).filter fun d => wantB R1 (R1.sent.getD (dNat d) (0, 0)))]))
    have h4 := new_at (M := M2) (o := O.lst ((rngD 0 R1.sent.length).filter fun d => wantB R1 (R1.sent.getD (dNat d) (0, 0))))
    have hfl : ((rngD 0 R1.sent.length).filter fun d => wantB R1 (R1.sent.getD (dNat d) (0, 0))).length ≤ R1.sent.length := by
      have := List.length_filter_le (fun d => wantB R1 (R1.sent.getD (dNat d) (0, 0))) (rngD 0 R1.sent.length)
      rw [rng_len] at this
      exact this
    have hfm : ∀ (j : Nat) (d : D), ((rngD 0 R1.sent.length).filter fun d => wantB R1 (R1.sent.getD (dNat d) (0, 0)))[j]? = some d → ∃ i q, d = .int ((i : Nat) : Int) ∧ R1.sent[i]? = some q ∧ wantB R1 q = true := by
      intro j d hj
      have hmem := List.mem_filter.mp (List.mem_of_getElem? hj)
      obtain ⟨i, hi, rfl⟩ := rng_mem hmem.1
      have e : dNat (.int (i : Int)) = i := by simp [dNat]
      have hw := hmem.2
      rw [e] at hw
      exact ⟨i, R1.sent.getD i (0, 0), rfl, by rw [List.getD_eq_getElem?_getD, List.getElem?_eq_getElem hi]; rfl, hw⟩
    have hnil : ((rngD 0 R1.sent.length).filter fun d => wantB R1 (R1.sent.getD (dNat d) (0, 0))) = [] → R1.num = 5 * N.lay.length := by
      intro e
      apply Classical.byContradiction
      intro hne
      have hle := h1.o.le
      obtain ⟨i, q, hq, hw⟩ := wants h1.o (by omega)
      have hi := (List.getElem?_eq_some_iff.mp hq).1
      have : D.int (i : Int) ∈ (rngD 0 R1.sent.length).filter fun d => wantB R1 (R1.sent.getD (dNat d) (0, 0)) := by
        refine List.mem_filter.mpr ⟨?_, ?_⟩
        · unfold rngD
          exact List.mem_map.mpr ⟨i, List.mem_range.mpr hi, by simp⟩
        · have e : dNat (.int (i : Int)) = i := by simp [dNat]
          rw [e, List.getD_eq_getElem?_getD, hq]
          exact hw
      rw [e] at this
      cases this
    generalize ((rngD 0 R1.sent.length).filter fun d => wantB R1 (R1.sent.getD (dNat d) (0, 0))) = F at *
    generalize (M2 ++ [O.lst F]) = M3 at *
    refine ⟨_, SrcIs.get (.inr (.inr ⟨_, rfl, h4⟩)), ?_⟩
    by_cases hF : 0 < F.length
    · rw [if_pos (decide_eq_true (by omega))]
      refine ⟨_, SrcIs.get (.inr (.inr ⟨_, rfl, h4⟩)), ?_⟩
      refine draw_ok h2.pool hF (by omega) fun j M4 hj k4 l4 p4 => ?_
      obtain ⟨h5, go5⟩ := h2.drawn k4 p4
      have hne4 : M2.length ≠ y.p := by
        have := h1.lt y.p (by simp [Ix.U])
        omega
      have h44 := k4.get h4 (by simpa using hne4)
      rw [W_ixL h44]
      refine ⟨F[j], by rw [ix_nat]; exact List.getElem?_eq_getElem hj, ?_⟩
      obtain ⟨i, q, eFj, hq, hwb⟩ := hfm j _ (List.getElem?_eq_getElem hj)
      rw [eFj]
      have hnum : R1.num ≠ 5 * N.lay.length := by
        have := h1.o.sent q (List.mem_of_getElem? hq)
        have := (wantB_iff.mp hwb).1
        omega
      refine ⟨_, h5.crew.g, rfl, row_none h5.crew.g h5.b.net hnum ?_⟩
      array_get_dec
      refine ⟨_, h5.crew.g, rfl, deliver_ok (h5.b.weak (by simp [Ix.U])) h5.o h5.crew hq (by omega) fun hi' M6 k6 hh c6 => ?_⟩
      have d := h5.nd
      have cn6 := h5.cnt.keep k6 (by simp [Ne.symm d.ci_cd, Ne.symm d.si_cd, Ne.symm d.hi_cd]) (by simp [Ne.symm d.ci_wi, Ne.symm d.si_wi, Ne.symm d.hi_wi]) (by simp [Ne.symm d.ci_ai, Ne.symm d.si_ai, Ne.symm d.hi_ai])
      refine arrives_ok h5.o (by omega) cn6 hq (by omega) fun wi' ai' M7 k7 hw7 ha7 c7 => ?_
      obtain ⟨h7, go7⟩ := h5.both2 (R' := delR N R1 i q) sameRun_del (runOk_del h5.o hq) k6 hh c6 k7 hw7 ha7 c7
      refine same_ok 12 _ rfl ?_
      refine ⟨_, rfl, ?_⟩
      rw [if_neg (by decide)]
      have hl5 := len_del (N := N) (R := R1) (i := i) (q := q)
      have hmd := meas_del (N := N) (i := i) hwb
      refine ⟨_, _, _, _, delR N R1 i q, by rw [e1, e3, e4], h7, ((go.trans go2).trans go5).trans go7, sameRun_del.trans sr, by rw [hstep]; omega, ?_⟩
      rcases hme with hme | hme
      · exact .inl (by omega)
      · exact absurd hme hnum
    · rw [if_neg (by intro z; have := of_decide_eq_true z; omega)]
      have hdone := hnil (List.eq_nil_of_length_eq_zero (by omega))
      exact ⟨_, _, _, y, R1, by rw [e1, e3, e4], h2, go.trans go2, sr, by rw [hstep]; omega, .inr hdone⟩
  · rintro s M1 ⟨o3, o4, o5, y, R1, rfl, h1, go, sr, hlen, hme⟩
    rw [show (It3.rng 0 T).items = rngD 0 T from rfl, rng_len] at hlen hme
    obtain ⟨e1, e2, e3, e4⟩ := go.e
    rw [← e3, ← e4]
    array_get_dec
    refine ⟨_, h1.crew.g, rfl, waiting_ok h1.crew.g rfl h1.crew.s ?_⟩
    rw [ci_waiting h1.cnt.g, W_src_ref]
    refine ⟨_, SrcIs.get (.inr (.inr ⟨_, rfl, h1.cnt.s⟩)), ?_⟩
    refine same_ok 12 _ (plain_sent (n := 9) (by omega)) ?_
    refine k y M1 R1 h1 go sr ?_
    rcases hme with hme | hme
    · refine meas_done h1.o ?_
      rw [sr.many, hTT]
      exact hme
    · exact hme
end


section
variable {M : Mem} {ci n : Nat} {N : Nt} {P : D → Mem → Prop}
theorem begin_round_gen {fs : List (String × D)} (h : M[ci]? = some (.ins "Crew" fs)) (hl : fs.length < 900) (hl2 : (putFld "had" (.ref M.length) fs).length < 1000) (hnet : (putFld "had" (.ref M.length) fs).lookup "net" = some (.ref n)) (hn : NetAt M n N) (hne : n ≠ ci) (ok : N.Ok)
    (k : ∀ M1, Keep [ci] M M1 → M1.length = M.length + 1 → M1[ci]? = some (.ins "Crew" (putFld "sum" (vI (N.sh.map fun _ => 0)) (putFld "had" (.ref M.length) fs))) → M1[M.length]? = some (.lst []) → P .non M1) : L3.R.W (m_Crew_begin_round [.ref ci] M) P := by
  have hci := (List.getElem?_eq_some_iff.mp h).1
  unfold m_Crew_begin_round b_Crew_begin_round
  array_get_dec
  have h0 := (Keep.app (A := []) (X := [O.lst []])).get0 h
  refine ⟨rfl, _, h0, by omega, ?_⟩
  have k1 : Keep [ci] (M ++ [O.lst []]) ((M ++ [O.lst []]).set ci (.ins "Crew" (putFld "had" (.ref M.length) fs))) := Keep.set (by simp)
  have h1 := set_at (o := .ins "Crew" (putFld "had" (.ref M.length) fs)) h0
  have l1 : ((M ++ [O.lst []]).set ci (.ins "Crew" (putFld "had" (.ref M.length) fs))).length = M.length + 1 := by rw [len_set]; simp
  generalize (M ++ [O.lst []]).set ci (.ins "Crew" (putFld "had" (.ref M.length) fs)) = M1 at *
  refine ⟨_, (fldR_of h1).trans hnet, ?_⟩
  have hn1 : NetAt M1 n N := (hn.keep0 (Keep.app (A := []))).keep k1 (by simpa using hne)
  refine ⟨_, nt_shift hn1, ?_⟩
  unfold vI
  array_get_dec
  refine ⟨_, rfl, ?_⟩
  refine (lc_map (F := fun _ => .int 0) (Inv := fun M' => M' = M1) (fun M' w => rfl) (by show (N.sh.map D.int).length < _; rw [List.length_map]; have := ok.w; omega) ?_ rfl).mono ?_
  · rintro c M' hc rfl
    exact ⟨_, rfl, rfl, rfl⟩
  rintro zs M' ⟨rfl, rfl⟩
  refine ⟨_, rfl, ?_⟩
  have hz : D.tup (List.map (fun _ => D.int 0) (It3.seq (Src.tup (N.sh.map D.int)) (N.sh.map D.int)).items) = vI (N.sh.map fun _ => 0) := by
    show D.tup (List.map _ (List.map _ _)) = D.tup (List.map _ (List.map _ _))
    rw [List.map_map, List.map_map]
    rfl
  rw [hz]
  refine ⟨_, h1, hl2, ?_⟩
  have k2 : Keep [ci] M' (M'.set ci (.ins "Crew" (putFld "sum" (vI (N.sh.map fun _ => 0)) (putFld "had" (.ref M.length) fs)))) := Keep.set (by simp)
  have kk : Keep [ci] (M ++ [O.lst []]) _ := k1.trans k2
  exact k _ ((Keep.app (A := [ci])).trans kk) (by rw [len_set, l1]) (set_at h1) (kk.get new_at (by simp; omega))
theorem crew_init_ok (ok : N.Ok) (h : M[ci]? = some (.ins "Crew" [])) (hn : NetAt M n N) (hne : n ≠ ci) {many : Nat} (hm : 1 ≤ many) (hm2 : many ≤ N.sh.length)
    (k : ∀ M1 si hi, Keep [ci] M M1 → M.length ≤ si → CrG M1 ci ⟨.ref n, .int (many : Int), .ref si, .tup [], .non, .tup [], .tup [], .int 0, .ref hi, vI (N.sh.map fun _ => 0)⟩ → M1[si]? = some (.lst []) → P .non M1) : L3.R.W (m_Crew___init__ [.ref ci, .ref n, .int (many : Int)] M) P := by
  have hci := (List.getElem?_eq_some_iff.mp h).1
  unfold m_Crew___init__ b_Crew___init__
  array_get_dec
  refine ⟨_, nt_shift hn, ?_⟩
  unfold vI
  array_get_dec
  refine ⟨_, rfl, is_between_ok ?_⟩
  refine ⟨_, rfl, ?_⟩
  rw [List.length_map, if_neg (by simp; omega)]
  have st : ∀ {M : Mem} {fs : List (String × D)}, M[ci]? = some (.ins "Crew" fs) → ∀ fs', Keep [ci] M (M.set ci (.ins "Crew" fs')) ∧ (M.set ci (.ins "Crew" fs'))[ci]? = some (.ins "Crew" fs') ∧ (M.set ci (.ins "Crew" fs')).length = M.length := fun h fs' => ⟨Keep.set (by simp), set_at h, len_set⟩
  refine ⟨_, h, by show 0 < 1000; decide, ?_⟩
  rw [show putFld "net" (.ref n) [] = [("net", D.ref n)] from rfl]
  obtain ⟨k1, h1, l1⟩ := st h [("net", D.ref n)]
  generalize M.set ci (.ins "Crew" [("net", D.ref n)]) = M1 at *
  refine ⟨_, h1, by show 1 < 1000; decide, ?_⟩
  rw [show putFld "many" (.int (many : Int)) [("net", D.ref n)] = [("net", D.ref n), ("many", .int (many : Int))] from rfl]
  obtain ⟨k2, h2, l2⟩ := st h1 [("net", D.ref n), ("many", .int (many : Int))]
  generalize M1.set ci (.ins "Crew" [("net", D.ref n), ("many", .int (many : Int))]) = M2 at *
  have h2' := (Keep.app (A := []) (X := [O.lst []])).get0 h2
  refine ⟨rfl, _, h2', by show 2 < 1000; decide, ?_⟩
  rw [show putFld "sent" (.ref M2.length) [("net", D.ref n), ("many", .int (many : Int))] = [("net", D.ref n), ("many", .int (many : Int)), ("sent", .ref M2.length)] from rfl]
  obtain ⟨k3, h3, l3⟩ := st h2' [("net", D.ref n), ("many", .int (many : Int)), ("sent", .ref M2.length)]
  have hs3 : ((M2 ++ [O.lst []]).set ci (.ins "Crew" [("net", D.ref n), ("many", .int (many : Int)), ("sent", .ref M2.length)]))[M2.length]? = some (.lst []) := k3.get new_at (by simp; omega)
  have k03 : Keep [ci] M ((M2 ++ [O.lst []]).set ci (.ins "Crew" [("net", D.ref n), ("many", .int (many : Int)), ("sent", .ref M2.length)])) := (k1.trans k2).trans ((Keep.app (A := [ci])).trans k3)
  generalize (M2 ++ [O.lst []]).set ci (.ins "Crew" [("net", D.ref n), ("many", .int (many : Int)), ("sent", .ref M2.length)]) = M3 at *
  refine ⟨rfl, _, h3, by show 3 < 1000; decide, ?_⟩
  rw [show putFld "ahead" (.tup []) [("net", D.ref n), ("many", .int (many : Int)), ("sent", .ref M2.length)] = [("net", D.ref n), ("many", .int (many : Int)), ("sent", .ref M2.length), ("ahead", .tup [])] from rfl]
  obtain ⟨k4, h4, l4⟩ := st h3 [("net", D.ref n), ("many", .int (many : Int)), ("sent", .ref M2.length), ("ahead", .tup [])]
  generalize M3.set ci (.ins "Crew" [("net", D.ref n), ("many", .int (many : Int)), ("sent", .ref M2.length), ("ahead", .tup [])]) = M4 at *
  refine ⟨_, h4, by show 4 < 1000; decide, ?_⟩
  rw [show putFld "vector" (.non) [("net", D.ref n), ("many", .int (many : Int)), ("sent", .ref M2.length), ("ahead", .tup [])] = [("net", D.ref n), ("many", .int (many : Int)), ("sent", .ref M2.length), ("ahead", .tup []), ("vector", .non)] from rfl]
  obtain ⟨k5, h5, l5⟩ := st h4 [("net", D.ref n), ("many", .int (many : Int)), ("sent", .ref M2.length), ("ahead", .tup []), ("vector", .non)]
  generalize M4.set ci (.ins "Crew" [("net", D.ref n), ("many", .int (many : Int)), ("sent", .ref M2.length), ("ahead", .tup []), ("vector", .non)]) = M5 at *
  refine ⟨rfl, _, h5, by show 5 < 1000; decide, ?_⟩
  rw [show putFld "own" (.tup []) [("net", D.ref n), ("many", .int (many : Int)), ("sent", .ref M2.length), ("ahead", .tup []), ("vector", .non)] = [("net", D.ref n), ("many", .int (many : Int)), ("sent", .ref M2.length), ("ahead", .tup []), ("vector", .non), ("own", .tup [])] from rfl]
  obtain ⟨k6, h6, l6⟩ := st h5 [("net", D.ref n), ("many", .int (many : Int)), ("sent", .ref M2.length), ("ahead", .tup []), ("vector", .non), ("own", .tup [])]
  generalize M5.set ci (.ins "Crew" [("net", D.ref n), ("many", .int (many : Int)), ("sent", .ref M2.length), ("ahead", .tup []), ("vector", .non), ("own", .tup [])]) = M6 at *
  refine ⟨rfl, _, h6, by show 6 < 1000; decide, ?_⟩
  rw [show putFld "results" (.tup []) [("net", D.ref n), ("many", .int (many : Int)), ("sent", .ref M2.length), ("ahead", .tup []), ("vector", .non), ("own", .tup [])] = [("net", D.ref n), ("many", .int (many : Int)), ("sent", .ref M2.length), ("ahead", .tup []), ("vector", .non), ("own", .tup []), ("results", .tup [])] from rfl]
  obtain ⟨k7, h7, l7⟩ := st h6 [("net", D.ref n), ("many", .int (many : Int)), ("sent", .ref M2.length), ("ahead", .tup []), ("vector", .non), ("own", .tup []), ("results", .tup [])]
  generalize M6.set ci (.ins "Crew" [("net", D.ref n), ("many", .int (many : Int)), ("sent", .ref M2.length), ("ahead", .tup []), ("vector", .non), ("own", .tup []), ("results", .tup [])]) = M7 at *
  refine ⟨_, h7, by show 7 < 1000; decide, ?_⟩
  rw [show putFld "number" (.int 0) [("net", D.ref n), ("many", .int (many : Int)), ("sent", .ref M2.length), ("ahead", .tup []), ("vector", .non), ("own", .tup []), ("results", .tup [])] = [("net", D.ref n), ("many", .int (many : Int)), ("sent", .ref M2.length), ("ahead", .tup []), ("vector", .non), ("own", .tup []), ("results", .tup []), ("number", .int 0)] from rfl]
  obtain ⟨k8, h8, l8⟩ := st h7 [("net", D.ref n), ("many", .int (many : Int)), ("sent", .ref M2.length), ("ahead", .tup []), ("vector", .non), ("own", .tup []), ("results", .tup []), ("number", .int 0)]
  generalize M7.set ci (.ins "Crew" [("net", D.ref n), ("many", .int (many : Int)), ("sent", .ref M2.length), ("ahead", .tup []), ("vector", .non), ("own", .tup []), ("results", .tup []), ("number", .int 0)]) = M8 at *
  have k08 : Keep [ci] M M8 := ((((k03.trans k4).trans k5).trans k6).trans k7).trans k8
  have hs8 : M8[M2.length]? = some (.lst []) := by
    have ne : M2.length ∉ [ci] := by simp; omega
    exact k8.get (k7.get (k6.get (k5.get (k4.get hs3 ne) ne) ne) ne) ne
  refine ⟨_, h8, rfl, begin_round_gen h8 (by show 8 < 900; decide) (by show 9 < 1000; decide) rfl (hn.keep k08 (by simpa using hne)) hne ok fun M9 k9 l9 h9 hh9 => ?_⟩
  exact k M9 M2.length M8.length (k08.trans k9) (by omega) h9 (k9.get hs8 (by simp; omega))
end


section
variable {M : Mem} {P : D → Mem → Prop}
theorem listed_ok {U : List Nat} (hU : ∀ i ∈ U, i < M.length) {r : Row} (hr : r.1.length ≤ 1000) (k : ∀ d M1, Keep [] M M1 → RowIs U M1 d r → P d M1) : L3.R.W (m__law_listed [rowD r] M) P := by
  have hU' : ∀ {M1 : Mem} {j : Nat}, Keep [] M M1 → M1.length ≤ j → j ∉ U := fun k1 hj z => by
    have := hU _ z
    have := k1.len
    omega
  unfold m__law_listed b__law_listed rowD
  array_get_dec
  refine ⟨_, rfl, ?_⟩
  array_get_dec
  refine ⟨_, rfl, ?_⟩
  refine (lc_ix (Inv := fun t acc M' => Keep [] M M' ∧ All2 (PairIs U M') acc (r.1.take t)) (fun t a M' _ => rfl) (by show (r.1.map pairD).length < _; rw [List.length_map]; omega) ?_ ⟨Keep.refl, .nil⟩).mono ?_
  · rintro t d acc M' hk _ ⟨k1, hacc⟩
    have hk' : (r.1.map pairD)[t]? = some d := hk
    rw [List.getElem?_map] at hk'
    cases hp : r.1[t]? with
    | none => rw [hp] at hk'; cases hk'
    | some p =>
      rw [hp] at hk'
      cases hk'
      refine ⟨_, rfl, ?_⟩
      unfold pairD
      array_get_dec
      refine ⟨vI p.1, rfl, ?_⟩
      unfold vI
      array_get_dec
      refine ⟨_, rfl, _, rfl, ?_⟩
      array_get_dec
      refine ⟨_, rfl, rfl, ?_⟩
      have kx : Keep [] M' (M' ++ [O.lst (p.1.map D.int)] ++ [O.lst (p.2.map D.int)] ++ [O.lst [D.ref M'.length, D.ref (M' ++ [O.lst (p.1.map D.int)]).length]]) := (Keep.app.trans Keep.app).trans Keep.app
      refine ⟨k1.trans kx, ?_⟩
      rw [take_succ' hp]
      refine (hacc.imp fun _ _ z => z.keep kx (by simp)).append (.one ⟨_, _, .inr ⟨_, rfl, ?_, new_at⟩, .inr ⟨_, rfl, ?_, ?_⟩, .inr ⟨_, rfl, ?_, ?_⟩⟩)
      · exact hU' k1 (by simp)
      · exact hU' k1 (Nat.le_refl _)
      · exact (Keep.app.trans Keep.app : Keep [] (M' ++ [O.lst (p.1.map D.int)]) _).get0 new_at
      · exact hU' k1 (by simp)
      · exact (Keep.app : Keep [] (M' ++ [O.lst (p.1.map D.int)] ++ [O.lst (p.2.map D.int)]) _).get0 new_at
  · rintro ps M' ⟨_, k1, hps⟩
    have hL : (It3.seq (Src.tup (r.1.map pairD)) (r.1.map pairD)).items.length = r.1.length := by show (r.1.map pairD).length = _; rw [List.length_map]
    rw [hL, List.take_length] at hps
    refine ⟨_, rfl, ?_⟩
    unfold vI
    array_get_dec
    refine ⟨_, rfl, rfl, ?_⟩
    have kx : Keep [] M' (M' ++ [O.lst ps] ++ [O.lst (r.2.map D.int)] ++ [O.lst [D.ref M'.length, D.ref (M' ++ [O.lst ps]).length]]) := (Keep.app.trans Keep.app).trans Keep.app
    refine k _ _ (k1.trans kx) ⟨_, _, ps, .inr ⟨_, rfl, ?_, new_at⟩, .inr ⟨_, rfl, ?_, ?_⟩, hps.imp fun _ _ z => z.keep kx (by simp), .inr ⟨_, rfl, ?_, ?_⟩⟩
    · exact hU' k1 (by simp)
    · exact hU' k1 (Nat.le_refl _)
    · exact (Keep.app.trans Keep.app : Keep [] (M' ++ [O.lst ps]) _).get0 new_at
    · exact hU' k1 (by simp)
    · exact (Keep.app : Keep [] (M' ++ [O.lst ps] ++ [O.lst (r.2.map D.int)]) _).get0 new_at
theorem pool_ok {ns : List Int} (hM : M[0]? = some (.frz (ns.map D.int))) (hl : ns.length ≤ 63) (k : ∀ p c M1, Keep [] M M1 → PoolAt M1 p c → P (.ref p) M1) : L3.R.W (m__law_pool [.ref 0] M) P := by
  unfold m__law_pool b__law_pool
  array_get_dec
  refine ⟨rfl, _, (by show Src.get M (Src.lst 0) = some (ns.map D.int); simp [Src.get, hM]), _, rfl, ?_⟩
  obtain ⟨ms, hms, hml⟩ : ∃ ms : List Int, cut (ns.map D.int) none (some 63) = ms.map D.int ∧ ms.length ≤ 63 := by
    unfold cut
    refine ⟨((ns.drop (HT.sIx (ns.map D.int).length 0 none)).take (HT.sIx (ns.map D.int).length (ns.map D.int).length (some 63) - HT.sIx (ns.map D.int).length 0 none)), ?_, ?_⟩
    · rw [List.map_take, List.map_drop]
    · rw [List.length_take, List.length_drop]
      omega
  rw [hms]
  refine (lc_map (F := id) (Inv := fun M' => M' = M) (fun M' w => rfl) (by show (ms.map D.int).length < _; rw [List.length_map]; omega) ?_ rfl).mono ?_
  · rintro z M6 hz rfl
    obtain ⟨y, hy, rfl⟩ := List.mem_map.mp (show z ∈ List.map D.int _ from hz)
    refine ⟨_, rfl, ?_⟩
    array_get_dec
    rfl
  · rintro zs M6 ⟨rfl, rfl⟩
    refine ⟨rfl, ?_⟩
    rw [List.map_id]
    refine k _ M6.length _ (Keep.app.trans Keep.app) ⟨by simp, ms, 0, 0, 0, 7, new_at, ?_, by omega⟩
    exact Keep.app.get0 new_at
end


/-! ### a batch's job -/
def rowsE (N : Nt) (rows : List Row) (ls : List Nat) : List Row := ls.foldl (fun rs a => rs ++ [rowN N rs a]) rows
theorem rowsE_succ (N : Nt) (rows : List Row) (ls : List Nat) (a : Nat) : rowsE N rows (ls ++ [a]) = rowsE N rows ls ++ [rowN N (rowsE N rows ls) a] := by
  unfold rowsE; rw [List.foldl_append]; rfl
theorem rowsE_length (N : Nt) : ∀ (ls : List Nat) (rows : List Row), (rowsE N rows ls).length = rows.length + ls.length
  | [], rows => rfl
  | a :: ls, rows => by
    show (rowsE N (rows ++ [rowN N rows a]) ls).length = _
    rw [rowsE_length N ls, List.length_append, List.length_singleton, List.length_cons]
    omega
theorem rowsE_rowsN (N : Nt) (ls ms : List Nat) : rowsE N (rowsN N ls) ms = rowsN N (ls ++ ms) := by
  unfold rowsE rowsN
  rw [List.foldl_append]
/-- the rows ahead of place i -/
abbrev upTo (N : Nt) (rows : List Row) (ls : List Nat) (i : Nat) : List Row := rowsE N rows (ls.take i)
abbrev xj (N : Nt) (rows : List Row) (ls : List Nat) (i : Nat) : Vec := x0Of N (rows.length + i) (ls.getD i 0)
def vecJ (N : Nt) (rows : List Row) (ls : List Nat) (l : Nat) (i : Nat) : D := vI (xAt N (upTo N rows ls i) (xj N rows ls i) l)
def prsJ (N : Nt) (rows : List Row) (ls : List Nat) (l : Nat) (i : Nat) : D := .tup ((List.range l).map fun t => pairD (prAt N (upTo N rows ls i) (xj N rows ls i) t))
def jbF (a v p : D) : List (String × D) := [("ahead", a), ("vectors", v), ("pairs", p)]
structure JobAt (U : List Nat) (M : Mem) (jb : Nat) (N : Nt) (rows : List Row) (ls : List Nat) (l : Nat) : Prop where
  ex : ∃ vj pj ds, M[jb]? = some (.ins "Job" (jbF (.tup ds) (.ref vj) (.ref pj))) ∧ vj ∉ U ∧ pj ∉ U ∧ M[vj]? = some (.lst ((List.range ls.length).map (vecJ N rows ls l))) ∧ M[pj]? = some (.lst ((List.range ls.length).map (prsJ N rows ls l))) ∧ All2 (RowIs U M) ds rows
theorem JobAt.keep {U A : List Nat} {M M1 : Mem} {jb : Nat} {N : Nt} {rows : List Row} {ls : List Nat} {l : Nat} (h : JobAt U M jb N rows ls l) (k : Keep A M M1) (hA : ∀ i ∈ A, i ∈ U) (hj : jb ∉ A) : JobAt U M1 jb N rows ls l := by
  obtain ⟨vj, pj, ds, h1, h2, h3, h4, h5, h6⟩ := h.ex
  exact ⟨vj, pj, ds, k.get h1 hj, h2, h3, k.get h4 (fun z => h2 (hA _ z)), k.get h5 (fun z => h3 (hA _ z)), h6.imp fun _ _ z => z.keep k hA⟩
theorem JobAt.fresh {U V : List Nat} {M : Mem} {jb : Nat} {N : Nt} {rows : List Row} {ls : List Nat} {l : Nat} (h : JobAt U M jb N rows ls l) (k : ∀ i ∈ V, i ∈ U ∨ M.length ≤ i) : JobAt V M jb N rows ls l := by
  obtain ⟨vj, pj, ds, h1, h2, h3, h4, h5, h6⟩ := h.ex
  have f : ∀ {j : Nat} {o : O}, M[j]? = some o → j ∉ U → j ∉ V := fun e n z => by
    have := (List.getElem?_eq_some_iff.mp e).1
    rcases k _ z with q | q
    · exact n q
    · omega
  exact ⟨vj, pj, ds, h1, f h4 h2, f h5 h3, h4, h5, h6.imp fun _ _ z => z.fresh k⟩
/-- a source that stands while none of U is touched -/
theorem Sq.srcU {U : List Nat} {M M' : Mem} {d : D} {ds : List D} (h : Sq U M d ds) {P : Src → Mem → Prop} (k : ∀ x, (∀ M1 A, Keep A M M1 → (∀ i ∈ A, i ∈ U ∨ M.length ≤ i) → SrcIs M1 x ds) → P x M') : L3.R.W (srcOf d M') P := by
  rcases h with rfl | ⟨j, rfl, n, e⟩
  · exact k _ fun _ _ _ _ => .inl rfl
  · refine k _ fun M1 A kk hA => .inr (.inr ⟨j, rfl, kk.get e fun z => ?_⟩)
    have := (List.getElem?_eq_some_iff.mp e).1
    rcases hA j z with q | q
    · exact n q
    · omega
section
variable {M : Mem} {jb n : Nat} {N : Nt} {P : D → Mem → Prop} {rows : List Row} {ls : List Nat}
theorem job_init_ok {U : List Nat} (ok : N.Ok) (h : M[jb]? = some (.ins "Job" [])) (hU : ∀ i ∈ U, i < M.length) (hjU : jb ∈ U) (hn : NetAt M n N) (hnU : n ∉ U) {e f : D} {ds : List D} (he : Sq U M e ds) (hr : All2 (RowIs U M) ds rows) (hrl : rows.length ≤ 900) (hf : IsV U M f (LsI ls)) (hls : ∀ a ∈ ls, a < N.emb.length) (hll : ls.length ≤ 90)
    (k : ∀ M1, Keep [jb] M M1 → JobAt U M1 jb N rows ls 0 → P .non M1) : L3.R.W (m_Job___init__ [.ref jb, .ref n, e, f] M) P := by
  have hjb := (List.getElem?_eq_some_iff.mp h).1
  have hnj : n ≠ jb := fun z => hnU (z ▸ hjU)
  have hAU : ∀ i ∈ [jb], i ∈ U := fun i hi => by rw [List.mem_singleton.mp hi]; exact hjU
  unfold m_Job___init__ b_Job___init__
  array_get_dec
  refine he.src fun x hx => ⟨_, hx.get, _, h, by show 0 < 1000; decide, ?_⟩
  have k1 : Keep [jb] M (M.set jb (.ins "Job" [("ahead", .tup ds)])) := Keep.set (by simp)
  have h1 := set_at (o := .ins "Job" [("ahead", .tup ds)]) h
  have l1 : (M.set jb (.ins "Job" [("ahead", .tup ds)])).length = M.length := len_set
  rw [show putFld "ahead" (.tup ds) [] = [("ahead", D.tup ds)] from rfl]
  generalize M.set jb (.ins "Job" [("ahead", .tup ds)]) = M1 at *
  have h1' := (Keep.app (A := []) (X := [O.lst []])).get0 h1
  refine ⟨rfl, _, h1', by show 1 < 1000; decide, ?_⟩
  rw [show putFld "vectors" (.ref M1.length) [("ahead", D.tup ds)] = [("ahead", .tup ds), ("vectors", .ref M1.length)] from rfl]
  have k2 : Keep [jb] (M1 ++ [O.lst []]) ((M1 ++ [O.lst []]).set jb (.ins "Job" [("ahead", .tup ds), ("vectors", .ref M1.length)])) := Keep.set (by simp)
  have h2 := set_at (o := .ins "Job" [("ahead", .tup ds), ("vectors", .ref M1.length)]) h1'
  have l2 : ((M1 ++ [O.lst []]).set jb (.ins "Job" [("ahead", .tup ds), ("vectors", .ref M1.length)])).length = M1.length + 1 := by rw [len_set]; simp
  have hv2 : ((M1 ++ [O.lst []]).set jb (.ins "Job" [("ahead", .tup ds), ("vectors", .ref M1.length)]))[M1.length]? = some (.lst []) := k2.get new_at (by simp; omega)
  have k02 : Keep [jb] M ((M1 ++ [O.lst []]).set jb (.ins "Job" [("ahead", .tup ds), ("vectors", .ref M1.length)])) := k1.trans ((Keep.app (A := [jb])).trans k2)
  generalize (M1 ++ [O.lst []]).set jb (.ins "Job" [("ahead", .tup ds), ("vectors", .ref M1.length)]) = M2 at *
  have lv : M.length ≤ M1.length := k1.len
  have hA2 : ∀ i ∈ [jb, M1.length], i ∈ U ∨ M.length ≤ i := by
    intro i hi
    rcases List.mem_cons.mp hi with rfl | hi
    · exact .inl hjU
    · exact .inr (by rw [List.mem_singleton.mp hi]; exact lv)
  have hW := ok.w
  refine Sq.srcU hf fun z hz => ⟨_, (hz M2 _ (k02.mono (B := [jb, M1.length]) (by simp)) hA2).get, ?_⟩
  refine for_go (Inv := fun t s M' => ∃ o4 o5 o6, s = [some (.ref jb), some (.ref n), some e, some f, o4, o5, o6, none, none] ∧ Keep [jb, M1.length] M M' ∧ M'[jb]? = some (.ins "Job" [("ahead", .tup ds), ("vectors", .ref M1.length)]) ∧ M'[M1.length]? = some (.lst ((List.range t).map (vecJ N rows ls 0)))) (fun t s M' ⟨_, _, _, _, kk, _⟩ => by exact (hz M' _ kk hA2).still) ?_ ⟨none, none, none, rfl, k02.mono (by simp), h2, hv2⟩ ?_
  · rintro t c s M' hk ⟨o4, o5, o6, rfl, k3, h3, hv3⟩
    have hk' : (enumD 0 ((LsI ls).map D.int))[t]? = some c := hk
    have ht : t < ls.length := by
      have := (List.getElem?_eq_some_iff.mp hk').1
      rw [enumD_length] at this
      simpa using this
    have hat : ((LsI ls).map D.int)[t]? = some (.int ((ls.getD t 0 : Nat) : Int)) := by
      rw [List.getElem?_map, List.getElem?_map, List.getElem?_eq_getElem ht, List.getD_eq_getElem?_getD, List.getElem?_eq_getElem ht]; rfl
    rw [enumD_at _ _ _ _ hat, Nat.zero_add] at hk'
    cases hk'
    have ha : ls.getD t 0 < N.emb.length := hls _ (by rw [List.getD_eq_getElem?_getD, List.getElem?_eq_getElem ht]; exact List.getElem_mem ht)
    refine ⟨_, M', rfl, ?_⟩
    have hnA : n ∉ [jb, M1.length] := by
      have := (List.getElem?_eq_some_iff.mp hn).1
      simp
      omega
    have hn3 : NetAt M' n N := hn.keep k3 hnA
    array_get_dec
    refine ⟨_, fldR_of h3 |>.trans rfl, ?_⟩
    rw [W_src_tup]
    refine ⟨_, rfl, ?_⟩
    rw [hr.length]
    refine ⟨_, (fldR_of h3).trans rfl, isLst_of hv3, _, hn3, rfl, _, nt_embed hn3, ?_⟩
    unfold mI
    array_get_dec
    refine ⟨_, by rw [ix_nat]; exact emb_get ha, _, nt_shift hn3, ?_⟩
    unfold vI
    array_get_dec
    refine ⟨_, rfl, ?_⟩
    have epl : ((rows.length : Int) + (t : Int)) = ((rows.length + t : Nat) : Int) := by omega
    rw [epl]
    refine (lc_map (F := mulD ((rows.length + t : Nat) : Int)) (Inv := fun M2 => M2 = M') (fun M' w => rfl) (by show (N.sh.map D.int).length < _; rw [List.length_map]; omega) ?_ rfl).mono ?_
    · rintro w M4 hw rfl
      obtain ⟨i, hi, rfl⟩ := List.mem_map.mp (show w ∈ N.sh.map D.int from hw)
      refine ⟨_, rfl, ?_⟩
      array_get_dec
      exact ⟨.inr (.inl (ok.shs i hi)), rfl⟩
    rintro ws M4 ⟨rfl, rfl⟩
    have kA : Keep [] M4 (M4 ++ [O.lst (List.map (mulD ((rows.length + t : Nat) : Int)) (It3.seq (Src.tup (List.map int N.sh)) (List.map int N.sh)).items)]) := Keep.app
    have hw0 : (N.emb.getD (ls.getD t 0) []).length = N.sh.length := by
      rw [List.getD_eq_getElem?_getD, List.getElem?_eq_getElem ha]
      exact ok.emb _ (List.getElem_mem ha)
    refine plus_ok (hn3.keep0 kA) ok.pp (v := N.emb.getD (ls.getD t 0) []) (w := N.sh.map fun y => ((rows.length + t : Nat) : Int) * y) (.inl rfl) (.inr ⟨_, rfl, by simp, by rw [new_at, ← mul_map]; rfl⟩) (by omega) ?_
    have hv4 := kA.get0 hv3
    have h4 := kA.get0 h3
    refine ⟨_, hv4, okLen_of (by simp; omega), ?_⟩
    have ne : jb ≠ M1.length := by omega
    refine ⟨_, _, _, rfl, (k3.trans kA.nil).trans (Keep.set (by simp)), ?_, ?_⟩
    · rw [List.getElem?_set_ne (Ne.symm ne)]
      exact h4
    · rw [set_at hv4, List.range_succ, List.map_append]
      rfl
  · rintro s M' ⟨o4, o5, o6, rfl, k3, h3, hv3⟩
    have hL : (It3.enum z ((LsI ls).map D.int)).items.length = ls.length := by
      show (enumD 0 _).length = _
      rw [enumD_length]
      simp
    rw [hL] at hv3
    array_get_dec
    refine Sq.srcU hf fun z2 hz2 => ⟨_, (hz2 M' _ k3 hA2).get, ?_⟩
    refine (lc_map (F := fun _ => .tup []) (Inv := fun M2 => M2 = M') (fun M2 w => by rw [w]; exact (hz2 M' _ k3 hA2).still) (by show ((LsI ls).map D.int).length < _; simp; omega) ?_ rfl).mono ?_
    · rintro w M4 hw rfl
      refine ⟨_, rfl, ?_⟩
      array_get_dec
      first | rfl | exact ⟨rfl, rfl⟩
    rintro ws M4 ⟨rfl, rfl⟩
    have eP : List.map (fun _ => D.tup []) (It3.seq z2 ((LsI ls).map D.int)).items = (List.range ls.length).map (prsJ N rows ls 0) := by
      show ((LsI ls).map D.int).map (fun _ => D.tup []) = _
      rw [show (prsJ N rows ls 0) = fun _ => D.tup [] from rfl, List.map_map, List.map_map]
      rw [show (((fun _ => D.tup []) ∘ D.int) ∘ fun (k : Nat) => (k : Int)) = fun _ => D.tup [] from rfl, List.map_const', List.map_const', List.length_range]
    rw [eP]
    have h4 := (Keep.app (A := []) (X := [O.lst ((List.range ls.length).map (prsJ N rows ls 0))])).get0 h3
    refine ⟨_, h4, by show 2 < 1000; decide, ?_⟩
    have k5 : Keep [jb] (M4 ++ [O.lst ((List.range ls.length).map (prsJ N rows ls 0))]) ((M4 ++ [O.lst ((List.range ls.length).map (prsJ N rows ls 0))]).set jb (.ins "Job" (putFld "pairs" (.ref M4.length) [("ahead", .tup ds), ("vectors", .ref M1.length)]))) := Keep.set (by simp)
    have l4 := k3.len
    have hjl : jb < M4.length := by omega
    have kall : Keep [jb, M1.length] M _ := k3.trans ((Keep.app (A := [jb, M1.length])).trans (k5.mono (by simp)))
    have kM : Keep [jb] M ((M4 ++ [O.lst ((List.range ls.length).map (prsJ N rows ls 0))]).set jb (.ins "Job" (putFld "pairs" (.ref M4.length) [("ahead", .tup ds), ("vectors", .ref M1.length)]))) :=
      (Keep.refl (A := [jb]) (M := M)).new kall fun i hi => by
        rcases List.mem_cons.mp hi with rfl | hi
        · exact .inl (by simp)
        · exact .inr (by rw [List.mem_singleton.mp hi]; exact lv)
    refine k _ kM ⟨M1.length, M4.length, ds, ?_, ?_, ?_, ?_, ?_, ?_⟩
    · rw [set_at h4]
      rfl
    · exact fun z => by have := hU _ z; omega
    · exact fun z => by have := hU _ z; omega
    · exact k5.get ((Keep.app (A := [])).get0 hv3) (by simp; omega)
    · exact k5.get new_at (by simp; omega)
    · exact hr.imp fun _ _ z => z.keep kM hAU
end


section
variable {N : Nt} {rows : List Row} {ls : List Nat}
theorem upTo_succ {i : Nat} (hi : i < ls.length) : upTo N rows ls (i + 1) = upTo N rows ls i ++ [rowN N (upTo N rows ls i) (ls.getD i 0)] := by
  unfold upTo
  rw [take_succ' (a := ls.getD i 0) (by rw [List.getD_eq_getElem?_getD, List.getElem?_eq_getElem hi]; rfl), rowsE_succ]
theorem upTo_length {i : Nat} (hi : i ≤ ls.length) : (upTo N rows ls i).length = rows.length + i := by
  unfold upTo
  rw [rowsE_length, List.length_take]
  omega
theorem upTo_ok (ok : N.Ok) (hR : ∀ r ∈ rows, RowOk N r) : ∀ i, i ≤ ls.length → ∀ r ∈ upTo N rows ls i, RowOk N r
  | 0, _ => hR
  | i + 1, hi => by
    rw [upTo_succ (by omega)]
    intro r hr
    rcases List.mem_append.mp hr with hr | hr
    · exact upTo_ok ok hR i (by omega) r hr
    · rw [List.mem_singleton.mp hr]
      exact rowOk_rowN ok _ _
abbrev prJ (N : Nt) (rows : List Row) (ls : List Nat) (l i : Nat) : Vec × Vec := prAt N (upTo N rows ls i) (xj N rows ls i) l
theorem prev_upTo {l : Nat} (hl : l < N.lay.length) : ∀ i, i ≤ ls.length → prev (upTo N rows ls i) l = prev rows l ++ (List.range i).map (prJ N rows ls l)
  | 0, _ => by
    show prev rows l = _
    simp
  | i + 1, hi => by
    have ih := prev_upTo hl i (by omega)
    rw [upTo_succ (by omega)]
    unfold prev at ih ⊢
    rw [List.map_append, ih, List.range_succ, List.map_append, List.append_assoc]
    congr 2
    show [(rowN N (upTo N rows ls i) (ls.getD i 0)).1.getD l ([], [])] = [prJ N rows ls l i]
    unfold rowN prJ xj
    rw [upTo_length (by omega)]
    dsimp only
    rw [List.getD_eq_getElem?_getD, List.getElem?_map, List.getElem?_range hl]
    rfl
end
theorem cut_take {α : Type} (xs : List α) {k : Nat} (h : k ≤ xs.length) : cut xs none (some (k : Int)) = xs.take k := by
  unfold cut
  rw [HT.sIx_none, HT.sIx_nat, List.drop_zero, Nat.sub_zero, Nat.min_eq_left h]
theorem cut_drop {α : Type} (xs : List α) {k : Nat} (h : k ≤ xs.length) : cut xs (some (k : Int)) none = xs.drop k := by
  unfold cut
  rw [HT.sIx_none, HT.sIx_nat, Nat.min_eq_left h, List.take_of_length_le (by rw [List.length_drop]; omega)]
theorem all2_range {α : Type} {r : D → α → Prop} (f : Nat → D) (g : Nat → α) (h : ∀ i, r (f i) (g i)) : ∀ n, All2 r ((List.range n).map f) ((List.range n).map g)
  | 0 => .nil
  | n + 1 => by
    rw [List.range_succ, List.map_append, List.map_append]
    exact (all2_range f g h n).append (.one (h n))
theorem zip_dd {α : Type} (f g : α → D) : ∀ (xs : List α), zipD (xs.map f) (xs.map g) = xs.map fun i => D.tup [f i, g i]
  | [] => rfl
  | x :: xs => by
    show D.tup [f x, g x] :: zipD (xs.map f) (xs.map g) = _
    rw [zip_dd f g xs]
    rfl
section
variable {M : Mem} {jb n : Nat} {N : Nt} {P : D → Mem → Prop} {rows : List Row} {ls : List Nat} {l : Nat}
theorem go_ok {U : List Nat} (ok : N.Ok) (hU : ∀ i ∈ U, i < M.length) (hjU : jb ∈ U) (hn : NetAt M n N) (hnU : n ∉ U) (j : JobAt U M jb N rows ls l) (hR : ∀ r ∈ rows, RowOk N r) (hrl : rows.length ≤ 900) (hls : ∀ a ∈ ls, a < N.emb.length) (hll : ls.length ≤ 90) (hl : l < N.lay.length)
    (k : ∀ M1, Keep [jb] M M1 → JobAt U M1 jb N rows ls (l + 1) → P .non M1) : L3.R.W (m_Job_go_through [.ref jb, .ref n, .int (l : Int)] M) P := by
  obtain ⟨vj, pj, ds, h1, hv, hp, hvM, hpM, hr⟩ := j.ex
  have hW := ok.w
  have hxl : ∀ i, i < ls.length → ∀ t, t ≤ N.lay.length → (xAt N (upTo N rows ls i) (xj N rows ls i) t).length = N.sh.length := fun i hi t ht =>
    x_length ok (upTo_ok ok hR i (by omega)) (x0_length ok (hls _ (by rw [List.getD_eq_getElem?_getD, List.getElem?_eq_getElem hi]; exact List.getElem_mem hi)) _) t ht
  have hml : ∀ t, t < 5 → (lyr N l t).length < 16777216 := fun t ht => by rw [(ok.lr hl ht).1]; omega
  have hms : ∀ t, t < 5 → ∀ r ∈ lyr N l t, ∀ x ∈ r, small x := fun t ht r hr => ((ok.lr hl ht).2 r hr).2
  unfold m_Job_go_through b_Job_go_through
  array_get_dec
  refine ⟨_, nt_layers hn, ?_⟩
  array_get_dec
  refine ⟨_, by rw [ix_nat]; exact lay_get hl, ?_⟩
  rw [ly_five ok hl]
  refine ⟨_, M, rfl, ?_⟩
  array_get_dec
  refine ⟨_, (fldR_of h1).trans rfl, ?_⟩
  rw [W_src_ref]
  refine ⟨_, SrcIs.get (.inr (.inr ⟨_, rfl, hvM⟩)), ?_⟩
  refine (lc_ix (Inv := fun t acc M' => M' = M ∧ acc = (List.range t).map fun i => pairD (prJ N rows ls l i)) (fun t a M' z => by rw [z.1]; exact SrcIs.still (.inr (.inr ⟨_, rfl, hvM⟩))) (by show (List.map _ (List.range ls.length)).length < _; simp; omega) ?_ ⟨rfl, rfl⟩).mono ?_
  · rintro t d acc M' hk hacc ⟨rfl, rfl⟩
    have hk' : ((List.range ls.length).map (vecJ N rows ls l))[t]? = some d := hk
    have ht : t < ls.length := by
      have := (List.getElem?_eq_some_iff.mp hk').1
      simpa using this
    rw [List.getElem?_map, List.getElem?_range ht] at hk'
    cases hk'
    refine ⟨_, rfl, ?_⟩
    array_get_dec
    refine ⟨_, hn, rfl, times_ok hn ok.pp IsV.tup (hms 1 (by decide)) (hml 1 (by decide)) ?_⟩
    refine ⟨_, hn, rfl, times_ok hn ok.pp IsV.tup (hms 2 (by decide)) (hml 2 (by decide)) ?_⟩
    refine ⟨rfl, rfl, ?_⟩
    rw [List.range_succ, List.map_append]
    rfl
  rintro fs M1 ⟨_, rfl, rfl⟩
  have hLv : (It3.seq (Src.lst vj) ((List.range ls.length).map (vecJ N rows ls l))).items.length = ls.length := by show (List.map _ (List.range ls.length)).length = _; simp
  rw [hLv]
  have kA := Keep.app (A := []) (M := M1) (X := [O.lst ((List.range ls.length).map fun i => pairD (prJ N rows ls l i))])
  have h8 := new_at (M := M1) (o := O.lst ((List.range ls.length).map fun i => pairD (prJ N rows ls l i)))
  have l8 : (M1 ++ [O.lst ((List.range ls.length).map fun i => pairD (prJ N rows ls l i))]).length = M1.length + 1 := by simp
  generalize (M1 ++ [O.lst ((List.range ls.length).map fun i => pairD (prJ N rows ls l i))]) = M2 at *
  have g2 := kA.get0 h1
  refine ⟨_, (fldR_of g2).trans rfl, ?_⟩
  rw [W_src_tup]
  refine ⟨_, rfl, ?_⟩
  have hr2 : All2 (RowIs [] M2) ds rows := hr.imp fun _ _ z => (z.keep kA (by simp)).weak (by simp)
  refine (prev_lc (rows := rows) (.inl rfl) hr2 (i := l) (fun r hr => by rw [(hR r hr).len]; exact hl) (by omega) (fun d => rfl)).mono ?_
  rintro as M3 ⟨has, rfl⟩
  have hal : as.length = rows.length := by rw [has.length]; simp [prev]
  refine ⟨_, rfl, _, (by show Src.own M3 (Src.lst M1.length) = some ((List.range ls.length).map fun i => pairD (prJ N rows ls l i)); simp [Src.own, h8]), okLen_of (by simp [hal]; omega), ?_⟩
  have hal2 : (as ++ (List.range ls.length).map fun i => pairD (prJ N rows ls l i)).length = rows.length + ls.length := by simp [hal]
  have hall : ∀ t, t < ls.length → All2 (PairIs [] M3) ((as ++ (List.range ls.length).map fun i => pairD (prJ N rows ls l i)).take (rows.length + t + 1)) (prev (upTo N rows ls t) l ++ [prJ N rows ls l t]) := by
    intro t ht
    have e1 : (as ++ (List.range ls.length).map fun i => pairD (prJ N rows ls l i)).take (rows.length + t + 1) = as ++ (List.range (t + 1)).map fun i => pairD (prJ N rows ls l i) := by
      rw [List.take_append, ← List.map_take, List.take_range, List.take_of_length_le (by omega)]
      congr 3
      omega
    have e2 : prev (upTo N rows ls t) l ++ [prJ N rows ls l t] = prev rows l ++ (List.range (t + 1)).map (prJ N rows ls l) := by
      rw [prev_upTo hl t (by omega), List.range_succ, List.map_append, List.append_assoc]
      rfl
    rw [e1, e2]
    exact has.append (all2_range _ _ (fun i => pairIs_D _) _)
  generalize (as ++ (List.range ls.length).map fun i => pairD (prJ N rows ls l i)) = kn at *
  have kB := Keep.app (A := []) (M := M3) (X := [O.lst kn])
  have h9 := new_at (M := M3) (o := O.lst kn)
  have l9 : (M3 ++ [O.lst kn]).length = M3.length + 1 := by simp
  generalize (M3 ++ [O.lst kn]) = M4 at *
  have kC := Keep.app (A := []) (M := M4) (X := [O.lst []])
  have kAC := kA.trans (kB.trans kC)
  refine ⟨rfl, _, (fldR_of (kAC.get0 h1)).trans rfl, ?_⟩
  rw [W_src_ref]
  have hvS : ∀ M', Keep [] M1 M' → SrcIs M' (.lst vj) ((List.range ls.length).map (vecJ N rows ls l)) := fun M' kk => .inr (.inr ⟨_, rfl, kk.get0 hvM⟩)
  refine ⟨_, (hvS _ kAC).get, ?_⟩
  refine for_go (Inv := fun t s M' => ∃ o11 o12 o13 o14, s = [some (.ref jb), some (.ref n), some (.int (l : Int)), some (mI (lyr N l 0)), some (mI (lyr N l 1)), some (mI (lyr N l 2)), some (mI (lyr N l 3)), some (mI (lyr N l 4)), some (.ref M1.length), some (.ref M3.length), some (.ref M4.length), o11, o12, o13, o14, none, none, none] ∧ Keep [] M1 M' ∧ Keep [M4.length] M4 M' ∧ M'[M4.length]? = some (.lst ((List.range t).map (vecJ N rows ls (l + 1))))) (fun t s M' ⟨_, _, _, _, _, kk, _⟩ => by exact (hvS _ kk).still) ?_ ⟨none, none, none, none, rfl, kAC, kC.mono (by simp), new_at⟩ ?_
  · rintro t c s M' hk ⟨o11, o12, o13, o14, rfl, kk, k4, hm⟩
    have hk' : (enumD 0 ((List.range ls.length).map (vecJ N rows ls l)))[t]? = some c := hk
    have ht : t < ls.length := by
      have := (List.getElem?_eq_some_iff.mp hk').1
      rw [enumD_length] at this
      simpa using this
    have hat : ((List.range ls.length).map (vecJ N rows ls l))[t]? = some (vecJ N rows ls l t) := by
      rw [List.getElem?_map, List.getElem?_range ht]; rfl
    rw [enumD_at _ _ _ _ hat, Nat.zero_add] at hk'
    cases hk'
    refine ⟨_, M', rfl, ?_⟩
    array_get_dec
    have hkn : M'[M3.length]? = some (.lst kn) := k4.get h9 (by simp; omega)
    have k3 : Keep [] M3 M' := (Keep.refl (A := []) (M := M3)).new ((kB.mono (B := [M4.length]) (by simp)).trans k4) (fun j hj => .inr (by rw [List.mem_singleton.mp hj]; omega))
    have hn1 := hn.keep0 kk
    refine ⟨_, (fldR_of (kk.get0 h1)).trans rfl, ?_⟩
    rw [W_src_tup]
    refine ⟨_, rfl, rfl, _, (by show Src.get M' (Src.lst M3.length) = some kn; exact SrcIs.get (.inr (.inr ⟨_, rfl, hkn⟩))), ?_⟩
    rw [hr.length, show ((rows.length : Int) + (t : Int) + 1) = ((rows.length + t + 1 : Nat) : Int) by omega, cut_take _ (by omega)]
    have kp4 := kk.trans (Keep.app (A := []) (X := [O.lst (kn.take (rows.length + t + 1))]))
    have kD := Keep.app (A := []) (M := M') (X := [O.lst (kn.take (rows.length + t + 1))])
    have hxt := hxl t ht l (by omega)
    refine ⟨_, hn.keep0 kp4, rfl, _, hn.keep0 kp4, rfl, _, hn.keep0 kp4, rfl, times_ok (hn.keep0 kp4) ok.pp IsV.tup (hms 0 (by decide)) (hml 0 (by decide)) ?_⟩
    have hps : ∀ p ∈ prev (upTo N rows ls t) l ++ [prJ N rows ls l t], PrOk N p := by
      intro p hp
      rcases List.mem_append.mp hp with hp | hp
      · exact prev_ok (upTo_ok ok hR t (by omega)) hl p hp
      · rw [List.mem_singleton.mp hp]
        exact prOk_prAt ok hl
    refine look_ok (ps := prev (upTo N rows ls t) l ++ [prJ N rows ls l t]) (hn.keep0 kp4) ok.pp IsV.tup (.inr ⟨_, rfl, by simp, new_at⟩) ((hall t ht).imp fun _ _ z => z.keep (k3.trans kD) (by simp)) (small_tms ok.pp ok.p1) (fun p hp => (hps p hp).2.2.2) (by rw [tms_length, (ok.lr hl (by decide)).1]; exact ok.w) (fun p hp => by rw [(hps p hp).2.1]; exact ok.w) ?_
    intro M5 k5
    have kp5 := kp4.trans k5
    refine plus_ok (hn.keep0 kp5) ok.pp IsV.tup IsV.tup (by omega) ?_
    rw [show pls N.p (xAt N (upTo N rows ls t) (xj N rows ls t) l) (look N.p (tms N.p (lyr N l 0) (xAt N (upTo N rows ls t) (xj N rows ls t) l)) (prev (upTo N rows ls t) l ++ [prJ N rows ls l t])) = inAt N (upTo N rows ls t) (xj N rows ls t) l from rfl]
    refine ⟨_, hn.keep0 kp5, rfl, times_ok (hn.keep0 kp5) ok.pp IsV.tup (hms 3 (by decide)) (hml 3 (by decide)) ?_⟩
    unfold vI
    array_get_dec
    refine ⟨_, rfl, ?_⟩
    refine (lc_map (F := sqD) (Inv := fun M' => M' = M5) (fun M' w => rfl) (by show (List.map D.int _).length < _; rw [List.length_map, tms_length]; exact hml 3 (by decide)) ?_ rfl).mono ?_
    · rintro w M6 hw rfl
      obtain ⟨y, hy, rfl⟩ := List.mem_map.mp (show w ∈ List.map D.int _ from hw)
      refine ⟨_, rfl, ?_⟩
      array_get_dec
      exact ⟨.inl (small_tms ok.pp ok.p1 y hy), rfl⟩
    rintro ws M6 ⟨rfl, rfl⟩
    have hsq : (M6 ++ [O.lst (List.map sqD (It3.seq (Src.tup (List.map int (tms N.p (lyr N l 3) (inAt N (upTo N rows ls t) (xj N rows ls t) l)))) (List.map int (tms N.p (lyr N l 3) (inAt N (upTo N rows ls t) (xj N rows ls t) l)))).items)])[M6.length]? = some (.lst ((sqv (tms N.p (lyr N l 3) (inAt N (upTo N rows ls t) (xj N rows ls t) l))).map D.int)) := by rw [new_at, ← sq_map]; rfl
    have kE := Keep.app (A := []) (M := M6) (X := [O.lst (List.map sqD (It3.seq (Src.tup (List.map int (tms N.p (lyr N l 3) (inAt N (upTo N rows ls t) (xj N rows ls t) l)))) (List.map int (tms N.p (lyr N l 3) (inAt N (upTo N rows ls t) (xj N rows ls t) l)))).items)])
    generalize (M6 ++ [O.lst (List.map sqD (It3.seq (Src.tup (List.map int (tms N.p (lyr N l 3) (inAt N (upTo N rows ls t) (xj N rows ls t) l)))) (List.map int (tms N.p (lyr N l 3) (inAt N (upTo N rows ls t) (xj N rows ls t) l)))).items)]) = M7 at *
    have kp6 := kp5.trans kE
    have hm7 := ((kD.trans k5).trans kE).get0 hm
    refine ⟨isLst_of hm7, _, hn.keep0 kp6, rfl, _, hn.keep0 kp6, rfl, ?_⟩
    refine times_ok (hn.keep0 kp6) ok.pp (v := sqv (tms N.p (lyr N l 3) (inAt N (upTo N rows ls t) (xj N rows ls t) l))) (.inr ⟨_, rfl, by simp, hsq⟩) (hms 4 (by decide)) (hml 4 (by decide)) ?_
    refine plus_ok (hn.keep0 kp6) ok.pp IsV.tup IsV.tup (by show (pls _ _ _).length < _; rw [pls_length]; omega) ?_
    refine ⟨_, hm7, okLen_of (by simp; omega), ?_⟩
    have l47 := kAC.len
    have l34 : M1.length ≤ M4.length := (kA.trans kB).len
    refine ⟨_, _, _, _, rfl, kp6.new (Keep.set (A := [M4.length]) (by simp)) (fun j hj' => .inr (by rw [List.mem_singleton.mp hj']; exact l34)), (k4.trans ((((kD.trans k5).trans kE).mono (by simp)).trans (Keep.set (by simp)))), ?_⟩
    rw [set_at hm7, List.range_succ, List.map_append]
    rfl
  · rintro s M' ⟨o11, o12, o13, o14, rfl, kk, k4, hm⟩
    array_get_dec
    have hLe : (It3.enum (Src.lst vj) ((List.range ls.length).map (vecJ N rows ls l))).items.length = ls.length := by
      show (enumD 0 _).length = _
      rw [enumD_length]
      simp
    rw [hLe] at hm
    have hj1 := kk.get0 h1
    have hjl := (List.getElem?_eq_some_iff.mp h1).1
    have hpl := (List.getElem?_eq_some_iff.mp hpM).1
    have hpj : pj ≠ jb := fun z => hp (z ▸ hjU)
    have l34 : M1.length ≤ M4.length := (kA.trans kB).len
    refine ⟨_, hj1, by show 3 < 1000; decide, ?_⟩
    rw [show putFld "vectors" (.ref M4.length) (jbF (.tup ds) (.ref vj) (.ref pj)) = jbF (.tup ds) (.ref M4.length) (.ref pj) from rfl]
    have kF : Keep [jb] M' (M'.set jb (.ins "Job" (jbF (.tup ds) (.ref M4.length) (.ref pj)))) := Keep.set (by simp)
    have hj5 := set_at (o := .ins "Job" (jbF (.tup ds) (.ref M4.length) (.ref pj))) hj1
    have hk8 : M'[M1.length]? = some (.lst ((List.range ls.length).map fun i => pairD (prJ N rows ls l i))) := k4.get (kB.get0 h8) (by simp; omega)
    have hk85 := kF.get hk8 (by simp; omega)
    have hp5 := kF.get (kk.get0 hpM) (by simp [hpj])
    have hm5 := kF.get hm (by simp; omega)
    have k15 : Keep [jb] M1 (M'.set jb (.ins "Job" (jbF (.tup ds) (.ref M4.length) (.ref pj)))) := (kk.mono (by simp)).trans kF
    generalize (M'.set jb (.ins "Job" (jbF (.tup ds) (.ref M4.length) (.ref pj)))) = M5 at *
    refine ⟨_, (fldR_of hj5).trans rfl, ?_⟩
    rw [W_src_ref]
    have hx : SrcIs M5 (.lst pj) ((List.range ls.length).map (prsJ N rows ls l)) := .inr (.inr ⟨_, rfl, hp5⟩)
    have hy : SrcIs M5 (.lst M1.length) ((List.range ls.length).map fun i => pairD (prJ N rows ls l i)) := .inr (.inr ⟨_, rfl, hk85⟩)
    refine ⟨_, hx.get, _, hy.get, ?_⟩
    have hzi : (It3.zip (.lst pj) (.lst M1.length) ((List.range ls.length).map (prsJ N rows ls l)) ((List.range ls.length).map fun i => pairD (prJ N rows ls l i))).items = (List.range ls.length).map fun i => D.tup [prsJ N rows ls l i, pairD (prJ N rows ls l i)] := zip_dd _ _ _
    refine (lc_ix (Inv := fun t acc M' => M' = M5 ∧ acc = (List.range t).map (prsJ N rows ls (l + 1))) (fun t a M' z => by rw [z.1]; exact still_zip hx hy Keep.refl) (by rw [hzi]; simp; omega) ?_ ⟨rfl, rfl⟩).mono ?_
    · rintro t d acc M6 hk hacc ⟨rfl, rfl⟩
      rw [hzi] at hk
      have ht : t < ls.length := by
        have := (List.getElem?_eq_some_iff.mp hk).1
        simpa using this
      rw [List.getElem?_map, List.getElem?_range ht] at hk
      cases hk
      refine ⟨_, rfl, ?_⟩
      unfold prsJ
      array_get_dec
      refine ⟨rfl, by rw [List.length_map, List.length_range, sizeLine16]; have := ok.layl; omega, ?_⟩
      have e : D.tup ((List.range l).map (fun u => pairD (prAt N (upTo N rows ls t) (xj N rows ls t) u)) ++ [pairD (prJ N rows ls l t)]) = prsJ N rows ls (l + 1) t := by
        unfold prsJ
        rw [List.range_succ (n := l), List.map_append]
        rfl
      rw [e, List.range_succ (n := t), List.map_append]
      rfl
    rintro qs M6 ⟨_, rfl, rfl⟩
    rw [hzi, List.length_map, List.length_range]
    have kG := Keep.app (A := []) (M := M6) (X := [O.lst ((List.range ls.length).map (prsJ N rows ls (l + 1)))])
    have hq := new_at (M := M6) (o := O.lst ((List.range ls.length).map (prsJ N rows ls (l + 1))))
    have lq : M1.length ≤ M6.length := k15.len
    generalize (M6 ++ [O.lst ((List.range ls.length).map (prsJ N rows ls (l + 1)))]) = M7 at *
    have hj7 := kG.get0 hj5
    refine ⟨_, hj7, by show 3 < 1000; decide, ?_⟩
    rw [show putFld "pairs" (.ref M6.length) (jbF (.tup ds) (.ref M4.length) (.ref pj)) = jbF (.tup ds) (.ref M4.length) (.ref M6.length) from rfl]
    have kH : Keep [jb] M7 (M7.set jb (.ins "Job" (jbF (.tup ds) (.ref M4.length) (.ref M6.length)))) := Keep.set (by simp)
    have kall : Keep [jb] M1 (M7.set jb (.ins "Job" (jbF (.tup ds) (.ref M4.length) (.ref M6.length)))) := k15.trans ((kG.mono (by simp)).trans kH)
    refine k _ kall ⟨M4.length, M6.length, ds, set_at hj7, fun z => ?_, fun z => ?_, ?_, ?_, ?_⟩
    · have := hU _ z; omega
    · have := hU _ z; omega
    · exact kH.get (kG.get0 hm5) (by simp; omega)
    · exact kH.get hq (by simp; omega)
    · exact hr.imp fun _ _ z => z.keep kall (fun i hi => by rw [List.mem_singleton.mp hi]; exact hjU)
end

section
variable {M : Mem} {jb n : Nat} {N : Nt} {P : D → Mem → Prop} {rows : List Row} {ls : List Nat}
/-- the rows of a job, in order -/
def rowJ (N : Nt) (rows : List Row) (ls : List Nat) (i : Nat) : D := rowD (rowN N (upTo N rows ls i) (ls.getD i 0))
theorem jrows_ok {U : List Nat} (ok : N.Ok) (hn : NetAt M n N) (j : JobAt U M jb N rows ls N.lay.length) (hll : ls.length ≤ 90)
    (k : ∀ M1, Keep [] M M1 → P (.tup ((List.range ls.length).map (rowJ N rows ls))) M1) : L3.R.W (m_Job_rows [.ref jb, .ref n] M) P := by
  obtain ⟨vj, pj, ds, h1, hv, hp, hvM, hpM, hr⟩ := j.ex
  unfold m_Job_rows b_Job_rows
  array_get_dec
  have kA := Keep.app (A := []) (M := M) (X := [O.lst []])
  refine ⟨rfl, _, (fldR_of (kA.get0 h1)).trans rfl, ?_⟩
  rw [W_src_ref]
  refine ⟨_, (fldR_of (kA.get0 h1)).trans rfl, ?_⟩
  rw [W_src_ref]
  have hx : ∀ M', Keep [] M M' → SrcIs M' (.lst pj) ((List.range ls.length).map (prsJ N rows ls N.lay.length)) := fun M' kk => .inr (.inr ⟨_, rfl, kk.get0 hpM⟩)
  have hy : ∀ M', Keep [] M M' → SrcIs M' (.lst vj) ((List.range ls.length).map (vecJ N rows ls N.lay.length)) := fun M' kk => .inr (.inr ⟨_, rfl, kk.get0 hvM⟩)
  refine ⟨_, (hx _ kA).get, _, (hy _ kA).get, ?_⟩
  have hzi : (It3.zip (.lst pj) (.lst vj) ((List.range ls.length).map (prsJ N rows ls N.lay.length)) ((List.range ls.length).map (vecJ N rows ls N.lay.length))).items = (List.range ls.length).map fun i => D.tup [prsJ N rows ls N.lay.length i, vecJ N rows ls N.lay.length i] := zip_dd _ _ _
  refine for_go (Inv := fun t s M' => ∃ o3 o4 o5, s = [some (.ref jb), some (.ref n), some (.ref M.length), o3, o4, o5, none] ∧ Keep [] M M' ∧ M'[M.length]? = some (.lst ((List.range t).map (rowJ N rows ls)))) (fun t s M' ⟨_, _, _, _, kk, _⟩ => by exact still_zip (hx _ kk) (hy _ kk) Keep.refl) ?_ ⟨none, none, none, rfl, kA, new_at⟩ ?_
  · rintro t c s M' hk ⟨o3, o4, o5, rfl, kk, hm⟩
    rw [hzi] at hk
    have ht : t < ls.length := by
      have := (List.getElem?_eq_some_iff.mp hk).1
      simpa using this
    rw [List.getElem?_map, List.getElem?_range ht] at hk
    cases hk
    refine ⟨_, M', rfl, ?_⟩
    array_get_dec
    have hn1 := hn.keep0 kk
    refine ⟨_, nt_out hn1, ?_⟩
    unfold mI
    array_get_dec
    refine ⟨_, rfl, ?_⟩
    refine (lc_map (F := wtD N (xAt N (upTo N rows ls t) (xj N rows ls t) N.lay.length)) (Inv := fun M2 => M2 = M') (fun M' w => rfl) (by show (List.map vI _).length < _; rw [List.length_map]; have := ok.outl; omega) ?_ rfl).mono ?_
    · rintro w M6 hw rfl
      obtain ⟨v, hv, rfl⟩ := List.mem_map.mp (show w ∈ List.map vI _ from hw)
      refine ⟨_, rfl, ?_⟩
      array_get_dec
      refine ⟨_, hn1, rfl, ?_⟩
      refine product_sum_ok IsV.tup IsV.tup (fun x y hx _ => .inl ((ok.out v hv).2 x hx)) ?_
      refine rest_ok hn1 ok.pp ?_
      array_get_dec
      unfold wtD
      rw [unI_vI]
    · rintro ws M6 ⟨rfl, rfl⟩
      rw [show List.map (wtD N (xAt N (upTo N rows ls t) (xj N rows ls t) N.lay.length)) (It3.seq (Src.tup (List.map vI N.out)) (List.map vI N.out)).items = (wts N (xAt N (upTo N rows ls t) (xj N rows ls t) N.lay.length)).map D.int from wts_map _ _]
      have hml := (List.getElem?_eq_some_iff.mp hm).1
      have kC := Keep.app (A := []) (M := M6) (X := [O.lst ((wts N (xAt N (upTo N rows ls t) (xj N rows ls t) N.lay.length)).map D.int)])
      have hm7 := kC.get0 hm
      have e : D.tup [prsJ N rows ls N.lay.length t, D.tup ((wts N (xAt N (upTo N rows ls t) (xj N rows ls t) N.lay.length)).map D.int)] = rowJ N rows ls t := by
        unfold rowJ rowD rowN prsJ xj
        rw [upTo_length (by omega)]
        simp only [List.map_map]
        rfl
      refine ⟨isLst_of hm7, _, SrcIs.get (.inr (.inr ⟨_, rfl, new_at⟩)), rfl, _, hm7, okLen_of (by simp; omega), _, _, _, rfl, (kk.trans kC).new (Keep.set (A := [M.length]) (by simp)) (fun j hj => .inr (by rw [List.mem_singleton.mp hj]; omega)), ?_⟩
      rw [set_at hm7, List.range_succ, List.map_append]
      rw [e]
      rfl
  · rintro s M' ⟨o3, o4, o5, rfl, kk, hm⟩
    array_get_dec
    rw [hzi, List.length_map, List.length_range] at hm
    exact ⟨_, SrcIs.get (.inr (.inr ⟨_, rfl, hm⟩)), k _ kk⟩
end

/-- one job of a batch, as told -/
structure BIs (U : List Nat) (M : Mem) (d : D) (b : List Row × List Nat) : Prop where
  ex : ∃ e f ds, d = .tup [e, f] ∧ Sq U M e ds ∧ All2 (RowIs U M) ds b.1 ∧ IsV U M f (LsI b.2)
structure BOk (N : Nt) (b : List Row × List Nat) : Prop where
  rl : b.1.length ≤ 900
  ro : ∀ r ∈ b.1, RowOk N r
  la : ∀ a ∈ b.2, a < N.emb.length
  ll : b.2.length ≤ 90
structure JobsAt (M : Mem) (js : List Nat) (N : Nt) (bs : List (List Row × List Nat)) (l : Nat → Nat) : Prop where
  len : js.length = bs.length
  nd : js.Nodup
  lt : ∀ j ∈ js, j < M.length
  at_ : ∀ i j b, js[i]? = some j → bs[i]? = some b → JobAt js M j N b.1 b.2 (l i)
theorem JobsAt.push {M M1 : Mem} {js : List Nat} {N : Nt} {bs : List (List Row × List Nat)} {l : Nat → Nat} {o : O} {b : List Row × List Nat} (h : JobsAt M js N bs l) (kk : Keep [M.length] (M ++ [o]) M1) (h0 : JobAt (js ++ [M.length]) M1 M.length N b.1 b.2 (l bs.length)) : JobsAt M1 (js ++ [M.length]) N (bs ++ [b]) l where
  len := by simp [h.len]
  nd := by
    rw [List.nodup_append]
    refine ⟨h.nd, by simp, fun a ha c hc z => ?_⟩
    have := h.lt a ha
    rw [List.mem_singleton.mp hc] at z
    omega
  lt := fun j hj => by
    have hl := kk.len
    rw [List.length_append, List.length_singleton] at hl
    rcases List.mem_append.mp hj with hj | hj
    · have := h.lt j hj; omega
    · rw [List.mem_singleton.mp hj]; omega
  at_ := fun i j c hi hc => by
    rcases Nat.lt_or_ge i js.length with hlt | hge
    · rw [List.getElem?_append_left hlt] at hi
      rw [List.getElem?_append_left (by rw [← h.len]; exact hlt)] at hc
      have hj := h.lt j (List.mem_of_getElem? hi)
      refine ((h.at_ i j c hi hc).fresh (V := js ++ [M.length]) fun a ha => ?_).keep ((Keep.app (A := [M.length])).trans kk) (fun a ha => by simp [List.mem_singleton.mp ha]) (by simp; omega)
      rcases List.mem_append.mp ha with ha | ha
      · exact .inl ha
      · exact .inr (by rw [List.mem_singleton.mp ha]; exact Nat.le_refl _)
    · have e : i = js.length := by
        have := (List.getElem?_eq_some_iff.mp hi).1
        simp at this
        omega
      subst e
      rw [List.getElem?_concat_length] at hi
      rw [h.len, List.getElem?_concat_length] at hc
      cases hi
      cases hc
      rw [h.len]
      exact h0
theorem JobsAt.step {M M1 : Mem} {js : List Nat} {N : Nt} {bs : List (List Row × List Nat)} {l l' : Nat → Nat} {i j : Nat} {b : List Row × List Nat} (h : JobsAt M js N bs l) (hi : js[i]? = some j) (hb : bs[i]? = some b) (kk : Keep [j] M M1) (h0 : JobAt js M1 j N b.1 b.2 (l' i)) (hl : ∀ t, t ≠ i → l' t = l t) : JobsAt M1 js N bs l' where
  len := h.len
  nd := h.nd
  lt := fun a ha => Nat.lt_of_lt_of_le (h.lt a ha) kk.len
  at_ := fun t a c ht hc => by
    by_cases e : t = i
    · subst e
      rw [hi] at ht
      rw [hb] at hc
      cases ht
      cases hc
      exact h0
    · rw [hl t e]
      refine (h.at_ t a c ht hc).keep kk (fun x hx => by rw [List.mem_singleton.mp hx]; exact List.mem_of_getElem? hi) ?_
      intro z
      have z := List.mem_singleton.mp z
      subst z
      exact e ((List.getElem?_inj (List.getElem?_eq_some_iff.mp ht).1 h.nd).mp (by rw [ht, hi]))
section
variable {M : Mem} {n : Nat} {N : Nt} {P : D → Mem → Prop}
theorem batch_ok (ok : N.Ok) (hn : NetAt M n N) {x : D} {ds : List D} {bs : List (List Row × List Nat)} (hx : Sq [] M x ds) (hb : All2 (BIs [] M) ds bs) (hB : ∀ b ∈ bs, BOk N b) (hbl : bs.length ≤ 100)
    (k : ∀ M1, Keep [] M M1 → P (.tup (bs.map fun b => .tup ((List.range b.2.length).map (rowJ N b.1 b.2)))) M1) : L3.R.W (m_rows_in_batch [.ref n, x] M) P := by
  unfold m_rows_in_batch b_rows_in_batch
  array_get_dec
  refine hx.src fun y hy => ⟨_, hy.get, ?_⟩
  refine for_go (Inv := fun t s M' => ∃ o2 o3 o4, s = [some (.ref n), some x, o2, o3, o4, none, none, none, none] ∧ M' = M) (fun t s M' ⟨_, _, _, _, z⟩ => by rw [z]; exact still_seq hy Keep.refl) ?_ ⟨none, none, none, rfl, rfl⟩ ?_
  · rintro t c s M' hk ⟨o2, o3, o4, rfl, rfl⟩
    obtain ⟨b, hbt, ⟨e, f, es, rfl, he, hr, hf⟩⟩ := hb.getL (show ds[t]? = some c from hk)
    have hbo := hB b (List.mem_of_getElem? hbt)
    refine ⟨_, M', rfl, ?_⟩
    array_get_dec
    refine hf.src fun z hz => ⟨_, hz.get, ?_⟩
    refine for_go (Inv := fun t s M2 => ∃ o4, s = [some (.ref n), some x, some e, some f, o4, none, none, none, none] ∧ M2 = M') (fun t s M2 ⟨_, _, w⟩ => by rw [w]; exact still_seq hz Keep.refl) ?_ ⟨o4, rfl, rfl⟩ ?_
    · rintro t2 c2 s M2 hk2 ⟨o4, rfl, rfl⟩
      obtain ⟨a, ha, rfl⟩ := List.mem_map.mp (List.mem_of_getElem? (show ((LsI b.2).map D.int)[t2]? = some c2 from hk2))
      obtain ⟨a', ha', rfl⟩ := List.mem_map.mp ha
      refine ⟨_, M2, rfl, ?_⟩
      array_get_dec
      refine ⟨_, hn, rfl, is_letter_ok hn ?_⟩
      have hl := hbo.la a' ha'
      rw [decide_eq_true (show (0 ≤ (a' : Int) ∧ (a' : Int) < N.emb.length) by omega)]
      refine ⟨_, rfl, ?_⟩
      rw [if_neg (by decide)]
      exact ⟨_, rfl, rfl⟩
    · rintro s M2 ⟨o4, rfl, rfl⟩
      exact ⟨_, _, _, rfl, rfl⟩
  · rintro s M' ⟨o2, o3, o4, rfl, rfl⟩
    array_get_dec
    refine hx.src fun y hy => ⟨_, hy.get, ?_⟩
    have hnl := (List.getElem?_eq_some_iff.mp hn).1
    refine (lc_ix (Inv := fun t acc M2 => Keep [] M' M2 ∧ ∃ js, acc = js.map D.ref ∧ JobsAt M2 js N (bs.take t) (fun _ => 0) ∧ ∀ j ∈ js, M'.length ≤ j) (fun t a M2 z => still_seq hy z.1) (by show ds.length < _; rw [hb.length]; omega) ?_ ⟨Keep.refl, [], rfl, ⟨rfl, by simp, by simp, fun i j b z _ => by simp at z⟩, by simp⟩).mono ?_
    · rintro t c acc M2 hk hacc ⟨kk, js, rfl, hj, hjs⟩
      obtain ⟨b, hbt, ⟨e, f, es, rfl, he, hr, hf⟩⟩ := hb.getL (show ds[t]? = some c from hk)
      have hbo := hB b (List.mem_of_getElem? hbt)
      refine ⟨_, rfl, ?_⟩
      array_get_dec
      have kA := Keep.app (A := []) (M := M2) (X := [O.ins "Job" []])
      have hJ := new_at (M := M2) (o := O.ins "Job" [])
      have hl2 := kk.len
      have hfr : ∀ i ∈ js ++ [M2.length], i ∈ ([] : List Nat) ∨ M'.length ≤ i := fun i hi => by
        rcases List.mem_append.mp hi with hi | hi
        · exact .inr (hjs i hi)
        · exact .inr (by rw [List.mem_singleton.mp hi]; exact hl2)
      have kkA := kk.trans kA
      have hnu : n ∉ js ++ [M2.length] := fun z => by
        rcases hfr n z with q | q
        · exact absurd q (by simp)
        · omega
      refine job_init_ok (U := js ++ [M2.length]) (rows := b.1) (ls := b.2) ok hJ (fun i hi => ?_) (by simp) (hn.keep0 kkA) hnu (Sq.keep0 (Sq.fresh he hfr) kkA) (hr.imp fun _ _ z => (z.fresh hfr).keep kkA (by simp)) hbo.rl (Sq.keep0 (Sq.fresh hf hfr) kkA) hbo.la hbo.ll ?_
      · rcases List.mem_append.mp hi with hi | hi
        · have := hj.lt i hi; simp; omega
        · rw [List.mem_singleton.mp hi]; simp
      intro M3 k3 hjb
      refine ⟨rfl, kkA.new k3 (fun a ha => .inr (by rw [List.mem_singleton.mp ha]; exact hl2)), js ++ [M2.length], by simp, ?_, fun j hj' => ?_⟩
      · rw [take_succ' hbt]
        exact hj.push k3 hjb
      · rcases hfr j hj' with q | q
        · exact absurd q (by simp)
        · exact q
    rintro acc M2 ⟨hal, kk, js, rfl, hj, hjs⟩
    have hbl2 : (It3.seq y ds).items.length = bs.length := hb.length
    rw [hbl2, List.take_length] at hj
    have kA := Keep.app (A := []) (M := M2) (X := [O.lst (js.map D.ref)])
    have hl := new_at (M := M2) (o := O.lst (js.map D.ref))
    have l2 : (M2 ++ [O.lst (js.map D.ref)]).length = M2.length + 1 := by simp
    have hj3 : JobsAt (M2 ++ [O.lst (js.map D.ref)]) js N bs (fun _ => 0) := ⟨hj.len, hj.nd, fun a ha => by have := hj.lt a ha; omega, fun i j b hi hb => (hj.at_ i j b hi hb).keep kA (by simp) (by simp)⟩
    have hljs : M2.length ∉ js := fun z => by have := hj.lt _ z; omega
    generalize (M2 ++ [O.lst (js.map D.ref)]) = M3 at *
    have k03 := kk.trans kA
    have hnjs : n ∉ js := fun z => by have := hjs _ z; omega
    refine ⟨_, nt_layers (hn.keep0 k03), ?_⟩
    array_get_dec
    refine ⟨_, rfl, by have := ok.layl; rw [List.length_map]; omega, by have := ok.layl; rw [List.length_map]; omega, ?_⟩
    rw [show ((List.map lyI N.lay).length : Int).toNat = N.lay.length by rw [List.length_map]; rfl]
    have kj : ∀ M4, Keep js M3 M4 → Keep [] M' M4 := fun M4 k4 => k03.new k4 (fun j hj => .inr (hjs j hj))
    have hsr : ∀ M4, Keep js M3 M4 → SrcIs M4 (.lst M2.length) (js.map D.ref) := fun M4 k4 => .inr (.inr ⟨_, rfl, k4.get hl hljs⟩)
    refine for_go (Inv := fun l s M4 => ∃ o6 o7, s = [some (.ref n), some x, o2, o3, o4, some (.ref M2.length), o6, o7, none] ∧ Keep js M3 M4 ∧ JobsAt M4 js N bs (fun _ => l)) (fun t s M4 _ => rfl) ?_ ⟨none, none, rfl, Keep.refl, hj3⟩ ?_
    · rintro l c s M4 hk ⟨o6, o7, rfl, k4, hj4⟩
      obtain ⟨hlt, rfl⟩ := rng_at (show (rngD 0 N.lay.length)[l]? = some c from hk)
      refine ⟨_, M4, rfl, ?_⟩
      array_get_dec
      refine ⟨_, (hsr _ k4).get, ?_⟩
      refine for_go (Inv := fun i s M5 => ∃ o7, s = [some (.ref n), some x, o2, o3, o4, some (.ref M2.length), some (.int (l : Int)), o7, none] ∧ Keep js M3 M5 ∧ JobsAt M5 js N bs (fun t => if t < i then l + 1 else l)) (fun t s M5 ⟨_, _, k5, _⟩ => by exact (hsr _ k5).still) ?_ ⟨o7, rfl, k4, by simpa using hj4⟩ ?_
      · rintro i c s M5 hk ⟨o7, rfl, k5, hj5⟩
        have hk' : (js.map D.ref)[i]? = some c := hk
        obtain ⟨j, hji, rfl⟩ : ∃ j, js[i]? = some j ∧ D.ref j = c := by
          rw [List.getElem?_map] at hk'
          cases q : js[i]? with
          | none => rw [q] at hk'; cases hk'
          | some j => rw [q] at hk'; exact ⟨j, rfl, by simpa using hk'⟩
        have hib : i < bs.length := by rw [← hj.len]; exact (List.getElem?_eq_some_iff.mp hji).1
        have hbi : bs[i]? = some bs[i] := List.getElem?_eq_getElem hib
        have hbo := hB _ (List.getElem_mem hib)
        have hjm := List.mem_of_getElem? hji
        refine ⟨_, M5, rfl, ?_⟩
        array_get_dec
        have hjb := hj5.at_ i j _ hji hbi
        rw [if_neg (Nat.lt_irrefl i)] at hjb
        have hins : ∃ fs : D × D × D, M5[j]? = some (.ins "Job" (jbF fs.1 fs.2.1 fs.2.2)) := by
          obtain ⟨vj, pj, es, h1, _⟩ := hjb.ex
          exact ⟨(_, _, _), h1⟩
        obtain ⟨fs, hins⟩ := hins
        refine ⟨_, hins, rfl, ?_⟩
        refine go_ok (U := js) ok hj5.lt hjm (hn.keep0 (kj _ k5)) hnjs hjb hbo.ro hbo.rl hbo.la hbo.ll hlt ?_
        intro M6 k6 hjb6
        refine ⟨_, rfl, k5.trans (k6.mono (by simpa using hjm)), hj5.step hji hbi k6 ?_ ?_⟩
        · rw [if_pos (Nat.lt_succ_self i)]
          exact hjb6
        · intro t ht
          by_cases q : t < i
          · rw [if_pos q, if_pos (by omega)]
          · rw [if_neg q, if_neg (by omega)]
      · rintro s M5 ⟨o7, rfl, k5, hj5⟩
        refine ⟨_, _, rfl, k5, hj5.len, hj5.nd, hj5.lt, fun i j b hi hb => ?_⟩
        have z := hj5.at_ i j b hi hb
        rw [if_pos (by show i < (js.map D.ref).length; rw [List.length_map]; exact (List.getElem?_eq_some_iff.mp hi).1)] at z
        exact z
    · rintro s M4 ⟨o6, o7, rfl, k4, hj4⟩
      array_get_dec
      rw [show (It3.rng 0 N.lay.length).items.length = N.lay.length from rng_len] at hj4
      refine ⟨_, (hsr _ k4).get, ?_⟩
      refine (lc_ix (Inv := fun t acc M5 => Keep [] M4 M5 ∧ acc = (bs.take t).map fun b => D.tup ((List.range b.2.length).map (rowJ N b.1 b.2))) (fun t a M5 z => still_seq (hsr _ k4) z.1) (by show (js.map D.ref).length < _; rw [List.length_map, hj.len]; omega) ?_ ⟨Keep.refl, rfl⟩).mono ?_
      · rintro i c acc M5 hk hacc ⟨k5, rfl⟩
        have hk' : (js.map D.ref)[i]? = some c := hk
        obtain ⟨j, hji, rfl⟩ : ∃ j, js[i]? = some j ∧ D.ref j = c := by
          rw [List.getElem?_map] at hk'
          cases q : js[i]? with
          | none => rw [q] at hk'; cases hk'
          | some j => rw [q] at hk'; exact ⟨j, rfl, by simpa using hk'⟩
        have hib : i < bs.length := by rw [← hj.len]; exact (List.getElem?_eq_some_iff.mp hji).1
        have hbi : bs[i]? = some bs[i] := List.getElem?_eq_getElem hib
        have hbo := hB _ (List.getElem_mem hib)
        refine ⟨_, rfl, ?_⟩
        array_get_dec
        have hjb := (hj4.at_ i j _ hji hbi).keep k5 (by simp) (by simp)
        have hins : ∃ fs : D × D × D, M5[j]? = some (.ins "Job" (jbF fs.1 fs.2.1 fs.2.2)) := by
          obtain ⟨vj, pj, es, h1, _⟩ := hjb.ex
          exact ⟨(_, _, _), h1⟩
        obtain ⟨fs, hins⟩ := hins
        refine ⟨_, hins, rfl, ?_⟩
        refine jrows_ok ok (hn.keep0 ((kj _ k4).trans k5)) hjb hbo.ll ?_
        intro M6 k6
        refine ⟨k5.trans k6, ?_⟩
        rw [take_succ' hbi, List.map_append]
        rfl
      rintro qs M5 ⟨_, k5, rfl⟩
      rw [show (It3.seq (Src.lst M2.length) (js.map D.ref)).items.length = bs.length by show (js.map D.ref).length = _; rw [List.length_map, hj.len], List.take_length]
      exact ⟨_, rfl, k _ ((kj _ k4).trans k5)⟩
end

/-- a job as the law draws it: the rows ahead are the first a of the text's rows -/
structure JIs (U : List Nat) (M : Mem) (N : Nt) (text : List Nat) (d : D) (b : Nat × List Nat) : Prop where
  ex : ∃ e ds, d = .tup [.int (b.1 : Int), e, vI (LsI b.2)] ∧ Sq U M e ds ∧ All2 (RowIs U M) ds ((rowsN N text).take b.1)
structure JOk (N : Nt) (text : List Nat) (b : Nat × List Nat) : Prop where
  le : b.1 ≤ text.length
  la : ∀ a ∈ b.2, a < N.emb.length
  ll : b.2.length ≤ 90
section
variable {M : Mem} {p c tj : Nat} {N : Nt} {P : D → Mem → Prop} {text : List Nat}
@[irreducible] def tailJ : MS :=
  (sq (sSet 8 (eNew (lLC [9] (iRng1 (eV 6)) (gN 9) mYes (eBin opIx (eV 2) (eV 9)))))
  (sq (sIf (tOf (eBin opEq (eCall 2 m__law_draw (aCons (eV 0) (aCons (eC (.int 2)) aNil))) (eC (.int 0))))
  (sSet 8 (eNew (lLC [10] (iSeq (qE (eV 8))) (gN 10) mYes (eCall 1 m__law_listed (aCons (eV 10) aNil)))))
  sNil)
  (sDrop (mApp (eV 4) (eTup (aCons (eV 6) (aCons (eV 8) (aCons (eV 7) aNil))))))))
theorem tail_ok {U : List Nat} {lj a : Nat} {ls : List Nat} {d5 : D} {o8 : Option D} {acc : List D} {Nn : Sl → Mem → Prop} {T : D → Mem → Prop} (hU : ∀ i ∈ U, i < M.length) (hpU : p ∈ U) (hcU : c ∈ U) (hljU : lj ∈ U) (hlp : lj ≠ p) (hlc : lj ≠ c) (hp : PoolAt M p c) (ok : N.Ok) (htl : text.length ≤ 60) (ha : a ≤ text.length) (htU : tj ∉ U) (ht : M[tj]? = some (.lst ((rowsN N text).map rowD))) (hacc : M[lj]? = some (.lst acc)) (hal : acc.length ≤ 1000)
    (k : ∀ e ds M1, Keep [p, lj] M M1 → PoolAt M1 p c → M1[lj]? = some (.lst (acc ++ [.tup [.int (a : Int), e, vI (LsI ls)]])) → Sq U M1 e ds → All2 (RowIs U M1) ds ((rowsN N text).take a) →
      Nn [some (.ref p), some (vI (LsI text)), some (.ref tj), some (.int (N.emb.length : Int)), some (.ref lj), some d5, some (.int (a : Int)), some (vI (LsI ls)), some e, none, none] M1) :
    L3.RS.V (tailJ [some (.ref p), some (vI (LsI text)), some (.ref tj), some (.int (N.emb.length : Int)), some (.ref lj), some d5, some (.int (a : Int)), some (vI (LsI ls)), o8, none, none] M) Nn T := by
  unfold tailJ
  array_get_dec
  have hpl := hU _ hpU
  refine ⟨by omega, by omega, ?_⟩
  rw [show ((a : Int)).toNat = a from rfl]
  have hrl : (rowsN N text).length = text.length := rowsN_length N text
  refine (lc_ix (Inv := fun t as M' => M' = M ∧ as = ((rowsN N text).take t).map rowD) (fun t as M' _ => rfl) (by show (rngD 0 a).length < _; rw [rng_len]; omega) ?_ ⟨rfl, rfl⟩).mono ?_
  · rintro t q as M' hk _ ⟨rfl, rfl⟩
    obtain ⟨hta, rfl⟩ := rng_at (show (rngD 0 a)[t]? = some q from hk)
    refine ⟨_, rfl, ?_⟩
    have hr : (rowsN N text)[t]? = some ((rowsN N text)[t]'(by omega)) := List.getElem?_eq_getElem (by omega)
    array_get_dec
    show L3.R.W (opIx (.ref tj) (.int (t : Int)) M') _
    rw [W_ixL ht, ix_nat, List.getElem?_map, hr]
    refine ⟨_, rfl, rfl, ?_⟩
    rw [take_succ' hr, List.map_append]
    rfl
  rintro as M1 ⟨_, rfl, rfl⟩
  rw [show (It3.rng 0 a).items.length = a from rng_len]
  have kA := Keep.app (A := []) (M := M1) (X := [O.lst (((rowsN N text).take a).map rowD)])
  have hn := new_at (M := M1) (o := O.lst (((rowsN N text).take a).map rowD))
  have hl1 : (M1 ++ [O.lst (((rowsN N text).take a).map rowD)]).length = M1.length + 1 := by simp
  have hnU : ∀ j, M1.length ≤ j → j ∉ U := fun j hj z => by have := hU _ z; omega
  generalize (M1 ++ [O.lst (((rowsN N text).take a).map rowD)]) = M2 at *
  refine draw_ok (many := 2) (hp.keep0 kA) (by decide) (by decide) ?_
  intro x M3 hx k3 hl3 hp3
  have kB : Keep [p] M1 M3 := (kA.mono (by simp)).trans k3
  have hn3 := k3.get hn (fun z => hnU _ (Nat.le_refl _) (List.mem_singleton.mp z ▸ hpU))
  have hacc3 := kB.get hacc (by simp [hlp])
  have hsz : ((rowsN N text).take a).length ≤ 60 := by rw [List.length_take]; omega
  by_cases hx0 : x = 0
  · subst hx0
    refine ⟨true, rfl, ?_⟩
    rw [if_pos rfl]
    have hx3 : SrcIs M3 (.lst M1.length) (((rowsN N text).take a).map rowD) := .inr (.inr ⟨_, rfl, hn3⟩)
    refine ⟨_, hx3.get, ?_⟩
    have hU3 : ∀ i ∈ U, i < M3.length := fun i hi => Nat.lt_of_lt_of_le (hU i hi) kB.len
    refine (lc_ix (Inv := fun t as M' => Keep [] M3 M' ∧ All2 (RowIs U M') as (((rowsN N text).take a).take t)) (fun t as M' z => still_seq hx3 z.1) (by show (List.map rowD _).length < _; rw [List.length_map]; omega) ?_ ⟨Keep.refl, .nil⟩).mono ?_
    · rintro t q as M' hk _ ⟨k4, has⟩
      have hk' : (((rowsN N text).take a).map rowD)[t]? = some q := hk
      rw [List.getElem?_map] at hk'
      cases hr : ((rowsN N text).take a)[t]? with
      | none => rw [hr] at hk'; cases hk'
      | some r =>
        rw [hr] at hk'
        cases hk'
        have hro := rowsN_ok ok text r (List.mem_of_mem_take (List.mem_of_getElem? hr))
        refine ⟨_, rfl, ?_⟩
        array_get_dec
        refine listed_ok (U := U) (fun i hi => Nat.lt_of_lt_of_le (hU3 i hi) k4.len) (by rw [hro.len]; exact ok.layl) ?_
        intro d M5 k5 hd
        refine ⟨k4.trans k5, ?_⟩
        rw [take_succ' hr]
        exact (has.imp fun _ _ z => z.keep k5 (by simp)).append (.one hd)
    rintro as M4 ⟨_, k4, has⟩
    rw [show (It3.seq (Src.lst M1.length) (((rowsN N text).take a).map rowD)).items.length = ((rowsN N text).take a).length by show (List.map _ _).length = _; rw [List.length_map], List.take_length] at has
    have kC := Keep.app (A := []) (M := M4) (X := [O.lst as])
    have hn5 := new_at (M := M4) (o := O.lst as)
    have l4 := k4.len
    have hM1 : M1.length ≤ M4.length := by have := kB.len; omega
    have h5 := (k4.trans kC).get0 hacc3
    refine ⟨isLst_of h5, rfl, _, h5, okLen_of (by omega), ?_⟩
    have kS : Keep [lj] (M4 ++ [O.lst as]) ((M4 ++ [O.lst as]).set lj (.lst (acc ++ [.tup [.int (a : Int), .ref M4.length, vI (LsI ls)]]))) := Keep.set (by simp)
    refine k (.ref M4.length) _ _ ((kB.mono (by simp)).trans ((k4.trans kC).mono (by simp) |>.trans (kS.mono (by simp)))) ((hp3.keep0 (k4.trans kC)).keep kS (by simp [Ne.symm hlp]) (by simp [Ne.symm hlc])) (set_at h5) (.inr ⟨_, rfl, hnU _ hM1, kS.get hn5 (fun z => hnU _ hM1 (List.mem_singleton.mp z ▸ hljU))⟩) ?_
    exact has.imp fun _ _ z => (z.keep kC (by simp)).keep kS (fun i hi => by rw [List.mem_singleton.mp hi]; exact hljU)
  · refine ⟨false, ?_, ?_⟩
    · show D.bl (decide ((x : Int) = 0)) = _
      rw [decide_eq_false (by omega)]
    rw [if_neg (by decide)]
    refine ⟨isLst_of hacc3, rfl, _, hacc3, okLen_of (by omega), ?_⟩
    have kS : Keep [lj] M3 (M3.set lj (.lst (acc ++ [.tup [.int (a : Int), .ref M1.length, vI (LsI ls)]]))) := Keep.set (by simp)
    refine k (.ref M1.length) _ _ ((kB.mono (by simp)).trans (kS.mono (by simp))) (hp3.keep kS (by simp [Ne.symm hlp]) (by simp [Ne.symm hlc])) (set_at hacc3) (.inr ⟨_, rfl, hnU _ (Nat.le_refl _), kS.get hn3 (fun z => hnU _ (Nat.le_refl _) (List.mem_singleton.mp z ▸ hljU))⟩) (All2.of_map (fun r => rowIs_D r) _)
end

theorem cut_mid {α : Type} (xs : List α) {a z : Nat} (h : a ≤ xs.length) : cut xs (some (a : Int)) (some ((a : Int) + (z : Int))) = (xs.take (a + z)).drop a := by
  have e : cut xs (some (a : Int)) (some (((a + z : Nat)) : Int)) = (xs.take (a + z)).drop a := by
    unfold cut
    rw [HT.sIx_nat, HT.sIx_nat, Nat.min_eq_left h, List.drop_take]
    apply List.ext_getElem?
    intro i
    rw [List.getElem?_take, List.getElem?_take]
    by_cases hi : i < min (a + z) xs.length - a
    · rw [if_pos hi, if_pos (by omega)]
    · rw [if_neg hi]
      by_cases hj : i < a + z - a
      · rw [if_pos hj, List.getElem?_drop, List.getElem?_eq_none (by omega)]
      · rw [if_neg hj]
  exact e
section
variable {M : Mem} {p c tj : Nat} {N : Nt} {P : D → Mem → Prop} {text : List Nat}
@[irreducible] def midJ : MS :=
  (sq (sIf (tOf (eBin opEq (eCall 2 m__law_draw (aCons (eV 0) (aCons (eC (.int 3)) aNil))) (eC (.int 0))))
      (sSet 7 (eBin opAdd (eV 7) (eCall 3 m__law_numbers (aCons (eV 0) (aCons (eC (.int 1)) (aCons (eV 3) aNil))))))
      sNil) tailJ)
@[irreducible] def headJ : MS :=
  (sq (sSet 6 (eCall 2 m__law_draw (aCons (eV 0) (aCons (eBin opAdd (eLen (qE (eV 1))) (eC (.int 1))) aNil))))
      (sq (sSet 7 (eSlT (eV 1) (oSome (eV 6)) (oSome (eBin opAdd (eV 6) (eCall 2 m__law_draw (aCons (eV 0) (aCons (eC (.int 4)) aNil))))))) midJ))
section
theorem mid_ok {U : List Nat} {lj a : Nat} {ls : List Nat} {d5 : D} {o8 : Option D} {acc : List D} {Nn : Sl → Mem → Prop} {T : D → Mem → Prop} (hU : ∀ i ∈ U, i < M.length) (hpU : p ∈ U) (hcU : c ∈ U) (hljU : lj ∈ U) (hlp : lj ≠ p) (hlc : lj ≠ c) (hp : PoolAt M p c) (ok : N.Ok) (htl : text.length ≤ 60) (ha : a ≤ text.length) (hel : N.emb.length ≤ 1000) (hemb : 0 < N.emb.length) (htU : tj ∉ U) (ht : M[tj]? = some (.lst ((rowsN N text).map rowD))) (hacc : M[lj]? = some (.lst acc)) (hal : acc.length ≤ 1000) (hla : ∀ x ∈ ls, x < N.emb.length) (hll : ls.length ≤ 80)
    (k : ∀ ls' e ds M1, (∀ x ∈ ls', x < N.emb.length) → ls'.length ≤ 90 → Keep [p, lj] M M1 → PoolAt M1 p c → M1[lj]? = some (.lst (acc ++ [.tup [.int (a : Int), e, vI (LsI ls')]])) → Sq U M1 e ds → All2 (RowIs U M1) ds ((rowsN N text).take a) →
      Nn [some (.ref p), some (vI (LsI text)), some (.ref tj), some (.int (N.emb.length : Int)), some (.ref lj), some d5, some (.int (a : Int)), some (vI (LsI ls')), some e, none, none] M1) :
    L3.RS.V (midJ [some (.ref p), some (vI (LsI text)), some (.ref tj), some (.int (N.emb.length : Int)), some (.ref lj), some d5, some (.int (a : Int)), some (vI (LsI ls)), o8, none, none] M) Nn T := by
  have ht' : tj < M.length := (List.getElem?_eq_some_iff.mp ht).1
  have htp : tj ≠ p := fun z => htU (z ▸ hpU)
  have fin : ∀ (ls' : List Nat) (M2 : Mem), (∀ x ∈ ls', x < N.emb.length) → ls'.length ≤ 90 → Keep [p] M M2 → PoolAt M2 p c → L3.RS.V (tailJ [some (.ref p), some (vI (LsI text)), some (.ref tj), some (.int (N.emb.length : Int)), some (.ref lj), some d5, some (.int (a : Int)), some (vI (LsI ls')), o8, none, none] M2) Nn T := by
    intro ls' M2 h1 h2 k2 p2
    refine tail_ok (U := U) (acc := acc) (fun i hi => Nat.lt_of_lt_of_le (hU i hi) k2.len) hpU hcU hljU hlp hlc p2 ok htl ha htU (k2.get ht (by simp [htp])) (k2.get hacc (by simp [hlp])) hal ?_
    intro e ds M3 k3 p3 h3 he hds
    exact k ls' e ds M3 h1 h2 ((k2.mono (by simp)).trans k3) p3 h3 he hds
  unfold midJ
  array_get_dec
  refine draw_ok (many := 3) hp (by decide) (by decide) ?_
  intro y M2 hy k2 hl2 hp2
  by_cases hy0 : y = 0
  · subst hy0
    refine ⟨true, rfl, ?_⟩
    rw [if_pos rfl]
    refine numbers_ok (count := 1) hp2 (by decide) hemb hel ?_
    intro ns M3 hnl hns hd
    show L3.R.W (opAdd (.tup ((LsI ls).map D.int)) (.tup ((LsI ns).map D.int)) M3) _
    rw [W_addT]
    refine ⟨by simp [sizeLine16, hnl]; omega, ?_⟩
    have e : (LsI ls).map D.int ++ (LsI ns).map D.int = (LsI (ls ++ ns)).map D.int := by simp
    rw [e]
    exact fin (ls ++ ns) M3 (fun x hx => (List.mem_append.mp hx).elim (hla x) (hns x)) (by simp [hnl]; omega) (k2.trans hd.1) hd.2.2
  · refine ⟨false, ?_, ?_⟩
    · show D.bl (decide ((y : Int) = 0)) = _
      rw [decide_eq_false (by omega)]
    rw [if_neg (by decide)]
    exact fin ls M2 hla (by omega) k2 hp2
end
section
theorem head_ok {U : List Nat} {lj : Nat} {d5 : D} {o6 o7 o8 : Option D} {acc : List D} {Nn : Sl → Mem → Prop} {T : D → Mem → Prop} (hU : ∀ i ∈ U, i < M.length) (hpU : p ∈ U) (hcU : c ∈ U) (hljU : lj ∈ U) (hlp : lj ≠ p) (hlc : lj ≠ c) (hp : PoolAt M p c) (ok : N.Ok) (htl : text.length ≤ 60) (hte : ∀ a ∈ text, a < N.emb.length) (hel : N.emb.length ≤ 1000) (hemb : 0 < N.emb.length) (htU : tj ∉ U) (ht : M[tj]? = some (.lst ((rowsN N text).map rowD))) (hacc : M[lj]? = some (.lst acc)) (hal : acc.length ≤ 1000)
    (k : ∀ a ls' e ds M1, a ≤ text.length → (∀ x ∈ ls', x < N.emb.length) → ls'.length ≤ 90 → Keep [p, lj] M M1 → PoolAt M1 p c → M1[lj]? = some (.lst (acc ++ [.tup [.int ((a : Nat) : Int), e, vI (LsI ls')]])) → Sq U M1 e ds → All2 (RowIs U M1) ds ((rowsN N text).take a) →
      Nn [some (.ref p), some (vI (LsI text)), some (.ref tj), some (.int (N.emb.length : Int)), some (.ref lj), some d5, some (.int ((a : Nat) : Int)), some (vI (LsI ls')), some e, none, none] M1) :
    L3.RS.V (headJ [some (.ref p), some (vI (LsI text)), some (.ref tj), some (.int (N.emb.length : Int)), some (.ref lj), some d5, o6, o7, o8, none, none] M) Nn T := by
  have ht' : tj < M.length := (List.getElem?_eq_some_iff.mp ht).1
  have htp : tj ≠ p := fun z => htU (z ▸ hpU)
  unfold headJ
  generalize hT : vI (LsI text) = T1
  rw [hT] at k
  array_get_dec
  rw [← hT]
  rw [← hT] at k
  refine ⟨_, SrcIs.get (.inl rfl), ?_⟩
  rw [List.length_map, List.length_map, show ((text.length : Int) + 1) = ((text.length + 1 : Nat) : Int) from rfl]
  refine draw_ok (many := text.length + 1) hp (by omega) (by omega) ?_
  intro a M2 ha k2 hl2 hp2
  refine ⟨_, rfl, ?_⟩
  refine draw_ok (many := 4) hp2 (by decide) (by decide) ?_
  intro z M3 hz k3 hl3 hp3
  refine ⟨_, rfl, _, rfl, ?_⟩
  rw [cut_mid _ (by simp; omega)]
  have e : (((LsI text).map D.int).take (a + z)).drop a = (LsI ((text.take (a + z)).drop a)).map D.int := by
    simp [List.map_take, List.map_drop]
  rw [e]
  have k23 := k2.trans k3
  refine mid_ok (U := U) (acc := acc) (ls := (text.take (a + z)).drop a) (fun i hi => Nat.lt_of_lt_of_le (hU i hi) k23.len) hpU hcU hljU hlp hlc hp3 ok htl (by omega) hel hemb htU (k23.get ht (by simp [htp])) (k23.get hacc (by simp [hlp])) hal (fun x hx => hte x (List.mem_of_mem_take (List.mem_of_mem_drop hx))) (by simp; omega) ?_
  intro ls' es ds M4 h1 h2 k4 p4 h4 he hds
  exact k a ls' es ds M4 (by omega) h1 h2 ((k23.mono (by simp)).trans k4) p4 h4 he hds
end
end

section
variable {M : Mem} {p c tj : Nat} {N : Nt} {P : D → Mem → Prop} {text : List Nat}
def bodyJ : MS :=
  (sq (sSet 4 (eNew (lLst aNil)))
  (sq (sFor (iRng1 (eBin opAdd (eC (.int 2)) (eCall 2 m__law_draw (aCons (eV 0) (aCons (eC (.int 3)) aNil))))) (gN 5) headJ)
  (sRet (eV 4))))
theorem bodyJ_eq : b__law_jobs = bodyJ := by
  unfold b__law_jobs bodyJ headJ midJ tailJ
  rfl
theorem ljobs_ok {U : List Nat} (hU : ∀ i ∈ U, i < M.length) (hpU : p ∈ U) (hcU : c ∈ U) (hp : PoolAt M p c) (ok : N.Ok) (htl : text.length ≤ 60) (hte : ∀ a ∈ text, a < N.emb.length) (hel : N.emb.length ≤ 1000) (hemb : 0 < N.emb.length) (htU : tj ∉ U) (ht : M[tj]? = some (.lst ((rowsN N text).map rowD)))
    (k : ∀ d ds bs M1, Keep [p] M M1 → PoolAt M1 p c → Sq U M1 d ds → All2 (JIs U M1 N text) ds bs → (∀ b ∈ bs, JOk N text b) → bs.length ≤ 10 → P d M1) : L3.R.W (m__law_jobs [.ref p, vI (LsI text), .ref tj, .int (N.emb.length : Int)] M) P := by
  unfold m__law_jobs
  rw [bodyJ_eq]
  unfold bodyJ
  array_get_dec
  have kA := Keep.app (A := []) (M := M) (X := [O.lst []])
  have hn0 := new_at (M := M) (o := O.lst [])
  have hl0 : (M ++ [O.lst []]).length = M.length + 1 := by simp
  have hpl := hU _ hpU
  have hcl := hU _ hcU
  have htl2 : tj < M.length := (List.getElem?_eq_some_iff.mp ht).1
  have htp : tj ≠ p := fun z => htU (z ▸ hpU)
  refine ⟨rfl, ?_⟩
  generalize (M ++ [O.lst []]) = M1 at *
  refine draw_ok (many := 3) (hp.keep0 kA) (by decide) (by decide) ?_
  intro x M2 hx k2 hl2 hp2
  refine ⟨_, rfl, by omega, by omega, ?_⟩
  rw [show (2 + (x : Int)).toNat = 2 + x by omega]
  refine for_go (Inv := fun t s M3 => ∃ o5 o6 o7 o8 ds bs, s = [some (.ref p), some (vI (LsI text)), some (.ref tj), some (.int (N.emb.length : Int)), some (.ref M.length), o5, o6, o7, o8, none, none] ∧ Keep [p, M.length] M1 M3 ∧ PoolAt M3 p c ∧ M3[M.length]? = some (.lst ds) ∧ ds.length = t ∧ All2 (JIs (M.length :: U) M3 N text) ds bs ∧ (∀ b ∈ bs, JOk N text b)) (fun t s M3 _ => rfl) ?_ ⟨none, none, none, none, [], [], rfl, k2.mono (by simp), hp2, k2.get hn0 (fun z => by have := hU _ (List.mem_singleton.mp z ▸ hpU); omega), rfl, .nil, by simp⟩ ?_
  · rintro t q s M3 hk ⟨o5, o6, o7, o8, ds, bs, rfl, k3, hp3, hd, hdl, hb, hB⟩
    refine ⟨_, M3, rfl, ?_⟩
    have htt : t < 2 + x := by
      have := (List.getElem?_eq_some_iff.mp (show (rngD 0 (2 + x))[t]? = some q from hk)).1
      rwa [rng_len] at this
    have l3 := k3.len
    refine head_ok (U := M.length :: U) (acc := ds) (fun i hi => ?_) (List.mem_cons_of_mem _ hpU) (List.mem_cons_of_mem _ hcU) (List.mem_cons_self ..) (by omega) (by omega) hp3 ok htl hte hel hemb (fun z => ?_) (k3.get (kA.get0 ht) (by simp [htp]; omega)) hd (by omega) ?_
    · rcases List.mem_cons.mp hi with rfl | hi
      · omega
      · have := hU _ hi; omega
    · rcases List.mem_cons.mp z with z | z
      · omega
      · exact htU z
    intro a ls' e es M7 ha h1 h2 k7 p7 h7 he hes
    refine ⟨_, _, _, _, _, bs ++ [(a, ls')], rfl, k3.trans k7, p7, h7, by simp [hdl], ?_, ?_⟩
    · refine (hb.imp ?_).append (.one ⟨_, _, rfl, he, hes⟩)
      rintro d b ⟨e', ds', e1, e2, e3⟩
      have hA : ∀ i ∈ [p, M.length], i ∈ M.length :: U := fun i hi => by
        rcases List.mem_cons.mp hi with rfl | hi
        · exact List.mem_cons_of_mem _ hpU
        · rw [List.mem_singleton.mp hi]; simp
      exact ⟨e', ds', e1, Sq.keep e2 k7 hA, e3.imp fun _ _ z => z.keep k7 hA⟩
    · intro b hb'
      rcases List.mem_append.mp hb' with hb' | hb'
      · exact hB b hb'
      · rw [List.mem_singleton.mp hb']; exact ⟨ha, h1, h2⟩
  · rintro s M3 ⟨o5, o6, o7, o8, ds, bs, rfl, k3, hp3, hd, hdl, hb, hB⟩
    array_get_dec
    have hdl' : ds.length = 2 + x := by rw [hdl]; exact rng_len
    have hnU : M.length ∉ U := fun z => by have := hU _ z; omega
    refine k (.ref M.length) ds bs M3 (kA.mono (B := [p]) (by simp) |>.new k3 fun i hi => ?_) hp3 (.inr ⟨_, rfl, hnU, hd⟩) (hb.imp ?_) hB (by rw [← hb.length]; omega)
    · rcases List.mem_cons.mp hi with rfl | hi
      · exact .inl (by simp)
      · exact .inr (by rw [List.mem_singleton.mp hi]; omega)
    · rintro d b ⟨e', ds', e1, e2, e3⟩
      exact ⟨e', ds', e1, Sq.weak e2 (fun i hi => List.mem_cons_of_mem _ hi), e3.imp fun _ _ z => z.weak (fun i hi => List.mem_cons_of_mem _ hi)⟩
end

theorem rowsE_split {N : Nt} {rows : List Row} {ls : List Nat} : ∀ i, i ≤ ls.length → upTo N rows ls i = rows ++ (List.range i).map fun t => rowN N (upTo N rows ls t) (ls.getD t 0)
  | 0, _ => by simp [upTo, rowsE]
  | i + 1, h => by rw [upTo_succ (by omega), rowsE_split i (by omega), List.range_succ, List.map_append, ← List.append_assoc, ← rowsE_split i (by omega)]; rfl
theorem rowsE_all {N : Nt} {rows : List Row} {ls : List Nat} : rowsE N rows ls = rows ++ (List.range ls.length).map fun t => rowN N (upTo N rows ls t) (ls.getD t 0) := by
  have := rowsE_split (N := N) (rows := rows) (ls := ls) ls.length (Nat.le_refl _)
  rwa [upTo, List.take_length] at this
theorem rowsN_take {N : Nt} {text : List Nat} {a : Nat} (h : a ≤ text.length) : (rowsN N text).take a = rowsN N (text.take a) := by
  have e : rowsN N text = rowsE N (rowsN N (text.take a)) (text.drop a) := by rw [rowsE_rowsN, List.take_append_drop]
  rw [e, rowsE_all, List.take_append_of_le_length (by rw [rowsN_length, List.length_take]; omega), List.take_of_length_le (by rw [rowsN_length, List.length_take]; omega)]
theorem due_eq {N : Nt} {text ls : List Nat} {a : Nat} (h : a ≤ text.length) : ((rowsN N (text.take a ++ ls)).drop a).map rowD = (List.range ls.length).map (rowJ N ((rowsN N text).take a) ls) := by
  rw [rowsN_take h, ← rowsE_rowsN, rowsE_all, List.drop_append_of_le_length (by rw [rowsN_length, List.length_take]; omega), List.drop_of_length_le (by rw [rowsN_length, List.length_take]; omega), List.nil_append, List.map_map]
  rfl
theorem plain_tup {n : Nat} {ds : List D} (h : ds.length ≤ 1000000) (k : ∀ d ∈ ds, plainB n d = true) : plainB (n + 1) (.tup ds) = true := by
  show (decide (ds.length ≤ 1000000) && ds.all (plainB n)) = true
  rw [decide_eq_true h, Bool.true_and, List.all_eq_true]
  exact k
theorem plain_rowN {N : Nt} (ok : N.Ok) {n : Nat} (rows : List Row) (a : Nat) : plainB (n + 5) (rowD (rowN N rows a)) = true := by
  have ro := rowOk_rowN ok rows a
  have hl := ok.layl
  have hw := ok.w
  have ho := ok.outl
  refine plain_tup (by simp) fun d hd => ?_
  simp only [List.mem_cons, List.not_mem_nil, or_false] at hd
  rcases hd with rfl | rfl
  · refine plain_tup (by rw [List.length_map, ro.len]; omega) fun d hd => ?_
    obtain ⟨p, hp, rfl⟩ := List.mem_map.mp hd
    obtain ⟨h1, h2, _⟩ := ro.k p hp
    refine plain_tup (by simp) fun d hd => ?_
    simp only [List.mem_cons, List.not_mem_nil, or_false] at hd
    rcases hd with rfl | rfl
    · exact plain_vI _ (by omega)
    · exact plain_vI _ (by omega)
  · refine plain_vI (n := n + 2) _ ?_
    show (wts N _).length ≤ _
    unfold wts
    rw [List.length_map]
    omega
theorem rowsN_mem {N : Nt} : ∀ (ls : List Nat) (rows : List Row), (∀ r ∈ rows, ∃ rs a, r = rowN N rs a) → ∀ r ∈ rowsE N rows ls, ∃ rs a, r = rowN N rs a
  | [], rows, h => h
  | a :: ls, rows, h => by
    show ∀ r ∈ rowsE N (rows ++ [rowN N rows a]) ls, _
    refine rowsN_mem ls _ fun r hr => ?_
    rcases List.mem_append.mp hr with hr | hr
    · exact h r hr
    · exact ⟨rows, a, List.mem_singleton.mp hr⟩
theorem plain_rowsN {N : Nt} (ok : N.Ok) {n : Nat} (ls : List Nat) : ∀ r ∈ rowsN N ls, plainB (n + 5) (rowD r) = true := by
  intro r hr
  have e : rowsN N ls = rowsE N [] ls := rfl
  rw [e] at hr
  obtain ⟨rs, a, rfl⟩ := rowsN_mem ls [] (by simp) r hr
  exact plain_rowN ok rs a

theorem JIs.keep {U A : List Nat} {M M1 : Mem} {N : Nt} {text : List Nat} {d : D} {b : Nat × List Nat} (h : JIs U M N text d b) (k : Keep A M M1) (hA : ∀ i ∈ A, i ∈ U) : JIs U M1 N text d b := by
  obtain ⟨e, ds, h1, h2, h3⟩ := h.ex
  exact ⟨e, ds, h1, Sq.keep h2 k hA, h3.imp fun _ _ z => z.keep k hA⟩
theorem JIs.fresh {U V : List Nat} {M : Mem} {N : Nt} {text : List Nat} {d : D} {b : Nat × List Nat} (h : JIs U M N text d b) (k : ∀ i ∈ V, i ∈ U ∨ M.length ≤ i) : JIs V M N text d b := by
  obtain ⟨e, ds, h1, h2, h3⟩ := h.ex
  exact ⟨e, ds, h1, Sq.fresh h2 k, h3.imp fun _ _ z => z.fresh k⟩
section
variable {M : Mem} {p c tj n : Nat} {N : Nt} {P : D → Mem → Prop} {text : List Nat}
def dueB (N : Nt) (text : List Nat) (b : Nat × List Nat) : D := .tup ((List.range b.2.length).map (rowJ N ((rowsN N text).take b.1) b.2))
theorem linbatch_ok (hp : PoolAt M p c) (hn : NetAt M n N) (ok : N.Ok) (htl : text.length ≤ 60) (hte : ∀ a ∈ text, a < N.emb.length) (hemb : 0 < N.emb.length) (ht : M[tj]? = some (.lst ((rowsN N text).map rowD))) (htp : tj ≠ p) (htc : tj ≠ c) (hnp : n ≠ p)
    (k : ∀ M1, P (.bl true) M1) : L3.R.W (m__law_in_batch [.ref p, .ref n, modelD N, vI (LsI text), .ref tj] M) P := by
  have hel := ok.embl
  obtain ⟨lp, lc⟩ : p < M.length ∧ c < M.length := by
    obtain ⟨_, _, _, _, _, _, h1, h2, _⟩ := hp
    exact ⟨(List.getElem?_eq_some_iff.mp h1).1, (List.getElem?_eq_some_iff.mp h2).1⟩
  unfold m__law_in_batch b__law_in_batch
  generalize hT : vI (LsI text) = T1 at *
  generalize hMd : modelD N = md at *
  array_get_dec
  rw [← hMd]
  refine W_ixT.mpr ⟨_, rfl, ?_⟩
  unfold mI
  array_get_dec
  refine ⟨_, SrcIs.get (.inl rfl), ?_⟩
  rw [List.length_map, ← hT]
  refine ljobs_ok (U := [p, c]) (by simp [lp, lc]) (by simp) (by simp) hp ok htl hte hel hemb (by simp [htp, htc]) ht ?_
  intro d ds bs M1 k1 p1 hd hds hbs hbl
  refine ⟨rfl, ?_⟩
  have kA := Keep.app (A := []) (M := M1) (X := [O.lst []])
  have h60 := new_at (M := M1) (o := O.lst [])
  have l0 : (M1 ++ [O.lst []]).length = M1.length + 1 := by simp
  have l1 := k1.len
  refine Sq.srcAt hd fun x hx => ⟨_, (hx.keep kA).get, ?_⟩
  generalize (M1 ++ [O.lst []]) = M2 at *
  refine for_go (Inv := fun t s M' => ∃ o7, s = [some (.ref p), some (.ref n), some md, some T1, some (.ref tj), some d, some (.ref M1.length), o7, none] ∧ Keep [M1.length] M2 M' ∧ M'[M1.length]? = some (.lst ((bs.take t).map (dueB N text)))) (fun t s M' ⟨_, _, kk, _⟩ => still_seq hx (kA.new kk (by simp))) ?_ ⟨none, by rw [hMd, hT], Keep.refl, h60⟩ ?_
  · rintro t q s M' hk ⟨o7, rfl, kk, h6⟩
    have hk' : ds[t]? = some q := hk
    obtain ⟨b, hbt, hj⟩ := hds.getL hk'
    obtain ⟨e, es, rfl, he, hes⟩ := hj.ex
    obtain ⟨hb1, hb2, hb3⟩ := hbs b (List.mem_of_getElem? hbt)
    refine ⟨_, M', rfl, ?_⟩
    array_get_dec
    refine ⟨isLst_of h6, _, rfl, _, rfl, _, hT.symm, _, rfl, ?_⟩
    rw [cut_take _ (by simp; omega)]
    show L3.R.W (opAdd (.tup _) (.tup ((LsI b.2).map D.int)) M') _
    rw [W_addT]
    refine ⟨by simp [sizeLine16]; omega, ?_⟩
    have e2 : ((LsI text).map D.int).take b.1 ++ (LsI b.2).map D.int = (LsI (text.take b.1 ++ b.2)).map D.int := by simp [List.map_take]
    rw [e2, ← hMd]
    refine lrows_ok ok (ls := text.take b.1 ++ b.2) IsV.tup (fun a ha => (List.mem_append.mp ha).elim (fun z => hte a (List.mem_of_mem_take z)) (hb2 a)) (by simp; omega) ?_
    intro j M3 k3 hj3 h3
    rw [W_src_ref]
    have h63 := k3.get0 h6
    refine ⟨_, rfl, _, rfl, rfl, _, SrcIs.get (.inr (.inr ⟨_, rfl, h3⟩)), _, rfl, _, h63, okLen_of (by simp; omega), _, rfl, (kk.trans (k3.mono (by simp))).trans (Keep.set (by simp)), ?_⟩
    rw [set_at h63, cut_drop _ (by rw [List.length_map, rowsN_length]; simp; omega), ← List.map_drop, due_eq hb1, take_succ' hbt, List.map_append]
    rfl
  · rintro s M' ⟨o7, rfl, kk, h6⟩
    rw [show (It3.seq x ds).items.length = bs.length from hds.length, List.take_length] at h6
    array_get_dec
    have k1m : Keep [] M1 M' := kA.new kk (by simp)
    refine Sq.srcAt hd fun y hy => ⟨_, (hy.keep k1m).get, ?_⟩
    refine (lc_ix (Inv := fun t acc M3 => Keep [] M' M3 ∧ All2 (BIs [] M3) acc ((bs.take t).map fun b => ((rowsN N text).take b.1, b.2))) (fun t a M3 z => still_seq hy (k1m.trans z.1)) (by show ds.length < _; rw [hds.length]; omega) ?_ ⟨Keep.refl, .nil⟩).mono ?_
    · rintro t q acc M3 hk hal ⟨k3, hacc⟩
      have hk' : ds[t]? = some q := hk
      obtain ⟨b, hbt, hj⟩ := hds.getL hk'
      obtain ⟨e, es, rfl, he, hes⟩ := hj.ex
      refine ⟨_, rfl, ?_⟩
      unfold vI
      array_get_dec
      refine ⟨_, rfl, _, rfl, ?_⟩
      array_get_dec
      refine ⟨_, rfl, rfl, ?_⟩
      have kB := Keep.app (A := []) (M := M3) (X := [O.lst ((LsI b.2).map D.int)])
      refine ⟨k3.trans kB, ?_⟩
      rw [take_succ' hbt, List.map_append]
      refine (hacc.imp fun d b' z => ?_).append (.one ⟨_, _, _, rfl, Sq.keep0 (Sq.zero he) ((k1m.trans k3).trans kB), hes.imp fun _ _ z => (z.weak (V := []) (by simp)).keep ((k1m.trans k3).trans kB) (by simp), .inr ⟨_, rfl, by simp, new_at⟩⟩)
      obtain ⟨e', f', ds', z1, z2, z3, z4⟩ := z.ex
      exact ⟨e', f', ds', z1, Sq.keep0 z2 kB, z3.imp fun _ _ w => w.keep kB (by simp), Sq.keep0 z4 kB⟩
    · rintro acc M3 ⟨hal, k3, hacc⟩
      rw [show (It3.seq y ds).items.length = bs.length from hds.length, List.take_length] at hacc
      have kB := Keep.app (A := []) (M := M3) (X := [O.lst acc])
      have hnw := new_at (M := M3) (o := O.lst acc)
      have hM3 : Keep [p] M (M3 ++ [O.lst acc]) := k1.trans (((k1m.trans k3).trans kB).mono (by simp))
      refine batch_ok ok (hn.keep hM3 (by simpa using hnp)) (bs := bs.map fun b => ((rowsN N text).take b.1, b.2)) (ds := acc) (.inr ⟨_, rfl, by simp, hnw⟩) (hacc.imp fun d b' z => ?_) ?_ (by rw [List.length_map]; omega) ?_
      · obtain ⟨e', f', ds', z1, z2, z3, z4⟩ := z.ex
        exact ⟨e', f', ds', z1, Sq.keep0 z2 kB, z3.imp fun _ _ w => w.keep kB (by simp), Sq.keep0 z4 kB⟩
      · intro b' hb'
        obtain ⟨b, hb, rfl⟩ := List.mem_map.mp hb'
        obtain ⟨hb1, hb2, hb3⟩ := hbs b hb
        exact ⟨by rw [List.length_take, rowsN_length]; omega, fun r hr => rowsN_ok ok text r (List.mem_of_mem_take hr), hb2, hb3⟩
      · intro M4 k4
        have h64 := ((k3.trans kB).trans k4).get0 h6
        refine ⟨_, SrcIs.get (.inr (.inr ⟨_, rfl, h64⟩)), ?_⟩
        rw [List.map_map]
        refine same_ok 12 _ ?_ (k _)
        refine plain_tup (by rw [List.length_map]; omega) fun d hd => ?_
        obtain ⟨b, hb, rfl⟩ := List.mem_map.mp hd
        obtain ⟨hb1, hb2, hb3⟩ := hbs b hb
        refine plain_tup (by rw [List.length_map, List.length_range]; show b.2.length ≤ 1000000; omega) fun d hd => ?_
        obtain ⟨i, hi, rfl⟩ := List.mem_map.mp hd
        exact plain_rowN ok (n := 5) _ _
end

/-! ### the law's own crews -/
/-- a crew and its counts, whatever they are about -/
structure Gen (M : Mem) (n : Nat) (N : Nt) (ci cd many : Nat) : Prop where
  crew : ∃ C : CG, CrG M ci C ∧ C.n = .ref n ∧ C.many = .int (many : Int)
  cnt : ∃ w p a, CdG M cd (.int (many : Int)) (.int (5 * N.lay.length : Nat)) w p a
theorem Gen.keep {A : List Nat} {M M1 : Mem} {n : Nat} {N : Nt} {ci cd many : Nat} (h : Gen M n N ci cd many) (k : Keep A M M1) (h1 : ci ∉ A) (h2 : cd ∉ A) : Gen M1 n N ci cd many := by
  obtain ⟨⟨C, a, b, c⟩, ⟨w, p, x, d⟩⟩ := h
  exact ⟨⟨C, a.keep k h1, b, c⟩, ⟨w, p, x, d.keep k h2⟩⟩
theorem Gen.lt {M : Mem} {n : Nat} {N : Nt} {ci cd many : Nat} (h : Gen M n N ci cd many) : ci < M.length ∧ cd < M.length := by
  obtain ⟨⟨C, a, b, c⟩, ⟨w, p, x, d⟩⟩ := h
  exact ⟨(List.getElem?_eq_some_iff.mp a).1, (List.getElem?_eq_some_iff.mp d).1⟩
theorem Pr.gen {M : Mem} {x : Ix} {n : Nat} {N : Nt} {R : Run} (h : Pr M x n N R) : Gen M n N x.ci x.cd R.many :=
  ⟨⟨_, h.crew.g, rfl, rfl⟩, ⟨_, _, _, h.cnt.g⟩⟩
/-- begun on both sides: what stands then -/
theorem mkPr {M M1 M2 M3 : Mem} {p c n ci cd si hi wi ai : Nat} {N : Nt} {R : Run} {A V : List Nat} (hp : PoolAt M p c) (hn : NetAt M n N) (ok : N.Ok) (hr : All2 (RowIs V M) R.ads R.rows) (hVp : p ∈ V) (hVc : c ∈ V) (hVi : ci ∈ V) (hVd : cd ∈ V) (hVA : ∀ i ∈ A, i ∈ V) (rok : ∀ r ∈ R.rows, RowOk N r) (rl : R.rows.length ≤ 1000) (x0 : R.x0.length = N.sh.length) (many : 0 < R.many) (manyl : R.many ≤ 1000) (o : RunOk N R)
    (hcd : cd < M.length) (hci : ci < M.length) (npi : p ≠ ci) (npd : p ≠ cd) (nci : c ≠ ci) (ncd : c ≠ cd) (nid : ci ≠ cd) (nni : n ≠ ci) (nnd : n ≠ cd) (nnp : n ≠ p) (nnc : n ≠ c)
    (hA : ∀ i ∈ A, i < M.length ∧ i ≠ p ∧ i ≠ c ∧ i ≠ n ∧ i ≠ ci ∧ i ≠ cd)
    (k1 : Keep [ci] M M1) (hsi : M.length ≤ si) (hhi : M.length ≤ hi) (c1 : CrewAt M1 ci si hi n N R) (k2 : Keep A M1 M2) (k3 : Keep [cd] M2 M3) (hwi : M2.length ≤ wi) (hai : M2.length ≤ ai) (c3 : CntAt M3 cd wi ai N R) :
    Pr M3 ⟨p, c, ci, si, hi, cd, wi, ai⟩ n N R := by
  have l1 := k1.len
  have l2 := k2.len
  have l3 := k3.len
  obtain ⟨lp, lc⟩ : p < M.length ∧ c < M.length := by
    obtain ⟨_, _, _, _, _, _, h1, h2, _⟩ := hp
    exact ⟨(List.getElem?_eq_some_iff.mp h1).1, (List.getElem?_eq_some_iff.mp h2).1⟩
  have lsi : si < M1.length := (List.getElem?_eq_some_iff.mp c1.s).1
  have lhi : hi < M1.length := (List.getElem?_eq_some_iff.mp c1.h).1
  have ln : n < M.length := (List.getElem?_eq_some_iff.mp hn).1
  have nA : ∀ {j : Nat}, (∀ i ∈ A, i ≠ j) → j ∉ A := fun h z => h _ z rfl
  have Ap : p ∉ A := nA fun i hi => (hA i hi).2.1
  have Ac : c ∉ A := nA fun i hi => (hA i hi).2.2.1
  have An : n ∉ A := nA fun i hi => (hA i hi).2.2.2.1
  have Ai : ci ∉ A := nA fun i hi => (hA i hi).2.2.2.2.1
  have Ad : cd ∉ A := nA fun i hi => (hA i hi).2.2.2.2.2
  have As : si ∉ A := nA fun i hi z => by have := (hA i hi).1; omega
  have Ah : hi ∉ A := nA fun i hh z => by have := (hA i hh).1; omega
  have kV : Keep V M M3 := ((k1.mono (B := V) (by simpa using hVi)).trans (k2.mono hVA)).trans (k3.mono (by simpa using hVd))
  have ne : ∀ {a b : Nat}, a < b → a ≠ b := fun h => Nat.ne_of_lt h
  refine ⟨?_, ?_, ?_, c3, o, ?_⟩
  · exact ((hp.keep k1 (by simpa using npi) (by simpa using nci)).keep k2 Ap Ac).keep k3 (by simpa using npd) (by simpa using ncd)
  · refine ⟨ok, ((hn.keep k1 (by simpa using nni)).keep k2 An).keep k3 (by simpa using nnd), ?_, ?_, rok, rl, x0, many, manyl⟩
    · simp only [Ix.U, List.mem_cons, List.not_mem_nil, or_false]
      omega
    · refine hr.imp fun _ _ z => ((z.fresh (V := V ++ [p, c, ci, si, hi, cd, wi, ai]) fun i hi' => ?_).keep kV (fun i hi' => List.mem_append_left _ hi')).weak (fun i hi' => List.mem_append_right _ hi')
      rcases List.mem_append.mp hi' with hi' | hi'
      · exact .inl hi'
      · simp only [List.mem_cons, List.not_mem_nil, or_false] at hi'
        rcases hi' with rfl | rfl | rfl | rfl | rfl | rfl | rfl | rfl
        · exact .inl hVp
        · exact .inl hVc
        · exact .inl hVi
        · exact .inr hsi
        · exact .inr hhi
        · exact .inl hVd
        · exact .inr (by omega)
        · exact .inr (by omega)
  · exact (c1.keep k2 Ai As Ah).keep k3 (by simpa using nid) (by simp; omega) (by simp; omega)
  · exact {
      p_c := hp.1, p_ci := npi, p_si := by show p ≠ si; omega, p_hi := by show p ≠ hi; omega, p_cd := npd, p_wi := by show p ≠ wi; omega, p_ai := by show p ≠ ai; omega
      c_ci := nci, c_si := by show c ≠ si; omega, c_hi := by show c ≠ hi; omega, c_cd := ncd, c_wi := by show c ≠ wi; omega, c_ai := by show c ≠ ai; omega
      ci_si := c1.d1, ci_hi := c1.d2, ci_cd := nid, ci_wi := by show ci ≠ wi; omega, ci_ai := by show ci ≠ ai; omega
      si_hi := c1.d3, si_cd := by show si ≠ cd; omega, si_wi := by show si ≠ wi; omega, si_ai := by show si ≠ ai; omega
      hi_cd := by show hi ≠ cd; omega, hi_wi := by show hi ≠ wi; omega, hi_ai := by show hi ≠ ai; omega
      cd_wi := c3.d1, cd_ai := c3.d2, wi_ai := c3.d3 }

/-- the law's own places -/
structure Lx where
  p : Nat
  c : Nat
  n : Nat
  dj : Nat
  cl : Nat
  dl : Nat
  c0 : Nat
  d0 : Nat
  m0 : Nat
  c1 : Nat
  d1 : Nat
  m1 : Nat
  tj : Nat
def Lx.ca (x : Lx) (b : Nat) : Nat := if b = 0 then x.c0 else x.c1
def Lx.da (x : Lx) (b : Nat) : Nat := if b = 0 then x.d0 else x.d1
def Lx.ma (x : Lx) (b : Nat) : Nat := if b = 0 then x.m0 else x.m1
structure Od (x : Lx) : Prop where
  a1 : x.p ≠ x.c
  a2 : x.p < x.n
  a3 : x.c < x.n
  a4 : x.n < x.dj
  a5 : x.dj < x.cl
  a6 : x.cl < x.dl
  a7 : x.dl < x.c0
  a8 : x.c0 < x.d0
  a9 : x.d0 < x.c1
  b1 : x.c1 < x.d1
  b2 : x.d1 < x.tj
structure St (M : Mem) (x : Lx) (N : Nt) (text : List Nat) (t : Nat) : Prop where
  pool : PoolAt M x.p x.c
  net : NetAt M x.n N
  due : M[x.dj]? = some (.lst ((rowsN N text).map rowD))
  cl : M[x.cl]? = some (.lst [.ref x.c0, .ref x.c1])
  dl : M[x.dl]? = some (.lst [.ref x.d0, .ref x.d1])
  g0 : Gen M x.n N x.c0 x.d0 x.m0
  g1 : Gen M x.n N x.c1 x.d1 x.m1
  told : M[x.tj]? = some (.lst ((rowsN N (text.take t)).map rowD))
section
variable {M M1 : Mem} {x : Lx} {N : Nt} {text : List Nat} {t b : Nat} {P : D → Mem → Prop}
theorem Od.cr (od : Od x) (hb : b < 2) : x.dl < x.ca b ∧ x.ca b < x.da b ∧ x.da b < x.tj := by
  have := od.a7; have := od.a8; have := od.a9; have := od.b1; have := od.b2
  unfold Lx.ca Lx.da
  split <;> omega
theorem St.gen (s : St M x N text t) (hb : b < 2) : Gen M x.n N (x.ca b) (x.da b) (x.ma b) := by
  have h : b = 0 ∨ b = 1 := by omega
  rcases h with rfl | rfl
  · exact s.g0
  · exact s.g1
theorem St.lt (s : St M x N text t) : x.p < M.length ∧ x.c < M.length ∧ x.n < M.length ∧ x.dj < M.length ∧ x.cl < M.length ∧ x.dl < M.length ∧ x.c0 < M.length ∧ x.d0 < M.length ∧ x.c1 < M.length ∧ x.d1 < M.length ∧ x.tj < M.length := by
  obtain ⟨_, _, _, _, _, _, h1, h2, _⟩ := s.pool
  have l := fun {j : Nat} {o : O} (z : M[j]? = some o) => (List.getElem?_eq_some_iff.mp z).1
  exact ⟨l h1, l h2, l s.net, l s.due, l s.cl, l s.dl, s.g0.lt.1, s.g0.lt.2, s.g1.lt.1, s.g1.lt.2, l s.told⟩
/-- only the pool, this crew and its counts were touched -/
theorem St.go {A : List Nat} (od : Od x) (s : St M x N text t) (hb : b < 2) (k : Keep A M M1) (hA : ∀ i ∈ A, i = x.p ∨ i = x.c ∨ i = x.ca b ∨ i = x.da b ∨ x.tj < i) (hp : PoolAt M1 x.p x.c) (hg : Gen M1 x.n N (x.ca b) (x.da b) (x.ma b)) : St M1 x N text t := by
  obtain ⟨l1, l2, l3, l4, l5, l6, l7, l8, l9, l10, l11⟩ := s.lt
  have o1 := od.a2; have o2 := od.a3; have o3 := od.a4; have o4 := od.a5; have o5 := od.a6; have o6 := od.a7; have o7 := od.a8; have o8 := od.a9; have o9 := od.b1; have o10 := od.b2
  obtain ⟨q1, q2, q3⟩ := od.cr hb
  have nA : ∀ {j : Nat}, j ≤ x.tj → j ≠ x.p → j ≠ x.c → j ≠ x.ca b → j ≠ x.da b → j ∉ A := fun h1 h2 h3 h4 h5 z => by
    rcases hA _ z with h | h | h | h | h
    · exact h2 h
    · exact h3 h
    · exact h4 h
    · exact h5 h
    · omega
  have h : b = 0 ∨ b = 1 := by omega
  refine ⟨hp, s.net.keep k (nA (by omega) (by omega) (by omega) (by omega) (by omega)), k.get s.due (nA (by omega) (by omega) (by omega) (by omega) (by omega)), k.get s.cl (nA (by omega) (by omega) (by omega) (by omega) (by omega)), k.get s.dl (nA (by omega) (by omega) (by omega) (by omega) (by omega)), ?_, ?_, k.get s.told (nA (by omega) (by omega) (by omega) (by omega) (by omega))⟩
  · rcases h with rfl | rfl
    · exact hg
    · have e1 : x.ca 1 = x.c1 := rfl
      have e2 : x.da 1 = x.d1 := rfl
      exact s.g0.keep k (nA (by omega) (by omega) (by omega) (by omega) (by omega)) (nA (by omega) (by omega) (by omega) (by omega) (by omega))
  · rcases h with rfl | rfl
    · have e1 : x.ca 0 = x.c0 := rfl
      have e2 : x.da 0 = x.d0 := rfl
      exact s.g1.keep k (nA (by omega) (by omega) (by omega) (by omega) (by omega)) (nA (by omega) (by omega) (by omega) (by omega) (by omega))
    · exact hg
theorem St.fresh (s : St M x N text t) (k : Keep [] M M1) : St M1 x N text t :=
  ⟨s.pool.keep0 k, s.net.keep0 k, k.get0 s.due, k.get0 s.cl, k.get0 s.dl, s.g0.keep k (by simp) (by simp), s.g1.keep k (by simp) (by simp), k.get0 s.told⟩
theorem St.drawn (od : Od x) (s : St M x N text t) (k : Keep [x.p] M M1) (hp : PoolAt M1 x.p x.c) : St M1 x N text t := by
  obtain ⟨l1, l2, l3, l4, l5, l6, l7, l8, l9, l10, l11⟩ := s.lt
  have o1 := od.a2; have o3 := od.a4; have o4 := od.a5; have o5 := od.a6; have o6 := od.a7; have o7 := od.a8; have o8 := od.a9; have o9 := od.b1; have o10 := od.b2
  refine s.go (b := 0) od (by decide) k (by simp) hp (s.g0.keep k (by simp; omega) (by simp; omega))
theorem St.ixc (s : St M x N text t) (hb : b < 2) (k : P (.ref (x.ca b)) M) : L3.R.W (opIx (.ref x.cl) (.int (b : Int)) M) P := by
  refine (W_ixL s.cl).mpr ⟨_, ?_, k⟩
  have h : b = 0 ∨ b = 1 := by omega
  rcases h with rfl | rfl <;> rfl
theorem St.ixd (s : St M x N text t) (hb : b < 2) (k : P (.ref (x.da b)) M) : L3.R.W (opIx (.ref x.dl) (.int (b : Int)) M) P := by
  refine (W_ixL s.dl).mpr ⟨_, ?_, k⟩
  have h : b = 0 ∨ b = 1 := by omega
  rcases h with rfl | rfl <;> rfl
abbrev sL (x : Lx) (lt ct : Nat) (u : D × D × D × D) (md T : D) (o13 o14 o16 o17 o18 : Option D) : Sl := [some u.1, some (.ref x.p), some u.2.1, some (.int (lt : Int)), some u.2.2.1, some u.2.2.2, some (.int (ct : Int)), some md, some (.ref x.n), some T, some (.ref x.dj), some (.ref x.cl), some (.ref x.dl), o13, o14, some (.ref x.tj), o16, o17, o18, none]
/-- what is asked of the sizes -/
structure Sz (x : Lx) (N : Nt) (text : List Nat) : Prop where
  ok : N.Ok
  em : 0 < N.emb.length
  ly : N.lay.length ≤ 3
  tl : text.length ≤ 4
  te : ∀ a ∈ text, a < N.emb.length
  m0 : 0 < x.m0 ∧ x.m0 ≤ 4
  m1 : 0 < x.m1 ∧ x.m1 ≤ 4
theorem Sz.m (z : Sz x N text) : 0 < x.ma b ∧ x.ma b ≤ 4 := by
  unfold Lx.ma
  split
  · exact z.m0
  · exact z.m1
@[irreducible] def otherL : MS :=
  (sq (sDrop (eMeth "Crew" "begin" 3 m_Crew_begin (eBin opIx (eV 11) (eBin opSub (eC (.int 1)) (eV 16))) (aCons (eV 15) (aCons (eCall 2 m__law_draw (aCons (eV 1) (aCons (eV 3) aNil))) aNil))))
  (sq (sDrop (eCall 1 m__law_begins (aCons (eBin opIx (eV 12) (eBin opSub (eC (.int 1)) (eV 16))) aNil)))
  (sIf (tNot3 (tOf (eCall 4 m__law_some_deeds (aCons (eV 1) (aCons (eBin opIx (eV 11) (eBin opSub (eC (.int 1)) (eV 16))) (aCons (eBin opIx (eV 12) (eBin opSub (eC (.int 1)) (eV 16))) (aCons (eC (.int 2)) aNil)))))))
  (sRet (eC (.bl false)))
  sNil)))
theorem other_ok (od : Od x) (z : Sz x N text) (s : St M x N text t) (hb : b < 2) {ct : Nat} {u : D × D × D × D} {md T1 : D} {o13 o14 o17 o18 : Option D} {Nn : Sl → Mem → Prop} {T : D → Mem → Prop}
    (k : ∀ M1, St M1 x N text t → Nn (sL x N.emb.length ct u md T1 o13 o14 (some (.int (b : Int))) o17 o18) M1) :
    L3.RS.V (otherL (sL x N.emb.length ct u md T1 o13 o14 (some (.int (b : Int))) o17 o18) M) Nn T := by
  unfold otherL sL
  array_get_dec
  rw [show (1 : Int) - (b : Int) = ((1 - b : Nat) : Int) by omega]
  have hb1 : 1 - b < 2 := by omega
  generalize 1 - b = b1 at *
  refine s.ixc hb1 ?_
  have hz := z.m (b := b1)
  obtain ⟨q1, q2, q3⟩ := od.cr hb1
  have o1 := od.a2; have o2 := od.a3; have o3 := od.a4; have o4 := od.a5; have o5 := od.a6
  obtain ⟨⟨C, hC1, hC2, hC3⟩, _⟩ := s.gen hb1
  refine ⟨_, rfl, _, hC1, rfl, ?_⟩
  refine draw_ok s.pool z.em (by have := z.ok.embl; omega) ?_
  intro a M2 ha k2 l2 p2
  have s2 := s.drawn od k2 p2
  obtain ⟨⟨C, hC1, hC2, hC3⟩, ⟨w, pp, aa, hD⟩⟩ := s2.gen hb1
  have hlr : (rowsN N (text.take t)).length ≤ 4 := by
    rw [rowsN_length, List.length_take]
    have := z.tl
    omega
  refine begin_ok (rows := rowsN N (text.take t)) (ds := (rowsN N (text.take t)).map rowD) z.ok hC1 s2.net hC2 hC3 (by omega) (by omega) (.inr ⟨_, rfl, by simp; omega, s2.told⟩) (All2.of_map (fun r => rowIs_D r) _) (by omega) ha ?_
  intro si hi M3 k3 hsi hhi c3
  have g3 : Gen M3 x.n N (x.ca b1) (x.da b1) (x.ma b1) := ⟨⟨_, c3.g, rfl, rfl⟩, ⟨_, _, _, hD.keep k3 (by simp; omega)⟩⟩
  have s3 := s2.go od hb1 k3 (by simp) (s2.pool.keep k3 (by simp; omega) (by simp; omega)) g3
  refine s3.ixd hb1 ?_
  obtain ⟨_, ⟨w, pp, aa, hD3⟩⟩ := s3.gen hb1
  refine begins_ok (rows := rowsN N (text.take t)) (ds := (rowsN N (text.take t)).map rowD) (x := a) (by omega) hD3 ?_
  intro wi ai M4 k4 hwi hai c4
  have g4 : Gen M4 x.n N (x.ca b1) (x.da b1) (x.ma b1) := ⟨⟨_, c3.g.keep k4 (by simp; omega), rfl, rfl⟩, ⟨_, _, _, c4.g⟩⟩
  have s4 := s3.go od hb1 k4 (by simp) (s3.pool.keep k4 (by simp; omega) (by simp; omega)) g4
  refine s4.ixc hb1 ?_
  refine s4.ixd hb1 ?_
  have lt2 := s2.lt
  have gl2 := (s2.gen hb1).lt
  have pr := mkPr (A := []) (V := [x.p, x.c, x.ca b1, x.da b1]) s2.pool s2.net z.ok (R := startR N (x.ma b1) (rowsN N (text.take t)) ((rowsN N (text.take t)).map rowD) a) (All2.of_map (fun r => rowIs_D r) _) (by simp) (by simp) (by simp) (by simp) (by simp) (fun r hr => rowsN_ok z.ok _ r hr) (by show (rowsN N (text.take t)).length ≤ 1000; omega) (x0_length z.ok ha _) hz.1 (by show x.ma b1 ≤ 1000; omega) (runOk_start hz.1)
    gl2.2 gl2.1 (by omega) (by omega) (by omega) (by omega) (by omega) (by omega) (by omega) (by omega) (by omega) (by simp) k3 hsi hhi c3 Keep.refl k4 hwi hai c4
  refine deeds_ok pr 2 ?_ ?_
  · show (if 0 = 5 * N.lay.length then [] else fresh 0 (x.ma b1)).length + (x.ma b1 + 1) * 2 ≤ 1000
    split
    · simp; omega
    · simp [fresh]; omega
  intro y M5 R1 pr5 go5 sr5 hl5
  refine ⟨true, rfl, ?_⟩
  rw [if_neg (by decide)]
  obtain ⟨e1, e2, e3, e4⟩ := go5.e
  have e1' : y.p = x.p := e1
  have e2' : y.c = x.c := e2
  have e3' : y.ci = x.ca b1 := e3
  have e4' : y.cd = x.da b1 := e4
  have e5' : R1.many = x.ma b1 := sr5.many
  have l3 := k3.len
  have kk : Keep [x.p, x.c, x.ca b1, x.da b1] M2 M5 := ((k3.mono (by simp)).trans (k4.mono (by simp))).new go5.k (by simp; omega)
  refine k M5 (s2.go od hb1 kk (by simp) (by have := pr5.pool; rwa [e1', e2'] at this) ?_)
  have := pr5.gen
  rwa [e3', e4', e5'] at this
end

theorem rowsN_get {N : Nt} {text : List Nat} {t a : Nat} (h : text[t]? = some a) : (rowsN N text)[t]? = some (rowN N (rowsN N (text.take t)) a) := by
  have ht := (List.getElem?_eq_some_iff.mp h).1
  have e : (rowsN N text).take (t + 1) = rowsN N (text.take t) ++ [rowN N (rowsN N (text.take t)) a] := by
    rw [rowsN_take ht, take_succ' h, rowsN_succ]
  have l : (rowsN N (text.take t)).length = t := by rw [rowsN_length, List.length_take]; omega
  have e2 : ((rowsN N text).take (t + 1))[t]? = some (rowN N (rowsN N (text.take t)) a) := by
    rw [e, List.getElem?_append_right (by omega), l, Nat.sub_self]
    rfl
  rw [List.getElem?_take, if_pos (by omega)] at e2
  exact e2
/-- a round of the own crew -/
structure Rd (M : Mem) (x : Lx) (y : Ix) (N : Nt) (text : List Nat) (t b a : Nat) (R : Run) : Prop where
  st : St M x N text t
  pr : Pr M y x.n N R
  e1 : y.p = x.p
  e2 : y.c = x.c
  e3 : y.ci = x.ca b
  e4 : y.cd = x.da b
  fr : ∀ i ∈ y.U, i = x.p ∨ i = x.c ∨ i = x.ca b ∨ i = x.da b ∨ x.tj < i
  rows : R.rows = rowsN N (text.take t)
  many : R.many = x.ma b
  x0 : R.x0 = x0Of N (rowsN N (text.take t)).length a
section
variable {M M1 : Mem} {x : Lx} {y : Ix} {N : Nt} {text : List Nat} {t b a : Nat} {P : D → Mem → Prop} {R : Run}
theorem Rd.go (od : Od x) (hb : b < 2) (r : Rd M x y N text t b a R) {y1 : Ix} {R1 : Run} (p1 : Pr M1 y1 x.n N R1) (g : Goes y M y1 M1) (sr : SameRun R1 R) : Rd M1 x y1 N text t b a R1 := by
  obtain ⟨e1, e2, e3, e4⟩ := g.e
  have f1 := e1.trans r.e1
  have f2 := e2.trans r.e2
  have f3 := e3.trans r.e3
  have f4 := e4.trans r.e4
  have lt := r.st.lt
  refine ⟨r.st.go od hb g.k r.fr (by have := p1.pool; rwa [f1, f2] at this) ?_, p1, f1, f2, f3, f4, fun i hi => ?_, sr.rows.trans r.rows, sr.many.trans r.many, sr.x0.trans r.x0⟩
  · have := p1.gen
    rwa [f3, f4, sr.many, r.many] at this
  · rcases g.ix i hi with h | h
    · exact r.fr i h
    · exact .inr (.inr (.inr (.inr (by omega))))
theorem Rd.drawn (od : Od x) (hb : b < 2) (r : Rd M x y N text t b a R) (k : Keep [x.p] M M1) (hp : PoolAt M1 x.p x.c) : Rd M1 x y N text t b a R := by
  have h := r.pr.drawn (M1 := M1) (by rw [r.e1]; exact k) (by rw [r.e1, r.e2]; exact hp)
  exact r.go od hb h.1 h.2 SameRun.refl
theorem Rd.kept (od : Od x) (hb : b < 2) (r : Rd M x y N text t b a R) (k : Keep [] M M1) : Rd M1 x y N text t b a R := by
  have h := r.pr.kept k
  exact r.go od hb h.1 h.2 SameRun.refl
theorem Rd.row (r : Rd M x y N text t b a R) (hd : R.num = 5 * N.lay.length) (k : ∀ M1, Keep [] M M1 → P (rowD (rowN N (rowsN N (text.take t)) a)) M1) : L3.R.W (m_Crew_row [.ref (x.ca b)] M) P := by
  have h := row_done (P := P) r.pr.b.zero r.pr.crew.g hd
  rw [r.e3, r.rows, r.x0] at h
  exact h k
theorem Rd.crew (r : Rd M x y N text t b a R) : CrG M (x.ca b) (runG N x.n y.si y.hi R) := by
  have := r.pr.crew.g
  rwa [r.e3] at this
theorem Rd.delivered (od : Od x) (hb : b < 2) (r : Rd M x y N text t b a R) (hB : R.sent.length + R.many * (5 * N.lay.length * R.many) ≤ 1000) (k : ∀ y1 M1 R1, Rd M1 x y1 N text t b a R1 → R1.num = 5 * N.lay.length → P (.bl true) M1) : L3.R.W (m__law_delivered [.ref x.p, .ref (x.ca b), .ref (x.da b)] M) P := by
  have h := delivered_ok (P := P) r.pr hB fun y1 M1 R1 p1 g sr hn => k y1 M1 R1 (r.go od hb p1 g sr) hn
  rwa [r.e1, r.e3, r.e4] at h
theorem Rd.deeds (od : Od x) (hb : b < 2) (r : Rd M x y N text t b a R) (deeds : Nat) (hB : R.sent.length + (R.many + 1) * deeds ≤ 1000) (k : ∀ y1 M1 R1, Rd M1 x y1 N text t b a R1 → R1.sent.length ≤ R.sent.length + (R.many + 1) * deeds → P (.bl true) M1) : L3.R.W (m__law_some_deeds [.ref x.p, .ref (x.ca b), .ref (x.da b), .int (deeds : Int)] M) P := by
  have h := deeds_ok (P := P) r.pr deeds hB fun y1 M1 R1 p1 g sr hn => k y1 M1 R1 (r.go od hb p1 g sr) hn
  rwa [r.e1, r.e3, r.e4] at h
theorem St.push (od : Od x) (s : St M x N text t) (ha : text[t]? = some a) : St (M.set x.tj (.lst ((rowsN N (text.take t)).map rowD ++ [rowD (rowN N (rowsN N (text.take t)) a)]))) x N text (t + 1) := by
  have o1 := od.a2; have o2 := od.a3; have o3 := od.a4; have o4 := od.a5; have o5 := od.a6; have o6 := od.a7; have o7 := od.a8; have o8 := od.a9; have o9 := od.b1; have o10 := od.b2
  have k : Keep [x.tj] M (M.set x.tj (.lst ((rowsN N (text.take t)).map rowD ++ [rowD (rowN N (rowsN N (text.take t)) a)]))) := Keep.set (by simp)
  refine ⟨s.pool.keep k (by simp; omega) (by simp; omega), s.net.keep k (by simp; omega), k.get s.due (by simp; omega), k.get s.cl (by simp; omega), k.get s.dl (by simp; omega), s.g0.keep k (by simp; omega) (by simp; omega), s.g1.keep k (by simp; omega) (by simp; omega), ?_⟩
  rw [set_at s.told, take_succ' ha, rowsN_succ, List.map_append]
  rfl
@[irreducible] def endL : MS :=
  (sDrop (mApp (eV 15) (eMeth "Crew" "row" 1 m_Crew_row (eV 17) aNil)))
@[irreducible] def midL : MS :=
  (sq (sIf (tOr3 (tNot3 (tOf (eCall 3 m__law_delivered (aCons (eV 1) (aCons (eV 17) (aCons (eBin opIx (eV 12) (eV 16)) aNil)))))) (tNot3 (tOf (eCall 2 (m__law_same 12) (aCons (eTup (aCons (eMeth "Crew" "row" 1 m_Crew_row (eV 17) aNil) (aCons (eMeth "Crew" "row" 1 m_Crew_row (eV 17) aNil) aNil))) (aCons (eTup (aCons (eBin opIx (eV 10) (eV 13)) (aCons (eBin opIx (eV 10) (eV 13)) aNil))) aNil))))))
  (sRet (eC (.bl false)))
  sNil)
  endL)
@[irreducible] def refL : MS :=
  (sq (sIf (tAnd3 (tOf (eBin opEq (eCall 2 m__law_draw (aCons (eV 1) (aCons (eC (.int 2)) aNil))) (eC (.int 0)))) (tNot3 (tOf (eCall 3 m__law_refused (aCons (eV 17) (aCons (eV 15) (aCons (eBin opAdd (eV 3) (eCall 2 m__law_draw (aCons (eV 1) (aCons (eC (.int 3)) aNil)))) aNil)))))))
  (sRet (eC (.bl false)))
  sNil)
  midL)
section
variable {ct : Nat} {u : D × D × D × D} {md T1 : D} {o14 o17 o18 : Option D} {Nn : Sl → Mem → Prop} {T : D → Mem → Prop}
theorem end_ok (od : Od x) (z : Sz x N text) (hb : b < 2) (ha : text[t]? = some a) (r : Rd M x y N text t b a R) (hd : R.num = 5 * N.lay.length) 
    (k : ∀ M1, St M1 x N text (t + 1) → Nn (sL x N.emb.length ct u md T1 (some (.int (t : Int))) o14 (some (.int (b : Int))) (some (.ref (x.ca b))) o18) M1) :
    L3.RS.V (endL (sL x N.emb.length ct u md T1 (some (.int (t : Int))) o14 (some (.int (b : Int))) (some (.ref (x.ca b))) o18) M) Nn T := by
  unfold endL sL
  array_get_dec
  have hlr := z.tl
  refine ⟨isLst_of r.st.told, _, r.crew, rfl, r.row hd ?_⟩
  intro M1 k1
  have r1 := r.kept od hb k1
  refine ⟨_, r1.st.told, okLen_of (by simp [rowsN_length]; omega), ?_⟩
  exact k _ (r1.st.push od ha)
theorem mid_ok2 (od : Od x) (z : Sz x N text) (hb : b < 2) (ha : text[t]? = some a) (r : Rd M x y N text t b a R) (hs : R.sent.length ≤ 100) 
    (k : ∀ M1, St M1 x N text (t + 1) → Nn (sL x N.emb.length ct u md T1 (some (.int (t : Int))) o14 (some (.int (b : Int))) (some (.ref (x.ca b))) o18) M1) :
    L3.RS.V (midL (sL x N.emb.length ct u md T1 (some (.int (t : Int))) o14 (some (.int (b : Int))) (some (.ref (x.ca b))) o18) M) Nn T := by
  unfold midL sL
  array_get_dec
  have hlr := z.tl
  have hm := (z.m (b := b)).2
  have hly := z.ly
  refine r.st.ixd hb ?_
  refine r.delivered od hb ?_ ?_
  · rw [r.many]
    have h1 : 5 * N.lay.length * x.ma b ≤ 15 * 4 := Nat.mul_le_mul (by omega) hm
    have h2 : x.ma b * (5 * N.lay.length * x.ma b) ≤ 4 * (15 * 4) := Nat.mul_le_mul hm h1
    omega
  intro y1 M1 R1 r1 hd
  refine ⟨true, rfl, ?_⟩
  rw [if_neg (by decide)]
  refine ⟨_, r1.crew, rfl, r1.row hd ?_⟩
  intro M2 k2
  have r2 := r1.kept od hb k2
  refine ⟨_, r2.crew, rfl, r2.row hd ?_⟩
  intro M3 k3
  have r3 := r2.kept od hb k3
  refine ⟨rfl, ?_⟩
  have hix : ∀ {P : D → Mem → Prop}, P (rowD (rowN N (rowsN N (text.take t)) a)) M3 → L3.R.W (opIx (.ref x.dj) (.int (t : Int)) M3) P := fun h => (W_ixL r3.st.due).mpr ⟨_, by rw [ix_nat, List.getElem?_map, rowsN_get ha]; rfl, h⟩
  refine hix ?_
  refine hix ?_
  refine ⟨rfl, same_ok 12 _ (plain_tup (by simp) ?_) ?_⟩
  · intro d hd
    simp only [List.mem_cons, List.not_mem_nil, or_false, or_self] at hd
    rw [hd]
    exact plain_rowN z.ok (n := 6) _ _
  refine ⟨true, rfl, ?_⟩
  rw [if_neg (by decide)]
  exact end_ok od z hb ha r3 hd k
theorem ref_ok (od : Od x) (z : Sz x N text) (hb : b < 2) (ha : text[t]? = some a) (r : Rd M x y N text t b a R) (hs : R.sent.length ≤ 100) 
    (k : ∀ M1, St M1 x N text (t + 1) → Nn (sL x N.emb.length ct u md T1 (some (.int (t : Int))) o14 (some (.int (b : Int))) (some (.ref (x.ca b))) o18) M1) :
    L3.RS.V (refL (sL x N.emb.length ct u md T1 (some (.int (t : Int))) o14 (some (.int (b : Int))) (some (.ref (x.ca b))) o18) M) Nn T := by
  unfold refL sL
  array_get_dec
  refine draw_ok (many := 2) r.st.pool (by decide) (by decide) ?_
  intro v M1 hv k1 l1 p1
  have r1 := r.drawn od hb k1 p1
  rw [eq_int]
  by_cases hv0 : v = 0
  · subst hv0
    refine ⟨true, rfl, ?_⟩
    rw [if_pos rfl]
    refine draw_ok (many := 3) r1.st.pool (by decide) (by decide) ?_
    intro w M2 hw k2 l2 p2
    have r2 := r1.drawn od hb k2 p2
    rw [W_add, show (N.emb.length : Int) + (w : Int) = ((N.emb.length + w : Nat) : Int) by omega]
    refine refused_ok r2.crew r2.st.net rfl (by omega) ?_
    refine ⟨true, rfl, ?_⟩
    rw [if_neg (by decide)]
    exact mid_ok2 od z hb ha r2 hs k
  · refine ⟨false, ?_, ?_⟩
    · show D.bl (decide ((v : Int) = 0)) = _
      rw [decide_eq_false (by omega)]
    rw [if_neg (by decide)]
    exact mid_ok2 od z hb ha r1 hs k
end
end

section
variable {M M1 : Mem} {x : Lx} {N : Nt} {text : List Nat} {t b a : Nat} {P : D → Mem → Prop}
@[irreducible] def begL : MS :=
  (sq (sIf (tOf (eUn opNotN (eMeth "Crew" "begin" 3 m_Crew_begin (eV 17) (aCons (eV 18) (aCons (eBin opIx (eV 9) (eV 13)) aNil)))))
  (sRet (eC (.bl false)))
  sNil)
  (sq (sDrop (mApp (eV 18) (eBin opIx (eV 10) (eC (.int 0)))))
  (sq (sDrop (eCall 1 m__law_begins (aCons (eBin opIx (eV 12) (eV 16)) aNil)))
  (sq (sIf (tNot3 (tOf (eCall 4 m__law_some_deeds (aCons (eV 1) (aCons (eV 17) (aCons (eBin opIx (eV 12) (eV 16)) (aCons (eCall 2 m__law_draw (aCons (eV 1) (aCons (eC (.int 8)) aNil))) aNil)))))))
  (sRet (eC (.bl false)))
  sNil)
  refL))))
@[irreducible] def handL : MS :=
  (sq (sSet 18 (eNew (lLC [19] (iSeq (qE (eV 15))) (gN 19) mYes (eCall 1 m__law_listed (aCons (eV 19) aNil)))))
  (sq (sIf (tOf (eBin opEq (eCall 2 m__law_draw (aCons (eV 1) (aCons (eC (.int 2)) aNil))) (eC (.int 0))))
  (sSet 18 (eNew (lOf (qE (eV 15)))))
  sNil)
  begL))
variable {ct : Nat} {u : D × D × D × D} {md : D} {o14 o17 o18 : Option D} {Nn : Sl → Mem → Prop} {T : D → Mem → Prop}
theorem beg_ok (od : Od x) (z : Sz x N text) (hb : b < 2) (ha : text[t]? = some a) (s : St M x N text t) {hj : Nat} {ds : List D} (hh : M[hj]? = some (.lst ds)) (hgt : x.tj < hj) (hr : All2 (RowIs [x.p, x.c, x.ca b, x.da b, hj] M) ds (rowsN N (text.take t)))
    (k : ∀ M1, St M1 x N text (t + 1) → Nn (sL x N.emb.length ct u md (vI (LsI text)) (some (.int (t : Int))) o14 (some (.int (b : Int))) (some (.ref (x.ca b))) (some (.ref hj))) M1) :
    L3.RS.V (begL (sL x N.emb.length ct u md (vI (LsI text)) (some (.int (t : Int))) o14 (some (.int (b : Int))) (some (.ref (x.ca b))) (some (.ref hj))) M) Nn T := by
  unfold begL sL
  generalize hT : vI (LsI text) = T1
  rw [hT] at k
  array_get_dec
  have hlr := z.tl
  have hz := z.m (b := b)
  obtain ⟨q1, q2, q3⟩ := od.cr hb
  have o1 := od.a2; have o2 := od.a3; have o3 := od.a4; have o4 := od.a5; have o5 := od.a6
  have htt := (List.getElem?_eq_some_iff.mp ha).1
  have hal : a < N.emb.length := z.te a (List.mem_of_getElem? ha)
  obtain ⟨⟨C, hC1, hC2, hC3⟩, ⟨w, pp, aa, hD⟩⟩ := s.gen hb
  have hll : (rowsN N (text.take t)).length ≤ 4 := by rw [rowsN_length, List.length_take]; omega
  have lt2 := s.lt
  have gl2 := (s.gen hb).lt
  have hjl : hj < M.length := (List.getElem?_eq_some_iff.mp hh).1
  refine ⟨_, hC1, rfl, ?_⟩
  rw [← hT]
  refine W_ixT.mpr ⟨.int (a : Int), by rw [ix_nat]; simp [ha], ?_⟩
  rw [hT]
  refine begin_ok (rows := rowsN N (text.take t)) (ds := ds) z.ok hC1 s.net hC2 hC3 (by omega) (by omega) (.inr ⟨_, rfl, by simp; omega, hh⟩) (hr.imp fun _ _ w => w.weak (by simp)) (by omega) hal ?_
  intro si hi M3 k3 hsi hhi c3
  have g3 : Gen M3 x.n N (x.ca b) (x.da b) (x.ma b) := ⟨⟨_, c3.g, rfl, rfl⟩, ⟨_, _, _, hD.keep k3 (by simp; omega)⟩⟩
  have s3 := s.go od hb k3 (by simp) (s.pool.keep k3 (by simp; omega) (by simp; omega)) g3
  have hh3 := k3.get hh (by simp; omega)
  refine ⟨isLst_of hh3, ?_⟩
  obtain ⟨d0, h0⟩ : ∃ d0, ((rowsN N text).map rowD)[0]? = some d0 := ⟨_, List.getElem?_eq_getElem (by rw [List.length_map, rowsN_length]; omega)⟩
  refine (W_ixL s3.due).mpr ⟨d0, (ix_nat (i := 0)).trans h0, ?_⟩
  refine ⟨_, hh3, okLen_of (by have := hr.length; omega), ?_⟩
  have kS : Keep [hj] M3 (M3.set hj (.lst (ds ++ [d0]))) := Keep.set (by simp)
  have lS : (M3.set hj (.lst (ds ++ [d0]))).length = M3.length := len_set
  generalize (M3.set hj (.lst (ds ++ [d0]))) = M4 at *
  have s4 := s3.go od hb kS (by simp; omega) (s3.pool.keep kS (by simp; omega) (by simp; omega)) (g3.keep kS (by simp; omega) (by simp; omega))
  refine s4.ixd hb ?_
  obtain ⟨cg4, ⟨w, pp, aa, hD4⟩⟩ := s4.gen hb
  refine begins_ok (rows := rowsN N (text.take t)) (ds := ds) (x := a) (by omega) hD4 ?_
  intro wi ai M5 k5 hwi hai c5
  obtain ⟨C4, hC41, hC42, hC43⟩ := cg4
  have g5 : Gen M5 x.n N (x.ca b) (x.da b) (x.ma b) := ⟨⟨_, hC41.keep k5 (by simp; omega), hC42, hC43⟩, ⟨_, _, _, c5.g⟩⟩
  have s5 := s4.go od hb k5 (by simp) (s4.pool.keep k5 (by simp; omega) (by simp; omega)) g5
  refine s5.ixd hb ?_
  have pr := mkPr (A := [hj]) (V := [x.p, x.c, x.ca b, x.da b, hj]) s.pool s.net z.ok (R := startR N (x.ma b) (rowsN N (text.take t)) ds a) hr (by simp) (by simp) (by simp) (by simp) (by simp) (fun r hr => rowsN_ok z.ok _ r hr) (by show (rowsN N (text.take t)).length ≤ 1000; omega) (x0_length z.ok hal _) hz.1 (by show x.ma b ≤ 1000; omega) (runOk_start hz.1)
    gl2.2 gl2.1 (by omega) (by omega) (by omega) (by omega) (by omega) (by omega) (by omega) (by omega) (by omega) (by simp; omega) k3 hsi hhi c3 kS k5 hwi hai c5
  have k3l := k3.len
  have rd : Rd M5 x ⟨x.p, x.c, x.ca b, si, hi, x.da b, wi, ai⟩ N text t b a (startR N (x.ma b) (rowsN N (text.take t)) ds a) := ⟨s5, pr, rfl, rfl, rfl, rfl, by simp [Ix.U]; omega, rfl, rfl, rfl⟩
  refine draw_ok (many := 8) s5.pool (by decide) (by decide) ?_
  intro v M6 hv k6 l6 p6
  have rd6 := rd.drawn od hb k6 p6
  have hsl : (startR N (x.ma b) (rowsN N (text.take t)) ds a).sent.length ≤ 4 := by
    show (if 0 = 5 * N.lay.length then [] else fresh 0 (x.ma b)).length ≤ 4
    split
    · simp
    · simp [fresh]; omega
  have hmv : ((startR N (x.ma b) (rowsN N (text.take t)) ds a).many + 1) * v ≤ 5 * 8 := Nat.mul_le_mul (by show x.ma b + 1 ≤ 5; omega) (by omega)
  refine rd6.deeds od hb v (by omega) ?_
  intro y7 M7 R7 rd7 hl7
  refine ⟨true, rfl, ?_⟩
  rw [if_neg (by decide)]
  exact ref_ok od z hb ha rd7 (by omega) k
theorem hand_ok (od : Od x) (z : Sz x N text) (hb : b < 2) (ha : text[t]? = some a) (s : St M x N text t)
    (k : ∀ o M1, St M1 x N text (t + 1) → Nn (sL x N.emb.length ct u md (vI (LsI text)) (some (.int (t : Int))) o14 (some (.int (b : Int))) (some (.ref (x.ca b))) o) M1) :
    L3.RS.V (handL (sL x N.emb.length ct u md (vI (LsI text)) (some (.int (t : Int))) o14 (some (.int (b : Int))) (some (.ref (x.ca b))) o18) M) Nn T := by
  unfold handL sL
  generalize hT : vI (LsI text) = T1
  rw [hT] at k
  array_get_dec
  have hlr := z.tl
  obtain ⟨q1, q2, q3⟩ := od.cr hb
  have o1 := od.a2; have o2 := od.a3; have o3 := od.a4; have o4 := od.a5; have o5 := od.a6
  have lt := s.lt
  have gl := (s.gen hb).lt
  have hll : (rowsN N (text.take t)).length ≤ 4 := by rw [rowsN_length, List.length_take]; omega
  have hsr : ∀ {M'}, Keep [] M M' → SrcIs M' (.lst x.tj) ((rowsN N (text.take t)).map rowD) := fun kk => .inr (.inr ⟨_, rfl, kk.get0 s.told⟩)
  refine ⟨_, (hsr Keep.refl).get, ?_⟩
  refine (lc_ix (Inv := fun i as M' => Keep [] M M' ∧ All2 (RowIs [x.p, x.c, x.ca b, x.da b] M') as ((rowsN N (text.take t)).take i)) (fun i as M' w => still_seq (hsr Keep.refl) w.1) (by show (List.map rowD _).length < _; rw [List.length_map]; omega) ?_ ⟨Keep.refl, .nil⟩).mono ?_
  · rintro i q as M' hk _ ⟨k4, has⟩
    have hk' : ((rowsN N (text.take t)).map rowD)[i]? = some q := hk
    rw [List.getElem?_map] at hk'
    cases hr : (rowsN N (text.take t))[i]? with
    | none => rw [hr] at hk'; cases hk'
    | some r =>
      rw [hr] at hk'
      cases hk'
      have hro := rowsN_ok z.ok (text.take t) r (List.mem_of_getElem? hr)
      refine ⟨_, rfl, ?_⟩
      array_get_dec
      have l4 := k4.len
      refine listed_ok (U := [x.p, x.c, x.ca b, x.da b]) (by simp; omega) (by rw [hro.len]; exact z.ok.layl) ?_
      intro d M5 k5 hd
      refine ⟨k4.trans k5, ?_⟩
      rw [take_succ' hr]
      exact (has.imp fun _ _ w => w.keep k5 (by simp)).append (.one hd)
  rintro as M1 ⟨_, k1, has⟩
  rw [show (It3.seq (Src.lst x.tj) ((rowsN N (text.take t)).map rowD)).items.length = (rowsN N (text.take t)).length by show (List.map _ _).length = _; rw [List.length_map], List.take_length] at has
  have l1 := k1.len
  have kA := Keep.app (A := []) (M := M1) (X := [O.lst as])
  have hn := new_at (M := M1) (o := O.lst as)
  have lA : (M1 ++ [O.lst as]).length = M1.length + 1 := by simp
  have s2 := s.fresh (k1.trans kA)
  have has2 := has.imp fun _ _ w => w.fresh (V := [x.p, x.c, x.ca b, x.da b, M1.length]) (by simp)
  generalize (M1 ++ [O.lst as]) = M2 at *
  refine draw_ok (many := 2) s2.pool (by decide) (by decide) ?_
  intro v M3 hv k3 l3 p3
  have s3 := s2.drawn od k3 p3
  rw [eq_int]
  by_cases hv0 : v = 0
  · subst hv0
    refine ⟨true, rfl, ?_⟩
    rw [if_pos rfl]
    refine ⟨_, SrcIs.get (.inr (.inr ⟨_, rfl, s3.told⟩)), ?_⟩
    have kB := Keep.app (A := []) (M := M3) (X := [O.lst ((rowsN N (text.take t)).map rowD)])
    rw [← hT]
    rw [← hT] at k
    refine beg_ok od z hb ha (s3.fresh kB) new_at (by omega) (All2.of_map (fun r => rowIs_D r) _) fun M4 s4 => k _ M4 s4
  · refine ⟨false, ?_, ?_⟩
    · show D.bl (decide ((v : Int) = 0)) = _
      rw [decide_eq_false (by omega)]
    rw [if_neg (by decide)]
    rw [← hT]
    rw [← hT] at k
    have kk : Keep [x.p] M1 M3 := (kA.mono (by simp)).trans k3
    refine beg_ok od z hb ha s3 (k3.get hn (by simp; omega)) (by omega) (has2.imp fun _ _ w => w.keep kk (by simp)) fun M4 s4 => k _ M4 s4
end

section
variable {M M1 : Mem} {x : Lx} {N : Nt} {text : List Nat} {t b a : Nat} {P : D → Mem → Prop}
def roundL : MS :=
  (sq (sSet 16 (eCall 2 m__law_draw (aCons (eV 1) (aCons (eC (.int 2)) aNil))))
  (sq (sSet 17 (eBin opIx (eV 11) (eV 16)))
  (sq (sIf (tOf (eBin opEq (eCall 2 m__law_draw (aCons (eV 1) (aCons (eC (.int 3)) aNil))) (eC (.int 0))))
  otherL
  sNil)
  handL)))
theorem round_ok {ct : Nat} {u : D × D × D × D} {md : D} {o14 o16 o17 o18 : Option D} {Nn : Sl → Mem → Prop} {T : D → Mem → Prop} (od : Od x) (z : Sz x N text) (ha : text[t]? = some a) (s : St M x N text t)
    (k : ∀ o1 o2 o3 M1, St M1 x N text (t + 1) → Nn (sL x N.emb.length ct u md (vI (LsI text)) (some (.int (t : Int))) o14 o1 o2 o3) M1) :
    L3.RS.V (roundL (sL x N.emb.length ct u md (vI (LsI text)) (some (.int (t : Int))) o14 o16 o17 o18) M) Nn T := by
  unfold roundL sL
  generalize hT : vI (LsI text) = T1
  rw [hT] at k
  array_get_dec
  refine draw_ok (many := 2) s.pool (by decide) (by decide) ?_
  intro b M1 hb k1 l1 p1
  have s1 := s.drawn od k1 p1
  refine s1.ixc hb ?_
  refine draw_ok (many := 3) s1.pool (by decide) (by decide) ?_
  intro v M2 hv k2 l2 p2
  have s2 := s1.drawn od k2 p2
  rw [eq_int]
  have fin : ∀ M3, St M3 x N text t → L3.RS.V (handL (sL x N.emb.length ct u md T1 (some (.int (t : Int))) o14 (some (.int (b : Int))) (some (.ref (x.ca b))) o18) M3) Nn T := by
    intro M3 s3
    rw [← hT]
    rw [← hT] at k
    exact hand_ok od z hb ha s3 fun o M4 s4 => k _ _ o M4 s4
  by_cases hv0 : v = 0
  · subst hv0
    refine ⟨true, rfl, ?_⟩
    rw [if_pos rfl]
    exact other_ok od z s2 hb fun M3 s3 => fin M3 s3
  · refine ⟨false, ?_, ?_⟩
    · show D.bl (decide ((v : Int) = 0)) = _
      rw [decide_eq_false (by omega)]
    rw [if_neg (by decide)]
    exact fin M2 s2
end
/-! ### the crews are made -/
theorem W_pNil {s : Sl} {M : Mem} {PL : List (L2.Key × D) → Mem → Prop} : L3.R.W (pNil s M) PL ↔ PL [] M := Iff.rfl
theorem W_pCons {s : Sl} {M : Mem} {q : PySem.Str} {v : ME} {r : MP} {PL : List (L2.Key × D) → Mem → Prop} : L3.R.W (pCons (eC (.str q)) v r s M) PL ↔ L3.R.W (v s M) fun y M2 => L3.R.W (r s M2) fun ps M3 => PL ((kS q, y) :: ps) M3 := by
  unfold pCons
  simp only [W_bind, W_eC]
  exact Iff.rfl
theorem W_eDict {s : Sl} {M : Mem} {m : MP} {PD : D → Mem → Prop} : L3.R.W (eDict m s M) PD ↔ L3.R.W (m s M) fun ps M1 => ps.length ≤ 15 ∧ PD (.ref M1.length) (M1 ++ [.dK (mergeD [] ps)]) := by
  unfold eDict
  simp only [W_bind, W_if, W_ok]
def crewL : MS :=
  (sq (sSet 14 (eBin opAdd (eC (.int 1)) (eCall 2 m__law_draw (aCons (eV 1) (aCons (eV 4) aNil)))))
  (sq (sDrop (mApp (eV 11) (eMake "Crew" 3 m_Crew___init__ (aCons (eV 8) (aCons (eV 14) aNil)))))
  (sq (sDrop (mApp (eV 12) (eDict (pCons (eC (.str "many")) (eV 14) (pCons (eC (.str "rounds")) (eBin opMul (eC (.int 5)) (eV 5)) (pCons (eC (.str "waiting")) (eNew (lLst aNil)) (pCons (eC (.str "present")) (eC (.int 0)) (pCons (eC (.str "added")) (eNew (lLst aNil)) pNil))))))))
  (sIf (tNot3 (tOf (eCall 2 (m__law_same 12) (aCons (eTup (aCons (eMeth "Crew" "row" 1 m_Crew_row (eBin opIx (eV 11) (eV 13)) aNil) (aCons (eMeth "Crew" "waiting" 1 m_Crew_waiting (eBin opIx (eV 11) (eV 13)) aNil) aNil))) (aCons (eTup (aCons (eC .non) (aCons (eTup aNil) aNil))) aNil)))))
  (sRet (eC (.bl false)))
  sNil))))
/-- the slots of the law ahead of the told rows -/
abbrev sC (p lt wd dp ct n dj cl dl : Nat) (u : D × D) (md T1 : D) (o13 o14 : Option D) : Sl := [some u.1, some (.ref p), some u.2, some (.int (lt : Int)), some (.int (wd : Int)), some (.int (dp : Int)), some (.int (ct : Int)), some md, some (.ref n), some T1, some (.ref dj), some (.ref cl), some (.ref dl), o13, o14, none, none, none, none, none]
theorem crewL_ok {M : Mem} {N : Nt} {p c lt ct n dj cl dl k : Nat} {u : D × D} {md T1 : D} {o14 : Option D} {as bs : List D} {Nn : Sl → Mem → Prop} {T : D → Mem → Prop} (hp : PoolAt M p c) (hn : NetAt M n N) (ok : N.Ok) (hw : 0 < N.sh.length) (hcl : M[cl]? = some (.lst as)) (hdl : M[dl]? = some (.lst bs)) (hal : as.length = k) (hbl : bs.length = k) (hk : k ≤ 10) (hn1 : p < n) (hn2 : c < n) (hn3 : n < cl) (hn4 : cl < dl)
    (K : ∀ ci cd m M1 o, M.length ≤ ci → ci < cd → cd < M1.length → 0 < m → m ≤ N.sh.length → Keep [p, cl, dl] M M1 → PoolAt M1 p c → Gen M1 n N ci cd m → M1[cl]? = some (.lst (as ++ [.ref ci])) → M1[dl]? = some (.lst (bs ++ [.ref cd])) → Nn (sC p lt N.sh.length N.lay.length ct n dj cl dl u md T1 (some (.int (k : Int))) o) M1) :
    L3.RS.V (crewL (sC p lt N.sh.length N.lay.length ct n dj cl dl u md T1 (some (.int (k : Int))) o14) M) Nn T := by
  unfold crewL sC
  array_get_dec
  simp only [W_eDict, W_pCons, W_pNil]
  array_get_dec
  have ltc := (List.getElem?_eq_some_iff.mp hcl).1
  have ltd := (List.getElem?_eq_some_iff.mp hdl).1
  have hwl := ok.w
  have hly := ok.layl
  refine draw_ok hp hw (by omega) ?_
  intro y M1 hy k1 l1 p1
  rw [W_add, show (1 : Int) + (y : Int) = ((1 + y : Nat) : Int) by omega]
  have hcl1 := k1.get hcl (by simp; omega)
  have hdl1 := k1.get hdl (by simp; omega)
  have hn5 := hn.keep k1 (by simp; omega)
  refine ⟨isLst_of hcl1, ?_⟩
  have kA := Keep.app (A := []) (M := M1) (X := [O.ins "Crew" []])
  have hI := new_at (M := M1) (o := O.ins "Crew" [])
  have lA : (M1 ++ [O.ins "Crew" []]).length = M1.length + 1 := by simp
  generalize (M1 ++ [O.ins "Crew" []]) = MA at *
  refine crew_init_ok (n := n) ok hI (hn5.keep0 kA) (by omega) (many := 1 + y) (by omega) (by omega) ?_
  intro M2 si hi k2 hsi c2 hs2
  have k12 : Keep [] M1 M2 := kA.new k2 (by simp)
  have l2 := k2.len
  have hcl2 := k12.get0 hcl1
  refine ⟨rfl, _, hcl2, okLen_of (by omega), ?_⟩
  have kT : Keep [cl] M2 (M2.set cl (.lst (as ++ [.ref M1.length]))) := Keep.set (by simp)
  have hcl3 := set_at (o := .lst (as ++ [.ref M1.length])) hcl2
  have l3 : (M2.set cl (.lst (as ++ [.ref M1.length]))).length = M2.length := len_set
  have hdl3 := kT.get (k12.get0 hdl1) (by simp; omega)
  have c3 := c2.keep kT (by simp; omega)
  have hs3 := kT.get hs2 (by simp; omega)
  have p3 := (p1.keep0 k12).keep kT (by simp; omega) (by simp; omega)
  generalize M2.set cl (.lst (as ++ [.ref M1.length])) = M3 at *
  refine ⟨isLst_of hdl3, .inl (by decide), rfl, rfl, by decide, ?_⟩
  have k34 : Keep [] M3 (M3 ++ [O.lst []] ++ [O.lst []]) := Keep.app.trans Keep.app
  have l4 : (M3 ++ [O.lst []] ++ [O.lst []]).length = M3.length + 2 := by simp
  generalize (M3 ++ [O.lst []] ++ [O.lst []]) = M4 at *
  rw [show mergeD [] [(kS (PySem.Str.ofString "many"), D.int ((1 + y : Nat) : Int)), (kS (PySem.Str.ofString "rounds"), .int (5 * (N.lay.length : Int))), (kS (PySem.Str.ofString "waiting"), D.ref M3.length), (kS (PySem.Str.ofString "present"), .int 0), (kS (PySem.Str.ofString "added"), D.ref (List.length (M3 ++ [O.lst []])))] = cdK (.int ((1 + y : Nat) : Int)) (.int ((5 * N.lay.length : Nat) : Int)) (.ref M3.length) (.int 0) (.ref (List.length (M3 ++ [O.lst []]))) from rfl]
  generalize D.ref (List.length (M3 ++ [O.lst []])) = da
  generalize D.ref M3.length = db
  have kB := Keep.app (A := []) (M := M4) (X := [O.dK (cdK (.int ((1 + y : Nat) : Int)) (.int ((5 * N.lay.length : Nat) : Int)) db (.int 0) da)])
  have hdd := new_at (M := M4) (o := O.dK (cdK (.int ((1 + y : Nat) : Int)) (.int ((5 * N.lay.length : Nat) : Int)) db (.int 0) da))
  have l5 : (M4 ++ [O.dK (cdK (.int ((1 + y : Nat) : Int)) (.int ((5 * N.lay.length : Nat) : Int)) db (.int 0) da)]).length = M4.length + 1 := by simp
  generalize (M4 ++ [O.dK (cdK (.int ((1 + y : Nat) : Int)) (.int ((5 * N.lay.length : Nat) : Int)) db (.int 0) da)]) = M5 at *
  have k35 := k34.trans kB
  have hdl5 := k35.get0 hdl3
  refine ⟨_, hdl5, okLen_of (by omega), ?_⟩
  have kU : Keep [dl] M5 (M5.set dl (.lst (bs ++ [.ref M4.length]))) := Keep.set (by simp)
  have hdl6 := set_at (o := .lst (bs ++ [.ref M4.length])) hdl5
  have l6 : (M5.set dl (.lst (bs ++ [.ref M4.length]))).length = M5.length := len_set
  have hcl6 := kU.get (k35.get0 hcl3) (by simp; omega)
  have c6 := (c3.keep0 k35).keep kU (by simp; omega)
  have hs6 := kU.get (k35.get0 hs3) (by simp; omega)
  have hdd6 := kU.get hdd (by simp; omega)
  have p6 := (p3.keep0 k35).keep kU (by simp; omega) (by simp; omega)
  generalize M5.set dl (.lst (bs ++ [.ref M4.length])) = M6 at *
  have hix : ∀ {P : D → Mem → Prop}, P (.ref M1.length) M6 → L3.R.W (opIx (.ref cl) (.int (k : Int)) M6) P := fun h => (W_ixL hcl6).mpr ⟨_, by rw [ix_nat, ← hal]; exact List.getElem?_concat_length, h⟩
  refine hix ⟨_, rfl, _, c6, rfl, row_none0 c6 rfl ?_⟩
  refine hix ⟨_, rfl, _, c6, rfl, waiting_ok c6 rfl hs6 ?_⟩
  refine ⟨rfl, rfl, rfl, same_ok 12 _ rfl ⟨true, rfl, ?_⟩⟩
  rw [if_neg (by decide)]
  exact K M1.length M4.length (1 + y) M6 _ (by omega) (by omega) (by omega) (by omega) (by omega) (((k1.mono (by simp)).trans (k12.mono (by simp))).trans ((kT.mono (by simp)).trans ((k35.mono (by simp)).trans (kU.mono (by simp))))) p6 ⟨⟨_, c6, rfl, rfl⟩, ⟨_, _, _, hdd6⟩⟩ hcl6 hdl6

@[irreducible] def finL : MS :=
  (sq (sIf (tNot3 (tOf (eCall 2 (m__law_same 12) (aCons (eTup (aCons (eMeth "Net" "row" 3 m_Net_row (eV 8) (aCons (eNew (lSl (qE (eV 15)) oNone (oSome (eBin opSub (eV 6) (eC (.int 1)))))) (aCons (eBin opIx (eV 9) (eBin opSub (eV 6) (eC (.int 1)))) aNil))) (aCons (eCall 2 m_rows_of (aCons (eV 8) (aCons (eNew (lOf (qE (eV 9)))) aNil))) aNil))) (aCons (eTup (aCons (eBin opIx (eV 10) (eBin opSub (eV 6) (eC (.int 1)))) (aCons (eTupOf (qE (eV 10))) aNil))) aNil)))))
  (sRet (eC (.bl false)))
  sNil)
  (sRet (eCall 5 m__law_in_batch (aCons (eV 1) (aCons (eV 8) (aCons (eV 7) (aCons (eV 9) (aCons (eV 15) aNil))))))))
@[irreducible] def loop2L : MS :=
  (sq (sSet 15 (eNew (lLst aNil)))
  (sq (sFor (iRng1 (eV 6)) (gN 13) roundL)
  finL))
@[irreducible] def loop1L : MS :=
  (sq (sSet 11 (eNew (lLst aNil)))
  (sq (sSet 12 (eNew (lLst aNil)))
  (sq (sFor (iRng1 (eC (.int 2))) (gN 13) crewL)
  loop2L)))
def eMenu : ME := (eTup (aCons (eTup (aCons (eC (.int 3)) (aCons (eC (.int 2)) (aCons (eC (.int 1)) (aCons (eC (.int 4)) aNil))))) (aCons (eTup (aCons (eC (.int 12)) (aCons (eC (.int 1)) (aCons (eC (.int 1)) (aCons (eC (.int 4)) aNil))))) (aCons (eTup (aCons (eC (.int 2)) (aCons (eC (.int 3)) (aCons (eC (.int 1)) (aCons (eC (.int 3)) aNil))))) (aCons (eTup (aCons (eC (.int 4)) (aCons (eC (.int 2)) (aCons (eC (.int 2)) (aCons (eC (.int 3)) aNil))))) (aCons (eTup (aCons (eC (.int 5)) (aCons (eC (.int 4)) (aCons (eC (.int 1)) (aCons (eC (.int 2)) aNil))))) (aCons (eTup (aCons (eC (.int 3)) (aCons (eC (.int 3)) (aCons (eC (.int 2)) (aCons (eC (.int 2)) aNil))))) (aCons (eTup (aCons (eC (.int 12)) (aCons (eC (.int 2)) (aCons (eC (.int 1)) (aCons (eC (.int 3)) aNil))))) (aCons (eTup (aCons (eC (.int 2)) (aCons (eC (.int 2)) (aCons (eC (.int 0)) (aCons (eC (.int 4)) aNil))))) (aCons (eTup (aCons (eC (.int 3)) (aCons (eC (.int 4)) (aCons (eC (.int 3)) (aCons (eC (.int 2)) aNil))))) (aCons (eTup (aCons (eC (.int 7)) (aCons (eC (.int 4)) (aCons (eC (.int 1)) (aCons (eC (.int 3)) aNil))))) aNil)))))))))))
def menuL : List (Nat × Nat × Nat × Nat) := [(3, 2, 1, 4), (12, 1, 1, 4), (2, 3, 1, 3), (4, 2, 2, 3), (5, 4, 1, 2), (3, 3, 2, 2), (12, 2, 1, 3), (2, 2, 0, 4), (3, 4, 3, 2), (7, 4, 1, 3)]
def qD (q : Nat × Nat × Nat × Nat) : D := .tup [.int (q.1 : Int), .int (q.2.1 : Int), .int (q.2.2.1 : Int), .int (q.2.2.2 : Int)]
theorem W_eMenu {s : Sl} {M : Mem} {P : D → Mem → Prop} : L3.R.W (eMenu s M) P ↔ P (.tup (menuL.map qD)) M := by
  have e : eMenu s M = .ok (.tup (menuL.map qD)) M := by rfl
  rw [e]
  exact Iff.rfl
theorem menu_ok : ∀ x, x < 10 → ∃ q, menuL[x]? = some q ∧ 0 < q.1 ∧ q.1 ≤ 12 ∧ 0 < q.2.1 ∧ q.2.1 ≤ 4 ∧ q.2.2.1 ≤ 3 ∧ 0 < q.2.2.2 ∧ q.2.2.2 ≤ 4 := by
  have h : ∀ x, x < 10 → x < menuL.length := by decide
  have h2 : ∀ q ∈ menuL, 0 < q.1 ∧ q.1 ≤ 12 ∧ 0 < q.2.1 ∧ q.2.1 ≤ 4 ∧ q.2.2.1 ≤ 3 ∧ 0 < q.2.2.2 ∧ q.2.2.2 ≤ 4 := by decide
  intro x hx
  exact ⟨_, List.getElem?_eq_getElem (h x hx), h2 _ (List.getElem_mem (h x hx))⟩
@[irreducible] def restL : MS :=
  (sq (sSet 7 (eCall 5 m__law_net (aCons (eV 1) (aCons (eV 3) (aCons (eV 4) (aCons (eV 5) (aCons (eBin opEq (eCall 2 m__law_draw (aCons (eV 1) (aCons (eC (.int 3)) aNil))) (eC (.int 0))) aNil)))))))
  (sq (sSet 8 (eMake "Net" 7 m_Net___init__ (aCons (eBin opIx (eV 7) (eC (.int 0))) (aCons (eBin opIx (eV 7) (eC (.int 1))) (aCons (eBin opIx (eV 7) (eC (.int 2))) (aCons (eBin opIx (eV 7) (eC (.int 3))) (aCons (eBin opIx (eV 7) (eC (.int 4))) (aCons (eBin opIx (eV 7) (eC (.int 5))) aNil))))))))
  (sq (sSet 9 (eCall 3 m__law_numbers (aCons (eV 1) (aCons (eV 6) (aCons (eV 3) aNil)))))
  (sq (sSet 10 (eCall 2 m__law_rows (aCons (eV 7) (aCons (eV 9) aNil))))
  loop1L))))
def lawL : MS :=
  (sq (sSet 1 (eCall 1 m__law_pool (aCons (eV 0) aNil)))
  (sq (sSet 2 eMenu)
  (sq (sAsg (gT [(gN 3), (gN 4), (gN 5), (gN 6)]) (eBin opIx (eV 2) (eCall 2 m__law_draw (aCons (eV 1) (aCons (eC (.int 10)) aNil)))))
  restL)))
theorem lawL_eq : b_law = lawL := by
  unfold b_law lawL restL loop1L loop2L finL crewL roundL otherL handL begL refL midL endL eMenu
  rfl
theorem V_loop_cons {it : It3} {g : GT} {b : MS} {d : D} {ds : List D} {s s1 : Sl} {M M1 : Mem} {N : Sl → Mem → Prop} {T : D → Mem → Prop} (hst : it.still M = true) (hg : g d s M = some (s1, M1)) (h : L3.RS.V (b s1 M1) (fun s2 M2 => L3.RS.V (loopS it g b ds s2 M2) N T) T) : L3.RS.V (loopS it g b (d :: ds) s M) N T := by
  unfold loopS
  rw [if_pos hst, hg]
  dsimp only
  revert h
  cases b s1 M1 with
  | nx s2 M2 => exact id
  | rt d M2 => exact id
  | _ => intro h; exact h.elim
theorem V_loop_nil {it : It3} {g : GT} {b : MS} {s : Sl} {M : Mem} {N : Sl → Mem → Prop} {T : D → Mem → Prop} (hst : it.still M = true) (h : N s M) : L3.RS.V (loopS it g b [] s M) N T := by
  unfold loopS
  rw [if_pos hst]
  exact h
section
variable {M M1 : Mem} {x : Lx} {N : Nt} {text : List Nat} {t b a : Nat} {P : D → Mem → Prop}
theorem fin_ok {u : D × D × D × D} {o13 o14 o16 o17 o18 : Option D} {Nn : Sl → Mem → Prop} {T : D → Mem → Prop} (od : Od x) (z : Sz x N text) (hne : 0 < text.length) (s : St M x N text text.length)
    (k : ∀ M1, T (.bl true) M1) :
    L3.RS.V (finL (sL x N.emb.length text.length u (modelD N) (vI (LsI text)) o13 o14 o16 o17 o18) M) Nn T := by
  unfold finL sL
  generalize hT : vI (LsI text) = T1
  generalize hMd : modelD N = md
  array_get_dec
  have hlr := z.tl
  have o1 := od.a2; have o2 := od.a3; have o3 := od.a4; have o4 := od.a5; have o5 := od.a6; have o6 := od.a7; have o7 := od.a8; have o8 := od.a9; have o9 := od.b1; have o10 := od.b2
  obtain ⟨a, ha⟩ : ∃ a, text[text.length - 1]? = some a := ⟨_, List.getElem?_eq_getElem (by omega)⟩
  have hal := z.te a (List.mem_of_getElem? ha)
  have htold := s.told
  rw [List.take_length] at htold
  rw [show (text.length : Int) - 1 = ((text.length - 1 : Nat) : Int) by omega]
  refine ⟨_, s.net, rfl, rfl, _, SrcIs.get (.inr (.inr ⟨_, rfl, htold⟩)), ?_⟩
  rw [cut_take _ (by rw [List.length_map, rowsN_length]; omega), ← List.map_take, rowsN_take (by omega)]
  have kA := Keep.app (A := []) (M := M) (X := [O.lst ((rowsN N (text.take (text.length - 1))).map rowD)])
  have hn1 := new_at (M := M) (o := O.lst ((rowsN N (text.take (text.length - 1))).map rowD))
  generalize (M ++ [O.lst ((rowsN N (text.take (text.length - 1))).map rowD)]) = M1 at *
  rw [← hT]
  refine W_ixT.mpr ⟨.int (a : Int), by rw [ix_nat]; simp [ha], ?_⟩
  refine row_ok z.ok (s.net.keep0 kA) (rows := rowsN N (text.take (text.length - 1))) (.inr ⟨_, rfl, by simp, hn1⟩) (All2.of_map (fun r => rowIs_D r) _) (fun r hr => rowsN_ok z.ok _ r hr) (by rw [rowsN_length, List.length_take]; omega) hal ?_
  intro M2 k2
  show L3.R.W (srcOf (.tup ((LsI text).map D.int)) M2) _
  rw [W_src_tup]
  refine ⟨_, rfl, ?_⟩
  have kB := Keep.app (A := []) (M := M2) (X := [O.lst ((LsI text).map D.int)])
  have hn2 := new_at (M := M2) (o := O.lst ((LsI text).map D.int))
  generalize (M2 ++ [O.lst ((LsI text).map D.int)]) = M3 at *
  have k3 := (kA.trans k2).trans kB
  refine rows_of_ok z.ok (s.net.keep0 k3) (ls := text) (.inr ⟨_, rfl, by simp, hn2⟩) z.te (by omega) ?_
  intro M4 k4
  have s4 := s.fresh (k3.trans k4)
  refine ⟨rfl, ?_⟩
  refine (W_ixL s4.due).mpr ⟨_, by rw [ix_nat, List.getElem?_map, rowsN_get ha]; rfl, ?_⟩
  refine ⟨_, SrcIs.get (.inr (.inr ⟨_, rfl, s4.due⟩)), rfl, same_ok 12 _ (plain_tup (by simp) ?_) ?_⟩
  · intro d hd
    simp only [List.mem_cons, List.not_mem_nil, or_false] at hd
    rcases hd with rfl | rfl
    · exact plain_rowN z.ok (n := 6) _ _
    · refine plain_tup (by rw [List.length_map, rowsN_length]; omega) fun d hd => ?_
      obtain ⟨r, hr, rfl⟩ := List.mem_map.mp hd
      exact plain_rowsN z.ok (n := 5) _ r hr
  refine ⟨true, rfl, ?_⟩
  rw [if_neg (by decide), ← hMd]
  have ht4 := s4.told
  rw [List.take_length] at ht4
  exact linbatch_ok s4.pool s4.net z.ok (by omega) z.te z.em ht4 (by omega) (by omega) (by omega) k
theorem loop2_ok {p n dj cl dl : Nat} {u : D × D} {o13 o14 : Option D} {Nn : Sl → Mem → Prop} {T : D → Mem → Prop} {c c0 d0 m0 c1 d1 m1 : Nat} (ok : N.Ok) (hem : 0 < N.emb.length) (hly : N.lay.length ≤ 3) (htl : text.length ≤ 4) (hne : 0 < text.length) (hte : ∀ a ∈ text, a < N.emb.length) (hsh : N.sh.length ≤ 4) (hp : PoolAt M p c) (hn : NetAt M n N) (hdue : M[dj]? = some (.lst ((rowsN N text).map rowD))) (hcl : M[cl]? = some (.lst [.ref c0, .ref c1])) (hdl : M[dl]? = some (.lst [.ref d0, .ref d1])) (g0 : Gen M n N c0 d0 m0) (g1 : Gen M n N c1 d1 m1) (hm0 : 0 < m0 ∧ m0 ≤ 4) (hm1 : 0 < m1 ∧ m1 ≤ 4)
    (a2 : p < n) (a3 : c < n) (a4 : n < dj) (a5 : dj < cl) (a6 : cl < dl) (a7 : dl < c0) (a8 : c0 < d0) (a9 : d0 < c1) (b1 : c1 < d1)
    (k : ∀ M1, T (.bl true) M1) :
    L3.RS.V (loop2L (sC p N.emb.length N.sh.length N.lay.length text.length n dj cl dl u (modelD N) (vI (LsI text)) o13 o14) M) Nn T := by
  unfold loop2L sC
  generalize hT : vI (LsI text) = T1
  generalize hMd : modelD N = md
  array_get_dec
  rw [← hT, ← hMd]
  have kA := Keep.app (A := []) (M := M) (X := [O.lst []])
  have hn1 := new_at (M := M) (o := O.lst [])
  have l1 := g1.lt
  refine ⟨rfl, by omega, by omega, ?_⟩
  rw [Int.toNat_natCast]
  have od : Od ⟨p, c, n, dj, cl, dl, c0, d0, m0, c1, d1, m1, M.length⟩ := ⟨hp.1, a2, a3, a4, a5, a6, a7, a8, a9, b1, l1.2⟩
  have z : Sz ⟨p, c, n, dj, cl, dl, c0, d0, m0, c1, d1, m1, M.length⟩ N text := ⟨ok, hem, hly, htl, hte, hm0, hm1⟩
  have s0 : St (M ++ [O.lst []]) ⟨p, c, n, dj, cl, dl, c0, d0, m0, c1, d1, m1, M.length⟩ N text 0 := ⟨hp.keep0 kA, hn.keep0 kA, kA.get0 hdue, kA.get0 hcl, kA.get0 hdl, g0.keep kA (by simp) (by simp), g1.keep kA (by simp) (by simp), hn1⟩
  generalize hx : (⟨p, c, n, dj, cl, dl, c0, d0, m0, c1, d1, m1, M.length⟩ : Lx) = x at *
  refine for_go (Inv := fun t s M' => ∃ o13 o16 o17 o18, s = sL x N.emb.length text.length (u.1, u.2, .int (N.sh.length : Int), .int (N.lay.length : Int)) (modelD N) (vI (LsI text)) o13 o14 o16 o17 o18 ∧ St M' x N text t) (fun t s M' _ => rfl) ?_ ⟨o13, none, none, none, by rw [← hx], s0⟩ ?_
  · rintro t q s M' hk ⟨o13, o16, o17, o18, rfl, st⟩
    obtain ⟨ht, rfl⟩ := rng_at (show (rngD 0 text.length)[t]? = some q from hk)
    refine ⟨_, M', rfl, ?_⟩
    exact round_ok od z (List.getElem?_eq_getElem ht) st fun o1 o2 o3 M5 s5 => ⟨_, o1, o2, o3, rfl, s5⟩
  · rintro s M' ⟨o13, o16, o17, o18, rfl, st⟩
    rw [show (It3.rng 0 text.length).items.length = text.length from rng_len] at st
    exact fin_ok od z hne st k
theorem loop1_ok {p n dj : Nat} {u : D × D} {Nn : Sl → Mem → Prop} {T : D → Mem → Prop} {c : Nat} (ok : N.Ok) (hem : 0 < N.emb.length) (hly : N.lay.length ≤ 3) (htl : text.length ≤ 4) (hne : 0 < text.length) (hte : ∀ a ∈ text, a < N.emb.length) (hsh : N.sh.length ≤ 4) (hsh0 : 0 < N.sh.length) (hp : PoolAt M p c) (hn : NetAt M n N) (hdue : M[dj]? = some (.lst ((rowsN N text).map rowD))) 
    (a2 : p < n) (a3 : c < n) (a4 : n < dj)
    (k : ∀ M1, T (.bl true) M1) :
    L3.RS.V (loop1L [some u.1, some (.ref p), some u.2, some (.int (N.emb.length : Int)), some (.int (N.sh.length : Int)), some (.int (N.lay.length : Int)), some (.int (text.length : Int)), some (modelD N), some (.ref n), some (vI (LsI text)), some (.ref dj), none, none, none, none, none, none, none, none, none] M) Nn T := by
  unfold loop1L
  generalize hT : vI (LsI text) = T1
  generalize hMd : modelD N = md
  array_get_dec
  rw [← hT, ← hMd]
  have kA := Keep.app (A := []) (M := M) (X := [O.lst []])
  have hn1 := new_at (M := M) (o := O.lst [])
  have lA : (M ++ [O.lst []]).length = M.length + 1 := by simp
  generalize (M ++ [O.lst []]) = MA at *
  have kB := Keep.app (A := []) (M := MA) (X := [O.lst []])
  have hn2 := new_at (M := MA) (o := O.lst [])
  have lB : (MA ++ [O.lst []]).length = MA.length + 1 := by simp
  generalize (MA ++ [O.lst []]) = MB at *
  have k2 := kA.trans kB
  have ln := (List.getElem?_eq_some_iff.mp hn).1
  have ld := (List.getElem?_eq_some_iff.mp hdue).1
  refine ⟨rfl, rfl, by decide, by decide, ?_⟩
  show L3.RS.V (loopS (It3.rng 0 2) (gN 13) crewL [.int ((0 : Nat) : Int), .int ((1 : Nat) : Int)] _ MB) _ _
  refine V_loop_cons rfl rfl (crewL_ok (k := 0) (c := c) (as := []) (bs := []) (hp.keep0 k2) (hn.keep0 k2) ok hsh0 (kB.get0 hn1) hn2 rfl rfl (by decide) a2 a3 (by omega) (by omega) ?_)
  intro c0 d0 m0 M3 o h1 h2 h3 h4 h5 k3 p3 g3 hc3 hd3
  have hn3 := (hn.keep0 k2).keep k3 (by simp; omega)
  have hdue3 := k3.get (k2.get0 hdue) (by simp; omega)
  refine V_loop_cons rfl rfl (crewL_ok (k := 1) (c := c) p3 hn3 ok hsh0 hc3 hd3 rfl rfl (by decide) a2 a3 (by omega) (by omega) ?_)
  intro c1 d1 m1 M4 o' i1 i2 i3 i4 i5 k4 p4 g4 hc4 hd4
  refine V_loop_nil rfl ?_
  exact loop2_ok (c := c) ok hem hly htl hne hte hsh p4 (hn3.keep k4 (by simp; omega)) (k4.get hdue3 (by simp; omega)) hc4 hd4 (g3.keep k4 (by simp; omega) (by simp; omega)) g4 (by omega) (by omega) a2 a3 a4 (by omega) (by omega) (by omega) h2 (by omega) i2 k
end

theorem restL_ok {M : Mem} {p c : Nat} {q : Nat × Nat × Nat × Nat} {u : D × D} {Nn : Sl → Mem → Prop} {T : D → Mem → Prop} (hp : PoolAt M p c) (q1 : 0 < q.1) (q2 : q.1 ≤ 12) (q3 : 0 < q.2.1) (q4 : q.2.1 ≤ 4) (q5 : q.2.2.1 ≤ 3) (q6 : 0 < q.2.2.2) (q7 : q.2.2.2 ≤ 4) (k : ∀ M1, T (.bl true) M1) :
    L3.RS.V (restL [some u.1, some (.ref p), some u.2, some (.int (q.1 : Int)), some (.int (q.2.1 : Int)), some (.int (q.2.2.1 : Int)), some (.int (q.2.2.2 : Int)), none, none, none, none, none, none, none, none, none, none, none, none, none] M) Nn T := by
  unfold restL
  array_get_dec
  refine draw_ok (many := 3) hp (by decide) (by decide) ?_
  intro y M2 hy k2 l2 p2
  rw [eq_int]
  refine net_ok p2 q1 (by omega) (by omega) (by omega) ?_
  intro N M3 hN k3 p3
  have hpl : p < M3.length ∧ c < M3.length := by
    obtain ⟨_, _, _, _, _, _, h1, h2, _⟩ := p3
    exact ⟨(List.getElem?_eq_some_iff.mp h1).1, (List.getElem?_eq_some_iff.mp h2).1⟩
  refine W_ixT.mpr ⟨_, rfl, ?_⟩
  refine W_ixT.mpr ⟨_, rfl, ?_⟩
  refine W_ixT.mpr ⟨_, rfl, ?_⟩
  refine W_ixT.mpr ⟨_, rfl, ?_⟩
  refine W_ixT.mpr ⟨_, rfl, ?_⟩
  refine W_ixT.mpr ⟨_, rfl, ?_⟩
  have kA := Keep.app (A := []) (M := M3) (X := [O.ins "Net" []])
  have hn0 := new_at (M := M3) (o := O.ins "Net" [])
  generalize (M3 ++ [O.ins "Net" []]) = MA at *
  refine net_init_ok hN.ok hn0 ?_
  intro M4 k4 n4
  have k34 : Keep [] M3 M4 := kA.new k4 (by simp)
  refine ⟨rfl, ?_⟩
  refine numbers_ok (p3.keep0 k34) (by omega) q1 (by omega) ?_
  intro text M5 htl hte d5
  obtain ⟨k5, l5, p5⟩ := d5
  have n5 := n4.keep k5 (by simp; omega)
  refine lrows_ok hN.ok IsV.tup (fun a ha => by rw [hN.l]; exact hte a ha) (by omega) ?_
  intro dj M6 k6 hdj h6
  have ln := (List.getElem?_eq_some_iff.mp n5).1
  have e1 : (q.1 : Int) = (N.emb.length : Int) := by rw [hN.l]
  have e2 : (q.2.1 : Int) = (N.sh.length : Int) := by rw [hN.w]
  have e3 : (q.2.2.1 : Int) = (N.lay.length : Int) := by rw [hN.d]
  have e4 : (q.2.2.2 : Int) = (text.length : Int) := by rw [htl]
  rw [e1, e2, e3, e4]
  exact loop1_ok (c := c) hN.ok (by rw [hN.l]; exact q1) (by rw [hN.d]; exact q5) (by omega) (by omega) (fun a ha => by rw [hN.l]; exact hte a ha) (by rw [hN.w]; exact q4) (by rw [hN.w]; exact q3) (p5.keep0 k6) (n5.keep0 k6) h6 hpl.1 hpl.2 (by omega) k
theorem law_ok (ns : List Int) (h : ns.length ≤ 63) {P : D → Mem → Prop} {M : Mem} (hM : M[0]? = some (.frz (ns.map D.int))) (k : ∀ M, P (.bl true) M) : L3.R.W (m_law [.ref 0] M) P := by
  unfold m_law
  rw [lawL_eq]
  unfold lawL
  array_get_dec
  simp only [W_eMenu]
  refine pool_ok (ns := ns) hM h ?_
  intro p c M1 k1 p1
  refine draw_ok (many := 10) p1 (by decide) (by decide) ?_
  intro x M2 hx k2 l2 p2
  obtain ⟨q, hq, q1, q2, q3, q4, q5, q6, q7⟩ := menu_ok x hx
  refine W_ixT.mpr ⟨qD q, by rw [ix_nat, List.getElem?_map, hq]; rfl, ?_⟩
  refine ⟨_, _, rfl, ?_⟩
  exact restL_ok (u := (_, _)) p2 q1 q2 q3 q4 q5 q6 q7 k
theorem law_true (ns : List Int) (h : ns.length ≤ 63) : ∃ M, m_law [.ref 0] [.frz (ns.map D.int)] = .ok (.bl true) M := by
  obtain ⟨a, M, e, rfl⟩ := (law_ok (P := fun d _ => d = .bl true) (M := [.frz (ns.map D.int)]) ns h rfl fun _ => rfl).ex
  exact ⟨M, e⟩
end Law
set_option Elab.async false
set_option linter.all false
set_option maxRecDepth 100000
set_option maxHeartbeats 0
open PySem PySem.W PySem.Calls PyProof.Rows in
theorem PySem.Challenge.cw_servedalone_k00_whole_rows_by_crews_and_holds : PySem.Challenge.rw_servedalone_k00_whole_rows_by_crews_and.Holds := by
  w_on; o_law
  refine HandSHeadRun.head_any (r := OpenLaw.row PySem.Challenge.rw_servedalone_k00_whole_rows_by_crews_and) (q := view (OpenLaw.row PySem.Challenge.rw_servedalone_k00_whole_rows_by_crews_and).prog [42]) (H := Law.hk) (ob := Law.ob) (M := 100000) (loose := Law.names) (d := HandSHeadRun.topDef (OpenLaw.row PySem.Challenge.rw_servedalone_k00_whole_rows_by_crews_and).prog 42) (kwd := []) Law.ob_eq
    (by kernel_rfl) (fun s => by kernel_rfl) Law.run (by kernel_rfl) (by kernel_rfl) (by kernel_rfl) (by rfl) (by first | assumption | decide +kernel) (by decide +kernel) ⟨rfl, rfl, rfl, rfl, rfl, by decide +kernel⟩ ?hw ?hc
  case hw => w_witness2
  case hc =>
    refine L3.walk_ofEw (l := PySem.Challenge.rw_servedalone_k00_whole_rows_by_crews_and) (n := 63) (k := 14) (x := "script") (CX := fun w => L2.CX (PySem.Challenge.rw_servedalone_k00_whole_rows_by_crews_and).prog w) rfl (by decide) (by kernel_rfl) ⟨rfl, by decide, by decide⟩ ?F (fun w H s e s' z => L3.cx_none H s e s' z)
    intro w mg fa h Y G hmg0
    obtain ⟨K, KX, c⟩ := Y
    have hmg : mg ("law" : PySem.Str) = some (.ref fa) := by
      have e : (HandSHeadRun.topDef (OpenLaw.row PySem.Challenge.rw_servedalone_k00_whole_rows_by_crews_and).prog 42).name = ("law" : PySem.Str) := by kernel_rfl
      rw [← e]
      exact hmg0
    have T := Law.txt KX G c
    obtain ⟨f, fd, g, F⟩ := T.d_law.ex
    have ef := hmg.symm.trans g
    cases ef
    have hB : L3.BindOk "law" "law" Law.st_law ["script"] := fun _ _ _ _ _ _ us hl => match us, hl with | [_], _ => rfl
    refine ⟨K, fd, L3.spM ⟨K, mg⟩ 1 Law.m_law, KX, fun s u => ?_, fun H a ns hl hO hS => L3.law_sp (fun l => c.nolist 95 rfl l) hO hS (Law.law_true ns hl), fun base _ _ => L3.fnOk3 F Law.sc_law rfl rfl (Law.wb_law T fa)⟩
    obtain ⟨oc, od, kV, doc, pm, an, cdv, ct, osl, rfl, lk, hcd⟩ := F.ex
    exact .of_eq (hB kV doc pm an cdv ct [u] rfl)
